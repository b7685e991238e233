import PyProof.Rows.All
import Wide.All
import OpenK.AllK
import Wide.FinOn
import KE.KStateDown
import HandS.ForMost
import HandS.ForExc
import HandS.Defaults
import HandS.Lambda
import HandS.EndTab
import HandS.HeadWalk
import HandS.Head0
import HandS.Head1
import HandS.Head2
import HandS.HeadEnd
import HandS.HeadHook1
import HandS.HeadHook2
import HandS.HeadHook3
import HandS.HeadHook4
import HandS.ExcCtx
import HandS.HotCalls
import HandS.IsInst
import HandS.Wide
import HandS.Walk
import HandS.Zip
import HandS.Conv
import HandS.SortInts
import HandS.TupAny
import HandS.Deep
import PySem.Challenge.RW_rollgates_k10_places
set_option Elab.async false
set_option linter.all false
set_option maxRecDepth 100000
set_option maxHeartbeats 4000000
/-! ### RG core: what every law's proof leans on (own words over the hand layer) -/
namespace RG
open PySem PySem.Spec PyProof.Rows L2

/-! a def of the top, kept by its promise -/
abbrev CXN (P : Program) (w : World) : CXT := L2N.CX P w
/-- every parameter is given, whatever the heap -/
def BindsE (fd : FuncData) (ps : List Str) : Prop := ∀ (s : Shared) (us : List Value), us.length = ps.length → BindsTo s fd ⟨us, []⟩ (ps.zip us)
theorem BindsE.binds {K : PySem.W.Frag} {fd : FuncData} {ps : List Str} (b : BindsE fd ps) : Binds K fd ps [] := fun s us _ hl => by
  rw [List.append_nil] at hl ⊢
  exact b s us hl
def fdAt (K : PySem.W.Frag) (a : Addr) : Option FuncData := match K.lookup a with
  | some ⟨_, _, .func fd, _⟩ => some fd
  | _ => none
structure Ok (P : Program) (w : World) (K : PySem.W.Frag) (mg : Str → Option Value) (base : Heap) (k : Nat) (x : Str) (ps : List Str) (sp : Sp) : Prop where
  gl : mg x = some (.ref (He.ga K x))
  kp : PySem.W.keepIn K (.ref (He.ga K x)) = true
  ex : ∃ fd, fdAt K (He.ga K x) = some fd ∧ BindsE fd ps ∧ FnOk P w K mg base (CXN P w) k (He.ga K x) fd ps sp
/-- how a text's arguments bind when all are given -/
def BindAll (x : Str) (st : Stmt) (ps : List Str) : Prop := ∀ (kV doc pm : Value) (an : Option Addr) (cdv ct : Value) (us : List Value), us.length = ps.length →
  bindArgs (PySem.W.fnOf x x (defArgs st) (defBody st) (defScope st) .none kV doc pm an cdv ct) ⟨us, []⟩ = pure (ps.zip us)
abbrev FnAt (K : PySem.W.Frag) (x : Str) (st : Stmt) : Prop := ∃ fd, FunD K x x (defArgs st) (defBody st) (defScope st) [] [] (He.ga K x) fd
section
variable {P : Program} {w : World} {K : PySem.W.Frag} {mg : Str → Option Value} {base : Heap}
theorem Ok.mk' {x : Str} {st : Stmt} {N ps : List Str} {k : Nat} {sp : Sp} (G : mg x = some (.ref (He.ga K x))) (F : FnAt K x st) (b : BindAll x st ps) (S : FnScope N ps (defScope st)) (len : ∀ vs H Q E, sp vs H Q E → vs.length = ps.length)
    (body : ∀ (cdv : Value) (A : Around) (outer : List Env) (s : Shared) (H : Hp) (vs : List V) (Q : VK) (E : XK), Room k (A.deeper (envOfC x (defScope st) s.heap.objs.size (He.ga K x) cdv)) → sp vs H Q E →
      ∃ t, PSs (cxOf (CXN P w) P w K mg base N x (defScope st) (He.ga K x) cdv A outer s H E) (defBody st) t ∧ t { nx := fun _ H' => Q .non H', rt := Q } (start N vs) H) : Ok P w K mg base (k + 1) x ps sp := by
  obtain ⟨fd, F⟩ := F
  have e : fdAt K (He.ga K x) = some fd := by
    obtain ⟨oc, od, dV, kV, doc, pm, an, cdv, ct, osl, rfl, lk, _⟩ := F.ex
    unfold fdAt
    rw [lk]
  exact ⟨G, F.kp, fd, e, F.bindsA b, F.ok S len body⟩
theorem Ok.mono {x : Str} {ps : List Str} {j k : Nat} {sp : Sp} (G : Ok P w K mg base j x ps sp) (h : j ≤ k) : Ok P w K mg base k x ps sp := by
  obtain ⟨g, kp, fd, fe, b, F⟩ := G
  exact ⟨g, kp, fd, fe, b, F.mono h⟩
theorem Ok.imp {x : Str} {ps : List Str} {k : Nat} {sp sp' : Sp} (G : Ok P w K mg base k x ps sp) (h : ∀ vs H Q E, sp' vs H Q E → sp vs H Q E) : Ok P w K mg base k x ps sp' := by
  obtain ⟨g, kp, fd, fe, b, F⟩ := G
  exact ⟨g, kp, fd, fe, b, F.imp h⟩
end
section
variable {X : Cx}
/-- nothing is let out -/
theorem pn0 : Passes (CXN X.prog X.w) X E0 := fun _ _ _ _ _ _ _ h => by
  obtain ⟨_, _, _, _, _, _, _, _, _, _, _, _, z⟩ := h
  exact z.elim
/-- what a callee lets out leaves this def too -/
theorem pnx {E : XK} (tk : L2N.Takes X (fun cls d _ H => E cls d H)) : Passes (CXN X.prog X.w) X E := L2N.passes_call tk fun _ _ _ _ h => h
/-- f(e, ..) of an own def -/
theorem pe_f {j k : Nat} {x : Str} {ps : List Str} {sp : Sp} {E : XK} {p pos : Pos} {e : Expr} {es : List Expr} {t : TA} (G : Ok X.prog X.w X.K X.mg X.base j x ps sp) (hr : Room k X.A) (hx : Passes (CXN X.prog X.w) X E) (ha : PA X (e :: es) t)
    (hk : j ≤ k := by decide) (hg : Gl X x := by rfl) (hdb : (x == ("__debug__" : Str)) = false := by decide)
    (he : starEach (e :: es) X.env = (false, eval e X.env) :: starEach es X.env := by rfl) (hpl : (backTo pos (starEach es X.env)).any (·.1) = false := by rfl) :
    PE X (.Call (.Name x p) (e :: es) [] pos) (tCall sp [] E t) := by
  obtain ⟨g, kp, fd, fe, b, F⟩ := G
  exact pe_call F (hr.mono hk) hg g kp b.binds .nil hx ha hdb he hpl
/-- f() -/
theorem pe_f0 {j k : Nat} {x : Str} {ps : List Str} {sp : Sp} {E : XK} {p pos : Pos} (G : Ok X.prog X.w X.K X.mg X.base j x ps sp) (hr : Room k X.A) (hx : Passes (CXN X.prog X.w) X E)
    (hk : j ≤ k := by decide) (hg : Gl X x := by rfl) (hdb : (x == ("__debug__" : Str)) = false := by decide) :
    PE X (.Call (.Name x p) [] [] pos) (tCall sp [] E tNil) := by
  obtain ⟨g, kp, fd, fe, b, F⟩ := G
  exact pe_call0 F (hr.mono hk) hg g kp b.binds .nil hx hdb
/-- a constant of the module -/
theorem pe_gi {x : Str} {i : Int} {pos : Pos} (h : ∃ t, X.mg x = some (.int i t)) (hg : Gl X x := by rfl) (hd : (x == ("__debug__" : Str)) = false := by decide) : PE X (.Name x pos) (tC (.int i)) := by
  obtain ⟨t, h⟩ := h
  exact pe_glob hg h ⟨t, rfl⟩ hd
theorem pe_gs {x z : Str} {pos : Pos} (h : ∃ t, X.mg x = some (.str z t)) (hg : Gl X x := by rfl) (hd : (x == ("__debug__" : Str)) = false := by decide) : PE X (.Name x pos) (tC (.str z)) := by
  obtain ⟨t, h⟩ := h
  exact pe_glob hg h ⟨t, rfl⟩ hd
end
/-- what is known of an own exception class without __init__ -/
structure Exn (K : PySem.W.Frag) (mg : Str → Option Value) (x : Str) : Prop where
  gl : mg x = some (.ref (He.ga K x))
  ok : (He.Fa.exc x).ok K = true
/-- raise X('..') -/
theorem ps_rz {X : Cx} {E : XK} {x m : Str} {j : Nat} {p p2 pos pos' : Pos} (T : Exn X.K X.mg x) (tk : L2N.Takes X (fun cls d _ H => E cls d H)) (hc : X.calm = true := by rfl) (hg : Gl X x := by rfl) (hdb : (x == ("__debug__" : Str)) = false := by decide) :
    PS X (.Raise (some (.Call (.Name x p) [.Constant (.str m) j p2] [] pos)) none pos') (fun _ _ H => E (.ref (He.ga X.K x)) none H) := by
  obtain ⟨a, b, c, d⟩ := He.exc_ok T.ok
  exact L2N.ps_raise hc tk (L2N.pmk_own PySem.F.excBase_ValueError a T.gl b (raises_own c d) hg hdb)

/-! heaps -/
theorem Same.new {H : Hp} {p : Addr} {o : HO} (h : H p = none) : Same H (upd H p o) := fun a u e => by
  rw [upd_ne (ne_of_none e h)]
  exact e
theorem Same.tup {K : PySem.W.Frag} {H H' : Hp} {a : Addr} {xs : List V} (e : Same H H') (h : SqT K H a xs) : SqT K H' a xs := by
  rcases h with (h | ⟨o, h⟩) | h
  · exact .inl (.inl (e _ _ h))
  · exact .inl (.inr ⟨o, e _ _ h⟩)
  · exact .inr h
theorem tup_s {K : PySem.W.Frag} {H H' : Hp} {a : Addr} {xs : List V} (e : Same H H') (h : SqT K H a xs) : SqT K H' a xs := Same.tup e h
theorem tupOf {K : PySem.W.Frag} {H : Hp} {a : Addr} {xs : List V} (h : H a = some (.tup xs)) : SqT K H a xs := .inl (.inl h)
theorem lstOf {K : PySem.W.Frag} {H : Hp} {a : Addr} {xs : List V} (h : H a = some (.lst xs)) : SqL K H a xs := .inl (.inl h)
/-- the dice: a list of two ints -/
def Dice (H : Hp) (a : Addr) : Prop := ∃ x k : Int, H a = some (.lst [.int x, .int k])
/-- all but the dice at a is as it was -/
structure But (a : Addr) (H H' : Hp) : Prop where
  d0 : Dice H a
  d1 : Dice H' a
  kp : ∀ b o, H b = some o → b ≠ a → H' b = some o
theorem Dice.same {H H' : Hp} {a : Addr} (d : Dice H a) (s : Same H H') : Dice H' a := by
  obtain ⟨x, k, h⟩ := d
  exact ⟨x, k, s _ _ h⟩
theorem Dice.ne {H : Hp} {a p : Addr} (d : Dice H a) (h : H p = none) : p ≠ a := by
  obtain ⟨x, k, h1⟩ := d
  exact (ne_of_none h1 h).symm
theorem But.refl {a : Addr} {H : Hp} (d : Dice H a) : But a H H := ⟨d, d, fun _ _ h _ => h⟩
theorem But.same {a : Addr} {H H1 H2 : Hp} (b : But a H H1) (s : Same H1 H2) : But a H H2 := ⟨b.d0, b.d1.same s, fun c o h n => s c o (b.kp c o h n)⟩
theorem But.of {a : Addr} {H H1 : Hp} (d : Dice H a) (s : Same H H1) : But a H H1 := (But.refl d).same s
theorem But.trans {a : Addr} {H H1 H2 : Hp} (b : But a H H1) (c : But a H1 H2) : But a H H2 := ⟨b.d0, c.d1, fun d o h n => c.kp d o (b.kp d o h n) n⟩
theorem But.new {a : Addr} {H H1 : Hp} {p : Addr} {o : HO} (b : But a H H1) (h : H1 p = none) : But a H (upd H1 p o) := b.same (Same.new h)
theorem But.free {a : Addr} {H H1 : Hp} {p : Addr} (b : But a H H1) (h : H1 p = none) : H p = none := by
  cases e : H p with
  | none => rfl
  | some o =>
    by_cases hp : p = a
    · subst hp
      exact absurd rfl (b.d1.ne h)
    · rw [b.kp p o e hp] at h
      cases h
/-- a change of an object that H does not know -/
theorem But.mut {a : Addr} {H H1 : Hp} {p : Addr} {o : HO} (b : But a H H1) (h : H p = none) (np : p ≠ a) : But a H (upd H1 p o) := by
  refine ⟨b.d0, ?_, fun c u e n => ?_⟩
  · obtain ⟨x, k, h1⟩ := b.d1
    exact ⟨x, k, by rw [upd_ne np.symm]; exact h1⟩
  · rw [upd_ne (ne_of_none e h)]
    exact b.kp c u e n
theorem But.tup {K : PySem.W.Frag} {a : Addr} {H H' : Hp} {b : Addr} {xs : List V} (e : But a H H') (h : SqT K H b xs) : SqT K H' b xs := by
  obtain ⟨x, k, hd⟩ := e.d0
  rcases h with (h | ⟨o, h⟩) | h
  · exact .inl (.inl (e.kp _ _ h fun z => by subst z; rw [hd] at h; cases h))
  · exact .inl (.inr ⟨o, e.kp _ _ h fun z => by subst z; rw [hd] at h; cases h⟩)
  · exact .inr h
/-- a change of a list never bears on a tuple -/
theorem tup_mut {K : PySem.W.Frag} {H : Hp} {a p : Addr} {o : HO} {xs ys : List V} (hp : H p = some (.lst ys)) (h : SqT K H a xs) : SqT K (upd H p o) a xs := by
  rcases h with (h | ⟨u, h⟩) | h
  · exact .inl (.inl (by rw [upd_ne (ne_of h hp (by intro z; cases z))]; exact h))
  · exact .inl (.inr ⟨u, by rw [upd_ne (ne_of h hp (by intro z; cases z))]; exact h⟩)
  · exact .inr h
theorem sz {n : Nat} (h : n ≤ 100000) : n ≤ sizeLine := Nat.le_trans h (by decide)
theorem szl {n : Nat} (h : n < 100000) : n < sizeLine := Nat.lt_of_lt_of_le h (by decide)
theorem if_t {c : Bool} {A B : Prop} (hc : c = true) (h : A) : if c = true then A else B := by
  rw [if_pos hc]
  exact h
theorem if_f {c : Bool} {A B : Prop} (hc : c = false) (h : B) : if c = true then A else B := by
  rw [hc, if_neg Bool.false_ne_true]
  exact h
theorem if_b {c : Bool} {A B : Prop} (h1 : c = true → A) (h2 : c = false → B) : if c = true then A else B := by
  cases c with
  | true => exact if_t rfl (h1 rfl)
  | false => exact if_f rfl (h2 rfl)
end RG
/-! ### data -/
namespace RG
open PySem PySem.Spec PyProof.Rows L2
mutual
theorem Same.dp {K : PySem.W.Frag} {H H' : Hp} (s : Same H H') : ∀ {v : V} {d : PyData}, Dp K H v d → Dp K H' v d
  | _, _, .non => .non
  | _, _, .bl b => .bl b
  | _, _, .int i => .int i
  | _, _, .str x => .str x
  | _, _, .lst h a => .lst (s.seq h) (Same.dpAll s a)
  | _, _, .tup h a => .tup (RG.Same.tup s h) (Same.dpAll s a)
theorem Same.dpAll {K : PySem.W.Frag} {H H' : Hp} (s : Same H H') : ∀ {vs : List V} {ds : List PyData}, DpAll K H vs ds → DpAll K H' vs ds
  | _, _, .nil => .nil
  | _, _, .cons a b => .cons (Same.dp s a) (Same.dpAll s b)
end
theorem dp_s {K : PySem.W.Frag} {H H' : Hp} {v : V} {d : PyData} (e : Same H H') (h : Dp K H v d) : Dp K H' v d := Same.dp e h
theorem dps_s {K : PySem.W.Frag} {H H' : Hp} {v : List V} {d : List PyData} (e : Same H H') (h : DpAll K H v d) : DpAll K H' v d := Same.dpAll e h
mutual
/-- no list, no dict within -/
def imm : PyData → Bool
  | .none => true
  | .bool _ => true
  | .int _ => true
  | .str _ => true
  | .tuple xs => immAll xs
  | .list _ => false
  | .dict _ => false
def immAll : List PyData → Bool
  | [] => true
  | x :: xs => imm x && immAll xs
end
mutual
theorem But.dp {K : PySem.W.Frag} {a : Addr} {H H' : Hp} (s : But a H H') : ∀ {v : V} {d : PyData}, imm d = true → Dp K H v d → Dp K H' v d
  | _, _, _, .non => .non
  | _, _, _, .bl b => .bl b
  | _, _, _, .int i => .int i
  | _, _, _, .str x => .str x
  | _, _, i, .lst h a => by simp [imm] at i
  | _, _, i, .tup h a => .tup (s.tup h) (But.dpAll s (by simpa [imm] using i) a)
theorem But.dpAll {K : PySem.W.Frag} {a : Addr} {H H' : Hp} (s : But a H H') : ∀ {vs : List V} {ds : List PyData}, immAll ds = true → DpAll K H vs ds → DpAll K H' vs ds
  | _, _, _, .nil => .nil
  | _, _, i, .cons a b => by
    simp [immAll] at i
    exact .cons (But.dp s i.1 a) (But.dpAll s i.2 b)
end
theorem dpAll_len {K : PySem.W.Frag} {H : Hp} : ∀ {vs : List V} {ds : List PyData}, DpAll K H vs ds → vs.length = ds.length
  | _, _, .nil => rfl
  | _, _, .cons _ b => by simp [dpAll_len b]
theorem dpAll_get {K : PySem.W.Frag} {H : Hp} : ∀ {vs : List V} {ds : List PyData} {i : Nat} {d : PyData}, DpAll K H vs ds → ds[i]? = some d → ∃ v, vs[i]? = some v ∧ Dp K H v d
  | _, _, _, _, .nil, e => by simp at e
  | _, _, 0, _, .cons a _, e => by
    simp at e
    subst e
    exact ⟨_, rfl, a⟩
  | _, _, i + 1, d, .cons _ b, e => by
    obtain ⟨v, h1, h2⟩ := dpAll_get (i := i) (d := d) b (by simpa using e)
    exact ⟨v, by simpa using h1, h2⟩
theorem dpAll_getV {K : PySem.W.Frag} {H : Hp} : ∀ {vs : List V} {ds : List PyData} {i : Nat} {v : V}, DpAll K H vs ds → vs[i]? = some v → ∃ d, ds[i]? = some d ∧ Dp K H v d
  | _, _, _, _, .nil, e => by simp at e
  | _, _, 0, _, .cons a _, e => by
    simp at e
    subst e
    exact ⟨_, rfl, a⟩
  | _, _, i + 1, d, .cons _ b, e => by
    obtain ⟨v, h1, h2⟩ := dpAll_getV (i := i) b (by simpa using e)
    exact ⟨v, by simpa using h1, h2⟩
theorem dpAll_app {K : PySem.W.Frag} {H : Hp} : ∀ {vs us : List V} {ds es : List PyData}, DpAll K H vs ds → DpAll K H us es → DpAll K H (vs ++ us) (ds ++ es)
  | _, _, _, _, .nil, h => h
  | _, _, _, _, .cons a b, h => .cons a (dpAll_app b h)
theorem dpAll_ints {K : PySem.W.Frag} {H : Hp} : ∀ ns : List Int, DpAll K H (ns.map V.int) (ns.map PyData.int)
  | [] => .nil
  | n :: ns => .cons (.int n) (dpAll_ints ns)
def tyD : PyData → String
  | .none => "NoneType"
  | .bool _ => "bool"
  | .int _ => "int"
  | .str _ => "str"
  | .list _ => "list"
  | .tuple _ => "tuple"
  | .dict _ => "dict"
theorem dp_ty {K : PySem.W.Frag} {H : Hp} {v : V} {d : PyData} (h : Dp K H v d) : TyX K H v (.type (tyD d)) := by
  cases h with
  | non => exact .base .non
  | bl b => exact .base (.bl b)
  | int i => exact .base (.int i)
  | str x => exact .base (.str x)
  | lst h a =>
    rcases h with (h | ⟨o, h⟩) | ⟨o, its, n, h1, h2, _⟩
    · exact .base (.lst h)
    · exact .base (.frz h)
    · exact .kList h1 h2
  | tup h a =>
    rcases h with (h | ⟨o, h⟩) | ⟨o, its, n, h1, h2, _⟩
    · exact .base (.tup h)
    · exact .fTuple h
    · exact .kTuple h1 h2
def isIntD : PyData → Bool
  | .int _ => true
  | .bool _ => true
  | _ => false
def isBoolD : PyData → Bool
  | .bool _ => true
  | _ => false
def isTupD : PyData → Bool
  | .tuple _ => true
  | _ => false
def isStrD : PyData → Bool
  | .str _ => true
  | _ => false
def isListD : PyData → Bool
  | .list _ => true
  | _ => false
section
variable {K : PySem.W.Frag} {H : Hp} {v : V} {d : PyData} {Q : VK}
theorem isi_int (h : Dp K H v d) (q : Q (.bl (isIntD d)) H) : rIsi K [v, .ty "int"] H Q := by
  refine ⟨v, _, _, _, isIntD d, rfl, .ty _, dp_ty h, ?_, q⟩
  cases d <;> exact kit_ty (by kernel_rfl)
theorem isi_bool (h : Dp K H v d) (q : Q (.bl (isBoolD d)) H) : rIsi K [v, .ty "bool"] H Q := by
  refine ⟨v, _, _, _, isBoolD d, rfl, .ty _, dp_ty h, ?_, q⟩
  cases d <;> exact kit_ty (by kernel_rfl)
theorem isi_tuple (h : Dp K H v d) (q : Q (.bl (isTupD d)) H) : rIsi K [v, .ty "tuple"] H Q := by
  refine ⟨v, _, _, _, isTupD d, rfl, .ty _, dp_ty h, ?_, q⟩
  cases d <;> exact kit_ty (by kernel_rfl)
theorem isi_str (h : Dp K H v d) (q : Q (.bl (isStrD d)) H) : rIsi K [v, .ty "str"] H Q := by
  refine ⟨v, _, _, _, isStrD d, rfl, .ty _, dp_ty h, ?_, q⟩
  cases d <;> exact kit_ty (by kernel_rfl)
theorem isi_list (h : Dp K H v d) (q : Q (.bl (isListD d)) H) : rIsi K [v, .ty "list"] H Q := by
  refine ⟨v, _, _, _, isListD d, rfl, .ty _, dp_ty h, ?_, q⟩
  cases d <;> exact kit_ty (by kernel_rfl)
theorem dp_tuple {ds : List PyData} (h : Dp K H v (.tuple ds)) : ∃ a xs, v = .ref a ∧ SqT K H a xs ∧ DpAll K H xs ds := by
  cases h with
  | tup h a => exact ⟨_, _, rfl, h, a⟩
theorem dp_list {ds : List PyData} (h : Dp K H v (.list ds)) : ∃ a xs, v = .ref a ∧ SqL K H a xs ∧ DpAll K H xs ds := by
  cases h with
  | lst h a => exact ⟨_, _, rfl, h, a⟩
theorem dp_int {i : Int} (h : Dp K H v (.int i)) : v = .int i := by
  cases h
  rfl
theorem dp_str {x : Str} (h : Dp K H v (.str x)) : v = .str x := by
  cases h
  rfl
/-- an item of a tuple that is data -/
theorem ix_data {ds : List PyData} {j : Nat} {e : PyData} {u : V} (h : Dp K H v (.tuple ds)) (hj : ds[j]? = some e) (q : ∀ u, Dp K H u e → Q u H) : rIxT K v (.int (j : Nat)) H Q := by
  obtain ⟨a, xs, rfl, hs, ha⟩ := dp_tuple h
  obtain ⟨u, hu, du⟩ := dpAll_get ha hj
  exact ⟨a, xs, _, u, rfl, rfl, hs, atI_nat hu, q u du⟩
theorem len_tup {ds : List PyData} (h : Dp K H v (.tuple ds)) (q : Q (.int (ds.length : Nat)) H) : ∃ x n, [v] = [x] ∧ LenV K x H n ∧ Q (.int (n : Nat)) H := by
  obtain ⟨a, xs, rfl, hs, ha⟩ := dp_tuple h
  exact ⟨_, ds.length, rfl, .inr ⟨xs, hs, (dpAll_len ha).symm⟩, q⟩
end
end RG
/-! ### readings, step by step -/
namespace RG
open PySem PySem.Spec PyProof.Rows L2
abbrev oAdd : R2 := rI0 fun i j => .int (i + j)
abbrev oSub : R2 := rI0 fun i j => .int (i - j)
abbrev oMul : R2 := rI CMul fun i j => .int (i * j)
abbrev oMulW : R2 := rI CMulW fun i j => .int (i * j)
abbrev oDiv : R2 := rI CDivW fun i j => .int (i / j)
abbrev oMod : R2 := rI (fun _ j => 0 < j) fun i j => .int (i % j)
abbrev oPow : R2 := rI CPow fun i j => .int (i ^ j.toNat)
abbrev oLt : R2 := rI0 fun i j => .bl (decide (i < j))
abbrev oLe : R2 := rI0 fun i j => .bl (decide (i ≤ j))
abbrev oGt : R2 := rI0 fun i j => .bl (decide (j < i))
abbrev oGe : R2 := rI0 fun i j => .bl (decide (j ≤ i))
def oIsN : R2 := fun x y H Q => y = .non ∧ Q (.bl (decide (x = .non))) H
def oNotN : R2 := fun x y H Q => y = .non ∧ Q (.bl (!decide (x = .non))) H
def oAddS : R2 := fun x y H Q => ∃ i j, x = .str i ∧ y = .str j ∧ i.length + j.length ≤ sizeLine ∧ Q (.str (i ++ j)) H
def cLen (K : PySem.W.Frag) : List V → Hp → VK → Prop := fun xs H Q => ∃ x n, xs = [x] ∧ LenV K x H n ∧ Q (.int (n : Nat)) H
def cMax2 : List V → Hp → VK → Prop := fun xs H Q => ∃ i j, xs = [.int i, .int j] ∧ Q (.int (if j > i then j else i)) H
def cMin2 : List V → Hp → VK → Prop := fun xs H Q => ∃ i j, xs = [.int i, .int j] ∧ Q (.int (if j < i then j else i)) H
def cInt1 : List V → Hp → VK → Prop := fun xs H Q => (∃ i, xs = [.int i] ∧ Q (.int i) H) ∨ ∃ k, xs = [.bl k] ∧ Q (.int (if k then 1 else 0)) H
def cTuple (K : PySem.W.Frag) : List V → Hp → VK → Prop := fun xs H Q => ∃ p ys, xs = [.ref p] ∧ ((SqL K H p ys ∧ ∀ l, H l = none → Q (.ref l) (upd H l (.tup ys))) ∨ (SqT K H p ys ∧ Q (.ref p) H))
def cList (K : PySem.W.Frag) : List V → Hp → VK → Prop := fun xs H Q => ∃ p ys, xs = [.ref p] ∧ (SqL K H p ys ∨ SqT K H p ys) ∧ ∀ l, H l = none → Q (.ref l) (upd H l (.lst ys))
def tRz (K : PySem.W.Frag) (E : XK) (x : Str) : TS := fun _ _ H => E (.ref (He.ga K x)) none H
section
variable {K : PySem.W.Frag} {σ : L2.St} {H : Hp} {D : Ends} {t u : TS} {te ta tb tc : TE} {Q : VK} {g : TG} {x y v : V} {i : Nat} {tA tB' : TT} {QB : Bool → Hp → Prop} {ts : TA} {QA : List V → Hp → Prop} {E : XK} {sp : Sp}
theorem w_seq (h : t { D with nx := u D } σ H) : tSeq t u D σ H := h
theorem w_next (h : D.nx σ H) : tNext D σ H := h
theorem w_ret (h : te σ H D.rt) : tRet te D σ H := h
theorem w_retN (h : D.rt .non H) : tRetN D σ H := h
theorem w_drop (h : te σ H fun _ H1 => D.nx σ H1) : tDrop te D σ H := h
theorem w_ifs (h : tA σ H fun b H1 => if b = true then t D σ H1 else u D σ H1) : tIfS tA t u D σ H := h
theorem w_set (h : te σ H fun x H1 => D.nx (σ.set i (some x)) H1) : tAsg te (gName i) D σ H := h
theorem w_asg (h : te σ H fun x H1 => g x σ H1 D.nx) : tAsg te g D σ H := h
theorem w_par {j : Nat} (h : ts σ H fun vs H1 => ∃ v w, vs = [v, w] ∧ D.nx ((σ.set i (some v)).set j (some w)) H1) : tPar i j ts D σ H := h
theorem w_rz (h : E (.ref (He.ga K z)) none H) : tRz K E z D σ H := h
theorem w_var (e : σ[i]? = some (some v)) (h : Q v H) : tVar i σ H Q := ⟨v, e, h⟩
theorem w_c (h : Q v H) : tC v σ H Q := h
theorem w_op {r : R2} (h : ta σ H fun x H1 => tb σ H1 fun y H2 => r x y H2 Q) : tOp r ta tb σ H Q := h
theorem w_un {r : V → Hp → VK → Prop} (h : ta σ H fun x H1 => r x H1 Q) : tUn r ta σ H Q := h
theorem w_I0 {f : Int → Int → V} {m n : Int} (h : Q (f m n) H) : rI0 f (.int m) (.int n) H Q := ⟨m, n, rfl, rfl, h⟩
theorem w_I {C : Int → Int → Prop} {f : Int → Int → V} {m n : Int} (c : C m n) (h : Q (f m n) H) : rI C f (.int m) (.int n) H Q := ⟨m, n, rfl, rfl, c, h⟩
theorem w_U {f : Int → V} {m : Int} (h : Q (f m) H) : rU f (.int m) H Q := ⟨m, rfl, h⟩
theorem w_eq (e : scal x y = true) (h : Q (.bl (decide (x = y))) H) : rEq x y H Q := ⟨e, h⟩
theorem w_ne (e : scal x y = true) (h : Q (.bl (!decide (x = y))) H) : rNe x y H Q := ⟨e, h⟩
theorem w_eqI {m n : Int} (h : Q (.bl (decide (m = n))) H) : rEq (.int m) (.int n) H Q := ⟨rfl, by
  have e : decide (V.int m = V.int n) = decide (m = n) := by simp
  rw [e]
  exact h⟩
theorem w_neI {m n : Int} (h : Q (.bl (!decide (m = n))) H) : rNe (.int m) (.int n) H Q := ⟨rfl, by
  have e : decide (V.int m = V.int n) = decide (m = n) := by simp
  rw [e]
  exact h⟩
theorem w_eqS {m n : Str} (h : Q (.bl (decide (m = n))) H) : rEq (.str m) (.str n) H Q := ⟨rfl, by
  have e : decide (V.str m = V.str n) = decide (m = n) := by simp
  rw [e]
  exact h⟩
theorem w_isN (h : Q (.bl (decide (x = .non))) H) : oIsN x .non H Q := ⟨rfl, h⟩
theorem w_notN (h : Q (.bl (!decide (x = .non))) H) : oNotN x .non H Q := ⟨rfl, h⟩
theorem w_chain {r r' : R2} (h : ta σ H fun x H1 => tb σ H1 fun y H2 => r x y H2 fun z H3 => ∃ k, z = .bl k ∧ if k = true then tc σ H3 fun w H4 => r' y w H4 Q else Q (.bl false) H3) : tChain r r' ta tb tc σ H Q := h
theorem w_test (h : te σ H fun x H1 => ∃ k, x = .bl k ∧ QB k H1) : tTest te σ H QB := h
theorem w_B (h : te σ H fun x H1 => ∃ k, x = .bl k ∧ QB k H1) : tB te σ H QB := h
theorem w_and (h : tA σ H fun c H1 => if c = true then tB' σ H1 QB else QB false H1) : tAnd tA tB' σ H QB := h
theorem w_or (h : tA σ H fun c H1 => if c = true then QB true H1 else tB' σ H1 QB) : tOr tA tB' σ H QB := h
theorem w_not (h : tA σ H fun c H1 => QB (!c) H1) : tNot tA σ H QB := h
theorem w_andV (h : ta σ H fun x H1 => ∃ c, x = .bl c ∧ if c = true then tb σ H1 Q else Q (.bl false) H1) : tAndV ta tb σ H Q := h
theorem w_orV (h : ta σ H fun x H1 => ∃ c, x = .bl c ∧ if c = true then Q (.bl true) H1 else tb σ H1 Q) : tOrV ta tb σ H Q := h
theorem w_notV (h : ta σ H fun x H1 => ∃ c, x = .bl c ∧ Q (.bl (!c)) H1) : tNotV ta σ H Q := h
theorem w_if (h : tA σ H fun c H1 => if c = true then ta σ H1 Q else tb σ H1 Q) : tIf tA ta tb σ H Q := h
theorem w_nil (h : QA [] H) : tNil σ H QA := h
theorem w_cons (h : te σ H fun x H1 => ts σ H1 fun xs H2 => QA (x :: xs) H2) : tCons te ts σ H QA := h
theorem w_tup (h : ts σ H fun xs H1 => xs.length ≤ sizeLine ∧ ∀ p, H1 p = none → Q (.ref p) (upd H1 p (.tup xs))) : tTup ts σ H Q := h
theorem w_lst (h : ts σ H fun xs H1 => xs.length ≤ sizeLine ∧ ∀ p, H1 p = none → Q (.ref p) (upd H1 p (.lst xs))) : tLst ts σ H Q := h
theorem w_call (h : ts σ H fun vs H1 => sp (vs ++ []) H1 Q E) : tCall sp [] E ts σ H Q := h
theorem w_cb {r : List V → Hp → VK → Prop} (h : ts σ H fun vs H1 => r vs H1 Q) : tCB r ts σ H Q := h
theorem w_sl {r : V → Option Int → Option Int → Hp → VK → Prop} {tl th : TO} (h : te σ H fun x H1 => tl σ H1 fun l H2 => th σ H2 fun u H3 => r x l u H3 Q) : tSl r te tl th σ H Q := h
theorem w_part {QO : Option Int → Hp → Prop} (h : te σ H fun x H1 => ∃ k, x = .int k ∧ QO (some k) H1) : tPart te σ H QO := h
theorem w_noPart {QO : Option Int → Hp → Prop} (h : QO none H) : tNoPart σ H QO := h
theorem w_bm {T : String} {r : V → List V → Hp → VK → Prop} (h : te σ H fun x H1 => tyV K T x H1 ∧ ts σ H1 fun xs H2 => r x xs H2 Q) : tBM K T r te ts σ H Q := h
theorem w_bm0 {T : String} {r : V → List V → Hp → VK → Prop} (h : te σ H fun x H1 => tyV K T x H1 ∧ r x [] H1 Q) : tBM0 K T r te σ H Q := h
theorem w_sub {to ti : TE} {st : TSet} {R : L2.St → Hp → Prop} (h : to σ H fun o H1 => ti σ H1 fun i H2 => st o i v H2 fun H3 => R σ H3) : gSub to ti st v σ H R := h
theorem w_name {R : L2.St → Hp → Prop} (h : R (σ.set i (some v)) H) : gName i v σ H R := h
theorem w_max2 {m n : Int} (h : Q (.int (if n > m then n else m)) H) : cMax2 [.int m, .int n] H Q := ⟨m, n, rfl, h⟩
theorem w_min2 {m n : Int} (h : Q (.int (if n < m then n else m)) H) : cMin2 [.int m, .int n] H Q := ⟨m, n, rfl, h⟩
theorem w_intI {m : Int} (h : Q (.int m) H) : cInt1 [.int m] H Q := .inl ⟨m, rfl, h⟩
theorem w_intB {b : Bool} (h : Q (.int (if b then 1 else 0)) H) : cInt1 [.bl b] H Q := .inr ⟨b, rfl, h⟩
theorem w_lenT {a : Addr} {xs : List V} (s : SqT K H a xs) (h : Q (.int (xs.length : Nat)) H) : cLen K [.ref a] H Q := ⟨_, _, rfl, .inr ⟨xs, s, rfl⟩, h⟩
theorem w_lenL {a : Addr} {xs : List V} (s : SqL K H a xs) (h : Q (.int (xs.length : Nat)) H) : cLen K [.ref a] H Q := ⟨_, _, rfl, .inl ⟨xs, s, rfl⟩, h⟩
theorem w_lenS {z : Str} (s : z.length ≤ 100000) (h : Q (.int (z.length : Nat)) H) : cLen K [.str z] H Q := ⟨_, _, rfl, ⟨sz s, rfl⟩, h⟩
theorem w_lenD {d : List PyData} (s : Dp K H v (.tuple d)) (h : Q (.int (d.length : Nat)) H) : cLen K [v] H Q := by
  obtain ⟨a, xs, rfl, hs, ha⟩ := dp_tuple s
  exact ⟨_, _, rfl, .inr ⟨xs, hs, (dpAll_len ha).symm⟩, h⟩
theorem w_ixT {a : Addr} {xs : List V} {k : Int} (s : SqT K H a xs) (e : atI xs k = some v) (h : Q v H) : rIxT K (.ref a) (.int k) H Q := ⟨a, xs, k, v, rfl, rfl, s, e, h⟩
theorem w_ixL {a : Addr} {xs : List V} {k : Int} (s : SqL K H a xs) (e : atI xs k = some v) (h : Q v H) : rIxL K (.ref a) (.int k) H Q := ⟨a, xs, k, v, rfl, rfl, s, e, h⟩
theorem w_ixD {ds : List PyData} {j : Nat} {e : PyData} (s : Dp K H v (.tuple ds)) (hj : ds[j]? = some e) (q : ∀ u, Dp K H u e → Q u H) : rIxT K v (.int (j : Nat)) H Q := ix_data (u := .non) s hj q
theorem w_ixD0 {ds : List PyData} {e : PyData} (s : Dp K H v (.tuple (e :: ds))) (q : ∀ u, Dp K H u e → Q u H) : rIxT K v (.int 0) H Q := ix_data (j := 0) (u := .non) s rfl q
theorem w_ixD1 {ds : List PyData} {e e0 : PyData} (s : Dp K H v (.tuple (e0 :: e :: ds))) (q : ∀ u, Dp K H u e → Q u H) : rIxT K v (.int 1) H Q := ix_data (j := 1) (u := .non) s rfl q
theorem w_ixD2 {ds : List PyData} {e e0 e1 : PyData} (s : Dp K H v (.tuple (e0 :: e1 :: e :: ds))) (q : ∀ u, Dp K H u e → Q u H) : rIxT K v (.int 2) H Q := ix_data (j := 2) (u := .non) s rfl q
theorem w_setL {a : Addr} {xs : List V} {k : Int} {j : Nat} {R : Hp → Prop} (s : H a = some (.lst xs)) (e : ixN xs.length k = some j) (h : R (upd H a (.lst (xs.set j v)))) : rSetL (.ref a) (.int k) v H R := ⟨a, xs, k, j, rfl, rfl, s, e, h⟩
theorem w_app {a : Addr} {xs : List V} (s : H a = some (.lst xs)) (z : xs.length < 100000) (h : Q .non (upd H a (.lst (xs ++ [v])))) : rAppend (.ref a) [v] H Q := ⟨a, xs, v, rfl, rfl, s, szl z, h⟩
theorem w_eqD {d e : PyData} (hx : Dp K H x d) (hy : Dp K H y e) (sd : SeqAt.shaped d = true) (se : SeqAt.shaped e = true) (h : Q (.bl (PyData.eqv d e)) H) : rEqD K x y H Q := ⟨d, e, hx, hy, sd, se, h⟩
theorem w_neD {d e : PyData} (hx : Dp K H x d) (hy : Dp K H y e) (sd : SeqAt.shaped d = true) (se : SeqAt.shaped e = true) (h : Q (.bl (!PyData.eqv d e)) H) : rNeD K x y H Q := ⟨d, e, hx, hy, sd, se, h⟩
end
end RG
/-! ### loops and comprehensions -/
namespace RG
open PySem PySem.Spec PyProof.Rows L2
/-- what is left of a comprehension when its iterator stands -/
def LcGoal (J : It) (g : TG) (tt : TT) (te : TE) (vs : List Nat) (σ : L2.St) (H1 : Hp) (Q : VK) : Prop := ∀ D, H1 D = none → ∃ W : Nat → Nat → Hp → Prop, (∃ m, W 0 m (upd H1 D (.lst []))) ∧ ∀ i m H, W i m H →
  (J.stop i H ∧ Q (.ref D) H) ∨ (J.go i H ∧ ∃ Nx : Hp → Prop, (∀ H', Nx H' → ∃ m', m' < m ∧ W (i + 1) m' H') ∧ ∀ x H', J.yld i H x H' → g x (wipe σ vs) H' fun σ2 H2 => wipe σ2 vs = wipe σ vs ∧ tt σ2 H2 fun b H3 =>
    if b = true then te σ2 H3 fun y H4 => ∃ acc, H4 D = some (.lst acc) ∧ acc.length < sizeLine ∧ Nx (upd H4 D (.lst (acc ++ [y]))) else Nx H3)
def ForGoal (J : It) (g : TG) (tb : TS) (D : Ends) (σ : L2.St) (H1 : Hp) : Prop := ∃ W : Nat → Nat → L2.St → Hp → Prop, (∃ m, W 0 m σ H1) ∧ ∀ i m σ H, W i m σ H →
  (J.stop i H ∧ D.nx σ H) ∨ (J.go i H ∧ ∃ N : L2.St → Hp → Prop, (∀ σ' H', N σ' H' → ∃ m', m' < m ∧ W (i + 1) m' σ' H') ∧ ∀ x H', J.yld i H x H' → g x σ H' fun σ2 H2 => tb { D with nx := N, ct := N, bk := D.nx } σ2 H2)
/-- a turn's end that keeps an item, that keeps none -/
def LcNx (Iv : Nat → List V → Hp → Prop) (D : Addr) (i : Nat) (y : V) (H4 : Hp) : Prop := ∃ acc, H4 D = some (.lst acc) ∧ acc.length < sizeLine ∧ ∃ acc', acc'.length ≤ i + 1 ∧ (upd H4 D (.lst (acc ++ [y]))) D = some (.lst acc') ∧ Iv (i + 1) acc' (upd H4 D (.lst (acc ++ [y])))
def LcSk (Iv : Nat → List V → Hp → Prop) (D : Addr) (i : Nat) (H3 : Hp) : Prop := ∃ acc', acc'.length ≤ i + 1 ∧ H3 D = some (.lst acc') ∧ Iv (i + 1) acc' H3
section
variable {K : PySem.W.Frag} {σ : L2.St} {H : Hp} {D : Ends} {tb : TS} {te tl : TE} {Q : VK} {g : TG} {tt : TT} {wi : TI} {ta : TA} {vs : List Nat} {R : It → Hp → Prop} {J : It} {n : Nat} {G : Hp → Prop} {Y : Nat → Hp → V → Hp → Prop}
theorem w_lc (h : wi σ H fun J H1 => LcGoal J g tt te vs σ H1 Q) : tLc wi g tt te vs σ H Q := h
theorem w_for (h : wi σ H fun J H1 => ForGoal J g tb D σ H1) : tFor wi g tb D σ H := h
theorem w_rng1 (h : ta σ H fun vs H1 => ∃ j : Int, vs = [.int j] ∧ -(2 ^ 62) ≤ j ∧ j < 2 ^ 62 ∧ R (Itr 0 j.toNat) H1) : iRng1 ta σ H R := h
theorem w_rng2 (h : ta σ H fun vs H1 => ∃ i j : Int, vs = [.int i, .int j] ∧ (-(2 ^ 62) ≤ i ∧ i < 2 ^ 62 ∧ -(2 ^ 62) ≤ j ∧ j < 2 ^ 62) ∧ R (Itr i (j - i).toNat) H1) : iRng2 ta σ H R := h
theorem w_iList (h : tl σ H fun x H1 => ∃ a, x = .ref a ∧ (∃ xs, SqL K H1 a xs) ∧ R (Itl K a) H1) : iList K tl σ H R := h
theorem w_iTup (h : tl σ H fun x H1 => ∃ a, x = .ref a ∧ (∃ xs, SqT K H1 a xs) ∧ R (Itt K a) H1) : iTup K tl σ H R := h
theorem w_iEnum (h : ta σ H fun vs H1 => ∃ a xs, vs = [.ref a] ∧ SqL K H1 a xs ∧ R (Ite K a) H1) : iEnum K ta σ H R := h
theorem w_iZip (h : ta σ H fun vs H1 => ∃ a b xs ys, vs = [.ref a, .ref b] ∧ SqL K H1 a xs ∧ SqL K H1 b ys ∧ R (Itz K a b) H1) : iZip K ta σ H R := h
theorem for_go (w : Walk J n G Y) (Pv : Nat → L2.St → Hp → Prop) (h0 : Pv 0 σ H) (hG : ∀ i σ H, i ≤ n → Pv i σ H → G H)
    (hs : ∀ i x σ H H', i < n → Pv i σ H → Y i H x H' → g x σ H' fun σ2 H2 => tb { D with nx := Pv (i + 1), ct := Pv (i + 1), bk := D.nx } σ2 H2) (hd : ∀ σ H, Pv n σ H → D.nx σ H) : ForGoal J g tb D σ H := for_it w Pv h0 hG hs hd
theorem lc_go (w : Walk J n G Y) (hn : n ≤ 50000) (Iv : Addr → Nat → List V → Hp → Prop) (h0 : ∀ D, H D = none → Iv D 0 [] (upd H D (.lst [])))
    (hG : ∀ D i acc H', H D = none → H' D = some (.lst acc) → Iv D i acc H' → G H')
    (hs : ∀ D i acc x H' H'', H D = none → i < n → acc.length ≤ i → H' D = some (.lst acc) → Iv D i acc H' → Y i H' x H'' → g x (wipe σ vs) H'' fun σ2 H2 => wipe σ2 vs = wipe σ vs ∧ tt σ2 H2 fun b H3 =>
      if b = true then te σ2 H3 fun y H4 => LcNx (Iv D) D i y H4 else LcSk (Iv D) D i H3)
    (hd : ∀ D acc H', H D = none → H' D = some (.lst acc) → acc.length ≤ n → Iv D n acc H' → Q (.ref D) H') : LcGoal J g tt te vs σ H Q := fun D hD => by
  refine lc_it w (fun i H' => ∃ acc, acc.length ≤ i ∧ H' D = some (.lst acc) ∧ Iv D i acc H') ⟨[], Nat.le_refl _, upd_same, h0 D hD⟩ (fun i H' _ ⟨acc, _, a, b⟩ => hG D i acc H' hD a b) ?_ (fun H' ⟨acc, a, b, c⟩ => hd D acc H' hD b a c)
  rintro i x H' H'' hi ⟨acc, a, b, c⟩ y
  exact hs D i acc x H' H'' hD hi a b c y
theorem lc_nx {Iv : Nat → List V → Hp → Prop} {A : Addr} {i : Nat} {y : V} {H4 : Hp} {acc : List V} (hi : i < 90000) (hl : acc.length ≤ i) (h : H4 A = some (.lst acc)) (q : Iv (i + 1) (acc ++ [y]) (upd H4 A (.lst (acc ++ [y])))) : LcNx Iv A i y H4 :=
  ⟨acc, h, szl (by omega), acc ++ [y], by simp; omega, upd_same, q⟩
theorem lc_sk {Iv : Nat → List V → Hp → Prop} {A : Addr} {i : Nat} {H3 : Hp} {acc : List V} (hl : acc.length ≤ i) (h : H3 A = some (.lst acc)) (q : Iv (i + 1) acc H3) : LcSk Iv A i H3 := ⟨acc, by omega, h, q⟩
theorem w_lrg {tr : L2.St → Hp → (Int → Int → Hp → Prop) → Prop} (h : tr σ H fun a b H1 => RgOk a b ∧ ∀ q, H1 q = none → Q (.ref q) (upd H1 q (.lst (rgV a b)))) : tLstRg tr σ H Q := h
theorem w_rg1 {k : Int → Int → Hp → Prop} (h : te σ H fun x H1 => ∃ n : Int, x = .int n ∧ k 0 n H1) : tRg1 te σ H k := h
theorem w_yes {QB : Bool → Hp → Prop} (h : QB true H) : tYes σ H QB := h
theorem w_gtup {m : Nat} {t : TGs} {a : Addr} {xs : List V} {R : L2.St → Hp → Prop} (s : SqT K H a xs) (e : xs.length = m) (h : t xs σ H R) : gTup K m t (.ref a) σ H R := ⟨a, xs, rfl, s, e, h⟩
theorem w_gcons {t : TG} {u : TGs} {v : V} {r : List V} {R : L2.St → Hp → Prop} (h : t v σ H fun σ' H' => u r σ' H' R) : gCons t u (v :: r) σ H R := ⟨v, r, rfl, h⟩
theorem w_gnil {R : L2.St → Hp → Prop} (h : R σ H) : gNil [] σ H R := ⟨rfl, h⟩
end
end RG
namespace RG
open PySem PySem.Spec PyProof.Rows L2
def top (i : Nat) : Stmt := PySem.Challenge.pw_rollgates_k10_places.main.body.getD i (.Pass ⟨0, 0, 0, 0⟩)
abbrev s_is_number : Stmt := top 9
abbrev s_rest : Stmt := top 10
abbrev s_need_user : Stmt := top 11
abbrev s_need_deal : Stmt := top 12
abbrev s_place_of : Stmt := top 13
abbrev s_place : Stmt := top 14
abbrev s__law_cell : Stmt := top 16
abbrev s__law_drawn : Stmt := top 17
abbrev s__law_roll : Stmt := top 18
abbrev s__law_rounds : Stmt := top 19
abbrev s__law_deal : Stmt := top 20
abbrev s__law_user : Stmt := top 21
abbrev s_law : Stmt := top 22
theorem sc_is_number : FnScope ["thing", "low", "high"] ["thing", "low", "high"] (defScope s_is_number) := ⟨rfl, rfl, rfl, by decide +kernel, rfl, by decide +kernel, by decide +kernel⟩
theorem sc_rest : FnScope ["number", "by"] ["number", "by"] (defScope s_rest) := ⟨rfl, rfl, rfl, by decide +kernel, rfl, by decide +kernel, by decide +kernel⟩
theorem sc_need_user : FnScope ["thing"] ["thing"] (defScope s_need_user) := ⟨rfl, rfl, rfl, by decide +kernel, rfl, by decide +kernel, by decide +kernel⟩
theorem sc_need_deal : FnScope ["thing"] ["thing"] (defScope s_need_deal) := ⟨rfl, rfl, rfl, by decide +kernel, rfl, by decide +kernel, by decide +kernel⟩
theorem sc_place_of : FnScope ["number", "deal"] ["number", "deal"] (defScope s_place_of) := ⟨rfl, rfl, rfl, by decide +kernel, rfl, by decide +kernel, by decide +kernel⟩
theorem sc_place : FnScope ["user", "deal"] ["user", "deal"] (defScope s_place) := ⟨rfl, rfl, rfl, by decide +kernel, rfl, by decide +kernel, by decide +kernel⟩
theorem sc__law_cell : FnScope ["script", "k"] ["script", "k"] (defScope s__law_cell) := ⟨rfl, rfl, rfl, by decide +kernel, rfl, by decide +kernel, by decide +kernel⟩
theorem sc__law_drawn : FnScope ["cell", "k", "more"] ["cell", "k"] (defScope s__law_drawn) := ⟨rfl, rfl, rfl, by decide +kernel, rfl, by decide +kernel, by decide +kernel⟩
theorem sc__law_roll : FnScope ["dice", "many", "told"] ["dice", "many"] (defScope s__law_roll) := ⟨rfl, rfl, rfl, by decide +kernel, rfl, by decide +kernel, by decide +kernel⟩
theorem sc__law_rounds : FnScope ["script", "most", "k"] ["script", "most"] (defScope s__law_rounds) := ⟨rfl, rfl, rfl, by decide +kernel, rfl, by decide +kernel, by decide +kernel⟩
theorem sc__law_deal : FnScope ["dice"] ["dice"] (defScope s__law_deal) := ⟨rfl, rfl, rfl, by decide +kernel, rfl, by decide +kernel, by decide +kernel⟩
theorem sc__law_user : FnScope ["dice", "number"] ["dice"] (defScope s__law_user) := ⟨rfl, rfl, rfl, by decide +kernel, rfl, by decide +kernel, by decide +kernel⟩
theorem sc_law : FnScope ["script", "dice", "deal", "begin", "at", "row", "turn", "user", "answer"] ["script"] (defScope s_law) := ⟨rfl, rfl, rfl, by decide +kernel, rfl, by decide +kernel, by decide +kernel⟩
def d_is_number : He.DefD := ⟨("is_number", none), "is_number", "is_number", defArgs s_is_number, defBody s_is_number, defScope s_is_number, [], []⟩
def d_rest : He.DefD := ⟨("rest", none), "rest", "rest", defArgs s_rest, defBody s_rest, defScope s_rest, [], []⟩
def d_need_user : He.DefD := ⟨("need_user", none), "need_user", "need_user", defArgs s_need_user, defBody s_need_user, defScope s_need_user, [], []⟩
def d_need_deal : He.DefD := ⟨("need_deal", none), "need_deal", "need_deal", defArgs s_need_deal, defBody s_need_deal, defScope s_need_deal, [], []⟩
def d_place_of : He.DefD := ⟨("place_of", none), "place_of", "place_of", defArgs s_place_of, defBody s_place_of, defScope s_place_of, [], []⟩
def d_place : He.DefD := ⟨("place", none), "place", "place", defArgs s_place, defBody s_place, defScope s_place, [], []⟩
def d__law_cell : He.DefD := ⟨("_law_cell", none), "_law_cell", "_law_cell", defArgs s__law_cell, defBody s__law_cell, defScope s__law_cell, [], []⟩
def d__law_drawn : He.DefD := ⟨("_law_drawn", none), "_law_drawn", "_law_drawn", defArgs s__law_drawn, defBody s__law_drawn, defScope s__law_drawn, [], []⟩
def d__law_roll : He.DefD := ⟨("_law_roll", none), "_law_roll", "_law_roll", defArgs s__law_roll, defBody s__law_roll, defScope s__law_roll, [], []⟩
def d__law_rounds : He.DefD := ⟨("_law_rounds", none), "_law_rounds", "_law_rounds", defArgs s__law_rounds, defBody s__law_rounds, defScope s__law_rounds, [], []⟩
def d__law_deal : He.DefD := ⟨("_law_deal", none), "_law_deal", "_law_deal", defArgs s__law_deal, defBody s__law_deal, defScope s__law_deal, [], []⟩
def d__law_user : He.DefD := ⟨("_law_user", none), "_law_user", "_law_user", defArgs s__law_user, defBody s__law_user, defScope s__law_user, [], []⟩
def d_law : He.DefD := ⟨("law", none), "law", "law", defArgs s_law, defBody s_law, defScope s_law, [], []⟩
def fnl : List He.DefD := [d_is_number, d_rest, d_need_user, d_need_deal, d_place_of, d_place, d__law_cell, d__law_drawn, d__law_roll, d__law_rounds, d__law_deal, d__law_user, d_law]
def fal : List He.Fa := [.glo "is_number", .glo "rest", .glo "need_user", .glo "need_deal", .glo "place_of", .glo "place", .glo "_law_cell", .glo "_law_drawn", .glo "_law_roll", .glo "_law_rounds", .glo "_law_deal", .glo "_law_user", .glo "law", .glo "GateError", .exc "GateError", .glo "BadUser", .exc "BadUser", .glo "BadDeal", .exc "BadDeal", .free "ValueError", .free "bool", .free "int", .free "isinstance", .free "len", .free "list", .free "max", .free "min", .free "range", .free "sorted", .free "tuple", .int "GREATEST" 1000000000000, .int "LANDS" 6, .int "PLANS" 4, .int "PLACES" 100]
def tfl : List He.Defn := []
def exl (K : PySem.W.Frag) : Bool := true
structure Tx (K : PySem.W.Frag) (mg : Str → Option Value) : Prop where
  G_is_number : mg "is_number" = some (.ref (He.ga K "is_number"))
  G_rest : mg "rest" = some (.ref (He.ga K "rest"))
  G_need_user : mg "need_user" = some (.ref (He.ga K "need_user"))
  G_need_deal : mg "need_deal" = some (.ref (He.ga K "need_deal"))
  G_place_of : mg "place_of" = some (.ref (He.ga K "place_of"))
  G_place : mg "place" = some (.ref (He.ga K "place"))
  G__law_cell : mg "_law_cell" = some (.ref (He.ga K "_law_cell"))
  G__law_drawn : mg "_law_drawn" = some (.ref (He.ga K "_law_drawn"))
  G__law_roll : mg "_law_roll" = some (.ref (He.ga K "_law_roll"))
  G__law_rounds : mg "_law_rounds" = some (.ref (He.ga K "_law_rounds"))
  G__law_deal : mg "_law_deal" = some (.ref (He.ga K "_law_deal"))
  G__law_user : mg "_law_user" = some (.ref (He.ga K "_law_user"))
  G_law : mg "law" = some (.ref (He.ga K "law"))
  G_GateError : mg "GateError" = some (.ref (He.ga K "GateError"))
  X_GateError : Exn K mg "GateError"
  G_BadUser : mg "BadUser" = some (.ref (He.ga K "BadUser"))
  X_BadUser : Exn K mg "BadUser"
  G_BadDeal : mg "BadDeal" = some (.ref (He.ga K "BadDeal"))
  X_BadDeal : Exn K mg "BadDeal"
  Z_ValueError : mg "ValueError" = none
  Z_bool : mg "bool" = none
  Z_int : mg "int" = none
  Z_isinstance : mg "isinstance" = none
  Z_len : mg "len" = none
  Z_list : mg "list" = none
  Z_max : mg "max" = none
  Z_min : mg "min" = none
  Z_range : mg "range" = none
  Z_sorted : mg "sorted" = none
  Z_tuple : mg "tuple" = none
  I_GREATEST : ∃ t, mg "GREATEST" = some (.int 1000000000000 t)
  I_LANDS : ∃ t, mg "LANDS" = some (.int 6 t)
  I_PLANS : ∃ t, mg "PLANS" = some (.int 4 t)
  I_PLACES : ∃ t, mg "PLACES" = some (.int 100 t)
  F_is_number : FnAt K "is_number" s_is_number
  F_rest : FnAt K "rest" s_rest
  F_need_user : FnAt K "need_user" s_need_user
  F_need_deal : FnAt K "need_deal" s_need_deal
  F_place_of : FnAt K "place_of" s_place_of
  F_place : FnAt K "place" s_place
  F__law_cell : FnAt K "_law_cell" s__law_cell
  F__law_drawn : FnAt K "_law_drawn" s__law_drawn
  F__law_roll : FnAt K "_law_roll" s__law_roll
  F__law_rounds : FnAt K "_law_rounds" s__law_rounds
  F__law_deal : FnAt K "_law_deal" s__law_deal
  F__law_user : FnAt K "_law_user" s__law_user
  F_law : FnAt K "law" s_law
theorem tx_mk {K : PySem.W.Frag} {mg : Str → Option Value} {h : Heap} {w : World} (X : K.In h) (G : h.Ns mainGlobals mg) (c : He.SaysX fal fnl [] tfl exl w h K) : Tx K mg where
  G_is_number := He.glo_ok X G (c.t.d.fact 0 (f := .glo "is_number") rfl)
  G_rest := He.glo_ok X G (c.t.d.fact 1 (f := .glo "rest") rfl)
  G_need_user := He.glo_ok X G (c.t.d.fact 2 (f := .glo "need_user") rfl)
  G_need_deal := He.glo_ok X G (c.t.d.fact 3 (f := .glo "need_deal") rfl)
  G_place_of := He.glo_ok X G (c.t.d.fact 4 (f := .glo "place_of") rfl)
  G_place := He.glo_ok X G (c.t.d.fact 5 (f := .glo "place") rfl)
  G__law_cell := He.glo_ok X G (c.t.d.fact 6 (f := .glo "_law_cell") rfl)
  G__law_drawn := He.glo_ok X G (c.t.d.fact 7 (f := .glo "_law_drawn") rfl)
  G__law_roll := He.glo_ok X G (c.t.d.fact 8 (f := .glo "_law_roll") rfl)
  G__law_rounds := He.glo_ok X G (c.t.d.fact 9 (f := .glo "_law_rounds") rfl)
  G__law_deal := He.glo_ok X G (c.t.d.fact 10 (f := .glo "_law_deal") rfl)
  G__law_user := He.glo_ok X G (c.t.d.fact 11 (f := .glo "_law_user") rfl)
  G_law := He.glo_ok X G (c.t.d.fact 12 (f := .glo "law") rfl)
  G_GateError := He.glo_ok X G (c.t.d.fact 13 (f := .glo "GateError") rfl)
  X_GateError := ⟨He.glo_ok X G (c.t.d.fact 13 (f := .glo "GateError") rfl), c.t.d.fact 14 (f := .exc "GateError") rfl⟩
  G_BadUser := He.glo_ok X G (c.t.d.fact 15 (f := .glo "BadUser") rfl)
  X_BadUser := ⟨He.glo_ok X G (c.t.d.fact 15 (f := .glo "BadUser") rfl), c.t.d.fact 16 (f := .exc "BadUser") rfl⟩
  G_BadDeal := He.glo_ok X G (c.t.d.fact 17 (f := .glo "BadDeal") rfl)
  X_BadDeal := ⟨He.glo_ok X G (c.t.d.fact 17 (f := .glo "BadDeal") rfl), c.t.d.fact 18 (f := .exc "BadDeal") rfl⟩
  Z_ValueError := He.free_ok X G (c.t.d.fact 19 (f := .free "ValueError") rfl)
  Z_bool := He.free_ok X G (c.t.d.fact 20 (f := .free "bool") rfl)
  Z_int := He.free_ok X G (c.t.d.fact 21 (f := .free "int") rfl)
  Z_isinstance := He.free_ok X G (c.t.d.fact 22 (f := .free "isinstance") rfl)
  Z_len := He.free_ok X G (c.t.d.fact 23 (f := .free "len") rfl)
  Z_list := He.free_ok X G (c.t.d.fact 24 (f := .free "list") rfl)
  Z_max := He.free_ok X G (c.t.d.fact 25 (f := .free "max") rfl)
  Z_min := He.free_ok X G (c.t.d.fact 26 (f := .free "min") rfl)
  Z_range := He.free_ok X G (c.t.d.fact 27 (f := .free "range") rfl)
  Z_sorted := He.free_ok X G (c.t.d.fact 28 (f := .free "sorted") rfl)
  Z_tuple := He.free_ok X G (c.t.d.fact 29 (f := .free "tuple") rfl)
  I_GREATEST := He.int_ok X G (c.t.d.fact 30 (f := .int "GREATEST" 1000000000000) rfl)
  I_LANDS := He.int_ok X G (c.t.d.fact 31 (f := .int "LANDS" 6) rfl)
  I_PLANS := He.int_ok X G (c.t.d.fact 32 (f := .int "PLANS" 4) rfl)
  I_PLACES := He.int_ok X G (c.t.d.fact 33 (f := .int "PLACES" 100) rfl)
  F_is_number := c.t.d.def_ 0 (d := d_is_number) rfl
  F_rest := c.t.d.def_ 1 (d := d_rest) rfl
  F_need_user := c.t.d.def_ 2 (d := d_need_user) rfl
  F_need_deal := c.t.d.def_ 3 (d := d_need_deal) rfl
  F_place_of := c.t.d.def_ 4 (d := d_place_of) rfl
  F_place := c.t.d.def_ 5 (d := d_place) rfl
  F__law_cell := c.t.d.def_ 6 (d := d__law_cell) rfl
  F__law_drawn := c.t.d.def_ 7 (d := d__law_drawn) rfl
  F__law_roll := c.t.d.def_ 8 (d := d__law_roll) rfl
  F__law_rounds := c.t.d.def_ 9 (d := d__law_rounds) rfl
  F__law_deal := c.t.d.def_ 10 (d := d__law_deal) rfl
  F__law_user := c.t.d.def_ 11 (d := d__law_user) rfl
  F_law := c.t.d.def_ 12 (d := d_law) rfl
abbrev Rw : PySem.W.OpenRow := PySem.W.OpenLaw.row PySem.Challenge.rw_rollgates_k10_places
abbrev hkl : PySem.W.Hook := He.hookX 5 fal fnl [] tfl exl
def obl (s : PySem.W.SharedT) : He.AlX := He.obsX 5 fal fnl [] tfl exl (HandSHeadRun.getT s)
theorem obl_eq (s : PySem.W.SharedT) : obl s = hkl.obs s.abs := He.obsX_eq (HandSHeadRun.getT_eq s)
def nm0 : List Str := ["__name__", "GateError", "BadUser", "BadDeal", "GREATEST", "LANDS", "PLANS", "PLACES", "is_number", "rest", "need_user", "need_deal", "place_of", "place", "_law_cell", "_law_drawn", "_law_roll", "_law_rounds", "_law_deal", "_law_user"]
def nml : List Str := nm0
theorem runl (w : World) : HandSHeadRun.RunEq Rw (PySem.W.view Rw.prog [22]) hkl obl 2360 nml w := by
  intro os
  kernel_rfl
end RG
local macro_rules | `(tactic| walk_at "1") => `(tactic| first
  | with_reducible refine RG.w_seq ?_
  | with_reducible refine RG.w_set ?_
  | with_reducible refine RG.w_asg ?_
  | with_reducible refine RG.w_ret ?_
  | with_reducible refine RG.w_ifs ?_
  | with_reducible refine RG.w_drop ?_
  | with_reducible refine RG.w_next ?_
  | with_reducible refine RG.w_par ?_
  | with_reducible refine RG.w_retN ?_
  | ((with_reducible show L2.tVar _ _ _ _); refine RG.w_var rfl ?_)
  | with_reducible refine RG.w_c ?_
  | with_reducible refine RG.w_op ?_
  | with_reducible refine RG.w_I0 ?_
  | with_reducible refine RG.w_test ?_
  | with_reducible refine RG.w_B ?_
  | with_reducible refine RG.w_and ?_
  | with_reducible refine RG.w_or ?_
  | with_reducible refine RG.w_not ?_
  | with_reducible refine RG.w_cons ?_
  | with_reducible refine RG.w_nil ?_
  | with_reducible refine RG.w_call ?_
  | with_reducible refine RG.w_cb ?_
  | with_reducible refine RG.w_chain ?_
  | with_reducible refine RG.w_andV ?_
  | with_reducible refine RG.w_orV ?_
  | with_reducible refine RG.w_notV ?_
  | with_reducible refine RG.w_if ?_
  | with_reducible refine RG.w_eqI ?_
  | with_reducible refine RG.w_neI ?_
  | with_reducible refine RG.w_eqS ?_
  | with_reducible refine RG.w_isN ?_
  | with_reducible refine RG.w_notN ?_
  | with_reducible refine RG.w_un ?_
  | with_reducible refine RG.w_U ?_
  | with_reducible refine RG.w_tup ?_
  | with_reducible refine RG.w_lst ?_
  | with_reducible refine RG.w_sl ?_
  | with_reducible refine RG.w_part ?_
  | with_reducible refine RG.w_noPart ?_
  | with_reducible refine RG.w_bm ?_
  | with_reducible refine RG.w_bm0 ?_
  | with_reducible refine RG.w_sub ?_
  | with_reducible refine RG.w_name ?_
  | with_reducible refine RG.w_max2 ?_
  | with_reducible refine RG.w_min2 ?_
  | with_reducible refine RG.w_intI ?_
  | with_reducible refine RG.w_intB ?_
  | with_reducible refine RG.w_rz ?_
  | with_reducible refine RG.w_lc ?_
  | with_reducible refine RG.w_for ?_
  | with_reducible refine RG.w_rng1 ?_
  | with_reducible refine RG.w_rng2 ?_
  | with_reducible refine RG.w_iList ?_
  | with_reducible refine RG.w_iTup ?_
  | with_reducible refine RG.w_iEnum ?_
  | with_reducible refine RG.w_iZip ?_
  | with_reducible refine RG.w_yes ?_
  | with_reducible refine RG.w_lrg ?_
  | with_reducible refine RG.w_rg1 ?_
  | with_reducible refine RG.w_gcons ?_
  | with_reducible refine RG.w_gnil ?_
  | with_reducible refine RG.if_t rfl ?_
  | with_reducible refine RG.if_f rfl ?_
  | (with_reducible refine ⟨_, rfl, ?_⟩)
  | (with_reducible refine ⟨_, _, rfl, ?_⟩))
local macro_rules | `(tactic| walk_at "c") => `(tactic| dsimp only [L2.wipe, List.set_cons_zero, List.set_cons_succ, List.append_nil, List.cons_append, List.nil_append, Bool.not_true, Bool.not_false])
local macro_rules | `(tactic| walk_at "0") => `(tactic| simp only [L2.start, List.map_cons, List.map_nil, List.length_cons, List.length_nil, Nat.reduceAdd, Nat.reduceSub, Nat.sub_self, List.replicate_succ, List.replicate_zero, List.cons_append, List.nil_append, List.append_nil])
local macro_rules | `(tactic| walk_at "g") => `(tactic| repeat (walk_at "1"; (try walk_at "c")))
namespace RG
open PySem PySem.Spec PyProof.Rows L2
section
variable {P : Program} {w : World} {K : PySem.W.Frag} {mg : Str → Option Value} {base : Heap}
/-- a whole number between -/
def isNum (d : PyData) (lo hi : Int) : Bool := match d with
  | .int i => decide (lo ≤ i) && decide (i ≤ hi)
  | _ => false
def spIsNum (K : PySem.W.Frag) : Sp := fun vs H Q _ => ∃ (v : V) (d : PyData) (lo hi : Int), vs = [v, .int lo, .int hi] ∧ Dp K H v d ∧ Q (.bl (isNum d lo hi)) H
def spRest : Sp := fun vs H Q _ => ∃ (n m : Int), vs = [.int n, .int m] ∧ 0 < m ∧ m < 1073741824 ∧ Q (.int (n % m)) H
theorem rest_eq (n m : Int) : n - n / m * m = n % m := by
  rw [Int.emod_def, Int.mul_comm m]
theorem divW {i j : Int} (h : 0 < j) (h2 : j < 18446744073709551616) : CDivW i j := wide_div (b := 64) h (by omega) (by decide) (by decide)
def isUser (d : PyData) : Bool := match d with
  | .tuple [a, b, c] => isNum a 0 1000000000000 && (isNum b 0 5 && isNum c 0 3)
  | _ => false
def spNeedUser (K : PySem.W.Frag) : Sp := fun vs H Q E => ∃ (v : V) (d : PyData), vs = [v] ∧ Dp K H v d ∧ (isUser d = true → Q .non H) ∧ (isUser d = false → E (.ref (He.ga K "BadUser")) none H)
theorem isUser_len {ds : List PyData} (h : ds.length ≠ 3) : isUser (.tuple ds) = false := by
  match ds, h with
  | [], _ => rfl
  | [_], _ => rfl
  | [_, _], _ => rfl
  | [_, _, _], h => exact absurd rfl h
  | _ :: _ :: _ :: _ :: _, _ => rfl
def isDeal (d : PyData) : Bool := match d with
  | .tuple [.int a, .int b] => (decide (0 ≤ a) && decide (a ≤ 99)) && ((decide (0 ≤ b) && decide (b ≤ 99)) && (!decide (a % 2 = 0) && !decide (a % 5 = 0)))
  | _ => false
def spNeedDeal (K : PySem.W.Frag) : Sp := fun vs H Q E => ∃ (v : V) (d : PyData), vs = [v] ∧ Dp K H v d ∧ (isDeal d = true → Q .non H) ∧ (isDeal d = false → E (.ref (He.ga K "BadDeal")) none H)
theorem isDeal_len {ds : List PyData} (h : ds.length ≠ 2) : isDeal (.tuple ds) = false := by
  unfold isDeal
  split
  · rename_i e
    cases e
    exact absurd rfl h
  · rfl
theorem isDeal_a {a b : PyData} (h : isNum a 0 99 = false) : isDeal (.tuple [a, b]) = false := by
  unfold isDeal
  split
  · rename_i e
    cases e
    simp only [isNum] at h
    simp only [h, Bool.false_and]
  · rfl
theorem isDeal_b {a b : PyData} (h : isNum b 0 99 = false) : isDeal (.tuple [a, b]) = false := by
  unfold isDeal
  split
  · rename_i e
    cases e
    simp only [isNum] at h
    simp only [h, Bool.false_and, Bool.and_false]
  · rfl
theorem isNum_int {d : PyData} {lo hi : Int} (h : isNum d lo hi = true) : ∃ i, d = .int i ∧ lo ≤ i ∧ i ≤ hi := by
  unfold isNum at h
  split at h
  · rename_i i
    simp at h
    exact ⟨i, rfl, h.1, h.2⟩
  · cases h
def spPlaceOf (K : PySem.W.Frag) : Sp := fun vs H Q _ => ∃ (n : Int) (v : V) (s t : Int), vs = [.int n, v] ∧ Dp K H v (.tuple [.int s, .int t]) ∧ 0 ≤ s ∧ s ≤ 99 ∧ Q (.int ((n * s + t) % 100)) H
def placeD : PyData → PyData → Int
  | .tuple (.int n :: _), .tuple [.int s, .int t] => (n * s + t) % 100
  | _, _ => 0
def spPlace (K : PySem.W.Frag) : Sp := fun vs H Q E => ∃ (u v : V) (d e : PyData), vs = [u, v] ∧ Dp K H u d ∧ Dp K H v e ∧ (isUser d = true → isDeal e = true → Q (.int (placeD d e)) H) ∧
  (isUser d = false → E (.ref (He.ga K "BadUser")) none H) ∧ (isUser d = true → isDeal e = false → E (.ref (He.ga K "BadDeal")) none H)
theorem isUser_is {d : PyData} (h : isUser d = true) : ∃ n l p : Int, d = .tuple [.int n, .int l, .int p] ∧ 0 ≤ n ∧ n ≤ 1000000000000 ∧ 0 ≤ l ∧ l ≤ 5 ∧ 0 ≤ p ∧ p ≤ 3 := by
  unfold isUser at h
  split at h
  · simp only [Bool.and_eq_true] at h
    obtain ⟨n, rfl, a, b⟩ := isNum_int h.1
    obtain ⟨l, rfl, c, d⟩ := isNum_int h.2.1
    obtain ⟨p, rfl, e, f⟩ := isNum_int h.2.2
    exact ⟨n, l, p, rfl, a, b, c, d, e, f⟩
  · cases h
theorem isDeal_is {d : PyData} (h : isDeal d = true) : ∃ s t : Int, d = .tuple [.int s, .int t] ∧ 0 ≤ s ∧ s ≤ 99 ∧ 0 ≤ t ∧ t ≤ 99 ∧ s % 2 ≠ 0 ∧ s % 5 ≠ 0 := by
  unfold isDeal at h
  split at h
  · rename_i s t
    simp at h
    exact ⟨s, t, rfl, by omega, by omega, by omega, by omega, by omega, by omega⟩
  · cases h
/-- the cell of a script: some int -/
def spCell (K : PySem.W.Frag) : Sp := fun vs H Q _ => ∃ (a : Addr) (k : Int) (ns : List Int), vs = [.ref a, .int k] ∧ SqL K H a (ns.map V.int) ∧ ns.length ≤ 100 ∧ 0 ≤ k ∧ k < 1000 ∧ ∀ z H', Same H H' → Q (.int z) H'
theorem shapedAll_ints : ∀ ns : List Int, PyData.canLayAll0 (ns.map PyData.int) = true
  | [] => rfl
  | n :: ns => by
    simp only [List.map_cons, PyData.canLayAll0, PyData.canLay0, shapedAll_ints ns, Bool.and_self]
theorem depthAll_ints : ∀ ns : List Int, PyData.depthAll (ns.map PyData.int) ≤ 1
  | [] => by simp [PyData.depthAll]
  | n :: ns => by
    have h := depthAll_ints ns
    simp only [List.map_cons, PyData.depthAll, PyData.depth]
    omega
theorem shaped_ints (ns : List Int) : SeqAt.shaped (.list (ns.map PyData.int)) = true := by
  have h1 := shapedAll_ints ns
  have h2 := depthAll_ints ns
  have h3 : PyData.depth (.list (ns.map PyData.int)) ≤ 64 := by
    simp only [PyData.depth]
    omega
  simp only [SeqAt.shaped, PyData.canLay0, h1, decide_eq_true h3, Bool.and_self]
theorem dp_ints {K : PySem.W.Frag} {H : Hp} {a : Addr} {ns : List Int} (h : SqL K H a (ns.map V.int)) : Dp K H (.ref a) (.list (ns.map PyData.int)) := .lst h (dpAll_ints ns)
theorem atI_ints {ns : List Int} {j : Int} (h0 : 0 ≤ j) (h1 : j < ns.length) : ∃ z, atI (ns.map V.int) j = some (.int z) := by
  have hj : j.toNat < ns.length := by omega
  refine ⟨ns[j.toNat], at_of (j := j.toNat) (by omega) ?_⟩
  rw [List.getElem?_map, List.getElem?_eq_getElem hj]
  rfl
def spDrawn : Sp := fun vs H Q _ => ∃ (c k : Int), vs = [.int c, .int k] ∧ ∀ z, 0 ≤ z → Q (.int z) H
theorem mulW {i j : Int} (a : 0 ≤ i) (b : i < 2 ^ 200) (c : 0 ≤ j) (d : j < 2 ^ 200) : CMulW i j := by
  refine wide_mul (a := 200) (b := 200) ?_ ?_ (by decide) (by decide) (by decide)
  · have e : ((2 : Int) ^ 200) = ((2 ^ 200 : Nat) : Int) := by norm_cast
    omega
  · have e : ((2 : Int) ^ 200) = ((2 ^ 200 : Nat) : Int) := by norm_cast
    omega
/-- some number below many; all but the dice stays -/
def spRoll : Sp := fun vs H Q _ => ∃ (a : Addr) (m : Int), vs = [.ref a, .int m] ∧ Dice H a ∧ 0 < m ∧ m < 18446744073709551616 ∧ ∀ r H', 0 ≤ r → r < m → But a H H' → Q (.int r) H'
theorem But.put {a : Addr} {H : Hp} {x k : Int} (d : Dice H a) : But a H (upd H a (.lst [.int x, .int k])) := ⟨d, ⟨x, k, upd_same⟩, fun b o e n => by
  rw [upd_ne n]
  exact e⟩
/-- some dice, each a new list -/
def spRounds (K : PySem.W.Frag) : Sp := fun vs H Q _ => ∃ (a : Addr) (m : Int) (ns : List Int), vs = [.ref a, .int m] ∧ SqL K H a (ns.map V.int) ∧ ns.length ≤ 100 ∧ 1 ≤ m ∧ m ≤ 10 ∧
  ∀ (L : Addr) (ds : List Addr) (H' : Hp), Same H H' → H' L = some (.lst (ds.map V.ref)) → (∀ d ∈ ds, H d = none ∧ d ≠ L ∧ Dice H' d) → H L = none → Q (.ref L) H'
/-- the loop over the rounds: each turn from some dice on; it changes nothing that stood but the dice, and goes on -/
theorem rounds_go {K : PySem.W.Frag} {a L : Addr} {ds : List Addr} {tb : TS} {D : Ends} {H : Hp} {n : Nat} {w0 : List (Option V)} (hw : w0.length = n) (hL : H L = some (.lst (ds.map V.ref))) (hds : ∀ d ∈ ds, d ≠ L ∧ Dice H d) (hd : ∀ σ' H', D.nx σ' H')
    (hbody : ∀ (w : List (Option V)) (H' : Hp) (d : Addr) (N : L2.St → Hp → Prop), w.length = n → Dice H' d → (∀ (w2 : List (Option V)) (H2 : Hp), w2.length = n → But d H' H2 → N (some (.ref a) :: w2) H2) →
      tb { D with nx := N, ct := N, bk := D.nx } ((some (.ref a) :: w).set 1 (some (.ref d))) H') :
    ForGoal (Itl K L) (gName 1) tb D (some (.ref a) :: w0) H := by
  refine for_go (walk_list (K := K) (a := L) (xs := ds.map V.ref)) (fun i σ H' => (∃ w : List (Option V), w.length = n ∧ σ = some (.ref a) :: w) ∧ H' L = some (.lst (ds.map V.ref)) ∧ ∀ d ∈ ds, Dice H' d) ⟨⟨w0, hw, rfl⟩, hL, fun d h => (hds d h).2⟩ (fun i σ H' _ h => lstOf h.2.1) ?_ (fun σ H' _ => hd σ H')
  rintro i x σ H' H'' hi ⟨⟨w, hw', rfl⟩, hL', hds'⟩ ⟨rfl, hx⟩
  rw [List.getElem?_map] at hx
  obtain ⟨d, hd1, rfl⟩ := Option.map_eq_some_iff.mp hx
  have hm := List.mem_of_getElem? hd1
  refine hbody w H'' d _ hw' (hds' d hm) fun w2 H2 hw2 b => ⟨⟨w2, hw2, rfl⟩, b.kp L _ hL' ((hds d hm).1).symm, fun e he => ?_⟩
  by_cases hed : e = d
  · subst hed
    exact b.d1
  · obtain ⟨x, k, hx⟩ := hds' e he
    exact ⟨x, k, b.kp e _ hx hed⟩
def spLaw (K : PySem.W.Frag) : Sp := fun vs H Q _ => ∃ (a : Addr) (ns : List Int), vs = [.ref a] ∧ SqL K H a (ns.map V.int) ∧ ns.length ≤ 63 ∧ ∀ H', Q (.bl true) H'
/-- some deal -/
def spDeal (K : PySem.W.Frag) : Sp := fun vs H Q _ => ∃ a : Addr, vs = [.ref a] ∧ Dice H a ∧ ∀ (p : Addr) (s t : Int) (H' : Hp), But a H H' → H p = none → H' p = some (.tup [.int s, .int t]) → isDeal (.tuple [.int s, .int t]) = true → Q (.ref p) H'
theorem atI_four {r a b c d : Int} (h0 : 0 ≤ r) (h1 : r < 4) : ∃ z, atI [V.int a, V.int b, V.int c, V.int d] r = some (.int z) ∧ (z = a ∨ z = b ∨ z = c ∨ z = d) := by
  have h : r = 0 ∨ r = 1 ∨ r = 2 ∨ r = 3 := by omega
  rcases h with rfl | rfl | rfl | rfl
  · exact ⟨a, rfl, .inl rfl⟩
  · exact ⟨b, rfl, .inr (.inl rfl)⟩
  · exact ⟨c, rfl, .inr (.inr (.inl rfl))⟩
  · exact ⟨d, rfl, .inr (.inr (.inr rfl))⟩
theorem isDeal_mk {s t : Int} (h0 : 0 ≤ s) (h1 : s ≤ 99) (h2 : 0 ≤ t) (h3 : t ≤ 99) (h4 : s % 2 ≠ 0) (h5 : s % 5 ≠ 0) : isDeal (.tuple [.int s, .int t]) = true := by
  simp [isDeal, h0, h1, h2, h3, h4, h5]
/-- some user -/
def spUser (K : PySem.W.Frag) : Sp := fun vs H Q _ => ∃ a : Addr, vs = [.ref a] ∧ Dice H a ∧ ∀ (p : Addr) (n l m : Int) (H' : Hp), But a H H' → H p = none → H' p = some (.tup [.int n, .int l, .int m]) → 0 ≤ n → n ≤ 1000000000000 → 0 ≤ l → l ≤ 5 → 0 ≤ m → m ≤ 3 → Q (.ref p) H'
theorem isUser_mk {n l m : Int} (h0 : 0 ≤ n) (h1 : n ≤ 1000000000000) (h2 : 0 ≤ l) (h3 : l ≤ 5) (h4 : 0 ≤ m) (h5 : m ≤ 3) : isUser (.tuple [.int n, .int l, .int m]) = true := by
  simp [isUser, isNum, h0, h1, h2, h3, h4, h5]
theorem places_perm {b s t : Int} (h2 : s % 2 ≠ 0) (h5 : s % 5 ≠ 0) (hs0 : 0 ≤ s) (hs1 : s ≤ 99) {i j : Nat} (hi : i < 100) (hj : j < 100) (e : ((b + (i : Int)) * s + t) % 100 = ((b + (j : Int)) * s + t) % 100) : i = j := by
  have h : (((i : Int) - j) * s) % 100 = 0 := by
    have e2 : (((b + (i : Int)) * s + t) - ((b + (j : Int)) * s + t)) % 100 = 0 := by
      rw [Int.sub_emod, e]
      simp
    have e3 : (((b + (i : Int)) * s + t) - ((b + (j : Int)) * s + t)) = ((i : Int) - j) * s := by
      rw [Int.add_mul, Int.add_mul, Int.sub_mul]
      omega
    rw [e3] at e2
    exact e2
  generalize hd : (i : Int) - j = d at h
  have d0 : -99 ≤ d ∧ d ≤ 99 := by omega
  have key : ∀ x : Fin 100, ∀ y : Fin 199, (x.val : Int) % 2 ≠ 0 → (x.val : Int) % 5 ≠ 0 → (((y.val : Int) - 99) * (x.val : Int)) % 100 = 0 → (y.val : Int) = 99 := by decide +kernel
  have k := key ⟨s.toNat, by omega⟩ ⟨(d + 99).toNat, by omega⟩
  have es : (((⟨s.toNat, by omega⟩ : Fin 100).val : Nat) : Int) = s := by
    show ((s.toNat : Nat) : Int) = s
    omega
  have ed : (((⟨(d + 99).toNat, by omega⟩ : Fin 199).val : Nat) : Int) = d + 99 := by
    show (((d + 99).toNat : Nat) : Int) = d + 99
    omega
  rw [es, ed] at k
  have k2 := k h2 h5 (by rw [show d + 99 - 99 = d by omega]; exact h)
  omega
/-- the places of a hundred numbers one behind the other -/
def row100 (b s t : Int) (n : Nat) : List Int := (List.range n).map fun (i : Nat) => ((b + (i : Int)) * s + t) % 100
theorem row100_succ (b s t : Int) (n : Nat) : row100 b s t (n + 1) = row100 b s t n ++ [((b + (n : Int)) * s + t) % 100] := by
  unfold row100
  rw [List.range_succ, List.map_append]
  rfl
theorem row100_nodup {b s t : Int} (h2 : s % 2 ≠ 0) (h5 : s % 5 ≠ 0) (hs0 : 0 ≤ s) (hs1 : s ≤ 99) : (row100 b s t 100).Nodup := by
  unfold row100
  refine List.pairwise_map.mpr (List.Pairwise.imp_of_mem ?_ List.nodup_range)
  intro i j hi hj hne e
  exact hne (places_perm h2 h5 hs0 hs1 (List.mem_range.mp hi) (List.mem_range.mp hj) e)
theorem row100_mem {b s t : Int} {x : Int} (h : x ∈ row100 b s t 100) : 0 ≤ x ∧ x < 100 := by
  unfold row100 at h
  obtain ⟨i, _, rfl⟩ := List.mem_map.mp h
  exact ⟨Int.emod_nonneg _ (by decide), Int.emod_lt_of_pos _ (by decide)⟩
def upto (n : Nat) : List Int := (List.range n).map fun (i : Nat) => (i : Int)
/-- a rising list of hundred unlike numbers below a hundred is 0 .. 99 -/
theorem sorted_is : ∀ (n : Nat) (l : List Int), l.length = n → l.Pairwise (· ≤ ·) → l.Nodup → (∀ x ∈ l, 0 ≤ x ∧ x < n) → l = upto n := by
  intro n
  induction n with
  | zero =>
    intro l h _ _ _
    cases l with
    | nil => rfl
    | cons x r => simp at h
  | succ n ih =>
    intro l hl hp hn hm
    rcases List.eq_nil_or_concat l with rfl | ⟨r, x, rfl⟩
    · simp at hl
    · simp only [List.concat_eq_append] at hl hp hn hm ⊢
      have hrl : r.length = n := by simpa using hl
      obtain ⟨p1, p2, p3⟩ := List.pairwise_append.mp hp
      obtain ⟨n1, n2, n3⟩ := List.pairwise_append.mp hn
      have hlt : ∀ y ∈ r, y < x := fun y hy => by
        have a1 : y ≤ x := p3 y hy x (by simp)
        have a2 : y ≠ x := n3 y hy x (by simp)
        omega
      have hx := hm x (by simp)
      have hr : ∀ y ∈ r, 0 ≤ y ∧ y < n := fun y hy => by
        have a1 := hm y (by simp [hy])
        have a2 := hlt y hy
        have a3 := hx.2
        omega
      have er := ih r hrl p1 n1 hr
      have hxn : x = n := by
        rcases Nat.eq_zero_or_pos n with h0 | h0
        · omega
        · have hmem : ((n - 1 : Nat) : Int) ∈ r := by
            rw [er]
            exact List.mem_map.mpr ⟨n - 1, List.mem_range.mpr (by omega), rfl⟩
          have := hlt _ hmem
          omega
      rw [er, hxn]
      unfold upto
      rw [List.range_succ, List.map_append]
      rfl
theorem rgV_upto : rgV 0 100 = (upto 100).map V.int := by decide +kernel
theorem eqvAll_refl_ints : ∀ ns : List Int, PyData.eqvAll (ns.map PyData.int) (ns.map PyData.int) = true
  | [] => rfl
  | n :: ns => by
    simp only [List.map_cons, PyData.eqvAll, PyData.eqv, eqvAll_refl_ints ns, beq_self_eq_true, Bool.and_self]
theorem ok_is_number (T : Tx K mg) : Ok P w K mg base 1 "is_number" ["thing", "low", "high"] (spIsNum K) := by
  refine Ok.mk' T.G_is_number T.F_is_number (fun _ _ _ _ _ _ us hl => match us, hl with | [_, _, _], _ => rfl) sc_is_number (fun vs H Q E h => ?_) (fun cdv A outer s H vs Q E hr h => ?_)
  · obtain ⟨v, d, lo, hi, rfl, hd, q⟩ := h
    rfl
  · obtain ⟨v, d, lo, hi, rfl, hd, q⟩ := h
    refine ⟨(tRet (tAndV (tCB (rIsi K) (tCons (tVar 0) (tCons (tC (.ty "int")) tNil))) (tAndV (tNotV (tCB (rIsi K) (tCons (tVar 0) (tCons (tC (.ty "bool")) tNil)))) (tChain oLe oLe (tVar 1) (tVar 0) (tVar 2))))), (pss_one (ps_ret (pe_and (pe_callB call_isi (by rfl) T.Z_isinstance (by decide +kernel) (pa_cons (pv 0) (pa_cons (pe_bltn (v := .ty "int") (by rfl) T.Z_int (by decide +kernel) rfl) pa_nil))) (pe_and (pe_not (pe_callB call_isi (by rfl) T.Z_isinstance (by decide +kernel) (pa_cons (pv 0) (pa_cons (pe_bltn (v := .ty "bool") (by rfl) T.Z_bool (by decide +kernel) rfl) pa_nil)))) (pe_one (pe_chain op_le op_le (pv 1) (pv 0) (pv 2))))))), ?_⟩
    walk_at "0"
    walk_at "g"
    refine isi_int hd ?_
    walk_at "g"
    cases d with
    | int i =>
      cases hd
      refine if_t rfl ?_
      walk_at "g"
      refine isi_bool (.int i) ?_
      walk_at "g"
      refine if_b (fun h => ?_) (fun h => ?_)
      · walk_at "g"
        have e : isNum (.int i) lo hi = decide (i ≤ hi) := by
          simp only [isNum, h, Bool.true_and]
        rw [← e]
        exact q
      · have e : isNum (.int i) lo hi = false := by
          simp only [isNum, h, Bool.false_and]
        rw [← e]
        exact q
    | bool b =>
      cases hd
      refine if_t rfl ?_
      walk_at "g"
      refine isi_bool (.bl b) ?_
      walk_at "g"
      exact q
    | _ => exact if_f rfl q
theorem ok_rest (T : Tx K mg) : Ok P w K mg base 1 "rest" ["number", "by"] (spRest) := by
  refine Ok.mk' T.G_rest T.F_rest (fun _ _ _ _ _ _ us hl => match us, hl with | [_, _], _ => rfl) sc_rest (fun vs H Q E h => ?_) (fun cdv A outer s H vs Q E hr h => ?_)
  · obtain ⟨n, m, rfl, h1, h2, q⟩ := h
    rfl
  · obtain ⟨n, m, rfl, h1, h2, q⟩ := h
    refine ⟨(tRet (tOp oSub (tVar 0) (tOp oMul (tOp oDiv (tVar 0) (tVar 1)) (tVar 1)))), (pss_one (ps_ret (pe_op op_sub (pv 0) (pe_op op_mul (pe_op op_fdivW (pv 0) (pv 1)) (pv 1))))), ?_⟩
    walk_at "0"
    walk_at "g"
    refine w_I (divW h1 (by omega)) ?_
    walk_at "g"
    refine w_I (.inr ⟨by omega, by omega⟩) ?_
    walk_at "g"
    rw [rest_eq]
    exact q
theorem ok_need_user (T : Tx K mg) : Ok P w K mg base 2 "need_user" ["thing"] (spNeedUser K) := by
  refine Ok.mk' T.G_need_user T.F_need_user (fun _ _ _ _ _ _ us hl => match us, hl with | [_], _ => rfl) sc_need_user (fun vs H Q E h => ?_) (fun cdv A outer s H vs Q E hr h => ?_)
  · obtain ⟨v, d, rfl, hd, q1, q2⟩ := h
    rfl
  · obtain ⟨v, d, rfl, hd, q1, q2⟩ := h
    refine ⟨(tSeq (tIfS (tOr (tNot (tB (tCB (rIsi K) (tCons (tVar 0) (tCons (tC (.ty "tuple")) tNil))))) (tOr (tTest (tOp rNe (tCB (cLen K) (tCons (tVar 0) tNil)) (tC (.int 3)))) (tNot (tB (tCall (spIsNum K) [] E (tCons (tOp (rIxT K) (tVar 0) (tC (.int 0))) (tCons (tC (.int 0)) (tCons (tC (.int 1000000000000)) tNil)))))))) (tRz K E "BadUser") tNext)
      (tIfS (tOr (tNot (tB (tCall (spIsNum K) [] E (tCons (tOp (rIxT K) (tVar 0) (tC (.int 1))) (tCons (tC (.int 0)) (tCons (tOp oSub (tC (.int 6)) (tC (.int 1))) tNil)))))) (tNot (tB (tCall (spIsNum K) [] E (tCons (tOp (rIxT K) (tVar 0) (tC (.int 2))) (tCons (tC (.int 0)) (tCons (tOp oSub (tC (.int 4)) (tC (.int 1))) tNil))))))) (tRz K E "BadUser") tNext)), (pss_cons (ps_if (PW.pt (pw_or (pt_not (pt_val (pe_callB call_isi (by rfl) T.Z_isinstance (by decide +kernel) (pa_cons (pv 0) (pa_cons (pe_bltn (v := .ty "tuple") (by rfl) T.Z_tuple (by decide +kernel) rfl) pa_nil))))) (pw_or (pt_cmpR op_ne (pe_callB call_len (by rfl) T.Z_len (by decide +kernel) (pa_cons (pv 0) pa_nil)) pe_int (nomark _)) (pw_or1 (pt_not (pt_val (pe_f (ok_is_number T) hr (pnx (L2N.takes_of rfl rfl rfl rfl)) (pa_cons (pe_ix ix_tup (pv 0) pe_int (fun _ _ => rfl)) (pa_cons pe_int (pa_cons (pe_gi T.I_GREATEST) pa_nil)))))))))) (pss_one (ps_rz T.X_BadUser (L2N.takes_of rfl rfl rfl rfl))) pss_nil)
      (pss_one (ps_if (PW.pt (pw_or (pt_not (pt_val (pe_f (ok_is_number T) hr (pnx (L2N.takes_of rfl rfl rfl rfl)) (pa_cons (pe_ix ix_tup (pv 0) pe_int (fun _ _ => rfl)) (pa_cons pe_int (pa_cons (pe_op op_sub (pe_gi T.I_LANDS) pe_int) pa_nil)))))) (pw_or1 (pt_not (pt_val (pe_f (ok_is_number T) hr (pnx (L2N.takes_of rfl rfl rfl rfl)) (pa_cons (pe_ix ix_tup (pv 0) pe_int (fun _ _ => rfl)) (pa_cons pe_int (pa_cons (pe_op op_sub (pe_gi T.I_PLANS) pe_int) pa_nil))))))))) (pss_one (ps_rz T.X_BadUser (L2N.takes_of rfl rfl rfl rfl))) pss_nil))), ?_⟩
    walk_at "0"
    walk_at "g"
    refine isi_tuple hd ?_
    walk_at "g"
    by_cases ht : isTupD d = true
    · obtain ⟨ds, rfl⟩ : ∃ ds, d = .tuple ds := by
        cases d <;> first | exact ⟨_, rfl⟩ | cases ht
      refine if_f rfl ?_
      walk_at "g"
      refine w_lenD hd ?_
      walk_at "g"
      refine if_b (fun h => ?_) (fun h => ?_)
      · refine if_t rfl ?_
        walk_at "g"
        refine q2 (isUser_len fun z => ?_)
        rw [z] at h
        simp at h
      · have hl : ds.length = 3 := by
          simp at h
          omega
        match ds, hl with
        | [a, b, c], _ =>
        walk_at "g"
        refine w_ixD0 hd fun u0 h0 => ?_
        walk_at "g"
        refine ⟨_, _, _, _, rfl, h0, ?_⟩
        walk_at "g"
        cases e0 : isNum a 0 1000000000000
        · walk_at "g"
          refine q2 ?_
          simp only [isUser, e0, Bool.false_and]
        · walk_at "g"
          refine w_ixD1 hd fun u1 h1 => ?_
          walk_at "g"
          refine ⟨_, _, _, _, rfl, h1, ?_⟩
          walk_at "g"
          cases e1 : isNum b 0 (6 - 1)
          · walk_at "g"
            refine q2 ?_
            have e1 : isNum b 0 5 = false := e1
            simp only [isUser, e0, e1, Bool.false_and, Bool.and_false]
          · have e1 : isNum b 0 5 = true := e1
            walk_at "g"
            refine w_ixD2 hd fun u2 h2 => ?_
            walk_at "g"
            refine ⟨_, _, _, _, rfl, h2, ?_⟩
            walk_at "g"
            cases e2 : isNum c 0 (4 - 1)
            · walk_at "g"
              refine q2 ?_
              have e2 : isNum c 0 3 = false := e2
              simp only [isUser, e0, e1, e2, Bool.and_false]
            · walk_at "g"
              refine q1 ?_
              have e2 : isNum c 0 3 = true := e2
              simp only [isUser, e0, e1, e2, Bool.and_true]
    · have ht : isTupD d = false := by simpa using ht
      rw [ht]
      walk_at "g"
      refine q2 ?_
      cases d <;> first | rfl | cases ht
theorem ok_need_deal (T : Tx K mg) : Ok P w K mg base 2 "need_deal" ["thing"] (spNeedDeal K) := by
  refine Ok.mk' T.G_need_deal T.F_need_deal (fun _ _ _ _ _ _ us hl => match us, hl with | [_], _ => rfl) sc_need_deal (fun vs H Q E h => ?_) (fun cdv A outer s H vs Q E hr h => ?_)
  · obtain ⟨v, d, rfl, hd, q1, q2⟩ := h
    rfl
  · obtain ⟨v, d, rfl, hd, q1, q2⟩ := h
    refine ⟨(tSeq (tIfS (tOr (tNot (tB (tCB (rIsi K) (tCons (tVar 0) (tCons (tC (.ty "tuple")) tNil))))) (tTest (tOp rNe (tCB (cLen K) (tCons (tVar 0) tNil)) (tC (.int 2))))) (tRz K E "BadDeal") tNext)
      (tSeq (tIfS (tOr (tNot (tB (tCall (spIsNum K) [] E (tCons (tOp (rIxT K) (tVar 0) (tC (.int 0))) (tCons (tC (.int 0)) (tCons (tOp oSub (tC (.int 100)) (tC (.int 1))) tNil)))))) (tNot (tB (tCall (spIsNum K) [] E (tCons (tOp (rIxT K) (tVar 0) (tC (.int 1))) (tCons (tC (.int 0)) (tCons (tOp oSub (tC (.int 100)) (tC (.int 1))) tNil))))))) (tRz K E "BadDeal") tNext)
      (tIfS (tOr (tTest (tOp rEq (tCall (spRest) [] E (tCons (tOp (rIxT K) (tVar 0) (tC (.int 0))) (tCons (tC (.int 2)) tNil))) (tC (.int 0)))) (tTest (tOp rEq (tCall (spRest) [] E (tCons (tOp (rIxT K) (tVar 0) (tC (.int 0))) (tCons (tC (.int 5)) tNil))) (tC (.int 0))))) (tRz K E "BadDeal") tNext))), (pss_cons (ps_if (PW.pt (pw_or (pt_not (pt_val (pe_callB call_isi (by rfl) T.Z_isinstance (by decide +kernel) (pa_cons (pv 0) (pa_cons (pe_bltn (v := .ty "tuple") (by rfl) T.Z_tuple (by decide +kernel) rfl) pa_nil))))) (pw_or1 (pt_cmpR op_ne (pe_callB call_len (by rfl) T.Z_len (by decide +kernel) (pa_cons (pv 0) pa_nil)) pe_int (nomark _))))) (pss_one (ps_rz T.X_BadDeal (L2N.takes_of rfl rfl rfl rfl))) pss_nil)
      (pss_cons (ps_if (PW.pt (pw_or (pt_not (pt_val (pe_f (ok_is_number T) hr (pnx (L2N.takes_of rfl rfl rfl rfl)) (pa_cons (pe_ix ix_tup (pv 0) pe_int (fun _ _ => rfl)) (pa_cons pe_int (pa_cons (pe_op op_sub (pe_gi T.I_PLACES) pe_int) pa_nil)))))) (pw_or1 (pt_not (pt_val (pe_f (ok_is_number T) hr (pnx (L2N.takes_of rfl rfl rfl rfl)) (pa_cons (pe_ix ix_tup (pv 0) pe_int (fun _ _ => rfl)) (pa_cons pe_int (pa_cons (pe_op op_sub (pe_gi T.I_PLACES) pe_int) pa_nil))))))))) (pss_one (ps_rz T.X_BadDeal (L2N.takes_of rfl rfl rfl rfl))) pss_nil)
      (pss_one (ps_if (PW.pt (pw_or (pt_cmpR op_eq (pe_f (ok_rest T) hr (pnx (L2N.takes_of rfl rfl rfl rfl)) (pa_cons (pe_ix ix_tup (pv 0) pe_int (fun _ _ => rfl)) (pa_cons pe_int pa_nil))) pe_int (nomark _)) (pw_or1 (pt_cmpR op_eq (pe_f (ok_rest T) hr (pnx (L2N.takes_of rfl rfl rfl rfl)) (pa_cons (pe_ix ix_tup (pv 0) pe_int (fun _ _ => rfl)) (pa_cons pe_int pa_nil))) pe_int (nomark _))))) (pss_one (ps_rz T.X_BadDeal (L2N.takes_of rfl rfl rfl rfl))) pss_nil)))), ?_⟩
    walk_at "0"
    walk_at "g"
    refine isi_tuple hd ?_
    walk_at "g"
    by_cases ht : isTupD d = true
    · obtain ⟨ds, rfl⟩ : ∃ ds, d = .tuple ds := by
        cases d <;> first | exact ⟨_, rfl⟩ | cases ht
      refine if_f rfl ?_
      walk_at "g"
      refine w_lenD hd ?_
      walk_at "g"
      refine if_b (fun h => ?_) (fun h => ?_)
      · walk_at "g"
        refine q2 (isDeal_len fun z => ?_)
        rw [z] at h
        simp at h
      · have hl : ds.length = 2 := by
          simp at h
          omega
        match ds, hl with
        | [a, b], _ =>
        walk_at "g"
        refine w_ixD0 hd fun u0 h0 => ?_
        walk_at "g"
        refine ⟨_, _, _, _, rfl, h0, ?_⟩
        walk_at "g"
        cases e0 : isNum a 0 (100 - 1)
        · walk_at "g"
          exact q2 (isDeal_a e0)
        · walk_at "g"
          refine w_ixD1 hd fun u1 h1 => ?_
          walk_at "g"
          refine ⟨_, _, _, _, rfl, h1, ?_⟩
          walk_at "g"
          cases e1 : isNum b 0 (100 - 1)
          · walk_at "g"
            exact q2 (isDeal_b e1)
          · walk_at "g"
            obtain ⟨i, rfl, i0, i1⟩ := isNum_int e0
            obtain ⟨j, rfl, j0, j1⟩ := isNum_int e1
            refine w_ixD0 hd fun u2 h2 => ?_
            cases dp_int h2
            walk_at "g"
            refine ⟨i, 2, rfl, by decide, by decide, ?_⟩
            walk_at "g"
            refine if_b (fun z => ?_) (fun z => ?_)
            · walk_at "g"
              refine q2 ?_
              unfold isDeal
              simp only [z, Bool.not_true, Bool.false_and, Bool.and_false]
            · walk_at "g"
              refine w_ixD0 hd fun u3 h3 => ?_
              cases dp_int h3
              walk_at "g"
              refine ⟨i, 5, rfl, by decide, by decide, ?_⟩
              walk_at "g"
              refine if_b (fun z2 => ?_) (fun z2 => ?_)
              · walk_at "g"
                refine q2 ?_
                unfold isDeal
                simp only [z2, Bool.not_true, Bool.and_false]
              · walk_at "g"
                refine q1 ?_
                have a1 : (decide (0 ≤ i) && decide (i ≤ 99)) = true := e0
                have b1 : (decide (0 ≤ j) && decide (j ≤ 99)) = true := e1
                unfold isDeal
                simp only [z, z2, a1, b1, Bool.not_false, Bool.and_true]
    · have ht : isTupD d = false := by simpa using ht
      rw [ht]
      walk_at "g"
      refine q2 ?_
      cases d <;> first | rfl | cases ht
theorem ok_place_of (T : Tx K mg) : Ok P w K mg base 2 "place_of" ["number", "deal"] (spPlaceOf K) := by
  refine Ok.mk' T.G_place_of T.F_place_of (fun _ _ _ _ _ _ us hl => match us, hl with | [_, _], _ => rfl) sc_place_of (fun vs H Q E h => ?_) (fun cdv A outer s H vs Q E hr h => ?_)
  · obtain ⟨n, v, s, t, rfl, hd, h1, h2, q⟩ := h
    rfl
  · obtain ⟨n, v, s, t, rfl, hd, h1, h2, q⟩ := h
    refine ⟨(tRet (tCall (spRest) [] E (tCons (tOp oAdd (tOp oMul (tVar 0) (tOp (rIxT K) (tVar 1) (tC (.int 0)))) (tOp (rIxT K) (tVar 1) (tC (.int 1)))) (tCons (tC (.int 100)) tNil)))), (pss_one (ps_ret (pe_f (ok_rest T) hr (pnx (L2N.takes_of rfl rfl rfl rfl)) (pa_cons (pe_op op_add (pe_op op_mul (pv 0) (pe_ix ix_tup (pv 1) pe_int (fun _ _ => rfl))) (pe_ix ix_tup (pv 1) pe_int (fun _ _ => rfl))) (pa_cons (pe_gi T.I_PLACES) pa_nil))))), ?_⟩
    walk_at "0"
    walk_at "g"
    refine w_ixD0 hd fun u0 h0 => ?_
    cases dp_int h0
    refine w_I (.inr ⟨by omega, by omega⟩) ?_
    walk_at "g"
    refine w_ixD1 hd fun u1 h1 => ?_
    cases dp_int h1
    walk_at "g"
    exact ⟨_, _, rfl, by decide, by decide, q⟩
theorem ok_place (T : Tx K mg) : Ok P w K mg base 3 "place" ["user", "deal"] (spPlace K) := by
  refine Ok.mk' T.G_place T.F_place (fun _ _ _ _ _ _ us hl => match us, hl with | [_, _], _ => rfl) sc_place (fun vs H Q E h => ?_) (fun cdv A outer s H vs Q E hr h => ?_)
  · obtain ⟨u, v, d, e, rfl, hd, he, q1, q2, q3⟩ := h
    rfl
  · obtain ⟨u, v, d, e, rfl, hd, he, q1, q2, q3⟩ := h
    refine ⟨(tSeq (tDrop (tCall (spNeedUser K) [] E (tCons (tVar 0) tNil)))
      (tSeq (tDrop (tCall (spNeedDeal K) [] E (tCons (tVar 1) tNil)))
      (tRet (tCall (spPlaceOf K) [] E (tCons (tOp (rIxT K) (tVar 0) (tC (.int 0))) (tCons (tVar 1) tNil)))))), (pss_cons (ps_expr (pe_f (ok_need_user T) hr (pnx (L2N.takes_of rfl rfl rfl rfl)) (pa_cons (pv 0) pa_nil)))
      (pss_cons (ps_expr (pe_f (ok_need_deal T) hr (pnx (L2N.takes_of rfl rfl rfl rfl)) (pa_cons (pv 1) pa_nil)))
      (pss_one (ps_ret (pe_f (ok_place_of T) hr (pnx (L2N.takes_of rfl rfl rfl rfl)) (pa_cons (pe_ix ix_tup (pv 0) pe_int (fun _ _ => rfl)) (pa_cons (pv 1) pa_nil))))))), ?_⟩
    walk_at "0"
    walk_at "g"
    refine ⟨_, _, rfl, hd, fun hu => ?_, q2⟩
    walk_at "g"
    refine ⟨_, _, rfl, he, fun hv => ?_, q3 hu⟩
    walk_at "g"
    have qq := q1 hu hv
    obtain ⟨n, l, p, rfl, n0, n1, _⟩ := isUser_is hu
    obtain ⟨s', t', rfl, s0, s1, _⟩ := isDeal_is hv
    refine w_ixD0 hd fun u0 h0 => ?_
    cases dp_int h0
    walk_at "g"
    exact ⟨_, _, _, _, rfl, he, s0, s1, qq⟩
theorem ok__law_cell (T : Tx K mg) : Ok P w K mg base 1 "_law_cell" ["script", "k"] (spCell K) := by
  refine Ok.mk' T.G__law_cell T.F__law_cell (fun _ _ _ _ _ _ us hl => match us, hl with | [_, _], _ => rfl) sc__law_cell (fun vs H Q E h => ?_) (fun cdv A outer s H vs Q E hr h => ?_)
  · obtain ⟨a, k, ns, rfl, hS, hl, hk, hk2, q⟩ := h
    rfl
  · obtain ⟨a, k, ns, rfl, hS, hl, hk, hk2, q⟩ := h
    refine ⟨(tSeq (tIfS (tTest (tOp (rEqD K) (tVar 0) (tLst tNil))) (tRet (tOp oMul (tVar 1) (tC (.int 7919)))) tNext)
      (tRet (tOp oAdd (tOp (rIxL K) (tVar 0) (tOp oMod (tVar 1) (tCB (cLen K) (tCons (tVar 0) tNil)))) (tOp oMul (tOp oDiv (tVar 1) (tCB (cLen K) (tCons (tVar 0) tNil))) (tC (.int 104729)))))), (pss_cons (ps_if (pt_cmpR (op_eqD hr.units) (pv 0) (pe_lst pa_nil) (nomark _)) (pss_one (ps_ret (pe_op op_mul (pv 1) pe_int))) pss_nil)
      (pss_one (ps_ret (pe_op op_add (pe_ix ix_list (pv 0) (pe_op op_mod (pv 1) (pe_callB call_len (by rfl) T.Z_len (by decide +kernel) (pa_cons (pv 0) pa_nil))) (fun _ _ => rfl)) (pe_op op_mul (pe_op op_fdivW (pv 1) (pe_callB call_len (by rfl) T.Z_len (by decide +kernel) (pa_cons (pv 0) pa_nil))) pe_int))))), ?_⟩
    walk_at "0"
    walk_at "g"
    refine ⟨Nat.zero_le _, fun p np => ?_⟩
    have s1 : Same H (upd H p (.lst [])) := Same.new np
    refine w_eqD (dp_ints (s1.seq hS)) (.lst (lstOf upd_same) .nil) (shaped_ints ns) (by rfl) ?_
    walk_at "g"
    refine if_b (fun h => ?_) (fun h => ?_)
    · walk_at "g"
      refine w_I (.inr ⟨by decide, by decide⟩) ?_
      exact q _ _ s1
    · have hn : 0 < ns.length := by
        cases ns with
        | nil => simp [PyData.eqv, PyData.eqvAll] at h
        | cons x r => simp
      walk_at "g"
      refine w_lenL (s1.seq hS) ?_
      simp only [List.length_map]
      refine w_I (by omega) ?_
      obtain ⟨z, hz⟩ := atI_ints (ns := ns) (j := k % (ns.length : Nat)) (Int.emod_nonneg _ (by omega)) (Int.emod_lt_of_pos _ (by omega))
      refine w_ixL (s1.seq hS) hz ?_
      walk_at "g"
      refine w_lenL (s1.seq hS) ?_
      simp only [List.length_map]
      refine w_I (divW (by omega) (by omega)) ?_
      walk_at "g"
      refine w_I (.inr ⟨by decide, by decide⟩) ?_
      walk_at "g"
      exact q _ _ s1
theorem ok__law_drawn (T : Tx K mg) : Ok P w K mg base 1 "_law_drawn" ["cell", "k"] (spDrawn) := by
  refine Ok.mk' T.G__law_drawn T.F__law_drawn (fun _ _ _ _ _ _ us hl => match us, hl with | [_, _], _ => rfl) sc__law_drawn (fun vs H Q E h => ?_) (fun cdv A outer s H vs Q E hr h => ?_)
  · obtain ⟨c, k, rfl, q⟩ := h
    rfl
  · obtain ⟨c, k, rfl, q⟩ := h
    refine ⟨(tSeq (tAsg (tOp oMod (tOp oAdd (tOp oMul (tVar 0) (tC (.int 6364136223846793005))) (tOp oMul (tOp oAdd (tVar 1) (tC (.int 1))) (tC (.int 1442695040888963407)))) (tC (.int 340282366920938463463374607431768211507))) (gName 2))
      (tSeq (tAsg (tOp oMod (tOp oMulW (tVar 2) (tVar 2)) (tC (.int 340282366920938463463374607431768211297))) (gName 2))
      (tSeq (tAsg (tOp oMulW (tOp oMulW (tOp oAdd (tOp oMod (tVar 2) (tC (.int 18446744073709551557))) (tC (.int 1))) (tOp oAdd (tOp oDiv (tVar 2) (tC (.int 18446744073709551557))) (tC (.int 1)))) (tVar 2)) (gName 2))
      (tRet (tOp oMod (tVar 2) (tC (.int 340282366920938463463374607431768211507))))))), (pss_cons (ps_set (i := 2) sc__law_drawn.nd rfl (by first | exact Or.inl rfl | exact Or.inr rfl) (pe_op op_mod (pe_op op_add (pe_op op_mul (pv 0) pe_int) (pe_op op_mul (pe_op op_add (pv 1) pe_int) pe_int)) pe_int))
      (pss_cons (ps_set (i := 2) sc__law_drawn.nd rfl (by first | exact Or.inl rfl | exact Or.inr rfl) (pe_op op_mod (pe_op op_mulW (pv 2) (pv 2)) pe_int))
      (pss_cons (ps_set (i := 2) sc__law_drawn.nd rfl (by first | exact Or.inl rfl | exact Or.inr rfl) (pe_op op_mulW (pe_op op_mulW (pe_op op_add (pe_op op_mod (pv 2) pe_int) pe_int) (pe_op op_add (pe_op op_fdivW (pv 2) pe_int) pe_int)) (pv 2)))
      (pss_one (ps_ret (pe_op op_mod (pv 2) pe_int)))))), ?_⟩
    walk_at "0"
    walk_at "g"
    refine w_I (.inr ⟨by decide, by decide⟩) ?_
    walk_at "g"
    refine w_I (.inr ⟨by decide, by decide⟩) ?_
    walk_at "g"
    refine w_I (by decide) ?_
    generalize hm : (c * 6364136223846793005 + (k + 1) * 1442695040888963407) % 340282366920938463463374607431768211507 = m
    have m0 : 0 ≤ m := by
      rw [← hm]
      exact Int.emod_nonneg _ (by decide)
    have m1 : m < 340282366920938463463374607431768211507 := by
      rw [← hm]
      exact Int.emod_lt_of_pos _ (by decide)
    walk_at "g"
    refine w_I (mulW m0 (by omega) m0 (by omega)) ?_
    walk_at "g"
    refine w_I (by decide) ?_
    generalize hn : m * m % 340282366920938463463374607431768211297 = n
    have n0 : 0 ≤ n := by
      rw [← hn]
      exact Int.emod_nonneg _ (by decide)
    have n1 : n < 340282366920938463463374607431768211297 := by
      rw [← hn]
      exact Int.emod_lt_of_pos _ (by decide)
    walk_at "g"
    refine w_I (by decide) ?_
    generalize ha : n % 18446744073709551557 = a
    have a0 : 0 ≤ a := by
      rw [← ha]
      exact Int.emod_nonneg _ (by decide)
    have a1 : a < 18446744073709551557 := by
      rw [← ha]
      exact Int.emod_lt_of_pos _ (by decide)
    walk_at "g"
    refine w_I (divW (by decide) (by decide)) ?_
    generalize hb : n / 18446744073709551557 = b
    have b0 : 0 ≤ b := by
      rw [← hb]
      exact Int.ediv_nonneg n0 (by decide)
    have b1 : b ≤ n := by
      rw [← hb]
      exact Int.ediv_le_self _ n0
    walk_at "g"
    refine w_I (mulW (by omega) (by omega) (by omega) (by omega)) ?_
    have c1 : 0 ≤ (a + 1) * (b + 1) := Int.mul_nonneg (by omega) (by omega)
    have c2 : (a + 1) * (b + 1) ≤ 18446744073709551557 * 340282366920938463463374607431768211297 := Int.mul_le_mul (by omega) (by omega) (by omega) (by decide)
    generalize (a + 1) * (b + 1) = c' at c1 c2
    walk_at "g"
    refine w_I (mulW c1 (by omega) (by omega) (by omega)) ?_
    walk_at "g"
    refine w_I (by decide) ?_
    exact q _ (Int.emod_nonneg _ (by decide))
theorem ok__law_roll (T : Tx K mg) : Ok P w K mg base 2 "_law_roll" ["dice", "many"] (spRoll) := by
  refine Ok.mk' T.G__law_roll T.F__law_roll (fun _ _ _ _ _ _ us hl => match us, hl with | [_, _], _ => rfl) sc__law_roll (fun vs H Q E h => ?_) (fun cdv A outer s H vs Q E hr h => ?_)
  · obtain ⟨a, m, rfl, hd, m0, m1, q⟩ := h
    rfl
  · obtain ⟨a, m, rfl, hd, m0, m1, q⟩ := h
    refine ⟨(tSeq (tIfS (tTest (tOp oGe (tOp (rIxL K) (tVar 0) (tC (.int 0))) (tOp oPow (tC (.int 10)) (tC (.int 18))))) (tSeq (tAsg (tOp oMod (tOp (rIxL K) (tVar 0) (tC (.int 0))) (tVar 1)) (gName 2))
      (tSeq (tAsg (tOp oDiv (tOp (rIxL K) (tVar 0) (tC (.int 0))) (tVar 1)) (gSub (tVar 0) (tC (.int 0)) rSetL))
      (tRet (tVar 2)))) tNext)
      (tSeq (tAsg (tOp oAdd (tOp (rIxL K) (tVar 0) (tC (.int 1))) (tC (.int 1))) (gSub (tVar 0) (tC (.int 1)) rSetL))
      (tRet (tOp oMod (tOp oDiv (tCall (spDrawn) [] E (tCons (tOp (rIxL K) (tVar 0) (tC (.int 0))) (tCons (tOp (rIxL K) (tVar 0) (tC (.int 1))) tNil))) (tC (.int 8))) (tVar 1))))), (pss_cons (ps_if (pt_cmpR op_ge (pe_ix ix_list (pv 0) pe_int (fun _ _ => rfl)) (pe_op op_pow pe_int pe_int) (nomark _)) (pss_cons (ps_set (i := 2) sc__law_roll.nd rfl (by first | exact Or.inl rfl | exact Or.inr rfl) (pe_op op_mod (pe_ix ix_list (pv 0) pe_int (fun _ _ => rfl)) (pv 1)))
      (pss_cons (ps_asg (pe_op op_fdivW (pe_ix ix_list (pv 0) pe_int (fun _ _ => rfl)) (pv 1)) (pg_sub (pv 0) pe_int set_list))
      (pss_one (ps_ret (pv 2))))) pss_nil)
      (pss_cons (ps_asg (pe_op op_add (pe_ix ix_list (pv 0) pe_int (fun _ _ => rfl)) pe_int) (pg_sub (pv 0) pe_int set_list))
      (pss_one (ps_ret (pe_op op_mod (pe_op op_fdivW (pe_f (ok__law_drawn T) hr (pnx (L2N.takes_of rfl rfl rfl rfl)) (pa_cons (pe_ix ix_list (pv 0) pe_int (fun _ _ => rfl)) (pa_cons (pe_ix ix_list (pv 0) pe_int (fun _ _ => rfl)) pa_nil))) pe_int) (pv 1)))))), ?_⟩
    walk_at "0"
    obtain ⟨x, k, hx⟩ := hd
    have hd : Dice H a := ⟨x, k, hx⟩
    walk_at "g"
    refine w_ixL (lstOf hx) (v := .int x) rfl ?_
    walk_at "g"
    refine w_I ⟨by decide, by decide, by decide⟩ ?_
    walk_at "g"
    refine if_b (fun h => ?_) (fun h => ?_)
    · walk_at "g"
      refine w_ixL (lstOf hx) (v := .int x) rfl ?_
      walk_at "g"
      refine w_I m0 ?_
      walk_at "g"
      refine w_ixL (lstOf hx) (v := .int x) rfl ?_
      walk_at "g"
      refine w_I (divW m0 m1) ?_
      walk_at "g"
      refine w_setL hx (j := 0) rfl ?_
      walk_at "g"
      exact q _ _ (Int.emod_nonneg _ (by omega)) (Int.emod_lt_of_pos _ m0) (But.put hd)
    · walk_at "g"
      refine w_ixL (lstOf hx) (v := .int k) rfl ?_
      walk_at "g"
      refine w_setL hx (j := 1) rfl ?_
      walk_at "g"
      have h2 : upd H a (.lst [.int x, .int (k + 1)]) a = some (.lst [.int x, .int (k + 1)]) := upd_same
      refine w_ixL (lstOf h2) (v := .int x) rfl ?_
      walk_at "g"
      refine w_ixL (lstOf h2) (v := .int (k + 1)) rfl ?_
      walk_at "g"
      refine ⟨x, k + 1, rfl, fun z hz => ?_⟩
      walk_at "g"
      refine w_I (divW (by decide) (by decide)) ?_
      walk_at "g"
      refine w_I m0 ?_
      exact q _ _ (Int.emod_nonneg _ (by omega)) (Int.emod_lt_of_pos _ m0) (But.put hd)
theorem ok__law_rounds (T : Tx K mg) : Ok P w K mg base 2 "_law_rounds" ["script", "most"] (spRounds K) := by
  refine Ok.mk' T.G__law_rounds T.F__law_rounds (fun _ _ _ _ _ _ us hl => match us, hl with | [_, _], _ => rfl) sc__law_rounds (fun vs H Q E h => ?_) (fun cdv A outer s H vs Q E hr h => ?_)
  · obtain ⟨a, m, ns, rfl, hS, hl, m0, m1, q⟩ := h
    rfl
  · obtain ⟨a, m, ns, rfl, hS, hl, m0, m1, q⟩ := h
    refine ⟨(tRet (tLc (iRng1 (tCons (tCB cMax2 (tCons (tC (.int 1)) (tCons (tCB cMin2 (tCons (tVar 1) (tCons (tCB (cLen K) (tCons (tVar 0) tNil)) tNil))) tNil))) tNil)) (gName 2) tYes (tLst (tCons (tCall (spCell K) [] E0 (tCons (tVar 0) (tCons (tVar 2) tNil))) (tCons (tC (.int 0)) tNil))) [2])), (pss_one (ps_ret (pe_lc (own := [("k", 2)]) rfl sc__law_rounds.nd (pi_range1 (by rfl) T.Z_range (pa_cons (pe_callB (call_max2 rfl) (by rfl) T.Z_max (by decide +kernel) (pa_cons pe_int (pa_cons (pe_callB (call_min2 rfl) (by rfl) T.Z_min (by decide +kernel) (pa_cons (pv 1) (pa_cons (pe_callB call_len (by rfl) T.Z_len (by decide +kernel) (pa_cons (pv 0) pa_nil)) pa_nil))) pa_nil))) pa_nil)) (blkOk_by (own := [("k", 2)]) (N := ["script", "most", "k"]) (sc := defScope s__law_rounds) (by decide +kernel)) (fun _ _ _ _ _ => (pg_name (i := 2) sc__law_rounds.nd rfl (by first | exact Or.inl rfl | exact Or.inr rfl))) (fun _ _ _ _ _ => pts_nil) (fun _ _ _ _ _ => (pe_lst (pa_cons (pe_f (ok__law_cell T) hr pn0 (pa_cons (pv 0) (pa_cons (pv 2) pa_nil))) (pa_cons pe_int pa_nil))))))), ?_⟩
    walk_at "0"
    walk_at "g"
    refine w_lenL hS ?_
    simp only [List.length_map]
    walk_at "g"
    generalize hj : (if (if (ns.length : Int) < m then (ns.length : Int) else m) > 1 then (if (ns.length : Int) < m then (ns.length : Int) else m) else 1) = j
    have j0 : 1 ≤ j := by
      rw [← hj]
      split <;> omega
    have j1 : j ≤ 10 := by
      rw [← hj]
      split
      · split <;> omega
      · omega
    refine ⟨by omega, by omega, ?_⟩
    refine lc_go walk_range (by omega) (fun D i acc H' => Same H H' ∧ ∃ ds : List Addr, acc = ds.map V.ref ∧ ∀ d ∈ ds, H d = none ∧ d ≠ D ∧ Dice H' d) (fun D hD => ⟨Same.new hD, [], rfl, fun _ h => by cases h⟩) (fun _ _ _ _ _ _ _ => trivial) ?_ ?_
    · rintro D i acc x H' H'' hD hi hacc hH' ⟨sm, ds, rfl, hds⟩ ⟨rfl, rfl⟩
      walk_at "g"
      refine ⟨rfl, ?_⟩
      walk_at "g"
      refine ⟨_, _, ns, rfl, sm.seq hS, hl, by omega, by omega, fun z H2 s2 => ?_⟩
      walk_at "g"
      refine ⟨sz (by simp), fun p np => ?_⟩
      have s3 : Same H2 (upd H2 p (.lst [.int z, .int 0])) := Same.new np
      have hD3 := s3 _ _ (s2 _ _ hH')
      have npD : p ≠ D := (ne_of_none (s2 _ _ hH') np).symm
      have s5 : ∀ b o, H b = some o → upd (upd H2 p (.lst [.int z, .int 0])) D (.lst (ds.map V.ref ++ [.ref p])) b = some o := fun b o e => by
        rw [upd_ne (ne_of_none e hD)]
        exact s3 _ _ (s2 _ _ (sm _ _ e))
      refine lc_nx (by omega) hacc hD3 ⟨s5, ds ++ [p], by simp, fun d hd => ?_⟩
      rcases List.mem_append.mp hd with hd | hd
      · obtain ⟨e1, e2, e3⟩ := hds d hd
        obtain ⟨x, k, e3⟩ := e3
        exact ⟨e1, e2, x, k, by rw [upd_ne e2]; exact s3 _ _ (s2 _ _ e3)⟩
      · cases List.mem_singleton.mp hd
        exact ⟨sm.free (s2.free np), npD, z, 0, by rw [upd_ne npD]; exact upd_same⟩
    · rintro D acc H' hD hH' hl' ⟨sm, ds, rfl, hds⟩
      exact q D ds H' sm hH' hds hD
theorem ok__law_deal (T : Tx K mg) : Ok P w K mg base 3 "_law_deal" ["dice"] (spDeal K) := by
  refine Ok.mk' T.G__law_deal T.F__law_deal (fun _ _ _ _ _ _ us hl => match us, hl with | [_], _ => rfl) sc__law_deal (fun vs H Q E h => ?_) (fun cdv A outer s H vs Q E hr h => ?_)
  · obtain ⟨a, rfl, hd, q⟩ := h
    rfl
  · obtain ⟨a, rfl, hd, q⟩ := h
    refine ⟨(tRet (tTup (tCons (tOp oAdd (tOp oMul (tC (.int 10)) (tCall (spRoll) [] E (tCons (tVar 0) (tCons (tC (.int 10)) tNil)))) (tOp (rIxL K) (tLst (tCons (tC (.int 1)) (tCons (tC (.int 3)) (tCons (tC (.int 7)) (tCons (tC (.int 9)) tNil))))) (tCall (spRoll) [] E (tCons (tVar 0) (tCons (tC (.int 4)) tNil))))) (tCons (tCall (spRoll) [] E (tCons (tVar 0) (tCons (tC (.int 100)) tNil))) tNil)))), (pss_one (ps_ret (pe_tup (pa_cons (pe_op op_add (pe_op op_mul pe_int (pe_f (ok__law_roll T) hr (pnx (L2N.takes_of rfl rfl rfl rfl)) (pa_cons (pv 0) (pa_cons pe_int pa_nil)))) (pe_ix ix_list (pe_lst (pa_cons pe_int (pa_cons pe_int (pa_cons pe_int (pa_cons pe_int pa_nil))))) (pe_f (ok__law_roll T) hr (pnx (L2N.takes_of rfl rfl rfl rfl)) (pa_cons (pv 0) (pa_cons pe_int pa_nil))) (fun _ _ => rfl))) (pa_cons (pe_f (ok__law_roll T) hr (pnx (L2N.takes_of rfl rfl rfl rfl)) (pa_cons (pv 0) (pa_cons pe_int pa_nil))) pa_nil))))), ?_⟩
    walk_at "0"
    walk_at "g"
    refine ⟨a, 10, rfl, hd, by decide, by decide, fun r H1 r0 r1 b1 => ?_⟩
    refine w_I (.inl ⟨by decide, by decide⟩) ?_
    walk_at "g"
    refine ⟨sz (by simp), fun p np => ?_⟩
    have b2 := b1.new (o := .lst [.int 1, .int 3, .int 7, .int 9]) np
    walk_at "g"
    refine ⟨a, 4, rfl, b2.d1, by decide, by decide, fun r2 H2 r20 r21 b3 => ?_⟩
    have hp := b3.kp p _ upd_same (b1.d1.ne np)
    obtain ⟨z, hz, hz2⟩ := atI_four (a := 1) (b := 3) (c := 7) (d := 9) r20 r21
    refine w_ixL (lstOf hp) hz ?_
    walk_at "g"
    refine ⟨a, 100, rfl, b3.d1, by decide, by decide, fun r3 H3 r30 r31 b4 => ?_⟩
    walk_at "g"
    refine ⟨sz (by simp), fun t nt => ?_⟩
    have b5 := (b2.trans b3).trans b4
    exact q t _ _ _ (b5.new nt) (b5.free nt) upd_same (isDeal_mk (by omega) (by omega) (by omega) (by omega) (by omega) (by omega))
theorem ok__law_user (T : Tx K mg) : Ok P w K mg base 3 "_law_user" ["dice"] (spUser K) := by
  refine Ok.mk' T.G__law_user T.F__law_user (fun _ _ _ _ _ _ us hl => match us, hl with | [_], _ => rfl) sc__law_user (fun vs H Q E h => ?_) (fun cdv A outer s H vs Q E hr h => ?_)
  · obtain ⟨a, rfl, hd, q⟩ := h
    rfl
  · obtain ⟨a, rfl, hd, q⟩ := h
    refine ⟨(tSeq (tAsg (tCall (spRoll) [] E (tCons (tVar 0) (tCons (tOp (rIxL K) (tLst (tCons (tC (.int 130)) (tCons (tOp oPow (tC (.int 10)) (tC (.int 6))) (tCons (tOp oAdd (tOp oPow (tC (.int 10)) (tC (.int 12))) (tC (.int 1))) (tCons (tC (.int 130)) tNil))))) (tCall (spRoll) [] E (tCons (tVar 0) (tCons (tC (.int 4)) tNil)))) tNil))) (gName 1))
      (tRet (tTup (tCons (tVar 1) (tCons (tCall (spRoll) [] E (tCons (tVar 0) (tCons (tC (.int 6)) tNil))) (tCons (tCall (spRoll) [] E (tCons (tVar 0) (tCons (tC (.int 4)) tNil))) tNil)))))), (pss_cons (ps_set (i := 1) sc__law_user.nd rfl (by first | exact Or.inl rfl | exact Or.inr rfl) (pe_f (ok__law_roll T) hr (pnx (L2N.takes_of rfl rfl rfl rfl)) (pa_cons (pv 0) (pa_cons (pe_ix ix_list (pe_lst (pa_cons pe_int (pa_cons (pe_op op_pow pe_int pe_int) (pa_cons (pe_op op_add (pe_op op_pow pe_int pe_int) pe_int) (pa_cons pe_int pa_nil))))) (pe_f (ok__law_roll T) hr (pnx (L2N.takes_of rfl rfl rfl rfl)) (pa_cons (pv 0) (pa_cons pe_int pa_nil))) (fun _ _ => rfl)) pa_nil))))
      (pss_one (ps_ret (pe_tup (pa_cons (pv 1) (pa_cons (pe_f (ok__law_roll T) hr (pnx (L2N.takes_of rfl rfl rfl rfl)) (pa_cons (pv 0) (pa_cons pe_int pa_nil))) (pa_cons (pe_f (ok__law_roll T) hr (pnx (L2N.takes_of rfl rfl rfl rfl)) (pa_cons (pv 0) (pa_cons pe_int pa_nil))) pa_nil))))))), ?_⟩
    walk_at "0"
    walk_at "g"
    refine w_I ⟨by decide, by decide, by decide⟩ ?_
    walk_at "g"
    refine w_I ⟨by decide, by decide, by decide⟩ ?_
    walk_at "g"
    refine ⟨sz (by simp), fun p np => ?_⟩
    have b1 := (But.refl hd).new (o := .lst [.int 130, .int (10 ^ 6), .int (10 ^ 12 + 1), .int 130]) np
    walk_at "g"
    refine ⟨a, 4, rfl, b1.d1, by decide, by decide, fun r H1 r0 r1 b2 => ?_⟩
    have hp := b2.kp p _ upd_same (hd.ne np)
    obtain ⟨z, hz, hz2⟩ := atI_four (a := 130) (b := 10 ^ 6) (c := 10 ^ 12 + 1) (d := 130) r0 r1
    refine w_ixL (lstOf hp) hz ?_
    walk_at "g"
    refine ⟨a, z, rfl, b2.d1, by omega, by omega, fun n H2 n0 n1 b3 => ?_⟩
    walk_at "g"
    refine ⟨a, 6, rfl, b3.d1, by decide, by decide, fun l H3 l0 l1 b4 => ?_⟩
    walk_at "g"
    refine ⟨a, 4, rfl, b4.d1, by decide, by decide, fun m H4 m0 m1 b5 => ?_⟩
    walk_at "g"
    refine ⟨sz (by simp), fun t nt => ?_⟩
    have b6 := ((b1.trans b2).trans b3).trans (b4.trans b5)
    exact q t _ _ _ _ (b6.new nt) (b6.free nt) upd_same n0 (by omega) l0 (by omega) m0 (by omega)
theorem ok_law (T : Tx K mg) : Ok P w K mg base 4 "law" ["script"] (spLaw K) := by
  refine Ok.mk' T.G_law T.F_law (fun _ _ _ _ _ _ us hl => match us, hl with | [_], _ => rfl) sc_law (fun vs H Q E h => ?_) (fun cdv A outer s H vs Q E hr h => ?_)
  · obtain ⟨a, ns, rfl, hS, hl, q⟩ := h
    rfl
  · obtain ⟨a, ns, rfl, hS, hl, q⟩ := h
    refine ⟨(tSeq (tFor (iList K (tCall (spRounds K) [] E (tCons (tVar 0) (tCons (tC (.int 5)) tNil)))) (gName 1) (tSeq (tAsg (tTup (tCons (tCall (spDeal K) [] E (tCons (tVar 1) tNil)) (tCons (tCall (spRoll) [] E (tCons (tVar 1) (tCons (tOp oSub (tOp oPow (tC (.int 10)) (tC (.int 12))) (tC (.int 100))) tNil))) tNil))) (gTup K 2 (gCons (gName 2) (gCons (gName 3) gNil))))
      (tSeq (tAsg (tLc (iRng1 (tCons (tC (.int 100)) tNil)) (gName 4) tYes (tCall (spPlace K) [] E0 (tCons (tTup (tCons (tOp oAdd (tVar 3) (tVar 4)) (tCons (tCall (spRoll) [] E0 (tCons (tVar 1) (tCons (tC (.int 6)) tNil))) (tCons (tCall (spRoll) [] E0 (tCons (tVar 1) (tCons (tC (.int 4)) tNil))) tNil)))) (tCons (tVar 2) tNil))) [4]) (gName 5))
      (tSeq (tIfS (tOr (tTest (tOp (rNeD K) (tCB (rSortedI K) (tCons (tVar 5) tNil)) (tLstRg (tRg1 (tC (.int 100)))))) (tTest (tOp rNe (tOp (rIxL K) (tVar 5) (tC (.int 0))) (tOp oMod (tOp oAdd (tOp oMul (tVar 3) (tOp (rIxT K) (tVar 2) (tC (.int 0)))) (tOp (rIxT K) (tVar 2) (tC (.int 1)))) (tC (.int 100)))))) (tRet (tC (.bl false))) tNext)
      (tFor (iRng1 (tCons (tC (.int 6)) tNil)) (gName 6) (tSeq (tAsg (tCall (spUser K) [] E (tCons (tVar 1) tNil)) (gName 7))
      (tSeq (tAsg (tCall (spPlace K) [] E (tCons (tVar 7) (tCons (tVar 2) tNil))) (gName 8))
      (tIfS (tOr (tTest (tOp rNe (tVar 8) (tOp oMod (tOp oAdd (tOp oMul (tOp (rIxT K) (tVar 7) (tC (.int 0))) (tOp (rIxT K) (tVar 2) (tC (.int 0)))) (tOp (rIxT K) (tVar 2) (tC (.int 1)))) (tC (.int 100))))) (tB (tCB (rIsi K) (tCons (tVar 8) (tCons (tC (.ty "bool")) tNil))))) (tRet (tC (.bl false))) tNext))))))))
      (tRet (tC (.bl true)))), (pss_cons (ps_for (passes_of rfl) rfl (pi_list (pe_f (ok__law_rounds T) hr (pnx (L2N.takes_of rfl rfl rfl rfl)) (pa_cons (pv 0) (pa_cons pe_int pa_nil)))) (pg_name (i := 1) sc_law.nd rfl (by first | exact Or.inl rfl | exact Or.inr rfl)) (pss_cons (ps_asg (pe_tup (pa_cons (pe_f (ok__law_deal T) hr (pnx (L2N.takes_of rfl rfl rfl rfl)) (pa_cons (pv 1) pa_nil)) (pa_cons (pe_f (ok__law_roll T) hr (pnx (L2N.takes_of rfl rfl rfl rfl)) (pa_cons (pv 1) (pa_cons (pe_op op_sub (pe_op op_pow pe_int pe_int) pe_int) pa_nil))) pa_nil))) (pg_tup (by rfl) (pgs_cons (pg_name (i := 2) sc_law.nd rfl (by first | exact Or.inl rfl | exact Or.inr rfl)) (pgs_cons (pg_name (i := 3) sc_law.nd rfl (by first | exact Or.inl rfl | exact Or.inr rfl)) pgs_nil))))
      (pss_cons (ps_setLc (i := 5) (own := [("at", 4)]) rfl sc_law.nd rfl rfl (sw_true rfl rfl rfl (by decide +kernel)) (pi_range1 (by rfl) T.Z_range (pa_cons pe_int pa_nil)) (blkOk_by (own := [("at", 4)]) (N := ["script", "dice", "deal", "begin", "at", "row", "turn", "user", "answer"]) (sc := defScope s_law) (by decide +kernel)) (fun _ _ _ _ _ => (pg_name (i := 4) sc_law.nd rfl (by first | exact Or.inl rfl | exact Or.inr rfl))) (fun _ _ _ _ _ => pts_nil) (fun _ _ _ _ _ => (pe_f (ok_place T) hr pn0 (pa_cons (pe_tup (pa_cons (pe_op op_add (pv 3) (pv 4)) (pa_cons (pe_f (ok__law_roll T) hr pn0 (pa_cons (pv 1) (pa_cons pe_int pa_nil))) (pa_cons (pe_f (ok__law_roll T) hr pn0 (pa_cons (pv 1) (pa_cons pe_int pa_nil))) pa_nil)))) (pa_cons (pv 2) pa_nil)))))
      (pss_cons (ps_if (PW.pt (pw_or (pt_cmpR (op_neD hr.units) (pe_callB cr_sortedI (by rfl) T.Z_sorted (by decide +kernel) (pa_cons (pv 5) pa_nil)) (pe_listRg rfl (by rfl) T.Z_list (prg_1 (by rfl) T.Z_range pe_int)) (nomark _)) (pw_or1 (pt_cmpR op_ne (pe_ix ix_list (pv 5) pe_int (fun _ _ => rfl)) (pe_op op_mod (pe_op op_add (pe_op op_mul (pv 3) (pe_ix ix_tup (pv 2) pe_int (fun _ _ => rfl))) (pe_ix ix_tup (pv 2) pe_int (fun _ _ => rfl))) pe_int) (nomark _))))) (pss_one (ps_ret pe_bl)) pss_nil)
      (pss_one (ps_for (passes_of rfl) rfl (pi_range1 (by rfl) T.Z_range (pa_cons pe_int pa_nil)) (pg_name (i := 6) sc_law.nd rfl (by first | exact Or.inl rfl | exact Or.inr rfl)) (pss_cons (ps_set (i := 7) sc_law.nd rfl (by first | exact Or.inl rfl | exact Or.inr rfl) (pe_f (ok__law_user T) hr (pnx (L2N.takes_of rfl rfl rfl rfl)) (pa_cons (pv 1) pa_nil)))
      (pss_cons (ps_set (i := 8) sc_law.nd rfl (by first | exact Or.inl rfl | exact Or.inr rfl) (pe_f (ok_place T) hr (pnx (L2N.takes_of rfl rfl rfl rfl)) (pa_cons (pv 7) (pa_cons (pv 2) pa_nil))))
      (pss_one (ps_if (PW.pt (pw_or (pt_cmpR op_ne (pv 8) (pe_op op_mod (pe_op op_add (pe_op op_mul (pe_ix ix_tup (pv 7) pe_int (fun _ _ => rfl)) (pe_ix ix_tup (pv 2) pe_int (fun _ _ => rfl))) (pe_ix ix_tup (pv 2) pe_int (fun _ _ => rfl))) pe_int) (nomark _)) (pw_or1 (pt_val (pe_callB call_isi (by rfl) T.Z_isinstance (by decide +kernel) (pa_cons (pv 8) (pa_cons (pe_bltn (v := .ty "bool") (by rfl) T.Z_bool (by decide +kernel) rfl) pa_nil))))))) (pss_one (ps_ret pe_bl)) pss_nil))))))))))
      (pss_one (ps_ret pe_bl))), ?_⟩
    walk_at "0"
    walk_at "g"
    refine ⟨_, _, _, rfl, hS, by omega, by decide, by decide, fun L ds H1 s1 hL hds nL => ?_⟩
    walk_at "g"
    refine ⟨⟨_, lstOf hL⟩, ?_⟩
    refine rounds_go (n := 8) rfl hL (fun d h => (hds d h).2) (fun _ _ => q _) ?_
    intro w H2 d N hw hd hN
    match w, hw with
    | [w1, w2, w3, w4, w5, w6, w7, w8], _ =>
    walk_at "c"
    walk_at "g"
    refine ⟨d, rfl, hd, fun p s t H3 b3 np hp dl => ?_⟩
    walk_at "g"
    refine w_I ⟨by decide, by decide, by decide⟩ ?_
    walk_at "g"
    refine ⟨d, _, rfl, b3.d1, by decide, by decide, fun bg H4 bg0 bg1 b4 => ?_⟩
    have bg1 : bg < 999999999900 := bg1
    walk_at "g"
    refine ⟨sz (by simp), fun pr npr => ?_⟩
    have b5 := (b3.trans b4).new (o := .tup [.ref p, .int bg]) npr
    refine w_gtup (tupOf upd_same) rfl ?_
    walk_at "g"
    have hp4 : SqT K (upd H4 pr (.tup [.ref p, .int bg])) p [.int s, .int t] := tup_s (Same.new npr) (b4.tup (tupOf hp))
    generalize upd H4 pr (.tup [.ref p, .int bg]) = H5 at *
    obtain ⟨s', t', es, s0, s1', t0, t1, o2, o5⟩ := isDeal_is dl
    cases es
    refine ⟨by decide, by decide, ?_⟩
    refine lc_go walk_range (by decide) (fun D i acc H' => But d H5 H' ∧ D ≠ d ∧ acc = (row100 bg s t i).map V.int) (fun D hD => ⟨But.of b5.d1 (Same.new hD), b5.d1.ne hD, rfl⟩) (fun _ _ _ _ _ _ _ => trivial) ?_ ?_
    · rintro D i acc x H' H'' hD hi hacc hH' ⟨bb, nD, rfl⟩ ⟨rfl, rfl⟩
      walk_at "g"
      refine ⟨rfl, ?_⟩
      walk_at "g"
      refine ⟨d, 6, rfl, bb.d1, by decide, by decide, fun l H6 l0 l1 b6 => ?_⟩
      walk_at "g"
      refine ⟨d, 4, rfl, b6.d1, by decide, by decide, fun m H7 m0 m1 b7 => ?_⟩
      walk_at "g"
      refine ⟨sz (by simp), fun u nu => ?_⟩
      have b8 := ((bb.trans b6).trans b7).new (o := .tup [.int (bg + (0 + (i : Int))), .int l, .int m]) nu
      have hD8 := (Same.new (o := .tup [.int (bg + (0 + (i : Int))), .int l, .int m]) nu) _ _ (b7.kp _ _ (b6.kp _ _ hH' nD) nD)
      walk_at "g"
      refine ⟨_, _, _, _, rfl, .tup (tupOf upd_same) (.cons (.int _) (.cons (.int l) (.cons (.int m) .nil))), .tup (b8.tup hp4) (.cons (.int s) (.cons (.int t) .nil)), fun _ _ => ?_, fun z => ?_, fun _ z => ?_⟩
      · refine lc_nx (by omega) hacc hD8 ⟨b8.mut hD nD, nD, ?_⟩
        rw [row100_succ, List.map_append]
        simp only [placeD, Int.zero_add]
        rfl
      · rw [isUser_mk (by omega) (by omega) l0 (by omega) m0 (by omega)] at z
        cases z
      · rw [dl] at z
        cases z
    · rintro D acc H' hD hH' hl' ⟨bb, nD, rfl⟩
      walk_at "g"
      refine ⟨D, row100 bg s t 100, rfl, lstOf hH', fun ns' p2 perm srt np2 => ?_⟩
      have en : ns' = upto 100 := by
        refine sorted_is 100 ns' ?_ srt (perm.nodup_iff.mpr (row100_nodup o2 o5 s0 s1')) fun x hx => row100_mem (perm.mem_iff.mp hx)
        rw [perm.length_eq]
        simp [row100]
      subst en
      have s2 : Same H' (upd H' p2 (.lst ((upto 100).map V.int))) := Same.new np2
      walk_at "g"
      refine ⟨.of_le (by decide) (by decide) (by decide) (by decide), fun p3 np3 => ?_⟩
      have s3 : Same (upd H' p2 (.lst ((upto 100).map V.int))) (upd (upd H' p2 (.lst ((upto 100).map V.int))) p3 (.lst (rgV 0 100))) := Same.new np3
      have s4 := s2.trans s3
      refine w_neD (dp_ints (lstOf (s3 _ _ upd_same))) (dp_ints (ns := upto 100) (lstOf (by rw [upd_same, rgV_upto]))) (shaped_ints _) (shaped_ints _) ?_
      have ev : PyData.eqv (.list ((upto 100).map PyData.int)) (.list ((upto 100).map PyData.int)) = true := eqvAll_refl_ints _
      rw [ev]
      generalize upd (upd H' p2 (.lst ((upto 100).map V.int))) p3 (.lst (rgV 0 100)) = H6 at *
      have b6 := bb.same s4
      walk_at "g"
      refine w_ixL (lstOf (s4 _ _ hH')) (v := .int ((bg * s + t) % 100)) ?_ ?_
      · refine at_of (j := 0) rfl ?_
        rw [List.getElem?_map]
        simp [row100]
      walk_at "g"
      refine w_ixT (b6.tup hp4) (v := .int s) rfl ?_
      refine w_I (.inr ⟨by omega, by omega⟩) ?_
      walk_at "g"
      refine w_ixT (b6.tup hp4) (v := .int t) rfl ?_
      walk_at "g"
      refine w_I (by decide) ?_
      walk_at "g"
      refine if_f (by simp) ?_
      walk_at "g"
      refine ⟨by decide, by decide, ?_⟩
      refine for_go walk_range (fun i σ H' => (∃ x6 x7 x8, σ = [some (.ref a), some (.ref d), some (.ref p), some (.int bg), w4, some (.ref D), x6, x7, x8]) ∧ But d H5 H') ⟨⟨_, _, _, rfl⟩, b6⟩ (fun _ _ _ _ _ => trivial) ?_ ?_
      · rintro i x σ H7 H7' hi ⟨⟨x6, x7, x8, rfl⟩, b7⟩ ⟨rfl, rfl⟩
        walk_at "g"
        refine ⟨d, rfl, b7.d1, fun u n l m H8 b8 nu hu n0 n1 l0 l1 m0 m1 => ?_⟩
        walk_at "g"
        have b9 := b7.trans b8
        have us := isUser_mk n0 n1 l0 l1 m0 m1
        refine ⟨_, _, _, _, rfl, .tup (tupOf hu) (.cons (.int n) (.cons (.int l) (.cons (.int m) .nil))), .tup (b9.tup hp4) (.cons (.int s) (.cons (.int t) .nil)), fun _ _ => ?_, fun z => ?_, fun _ z => ?_⟩
        · simp only [placeD]
          walk_at "g"
          refine w_ixT (tupOf hu) (v := .int n) rfl ?_
          walk_at "g"
          refine w_ixT (b9.tup hp4) (v := .int s) rfl ?_
          refine w_I (.inr ⟨by omega, by omega⟩) ?_
          walk_at "g"
          refine w_ixT (b9.tup hp4) (v := .int t) rfl ?_
          walk_at "g"
          refine w_I (by decide) ?_
          walk_at "g"
          refine if_f (by simp) ?_
          walk_at "g"
          refine isi_bool (.int _) ?_
          walk_at "g"
          exact ⟨⟨_, _, _, rfl⟩, b9⟩
        · rw [us] at z
          cases z
        · rw [dl] at z
          cases z
      · rintro σ H7 ⟨⟨x6, x7, x8, rfl⟩, b7⟩
        exact hN _ _ rfl (b5.trans b7)
end
end RG
namespace RG
open PySem PySem.Spec PyProof.Rows L2
abbrev lvl : Nat := 4
theorem law_at {K : PySem.W.Frag} {h : Heap} {mg : Str → Option Value} {w : World} {fa : Addr} (X : K.In h) (G : h.Ns mainGlobals mg) (c : He.SaysX fal fnl [] tfl exl w h K) (hmg : mg ("law" : Str) = some (.ref fa)) :
    LamX.LawAtS PySem.Challenge.rw_rollgates_k10_places w K (CXN PySem.Challenge.pw_rollgates_k10_places w) lvl 63 "script" mg fa h := by
  have T := tx_mk X G c
  have e := hmg.symm.trans T.G_law
  cases e
  have ok : ∀ base : Heap, Ok PySem.Challenge.pw_rollgates_k10_places w K mg base lvl "law" ["script"] (spLaw K) := fun base => ok_law T
  obtain ⟨_, _, fd, fe, b, _⟩ := ok h
  refine ⟨fd, [], spLaw K, fun _ z => (by cases z), fun _ z => (by cases z), fun _ z => (by cases z), fun s u => b s [u] rfl, fun H a ns hl _ _ hS => ⟨a, ns, rfl, hS, hl, fun _ => rfl⟩, fun base _ _ _ => ?_⟩
  obtain ⟨_, _, fd2, fe2, _, F2⟩ := ok base
  have e2 := fe.symm.trans fe2
  cases e2
  exact F2
end RG

open PySem PySem.W PySem.Calls PyProof.Rows
set_option maxRecDepth 100000 in
set_option maxHeartbeats 0 in
theorem PySem.Challenge.cw_rollgates_k10_places_holds : PySem.Challenge.rw_rollgates_k10_places.Holds := by
  w_on; o_law
  refine HandSHeadRun.head_any (r := PySem.W.OpenLaw.row PySem.Challenge.rw_rollgates_k10_places) (q := view (PySem.W.OpenLaw.row PySem.Challenge.rw_rollgates_k10_places).prog [22]) (H := RG.hkl) (ob := RG.obl) (M := 2360) (loose := RG.nml) (d := HandSHeadRun.topDef (PySem.W.OpenLaw.row PySem.Challenge.rw_rollgates_k10_places).prog 22) (kwd := []) RG.obl_eq
    (by kernel_rfl) (fun s => by kernel_rfl) RG.runl (by kernel_rfl) (by kernel_rfl) (by kernel_rfl) (by rfl) (by first | assumption | decide +kernel) (by decide +kernel) ⟨rfl, rfl, rfl, rfl, rfl, by decide +kernel⟩ ?hw ?hc
  case hw => w_witness2
  case hc =>
    refine LamX.walk_ofTsE (l := PySem.Challenge.rw_rollgates_k10_places) (n := 63) (k := RG.lvl) (x := "script") (CX := fun w => RG.CXN PySem.Challenge.pw_rollgates_k10_places w) rfl (by decide) (by kernel_rfl) ⟨rfl, by decide, by decide⟩ ?F ?X
    case X =>
      intro w H s e s' z
      obtain ⟨_, _, _, _, _, _, _, _, _, _, _, _, z⟩ := z
      exact z
    case F =>
      intro w mg fa h Y G hmg0
      obtain ⟨K, KX, c⟩ := Y
      have hmg : mg ("law" : PySem.Str) = some (.ref fa) := by
        have e : (HandSHeadRun.topDef (PySem.W.OpenLaw.row PySem.Challenge.rw_rollgates_k10_places).prog 22).name = ("law" : PySem.Str) := by kernel_rfl
        rw [← e]
        exact hmg0
      exact ⟨K, KX, RG.law_at KX G c hmg⟩

