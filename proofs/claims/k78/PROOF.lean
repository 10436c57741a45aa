import PyProof.Rows.All
import Wide.All
import OpenK.AllK
import Wide.FinOn
import HandS.ForMost
import HandS.ForExc
import HandS.Wide
import HandS.IsInst
import HandS.TupAny
import HandS.FStr
import HandS.Small
import HandS.SetKeys
import HandS.Text
import KE.IntTextText
import KE.IntTextLaws
import HandS.Iter
import HandS.Walk
import HandS.More
import HandS.SetTxt0
import HandS.SetFor
import HandS.Strs
import PyProof.Rows.TmSorted
import PyProof.Rows.StrMeet
import PySem.Challenge.RW_newsways_k78_wishes_and_pieces_written
set_option Elab.async false
set_option linter.all false
set_option maxRecDepth 100000
set_option maxHeartbeats 4000000
/-! NB: words for the newsways proofs: a def of the text with its promise (Def, Cal), data that stands (Dat), what is kept (Kp), readings step by step. -/
namespace NB
open PySem PySem.Spec PyProof.Rows L2

/-! ### promises by the number of arguments -/
def sp1 (g : V → Hp → VK → XK → Prop) : Sp := fun vs H Q E => ∃ a, vs = [a] ∧ g a H Q E
def sp2 (g : V → V → Hp → VK → XK → Prop) : Sp := fun vs H Q E => ∃ a b, vs = [a, b] ∧ g a b H Q E
def sp3 (g : V → V → V → Hp → VK → XK → Prop) : Sp := fun vs H Q E => ∃ a b c, vs = [a, b, c] ∧ g a b c H Q E
theorem sp1_len {g : V → Hp → VK → XK → Prop} {x : Str} : ∀ vs H Q E, sp1 g vs H Q E → vs.length = [x].length := by
  rintro vs H Q E ⟨a, rfl, _⟩; rfl
theorem sp2_len {g : V → V → Hp → VK → XK → Prop} {x y : Str} : ∀ vs H Q E, sp2 g vs H Q E → vs.length = [x, y].length := by
  rintro vs H Q E ⟨a, b, rfl, _⟩; rfl
theorem sp3_len {g : V → V → V → Hp → VK → XK → Prop} {x y z : Str} : ∀ vs H Q E, sp3 g vs H Q E → vs.length = [x, y, z].length := by
  rintro vs H Q E ⟨a, b, c, rfl, _⟩; rfl
theorem sp1_in {g : V → Hp → VK → XK → Prop} {a H Q E} (h : g a H Q E) : sp1 g ([a] ++ []) H Q E := ⟨a, rfl, h⟩
theorem sp2_in {g : V → V → Hp → VK → XK → Prop} {a b H Q E} (h : g a b H Q E) : sp2 g ([a, b] ++ []) H Q E := ⟨a, b, rfl, h⟩
theorem sp3_in {g : V → V → V → Hp → VK → XK → Prop} {a b c H Q E} (h : g a b c H Q E) : sp3 g ([a, b, c] ++ []) H Q E := ⟨a, b, c, rfl, h⟩

/-! ### a def of the text, and its promise kept -/
/-- the def st stands at the module's name x -/
structure Def (K : PySem.W.Frag) (mg : Str → Option Value) (x : Str) (st : Stmt) (ps : List Str) : Prop where
  ex : ∃ f fd, Fun K x x st f fd ∧ mg x = some (.ref f) ∧ ∀ us : List Value, us.length = ps.length → bindArgs fd ⟨us, []⟩ = pure (ps.zip us)
/-- the module's name x is a def that keeps the promise sp -/
structure Cal (P : Program) (w : World) (K : PySem.W.Frag) (mg : Str → Option Value) (base : Heap) (CX : CXT) (k : Nat) (x : Str) (ps : List Str) (sp : Sp) : Prop where
  ex : ∃ f fd, FnOk P w K mg base CX k f fd ps sp ∧ mg x = some (.ref f) ∧ PySem.W.keepIn K (.ref f) = true ∧ (∀ us : List Value, us.length = ps.length → bindArgs fd ⟨us, []⟩ = pure (ps.zip us)) ∧ ∃ o, K.lookup f = some o ∧ o.data = .func fd
section
variable {P : Program} {w : World} {K : PySem.W.Frag} {mg : Str → Option Value} {base : Heap} {CX : CXT} {x : Str} {st : Stmt} {N ps : List Str} {k j : Nat} {sp sp' : Sp}
theorem Def.cal (D : Def K mg x st ps) (S : FnScope N ps (defScope st)) (len : ∀ vs H Q E, sp vs H Q E → vs.length = ps.length)
    (hb : ∀ (f : Addr) (cdv : Value) (A : Around) (outer : List Env) (s : Shared) (H : Hp) (vs : List V) (Q : VK) (E : XK), Room k (A.deeper (envOfC x (defScope st) s.heap.objs.size f cdv)) → sp vs H Q E →
      ∃ t, PSs (cxOf CX0 P w K mg base N x (defScope st) f cdv A outer s H E).nox (defBody st) t ∧ t { nx := fun _ H' => Q .non H', rt := Q } (start N vs) H) : Cal P w K mg base CX0 (k + 1) x ps sp := by
  obtain ⟨f, fd, F, hm, b⟩ := D.ex
  obtain ⟨oc, od, kV, doc, pm, an, cdv, ct, osl, e, lk, _⟩ := id F.ex
  exact ⟨f, fd, F.ok S len (hb f), hm, F.kp, b, _, lk, rfl⟩
theorem Def.calX (D : Def K mg x st ps) (S : FnScope N ps (defScope st)) (len : ∀ vs H Q E, sp vs H Q E → vs.length = ps.length)
    (hb : ∀ (f : Addr) (cdv : Value) (A : Around) (outer : List Env) (s : Shared) (H : Hp) (vs : List V) (Q : VK) (E : XK), Room k (A.deeper (envOfC x (defScope st) s.heap.objs.size f cdv)) → sp vs H Q E →
      ∃ t, PSs (cxOf (L2.CX P w) P w K mg base N x (defScope st) f cdv A outer s H E) (defBody st) t ∧ t { nx := fun _ H' => Q .non H', rt := Q } (start N vs) H) : Cal P w K mg base (L2.CX P w) (k + 1) x ps sp := by
  obtain ⟨f, fd, F, hm, b⟩ := D.ex
  obtain ⟨oc, od, kV, doc, pm, an, cdv, ct, osl, e, lk, _⟩ := id F.ex
  exact ⟨f, fd, F.okX S len (hb f), hm, F.kp, b, _, lk, rfl⟩
theorem Def.mk' {h : Heap} {f : Addr} {oc : Value} {od an : Option Addr} {sl : Array (Option Value)} {kV dc pm cd ct : Value} (X : K.In h) (G : h.Ns mainGlobals mg) (a : PySem.W.nsIn K mainGlobals x = some (some (.ref f)))
    (l : K.lookup f = some ⟨oc, od, .func (PySem.W.fnOf x x (defArgs st) (defBody st) (defScope st) .none kV dc pm an cd ct), sl⟩) (c : PySem.W.codeIn K cd x = true) (k : PySem.W.keepIn K (.ref f) = true)
    (b : ∀ (kV doc pm : Value) (an : Option Addr) (cdv ct : Value) (us : List Value), us.length = ps.length → bindArgs (PySem.W.fnOf x x (defArgs st) (defBody st) (defScope st) .none kV doc pm an cdv ct) ⟨us, []⟩ = pure (ps.zip us)) : Def K mg x st ps :=
  ⟨f, _, fun_mk (st := st) l c k, PySem.W.mg_of X G a, b _ _ _ _ _ _⟩
theorem Cal.mono (C : Cal P w K mg base CX j x ps sp) (h : j ≤ k) : Cal P w K mg base CX k x ps sp := by
  obtain ⟨f, fd, F, r⟩ := C.ex
  exact ⟨f, fd, F.mono h, r⟩
theorem Cal.imp (C : Cal P w K mg base CX k x ps sp) (h : ∀ vs H Q E, sp' vs H Q E → sp vs H Q E) : Cal P w K mg base CX k x ps sp' := by
  obtain ⟨f, fd, F, r⟩ := C.ex
  exact ⟨f, fd, F.imp h, r⟩
end
section
variable {X : Cx} {CX : CXT} {x : Str} {ps : List Str} {k : Nat} {sp : Sp} {E : XK} {p pos : Pos} {e : Expr} {es : List Expr} {t : TA}
theorem pe_cal (C : Cal X.prog X.w X.K X.mg X.base CX k x ps sp) (hr : Room k X.A) (hx : Passes CX X E) (ha : PA X (e :: es) t) (hg : Gl X x := by rfl)
    (hdb : (x == ("__debug__" : Str)) = false := by decide) (he : starEach (e :: es) X.env = (false, eval e X.env) :: starEach es X.env := by rfl) (hpl : (backTo pos (starEach es X.env)).any (·.1) = false := by rfl) :
    PE X (.Call (.Name x p) (e :: es) [] pos) (tCall sp [] E t) := by
  obtain ⟨f, fd, F, hm, hk, hb, _⟩ := C.ex
  exact pe_call F hr hg hm hk (Binds.all hb) .nil hx ha hdb he hpl
end

/-- a constant of the module -/
structure Glo (mg : Str → Option Value) (x : Str) (v : V) : Prop where
  ex : ∃ u, mg x = some u ∧ RelV v u
/-- an exception class of the text, over ValueError, without an __init__ -/
structure ExcC (K : PySem.W.Frag) (mg : Str → Option Value) (x : Str) (C : Addr) : Prop where
  gC : mg x = some (.ref C)
  xC : PySem.W.excIn K C [.type "ValueError", .type "Exception", .type "BaseException", .type "object"] "ValueError.__new__" = true
  kC : PySem.W.keepIn K (.ref C) = true
  bC : PySem.W.subIn K (.ref C) (.type "BaseException") = some true
  tC : PySem.W.typeIn K (.ref C) = some (.type "type")
  iC : PySem.W.isClsIn K C = true
  sC : PySem.W.subIn K (.ref C) (.ref C) = some true
section
variable {X : Cx} {x m : Str} {v : V} {p p2 pos : Pos} {j : Nat} {C : Addr} {W : WX}
theorem pe_glo (g : Glo X.mg x v) (hg : Gl X x := by rfl) (hd : (x == ("__debug__" : Str)) = false := by decide) : PE X (.Name x p) (tC v) := by
  obtain ⟨u, h, r⟩ := g.ex
  exact pe_glob hg h r hd
/-- raise X('m') -/
theorem ps_exc {pos2 : Pos} (e : ExcC X.K X.mg x C) (hc : X.calm = true) (tk : Takes X W) (hg : Gl X x := by rfl) (hdb : (x == ("__debug__" : Str)) = false := by decide) :
    PS X (.Raise (some (.Call (.Name x p) [.Constant (.str m) j p2] [] pos)) none pos2) (fun _ σ H => W (.ref C) none σ H) := by
  exact ps_raise hc tk (pmk_own PySem.F.excBase_ValueError e.xC e.gC e.kC (raises_own e.bC e.tC) hg hdb)
end
/-- the law's promise: True, whatever the script -/
def spLaw (K : PySem.W.Frag) : Sp := sp1 fun v H Q _ => ∃ (a : Addr) (ns : List Int), v = .ref a ∧ SqL K H a (ns.map V.int) ∧ ns.length ≤ 63 ∧ ∀ H', Q (.bl true) H'
theorem walk1 {k : Nat} {l : PySem.W.OpenLaw} {q : Program} {loose : List Str} {XP : (Str → Option Value) → Heap → Prop} {YP : World → Heap → Prop} {d : DefRec} {K : Params → PySem.W.Frag} (hn : l.most = some 63) (hdf : d.params.defaults = []) (hr : Room k callerA)
    (hY : ∀ (w : World) (h : Heap), YP w h → (K w.params).In h)
    (F : ∀ (w : World) (mg : Str → Option Value) (h : Heap), (K w.params).In h → h.Ns mainGlobals mg → ∀ base : Heap, Cal l.prog w (K w.params) mg base CX0 k d.name ["script"] (spLaw (K w.params))) :
    PySem.W.WalkO q loose XP YP l.row.toRowW d [] (fun f vs => PySem.call f vs) := by
  refine L2.walk_of (n := 63) (k := k) (x := "script") (CX := fun _ => CX0) (sp := fun w => spLaw (K w.params)) hn (by decide) hdf hr hY ?_ (fun _ _ a ns hl _ hS => ⟨.ref a, rfl, a, ns, rfl, hS, hl, fun _ => rfl⟩) fun _ _ _ _ _ z => z
  intro w mg fa h KX G hmg
  obtain ⟨f, fd, F0, hm, _, hb, o, lo, ho⟩ := (F w mg h KX G h).ex
  have e : f = fa := by
    have q := hm.symm.trans hmg
    injection q with q
    injection q
  subst e
  refine ⟨fd, fun s u => .of_eq (hb [u] rfl), fun base _ _ => ?_⟩
  obtain ⟨f', fd', F', hm', _, _, o', lo', ho'⟩ := (F w mg h KX G base).ex
  have q := hm.symm.trans hm'
  injection q with q
  injection q with q
  subst q
  rw [lo] at lo'
  injection lo' with q
  subst q
  rw [ho] at ho'
  injection ho' with q
  subst q
  exact F'

/-! ### what is kept: all but what stands where ex says, and every tuple -/
def isTup : HO → Bool
  | .tup _ => true
  | _ => false
def Kp (ex : Addr → Prop) (H H' : Hp) : Prop := ∀ a o, H a = some o → (ex a → isTup o = true) → H' a = some o
/-- nothing changes -/
abbrev No : Addr → Prop := fun _ => False
abbrev All : Addr → Prop := fun _ => True
section
variable {ex ex' : Addr → Prop} {H H1 H2 H' : Hp} {p a : Addr} {o : HO}
theorem Kp.refl : Kp ex H H := fun _ _ h _ => h
theorem Kp.trans (a : Kp ex H H1) (b : Kp ex H1 H2) : Kp ex H H2 := fun c o h n => b c o (a c o h n) n
theorem Kp.mono (a : Kp ex H H1) (h : ∀ c, ex c → ex' c) : Kp ex' H H1 := fun c o q n => a c o q fun z => n (h c z)
theorem Kp.no (a : Kp No H H1) : Kp ex H H1 := a.mono fun _ z => z.elim
theorem Kp.new (k : Kp ex H H1) (n : H1 p = none) : Kp ex H (upd H1 p o) := fun c u q z => by
  have e := k c u q z
  rw [upd_ne (ne_of_none e n)]; exact e
theorem Kp.mut (k : Kp ex H H1) (n : ex p) {u : HO} (hu : H1 p = some u) (ht : isTup u = false) : Kp ex H (upd H1 p o) := fun c v q z => by
  have e := k c v q z
  by_cases h : c = p
  · subst h
    rw [hu] at e
    cases e
    rw [ht] at z
    exact absurd (z n) Bool.false_ne_true
  · rw [upd_ne h]; exact e
/-- a thing that was not there ahead is written -/
theorem Kp.fresh (k : Kp ex H H1) (n : H p = none) : Kp ex H (upd H1 p o) := fun c u q z => by
  rw [upd_ne (ne_of_none q n)]; exact k c u q z
/-- what was not there ahead may change -/
theorem Kp.drop (k : Kp (fun c => ex c ∨ c = p) H H1) (n : H p = none) : Kp ex H H1 := fun c u q z =>
  k c u q fun h => h.elim z fun h => by subst h; rw [n] at q; cases q
theorem Kp.at (k : Kp ex H H1) (h : H a = some o) (n : ¬ ex a) : H1 a = some o := k a o h fun z => absurd z n
theorem Kp.free (k : Kp ex H H1) (h : H1 a = none) (n : ¬ ex a) : H a = none := by
  cases q : H a with
  | none => rfl
  | some o => rw [k.at q n] at h; cases h
theorem Kp.tup (k : Kp ex H H1) {xs : List V} (h : H a = some (.tup xs)) : H1 a = some (.tup xs) := k a _ h fun _ => rfl
theorem Kp.sql {K : PySem.W.Frag} (k : Kp No H H1) {xs : List V} (h : SqL K H a xs) : SqL K H1 a xs := Same.seq (fun c u q => k c u q fun z => z.elim) h
theorem Kp.lst (k : Kp No H H1) {xs : List V} (h : H a = some (.lst xs)) : H1 a = some (.lst xs) := k a _ h fun z => z.elim
theorem Kp.same (k : Same H H1) : Kp ex H H1 := fun c u q _ => k c u q
theorem Kp.isSame (k : Kp No H H1) : Same H H1 := fun c u q => k c u q fun z => z.elim
end

/-! ### data that stands: none, bools, ints, texts, tuples; lists and dicts away from ex -/
mutual
inductive Dat (ex : Addr → Prop) (H : Hp) : V → PyData → Prop
  | non : Dat ex H .non .none
  | bl (b : Bool) : Dat ex H (.bl b) (.bool b)
  | int (i : Int) : Dat ex H (.int i) (.int i)
  | str (x : Str) (h : x.length ≤ 1000000) : Dat ex H (.str x) (.str x)
  | tup {a : Addr} {xs : List V} {ds : List PyData} : H a = some (.tup xs) → Dats ex H xs ds → Dat ex H (.ref a) (.tuple ds)
  | lst {a : Addr} {xs : List V} {ds : List PyData} : ¬ ex a → H a = some (.lst xs) → Dats ex H xs ds → Dat ex H (.ref a) (.list ds)
inductive Dats (ex : Addr → Prop) (H : Hp) : List V → List PyData → Prop
  | nil : Dats ex H [] []
  | cons {v : V} {vs : List V} {d : PyData} {ds : List PyData} : Dat ex H v d → Dats ex H vs ds → Dats ex H (v :: vs) (d :: ds)
end
section
variable {ex ex' : Addr → Prop} {H H1 : Hp}
mutual
theorem Dat.mono (k : Kp ex' H H1) (i : ∀ a, ex' a → ex a) : ∀ {v : V} {d : PyData}, Dat ex H v d → Dat ex H1 v d
  | _, _, .non => .non
  | _, _, .bl b => .bl b
  | _, _, .int i => .int i
  | _, _, .str x h => .str x h
  | _, _, .tup h r => .tup (k.tup h) (Dats.mono k i r)
  | _, _, .lst n h r => .lst n (k.at h fun z => n (i _ z)) (Dats.mono k i r)
theorem Dats.mono (k : Kp ex' H H1) (i : ∀ a, ex' a → ex a) : ∀ {vs : List V} {ds : List PyData}, Dats ex H vs ds → Dats ex H1 vs ds
  | _, _, .nil => .nil
  | _, _, .cons h r => .cons (Dat.mono k i h) (Dats.mono k i r)
end
theorem Dat.kp {v : V} {d : PyData} (h : Dat ex H v d) (k : Kp ex H H1) : Dat ex H1 v d := h.mono k fun _ z => z
theorem Dats.kp {vs : List V} {ds : List PyData} (h : Dats ex H vs ds) (k : Kp ex H H1) : Dats ex H1 vs ds := h.mono k fun _ z => z
mutual
theorem Dat.weak (i : ∀ a, ex' a → ex a) : ∀ {v : V} {d : PyData}, Dat ex H v d → Dat ex' H v d
  | _, _, .non => .non
  | _, _, .bl b => .bl b
  | _, _, .int i => .int i
  | _, _, .str x h => .str x h
  | _, _, .tup h r => .tup h (Dats.weak i r)
  | _, _, .lst n h r => .lst (fun z => n (i _ z)) h (Dats.weak i r)
theorem Dats.weak (i : ∀ a, ex' a → ex a) : ∀ {vs : List V} {ds : List PyData}, Dats ex H vs ds → Dats ex' H vs ds
  | _, _, .nil => .nil
  | _, _, .cons h r => .cons (Dat.weak i h) (Dats.weak i r)
end
mutual
theorem Dat.dp {K : PySem.W.Frag} : ∀ {v : V} {d : PyData}, Dat ex H v d → Dp K H v d
  | _, _, .non => .non
  | _, _, .bl b => .bl b
  | _, _, .int i => .int i
  | _, _, .str x _ => .str x
  | _, _, .tup h r => .tup (SqT.of h) (Dats.dp r)
  | _, _, .lst n h r => .lst (SqL.of h) (Dats.dp r)
theorem Dats.dp {K : PySem.W.Frag} : ∀ {vs : List V} {ds : List PyData}, Dats ex H vs ds → DpAll K H vs ds
  | _, _, .nil => .nil
  | _, _, .cons h r => .cons (Dat.dp h) (Dats.dp r)
end
theorem Dats.len : ∀ {vs : List V} {ds : List PyData}, Dats ex H vs ds → vs.length = ds.length
  | _, _, .nil => rfl
  | _, _, .cons _ r => congrArg Nat.succ (Dats.len r)
theorem Dats.get : ∀ {vs : List V} {ds : List PyData} {i : Nat} {v : V}, Dats ex H vs ds → vs[i]? = some v → ∃ d, ds[i]? = some d ∧ Dat ex H v d
  | _, _, i, _, .nil, e => by simp at e
  | _, _, 0, _, .cons h _, e => by simp at e; subst e; exact ⟨_, rfl, h⟩
  | _ :: vs, _ :: ds, i + 1, v, .cons _ r, e => by
    have e' : vs[i]? = some v := by simpa using e
    obtain ⟨d, h1, h2⟩ := Dats.get (vs := vs) (i := i) (v := v) r e'
    exact ⟨d, by simpa using h1, h2⟩
theorem Dats.append : ∀ {vs us : List V} {ds es : List PyData}, Dats ex H vs ds → Dats ex H us es → Dats ex H (vs ++ us) (ds ++ es)
  | _, _, _, _, .nil, r => r
  | _, _, _, _, .cons h t, r => .cons h (Dats.append t r)
theorem Dats.strs : ∀ xs : List Str, (∀ x ∈ xs, x.length ≤ 1000000) → Dats ex H (xs.map V.str) (xs.map PyData.str)
  | [], _ => .nil
  | x :: xs, h => .cons (.str x (h x List.mem_cons_self)) (Dats.strs xs fun y hy => h y (List.mem_cons_of_mem _ hy))
theorem Dats.ints : ∀ xs : List Int, Dats ex H (xs.map V.int) (xs.map PyData.int)
  | [] => .nil
  | x :: xs => .cons (.int x) (Dats.ints xs)
theorem Dats.one {v : V} {d : PyData} (h : Dat ex H v d) : Dats ex H [v] [d] := .cons h .nil
end

/-! ### readings step by step -/
section
variable {K : PySem.W.Frag} {σ : L2.St} {H : Hp} {D : Ends} {Q : VK} {te ta tb tc : TE} {t u : TS} {x y z : V} {QA : List V → Hp → Prop} {QB : Bool → Hp → Prop} {tt uu : TT} {g : TG} {tr : TA} {i : Nat}
theorem r_seq (h : t { D with nx := u D } σ H) : tSeq t u D σ H := h
theorem r_nx (h : D.nx σ H) : tNext D σ H := h
theorem r_asg (h : te σ H fun x H1 => g x σ H1 D.nx) : tAsg te g D σ H := h
theorem r_name {QS : L2.St → Hp → Prop} (h : QS (σ.set i (some x)) H) : gName i x σ H QS := h
theorem r_ret (h : te σ H D.rt) : tRet te D σ H := h
theorem r_retN (h : D.rt .non H) : tRetN D σ H := h
theorem r_if (h : tt σ H fun b H1 => if b = true then t D σ H1 else u D σ H1) : tIfS tt t u D σ H := h
theorem r_drop (h : te σ H fun _ H1 => D.nx σ H1) : tDrop te D σ H := h
theorem r_brk (h : D.bk σ H) : tBreak D σ H := h
theorem r_cnt (h : D.ct σ H) : tCont D σ H := h
theorem r_var (e : σ[i]? = some (some x)) (h : Q x H) : tVar i σ H Q := ⟨x, e, h⟩
theorem r_c (h : Q x H) : tC x σ H Q := h
theorem r_op {r : R2} (h : ta σ H fun x H1 => tb σ H1 fun y H2 => r x y H2 Q) : tOp r ta tb σ H Q := h
theorem r_un {r : V → Hp → VK → Prop} (h : ta σ H fun x H1 => r x H1 Q) : tUn r ta σ H Q := h
theorem r_test (h : te σ H fun x H' => ∃ k, x = .bl k ∧ QB k H') : tTest te σ H QB := h
theorem r_tB (h : te σ H fun x H' => ∃ k, x = .bl k ∧ QB k H') : tB te σ H QB := h
theorem r_bl {b : Bool} {P : Bool → Prop} (h : P b) : ∃ k, V.bl b = .bl k ∧ P k := ⟨b, rfl, h⟩
theorem r_and (h : tt σ H fun c H1 => if c = true then uu σ H1 QB else QB false H1) : tAnd tt uu σ H QB := h
theorem r_or (h : tt σ H fun c H1 => if c = true then QB true H1 else uu σ H1 QB) : tOr tt uu σ H QB := h
theorem r_not (h : tt σ H fun c H1 => QB (!c) H1) : tNot tt σ H QB := h
theorem r_andV (h : ta σ H fun x H1 => ∃ c, x = .bl c ∧ if c = true then tb σ H1 Q else Q (.bl false) H1) : tAndV ta tb σ H Q := h
theorem r_orV (h : ta σ H fun x H1 => ∃ c, x = .bl c ∧ if c = true then Q (.bl true) H1 else tb σ H1 Q) : tOrV ta tb σ H Q := h
theorem r_notV (h : ta σ H fun x H1 => ∃ c, x = .bl c ∧ Q (.bl (!c)) H1) : tNotV ta σ H Q := h
theorem r_ife (h : tt σ H fun c H1 => if c = true then ta σ H1 Q else tb σ H1 Q) : tIf tt ta tb σ H Q := h
theorem r_chain {r r' : R2} (h : ta σ H fun x H1 => tb σ H1 fun y H2 => r x y H2 fun z H3 => ∃ k, z = .bl k ∧ (if k = true then tc σ H3 fun w' H4 => r' y w' H4 Q else Q (.bl false) H3)) : tChain r r' ta tb tc σ H Q := h
theorem r_nil (h : QA [] H) : tNil σ H QA := h
theorem r_cons (h : ta σ H fun x H1 => tr σ H1 fun xs H2 => QA (x :: xs) H2) : tCons ta tr σ H QA := h
theorem r_call {sp : Sp} {dvs : List V} {E : XK} (h : tr σ H fun vs H1 => sp (vs ++ dvs) H1 Q E) : tCall sp dvs E tr σ H Q := h
theorem r_cb {r : List V → Hp → VK → Prop} (h : tr σ H fun vs H1 => r vs H1 Q) : tCB r tr σ H Q := h
/-- a new tuple, a new list -/
def NewT (xs : List V) (H : Hp) (Q : VK) : Prop := xs.length ≤ sizeLine ∧ ∀ p, H p = none → Q (.ref p) (upd H p (.tup xs))
def NewL (xs : List V) (H : Hp) (Q : VK) : Prop := xs.length ≤ sizeLine ∧ ∀ p, H p = none → Q (.ref p) (upd H p (.lst xs))
theorem r_tup (h : tr σ H fun xs H1 => NewT xs H1 Q) : tTup tr σ H Q := h
theorem r_lst (h : tr σ H fun xs H1 => NewL xs H1 Q) : tLst tr σ H Q := h
theorem r_newT {xs : List V} (hl : xs.length ≤ 100000) (k : ∀ p H', H p = none → Kp No H H' → H' p = some (.tup xs) → Q (.ref p) H') : NewT xs H Q :=
  ⟨Nat.le_trans hl (by decide), fun p np => k p _ np (Kp.new Kp.refl np) upd_same⟩
theorem r_newL {xs : List V} (hl : xs.length ≤ 100000) (k : ∀ p H', H p = none → Kp No H H' → H' p = some (.lst xs) → Q (.ref p) H') : NewL xs H Q :=
  ⟨Nat.le_trans hl (by decide), fun p np => k p _ np (Kp.new Kp.refl np) upd_same⟩
theorem r_isN (h : ta σ H fun x H1 => Q (.bl (decide (x = .non))) H1) : tIsN ta σ H Q := h
theorem r_notN (h : ta σ H fun x H1 => Q (.bl (!decide (x = .non))) H1) : tNotN ta σ H Q := h
theorem r_part0 {QO : Option Int → Hp → Prop} (h : QO none H) : tNoPart σ H QO := h
theorem r_part {QO : Option Int → Hp → Prop} (h : te σ H fun x H1 => ∃ i, x = .int i ∧ QO (some i) H1) : tPart te σ H QO := h
theorem r_int {j : Int} {P : Int → Prop} (h : P j) : ∃ i, V.int j = .int i ∧ P i := ⟨j, rfl, h⟩
theorem r_sl {r : V → Option Int → Option Int → Hp → VK → Prop} {tl th : TO} (h : te σ H fun x H1 => tl σ H1 fun l H2 => th σ H2 fun u H3 => r x l u H3 Q) : tSl r te tl th σ H Q := h
/-! operations on values that are seen -/
theorem r_I0 {f : Int → Int → V} {a b : Int} (h : Q (f a b) H) : rI0 f (.int a) (.int b) H Q := ⟨a, b, rfl, rfl, h⟩
theorem r_I {C : Int → Int → Prop} {f : Int → Int → V} {a b : Int} (hc : C a b) (h : Q (f a b) H) : rI C f (.int a) (.int b) H Q := ⟨a, b, rfl, rfl, hc, h⟩
theorem r_U {f : Int → V} {a : Int} (h : Q (f a) H) : rU f (.int a) H Q := ⟨a, rfl, h⟩
theorem small2 {n : Nat} (h : n ≤ 1000) : n ≤ sizeLine := Nat.le_of_lt (small1000 h)
end

/-! ### operations of any kind, by what the values are -/
/-- x + y: ints, texts, lists, tuples -/
def rAdd2 (K : PySem.W.Frag) : R2 := fun x y H Q => match x, y with
  | .int i, .int j => Q (.int (i + j)) H
  | .str a, .str b => a.length + b.length ≤ sizeLine ∧ Q (.str (a ++ b)) H
  | .ref a, .ref b => rCat (.ref a) (.ref b) H Q ∨ rCatA K (.ref a) (.ref b) H Q
  | _, _ => False
section
variable {X : Cx}
theorem op_add2 {K : PySem.W.Frag} (hK : X.K = K := by rfl) : OpR X (binaryOp .Add) (rAdd2 K) := by
  subst hK
  intro pins s σ H x y v u Q I rx ry h
  cases x <;> cases y <;> first
    | exact h.elim
    | exact op_add pins s σ H _ _ v u Q I rx ry ⟨_, _, rfl, rfl, h⟩
    | exact op_add_str pins s σ H _ _ v u Q I rx ry ⟨_, _, rfl, rfl, h⟩
    | exact h.elim (fun h => op_cat pins s σ H _ _ v u Q I rx ry h) (fun h => op_catA pins s σ H _ _ v u Q I rx ry h)
/-- two lists, one of them empty -/
def rEqE (K : PySem.W.Frag) (neg : Bool) : R2 := fun x y H Q => ∃ (p q : Addr) (xs ys : List V), x = .ref p ∧ y = .ref q ∧ SqL K H p xs ∧ SqL K H q ys ∧ (xs = [] ∨ ys = []) ∧ Q (.bl (if neg then !(xs.isEmpty && ys.isEmpty) else xs.isEmpty && ys.isEmpty)) H
theorem op_eqE (hu : X.A.units + 64 < cLine) : OpR X (compareOp .Eq) (rEqE X.K false) := by
  intro pins s σ H x y v u Q I rx ry h
  obtain ⟨p, q, xs, ys, rfl, rfl, hp, hq, hz, k⟩ := h
  cases rx
  cases ry
  obtain ⟨its, r1, pl1, _⟩ := I.list hp
  obtain ⟨jts, r2, pl2, _⟩ := I.list hq
  have l1 := r1.length
  have l2 := r2.length
  by_cases hl : xs.length = ys.length
  · have h0 : xs = [] ∧ ys = [] := by
      rcases hz with rfl | rfl
      · exact ⟨rfl, List.eq_nil_of_length_eq_zero hl.symm⟩
      · exact ⟨List.eq_nil_of_length_eq_zero hl, rfl⟩
    obtain ⟨rfl, rfl⟩ := h0
    have e1 : its = [] := List.eq_nil_of_length_eq_zero l1.symm
    have e2 : jts = [] := List.eq_nil_of_length_eq_zero l2.symm
    subst e1 e2
    exact SeqAt.eq_listAt (e := fun _ => true) pl1.isList pl2.isList rfl (by omega) (fun j h1 _ => absurd h1 (Nat.not_lt_zero _)) ⟨.bl true, H, I, rfl, k⟩
  · have e : (xs.isEmpty && ys.isEmpty) = false := by
      cases xs <;> cases ys <;> first | rfl | exact absurd rfl hl
    refine SeqAt.eq_list_lengthsAt pl1.isList pl2.isList (by simp; omega) (by omega) ⟨.bl false, H, I, rfl, ?_⟩
    have k' : Q (.bl (xs.isEmpty && ys.isEmpty)) H := k
    rw [e] at k'
    exact k'
theorem op_neE (hu : X.A.units + 64 < cLine) : OpR X (compareOp .NotEq) (rEqE X.K true) := by
  intro pins s σ H x y v u Q I rx ry h
  obtain ⟨p, q, xs, ys, rfl, rfl, hp, hq, hz, k⟩ := h
  cases rx
  cases ry
  obtain ⟨its, r1, pl1, _⟩ := I.list hp
  obtain ⟨jts, r2, pl2, _⟩ := I.list hq
  have l1 := r1.length
  have l2 := r2.length
  by_cases hl : xs.length = ys.length
  · have h0 : xs = [] ∧ ys = [] := by
      rcases hz with rfl | rfl
      · exact ⟨rfl, List.eq_nil_of_length_eq_zero hl.symm⟩
      · exact ⟨List.eq_nil_of_length_eq_zero hl, rfl⟩
    obtain ⟨rfl, rfl⟩ := h0
    have e1 : its = [] := List.eq_nil_of_length_eq_zero l1.symm
    have e2 : jts = [] := List.eq_nil_of_length_eq_zero l2.symm
    subst e1 e2
    exact SeqAt.RcNeAt.lists (e := fun _ => true) pl1.isList pl2.isList rfl (by omega) (fun j h1 _ => absurd h1 (Nat.not_lt_zero _)) _ _ _ _ ⟨.bl false, H, I, rfl, k⟩
  · have e : (xs.isEmpty && ys.isEmpty) = false := by
      cases xs <;> cases ys <;> first | rfl | exact absurd rfl hl
    refine SeqAt.RcNeAt.lists_lengths pl1.isList pl2.isList (by simp; omega) (by omega) _ _ _ _ ⟨.bl true, H, I, rfl, ?_⟩
    have k' : Q (.bl (!(xs.isEmpty && ys.isEmpty))) H := k
    rw [e] at k'
    exact k'
/-- x == y, x != y: scalars, data of any depth, two lists one of which is empty -/
def rEq2 (K : PySem.W.Frag) : R2 := fun x y H Q => rEq x y H Q ∨ rEqD K x y H Q ∨ rEqE K false x y H Q
def rNe2 (K : PySem.W.Frag) : R2 := fun x y H Q => rNe x y H Q ∨ rNeD K x y H Q ∨ rEqE K true x y H Q
theorem op_eq2 {K : PySem.W.Frag} (hu : X.A.units + 64 < cLine) (hK : X.K = K := by rfl) : OpR X (compareOp .Eq) (rEq2 K) := by subst hK; exact OpR.or op_eq (OpR.or (op_eqD hu) (op_eqE hu))
theorem op_ne2 {K : PySem.W.Frag} (hu : X.A.units + 64 < cLine) (hK : X.K = K := by rfl) : OpR X (compareOp .NotEq) (rNe2 K) := by subst hK; exact OpR.or op_ne (OpR.or (op_neD hu) (op_neE hu))
/-- x in y: a sign in a text; a flat thing in a list or tuple -/
def rIn2 (K : PySem.W.Frag) (neg : Bool) : R2 := fun x y H Q => (∃ (c : Nat) (z : Str), x = .str ⟨#[c]⟩ ∧ y = .str z ∧ Q (.bl (if neg then !decide (c ∈ z.cps.toList) else decide (c ∈ z.cps.toList))) H) ∨ rIn K neg x y H Q
theorem op_in2 {K : PySem.W.Frag} (hK : X.K = K := by rfl) : OpR X (compareOp .In) (rIn2 K false) := by subst hK; exact OpR.or op_in_sign op_in_seq
theorem op_nin2 {K : PySem.W.Frag} (hK : X.K = K := by rfl) : OpR X (compareOp .NotIn) (rIn2 K true) := by subst hK; exact OpR.or op_notIn_sign op_notIn_seq
/-- orders of ints, of texts -/
def rLt2 : R2 := fun x y H Q => match x, y with
  | .int i, .int j => Q (.bl (decide (i < j))) H
  | .str a, .str b => Q (.bl (decide (a.cps.toList < b.cps.toList))) H
  | _, _ => False
def rLe2 : R2 := fun x y H Q => match x, y with
  | .int i, .int j => Q (.bl (decide (i ≤ j))) H
  | .str a, .str b => Q (.bl (!decide (b.cps.toList < a.cps.toList))) H
  | _, _ => False
theorem op_lt2 : OpR X (compareOp .Lt) rLt2 := by
  intro pins s σ H x y v u Q I rx ry h
  cases x <;> cases y <;> first
    | exact h.elim
    | exact op_lt pins s σ H _ _ v u Q I rx ry ⟨_, _, rfl, rfl, h⟩
    | exact op_lt_str pins s σ H _ _ v u Q I rx ry ⟨_, _, rfl, rfl, h⟩
theorem op_le2 : OpR X (compareOp .LtE) rLe2 := by
  intro pins s σ H x y v u Q I rx ry h
  cases x <;> cases y <;> first
    | exact h.elim
    | exact op_le pins s σ H _ _ v u Q I rx ry ⟨_, _, rfl, rfl, h⟩
    | exact op_le_str pins s σ H _ _ v u Q I rx ry ⟨_, _, rfl, rfl, h⟩
def rGt2 : R2 := fun x y H Q => match x, y with
  | .int i, .int j => Q (.bl (decide (j < i))) H
  | .str a, .str b => Q (.bl (decide (b.cps.toList < a.cps.toList))) H
  | _, _ => False
def rGe2 : R2 := fun x y H Q => match x, y with
  | .int i, .int j => Q (.bl (decide (j ≤ i))) H
  | .str a, .str b => Q (.bl (!decide (a.cps.toList < b.cps.toList))) H
  | _, _ => False
theorem op_gt2 : OpR X (compareOp .Gt) rGt2 := by
  intro pins s σ H x y v u Q I rx ry h
  cases x <;> cases y <;> first
    | exact h.elim
    | exact op_gt pins s σ H _ _ v u Q I rx ry ⟨_, _, rfl, rfl, h⟩
    | exact op_gt_str pins s σ H _ _ v u Q I rx ry ⟨_, _, rfl, rfl, h⟩
theorem op_ge2 : OpR X (compareOp .GtE) rGe2 := by
  intro pins s σ H x y v u Q I rx ry h
  cases x <;> cases y <;> first
    | exact h.elim
    | exact op_ge pins s σ H _ _ v u Q I rx ry ⟨_, _, rfl, rfl, h⟩
    | exact op_ge_str pins s σ H _ _ v u Q I rx ry ⟨_, _, rfl, rfl, h⟩
/-- x ** n of any base below 2 ^ 100000 -/
def CPow7 (i j : Int) : Prop := 0 ≤ j ∧ j ≤ 100 ∧ i.natAbs < 2 ^ 100000
theorem op_pow2 : OpR X (binaryOp .Pow) (rI CPow7 fun i j => .int (i ^ j.toNat)) := opI fun i j _ _ _ _ _ hc q => pow_int hc.1 (by
    obtain ⟨h0, h1, h2⟩ := hc
    have b : Builtin.Int.intBits i ≤ i.natAbs.log2 + 1 := by
      unfold Builtin.Int.intBits
      split <;> omega
    have l := PySem.Flt.log2_lt_of (by decide : 0 < 100000) h2
    have e : (2 : Int) ^ 27 = 134217728 := by decide
    rw [e]
    have m : (Builtin.Int.intBits i : Int) ≤ 100000 := by omega
    calc (Builtin.Int.intBits i : Int) * j ≤ 100000 * j := Int.mul_le_mul_of_nonneg_right m h0
      _ ≤ 134217728 := by omega) q
/-- a[lo:hi]: a list, a tuple, a text -/
def rSl2 (K : PySem.W.Frag) : V → Option Int → Option Int → Hp → VK → Prop := fun x lo hi H Q => rSlL K x lo hi H Q ∨ rSlA K x lo hi H Q ∨ rSlS x lo hi H Q
theorem sl_any {K : PySem.W.Frag} (hK : X.K = K := by rfl) : SlR X (rSl2 K) := by subst hK; exact SlR.or sl_list (SlR.or sl_tupA sl_str)
end
section
variable {K : PySem.W.Frag} {H : Hp} {Q : VK} {x y : V}
theorem r_add_ii {a b : Int} (h : Q (.int (a + b)) H) : rAdd2 K (.int a) (.int b) H Q := h
theorem r_add_ss {a b : Str} (hl : a.length + b.length ≤ sizeLine) (h : Q (.str (a ++ b)) H) : rAdd2 K (.str a) (.str b) H Q := ⟨hl, h⟩
theorem r_eq_s (hs : scal x y = true) (h : Q (.bl (decide (x = y))) H) : rEq2 K x y H Q := .inl ⟨hs, h⟩
theorem r_ne_s (hs : scal x y = true) (h : Q (.bl (!decide (x = y))) H) : rNe2 K x y H Q := .inl ⟨hs, h⟩
/-- a list against a new empty one -/
theorem r_eq_nil {p q : Addr} {xs : List V} (h : SqL K H p xs) (h0 : H q = some (.lst [])) (k : Q (.bl xs.isEmpty) H) : rEq2 K (.ref p) (.ref q) H Q :=
  .inr (.inr ⟨p, q, xs, [], rfl, rfl, h, SqL.of h0, .inr rfl, by show Q (.bl (xs.isEmpty && true)) H; rw [Bool.and_true]; exact k⟩)
theorem r_ne_nil {p q : Addr} {xs : List V} (h : SqL K H p xs) (h0 : H q = some (.lst [])) (k : Q (.bl (!xs.isEmpty)) H) : rNe2 K (.ref p) (.ref q) H Q :=
  .inr (.inr ⟨p, q, xs, [], rfl, rfl, h, SqL.of h0, .inr rfl, by show Q (.bl (!(xs.isEmpty && true))) H; rw [Bool.and_true]; exact k⟩)
theorem r_lt_ii {a b : Int} (h : Q (.bl (decide (a < b))) H) : rLt2 (.int a) (.int b) H Q := h
theorem r_lt_ss {a b : Str} (h : Q (.bl (decide (a.cps.toList < b.cps.toList))) H) : rLt2 (.str a) (.str b) H Q := h
theorem r_le_ii {a b : Int} (h : Q (.bl (decide (a ≤ b))) H) : rLe2 (.int a) (.int b) H Q := h
theorem r_le_ss {a b : Str} (h : Q (.bl (!decide (b.cps.toList < a.cps.toList))) H) : rLe2 (.str a) (.str b) H Q := h
theorem r_gt_ii {a b : Int} (h : Q (.bl (decide (b < a))) H) : rGt2 (.int a) (.int b) H Q := h
theorem r_ge_ii {a b : Int} (h : Q (.bl (decide (b ≤ a))) H) : rGe2 (.int a) (.int b) H Q := h
theorem r_ix_t {p : Addr} {xs : List V} {n : Nat} {v : V} (e : H p = some (.tup xs)) (hv : xs[n]? = some v) (h : Q v H) : rIx K (.ref p) (.int (n : Int)) H Q :=
  .inr (.inl ⟨p, xs, _, v, rfl, rfl, SqT.of e, atI_nat hv, h⟩)
theorem r_ix_l {p : Addr} {xs : List V} {n : Nat} {v : V} (e : H p = some (.lst xs)) (hv : xs[n]? = some v) (h : Q v H) : rIx K (.ref p) (.int (n : Int)) H Q :=
  .inl ⟨p, xs, _, v, rfl, rfl, SqL.of e, atI_nat hv, h⟩
end

/-! ### what is walked: a list, a tuple, a text -/
section
variable {X : Cx} {tg e : Expr} {te : TE} {w1 w2 : TI}
theorem pi_or (h1 : PI X tg e w1) (h2 : PI X tg e w2) : PI X tg e (fun σ H R => w1 σ H R ∨ w2 σ H R) := ⟨fun pins s σ H R I h => h.elim (fun h => h1.run pins s σ H R I h) fun h => h2.run pins s σ H R I h⟩
def iAny (K : PySem.W.Frag) (te : TE) : TI := fun σ H R => iList K te σ H R ∨ iTup K te σ H R ∨ iStr te σ H R
theorem pi_any {K : PySem.W.Frag} (he : PE X e te) (hK : X.K = K := by rfl) : PI X tg e (iAny K te) := by subst hK; exact pi_or (pi_list he) (pi_or (pi_tup he) (pi_str he))
end
section
variable {X : Cx} {K : PySem.W.Frag} {pos : Pos}
theorem ix_any (hK : X.K = K := by rfl) : IxR X (rIx K) := by subst hK; exact ix_seq
theorem call_isi2 (hK : X.K = K := by rfl) : CallR X (.builtin "isinstance") (rIsi K) := by subst hK; exact call_isi
theorem call_isiT2 (hK : X.K = K := by rfl) : CallR X (.builtin "isinstance") (rIsiT K) := by subst hK; exact call_isiT
def rListOf (K : PySem.W.Frag) : List V → Hp → VK → Prop := fun xs H Q => ∃ p ys, xs = [.ref p] ∧ (SqL K H p ys ∨ SqT K H p ys) ∧ ∀ l, H l = none → Q (.ref l) (upd H l (.lst ys))
def rTupOf (K : PySem.W.Frag) : List V → Hp → VK → Prop := fun xs H Q => ∃ p ys, xs = [.ref p] ∧ ((SqL K H p ys ∧ ∀ l, H l = none → Q (.ref l) (upd H l (.tup ys))) ∨ (SqT K H p ys ∧ Q (.ref p) H))
theorem call_list2 (hK : X.K = K := by rfl) : CallR X (.type "list") (rListOf K) := by subst hK; exact call_list_of
theorem call_tuple2 (hK : X.K = K := by rfl) : CallR X (.type "tuple") (rTupOf K) := by subst hK; exact call_tuple_of
theorem pg_tup2 {es : List Expr} {k : Nat} {t : TGs} {n : Nat} (hc : X.calm = true) (h : PGs X es t) (hn : (assignEach es X.env).length = n := by rfl) (hst : (assignEach es X.env).findIdx? (·.1) = none := by rfl) (hK : X.K = K := by rfl) :
    PG X (.Tuple es k pos) (gTup K n t) := by subst hK; exact pg_tup hc h hn hst
theorem cr_all2 (hc : X.calm = true) (hK : X.K = K := by rfl) : CallR X (.builtin "all") (rAll K) := by subst hK; exact cr_all hc
end
/-! ### name += e of ints and of texts -/
def tip2 : TIp := fun x y H Q => match x, y with
  | .int i, .int j => Q (.int (i + j)) H
  | .str a, .str b => a.length + b.length ≤ sizeLine ∧ Q (.str (a ++ b)) H
  | _, _ => False
section
variable {X : Cx}
theorem ip_add2 : PIp X .Add tip2 := by
  intro pins s σ H x y v u Q I rx ry h
  cases x <;> cases y <;> first
    | exact h.elim
    | exact ip_add pins s σ H _ _ v u Q I rx ry ⟨_, _, rfl, rfl, h⟩
    | exact iop_add_str pins s σ H _ _ v u Q I rx ry ⟨_, _, rfl, rfl, h⟩
/-- int(x): an int, a truth, a text -/
def rInt2 : List V → Hp → VK → Prop := fun xs H Q => ((∃ i, xs = [.int i] ∧ Q (.int i) H) ∨ ∃ k, xs = [.bl k] ∧ Q (.int (if k then 1 else 0)) H) ∨ ∃ a n, xs = [.str a] ∧ PySem.intText? a = some n ∧ a.length ≤ 640 ∧ Q (.int n) H
theorem call_int2 : CallR X (.type "int") rInt2 := CallR.or call_int1 call_int_str
theorem call_str2 : CallR X (.type "str") (fun xs H Q => ∃ i : Int, xs = [.int i] ∧ i.natAbs.log2 < 1920 ∧ Q (.str (toString i)) H) := call_str_int
/-- x * y: ints -/
theorem op_mul2 : OpR X (binaryOp .Mult) (rI CMulW fun i j => .int (i * j)) := op_mulW
end
/-! ### a call within a try's body -/
section
variable {X : Cx} {CX : CXT} {x : Str} {ps : List Str} {k : Nat} {sp : Sp} {E : L2.St → XK} {p pos : Pos} {e : Expr} {es : List Expr} {t : TA}
theorem pe_calS (C : Cal X.prog X.w X.K X.mg X.base CX k x ps sp) (hr : Room k X.A) (hx : ∀ σ, PassesAt CX X σ (E σ)) (ha : PA X (e :: es) t) (hg : Gl X x := by rfl)
    (hdb : (x == ("__debug__" : Str)) = false := by decide) (he : starEach (e :: es) X.env = (false, eval e X.env) :: starEach es X.env := by rfl) (hpl : (backTo pos (starEach es X.env)).any (·.1) = false := by rfl) :
    PE X (.Call (.Name x p) (e :: es) [] pos) (tCallS sp E t) := by
  obtain ⟨f, fd, F, hm, hk, hb, _⟩ := C.ex
  exact pe_callS F hr hg hm hk (Binds.all hb) hx ha hdb he hpl
end
end NB

/-! NE: readings of values that are known as data; the steps that a reading takes by itself. -/
namespace NB
open PySem PySem.Spec PyProof.Rows L2

/-! ### kinds of data -/
def tyN : PyData → String
  | .none => "NoneType" | .bool _ => "bool" | .int _ => "int" | .str _ => "str" | .list _ => "list" | .tuple _ => "tuple" | .dict _ => "dict"
def isIntD : PyData → Bool | .int _ => true | .bool _ => true | _ => false
def isBoolD : PyData → Bool | .bool _ => true | _ => false
def isStrD : PyData → Bool | .str _ => true | _ => false
def isTupD : PyData → Bool | .tuple _ => true | _ => false
def isListD : PyData → Bool | .list _ => true | _ => false
/-- a whole number -/
def wholeD : PyData → Bool | .int _ => true | _ => false
theorem wholeD_eq (d : PyData) : wholeD d = (isIntD d && !isBoolD d) := by cases d <;> rfl
section
variable {ex : Addr → Prop} {K : PySem.W.Frag} {H : Hp} {v : V} {d : PyData} {Q : VK}
theorem Dat.ty : ∀ {v : V} {d : PyData}, Dat ex H v d → TyX K H v (.type (tyN d))
  | _, _, .non => .base .non
  | _, _, .bl b => .base (.bl b)
  | _, _, .int i => .base (.int i)
  | _, _, .str x _ => .base (.str x)
  | _, _, .tup h _ => .base (.tup h)
  | _, _, .lst _ h _ => .base (.lst h)
theorem r_isi {n t : String} {r : Bool} (ty : TyX K H v (.type t)) (h : kitB t n = some r) (q : Q (.bl r) H) : rIsi K [v, .ty n] H Q := ⟨v, .ty n, _, _, r, rfl, .ty n, ty, kit_ty h, q⟩
theorem r_isi_int (h : Dat ex H v d) (q : Q (.bl (isIntD d)) H) : rIsi K [v, .ty "int"] H Q := r_isi h.ty (by
    cases d with
    | none => exact (by decide +kernel : kitB "NoneType" "int" = some false)
    | bool b => exact (by decide +kernel : kitB "bool" "int" = some true)
    | int i => exact (by decide +kernel : kitB "int" "int" = some true)
    | str x => exact (by decide +kernel : kitB "str" "int" = some false)
    | list xs => exact (by decide +kernel : kitB "list" "int" = some false)
    | tuple xs => exact (by decide +kernel : kitB "tuple" "int" = some false)
    | dict kvs => exact (by decide +kernel : kitB "dict" "int" = some false)) q
theorem r_isi_bool (h : Dat ex H v d) (q : Q (.bl (isBoolD d)) H) : rIsi K [v, .ty "bool"] H Q := r_isi h.ty (by
    cases d with
    | none => exact (by decide +kernel : kitB "NoneType" "bool" = some false)
    | bool b => exact (by decide +kernel : kitB "bool" "bool" = some true)
    | int i => exact (by decide +kernel : kitB "int" "bool" = some false)
    | str x => exact (by decide +kernel : kitB "str" "bool" = some false)
    | list xs => exact (by decide +kernel : kitB "list" "bool" = some false)
    | tuple xs => exact (by decide +kernel : kitB "tuple" "bool" = some false)
    | dict kvs => exact (by decide +kernel : kitB "dict" "bool" = some false)) q
theorem r_isi_str (h : Dat ex H v d) (q : Q (.bl (isStrD d)) H) : rIsi K [v, .ty "str"] H Q := r_isi h.ty (by
    cases d with
    | none => exact (by decide +kernel : kitB "NoneType" "str" = some false)
    | bool b => exact (by decide +kernel : kitB "bool" "str" = some false)
    | int i => exact (by decide +kernel : kitB "int" "str" = some false)
    | str x => exact (by decide +kernel : kitB "str" "str" = some true)
    | list xs => exact (by decide +kernel : kitB "list" "str" = some false)
    | tuple xs => exact (by decide +kernel : kitB "tuple" "str" = some false)
    | dict kvs => exact (by decide +kernel : kitB "dict" "str" = some false)) q
theorem r_isi_tup (h : Dat ex H v d) (q : Q (.bl (isTupD d)) H) : rIsi K [v, .ty "tuple"] H Q := r_isi h.ty (by
    cases d with
    | none => exact (by decide +kernel : kitB "NoneType" "tuple" = some false)
    | bool b => exact (by decide +kernel : kitB "bool" "tuple" = some false)
    | int i => exact (by decide +kernel : kitB "int" "tuple" = some false)
    | str x => exact (by decide +kernel : kitB "str" "tuple" = some false)
    | list xs => exact (by decide +kernel : kitB "list" "tuple" = some false)
    | tuple xs => exact (by decide +kernel : kitB "tuple" "tuple" = some true)
    | dict kvs => exact (by decide +kernel : kitB "dict" "tuple" = some false)) q
theorem r_isi_list (h : Dat ex H v d) (q : Q (.bl (isListD d)) H) : rIsi K [v, .ty "list"] H Q := r_isi h.ty (by
    cases d with
    | none => exact (by decide +kernel : kitB "NoneType" "list" = some false)
    | bool b => exact (by decide +kernel : kitB "bool" "list" = some false)
    | int i => exact (by decide +kernel : kitB "int" "list" = some false)
    | str x => exact (by decide +kernel : kitB "str" "list" = some false)
    | list xs => exact (by decide +kernel : kitB "list" "list" = some true)
    | tuple xs => exact (by decide +kernel : kitB "tuple" "list" = some false)
    | dict kvs => exact (by decide +kernel : kitB "dict" "list" = some false)) q
/-! len -/
def rLen (K : PySem.W.Frag) : List V → Hp → VK → Prop := fun xs H Q => ∃ x n, xs = [x] ∧ LenV K x H n ∧ Q (.int n) H
theorem call_len2 {X : Cx} {K : PySem.W.Frag} (hK : X.K = K := by rfl) : CallR X (.builtin "len") (rLen K) := by subst hK; exact call_len
theorem Dat.slen {y : Str} {d : PyData} (h : Dat ex H (.str y) d) : y.length ≤ 1000000 := by
  cases h with
  | str _ h => exact h
theorem million {n : Nat} (h : n ≤ 1000000) : n ≤ sizeLine := Nat.le_trans h (by decide)
theorem r_len_s {y : Str} {d : PyData} (h : Dat ex H (.str y) d) (q : Q (.int y.length) H) : rLen K [.str y] H Q := ⟨_, _, rfl, ⟨million h.slen, rfl⟩, q⟩
theorem r_len_t {p : Addr} {xs : List V} (h : H p = some (.tup xs)) (q : Q (.int xs.length) H) : rLen K [.ref p] H Q := ⟨_, _, rfl, .inr ⟨xs, SqT.of h, rfl⟩, q⟩
theorem r_len_l {p : Addr} {xs : List V} (h : H p = some (.lst xs)) (q : Q (.int xs.length) H) : rLen K [.ref p] H Q := ⟨_, _, rfl, .inl ⟨xs, SqL.of h, rfl⟩, q⟩
/-! numbers -/
theorem r_mod {a b : Int} (h : 0 < b) (q : Q (.int (a % b)) H) : rI (fun _ j => 0 < j) (fun i j => .int (i % j)) (.int a) (.int b) H Q := ⟨a, b, rfl, rfl, h, q⟩
theorem r_fdiv {a b : Int} (h : 0 < b) (h2 : b < 2 ^ 200) (q : Q (.int (a / b)) H) : rI CDivW (fun i j => .int (i / j)) (.int a) (.int b) H Q :=
  ⟨a, b, rfl, rfl, wide_div h (b := 200) (by omega) (by decide) (by decide), q⟩
theorem r_mul {a b : Int} (h : a.natAbs < 2 ^ 200) (h2 : b.natAbs < 2 ^ 200) (q : Q (.int (a * b)) H) : rI CMulW (fun i j => .int (i * j)) (.int a) (.int b) H Q :=
  ⟨a, b, rfl, rfl, wide_mul h h2 (by decide) (by decide) (by decide), q⟩
theorem r_pow {a : Int} {n : Nat} (h : n ≤ 100) (h2 : a.natAbs < 2 ^ 200) (q : Q (.int (a ^ n)) H) : rI CPow7 (fun i j => .int (i ^ j.toNat)) (.int a) (.int (n : Int)) H Q :=
  ⟨a, n, rfl, rfl, ⟨Int.natCast_nonneg n, by omega, Nat.lt_of_lt_of_le h2 (Nat.pow_le_pow_right (by decide) (by decide))⟩, by show Q (.int (a ^ ((n : Int)).toNat)) H; rw [Int.toNat_natCast]; exact q⟩
/-! a branch -/
theorem r_ite {b : Bool} {A B : Prop} (h1 : b = true → A) (h2 : b = false → B) : if b = true then A else B := by
  cases b
  · exact iteF (h2 rfl)
  · exact iteT (h1 rfl)
theorem r_iteT {b : Bool} {A B : Prop} (e : b = true) (h : A) : if b = true then A else B := by rw [e]; exact iteT h
theorem r_iteF {b : Bool} {A B : Prop} (e : b = false) (h : B) : if b = true then A else B := by rw [e]; exact iteF h
end
/-! ### what data is, by its kind -/
section
variable {ex : Addr → Prop} {K : PySem.W.Frag} {H H' : Hp} {v : V} {d : PyData} {Q : VK}
theorem Dat.tupI (h : Dat ex H v d) (t : isTupD d = true) : ∃ a xs ds, v = .ref a ∧ d = .tuple ds ∧ H a = some (.tup xs) ∧ Dats ex H xs ds := by
  cases h with
  | tup e r => exact ⟨_, _, _, rfl, rfl, e, r⟩
  | _ => cases t
theorem Dat.tupE {ds : List PyData} (h : Dat ex H v (.tuple ds)) : ∃ a xs, v = .ref a ∧ H a = some (.tup xs) ∧ Dats ex H xs ds := by
  cases h with
  | tup e r => exact ⟨_, _, rfl, e, r⟩
theorem Dats.inv1 {xs : List V} {d : PyData} (h : Dats ex H xs [d]) : ∃ x, xs = [x] ∧ Dat ex H x d := by
  cases h with
  | cons h1 r => cases r; exact ⟨_, rfl, h1⟩
theorem Dats.inv2 {xs : List V} {d e : PyData} (h : Dats ex H xs [d, e]) : ∃ x y, xs = [x, y] ∧ Dat ex H x d ∧ Dat ex H y e := by
  cases h with
  | cons h1 r => obtain ⟨y, rfl, h2⟩ := Dats.inv1 r; exact ⟨_, _, rfl, h1, h2⟩
theorem Dats.inv3 {xs : List V} {d e f : PyData} (h : Dats ex H xs [d, e, f]) : ∃ x y z, xs = [x, y, z] ∧ Dat ex H x d ∧ Dat ex H y e ∧ Dat ex H z f := by
  cases h with
  | cons h1 r => obtain ⟨y, z, rfl, h2, h3⟩ := Dats.inv2 r; exact ⟨_, _, _, rfl, h1, h2, h3⟩
theorem Dat.listI (h : Dat ex H v d) (t : isListD d = true) : ∃ a xs ds, v = .ref a ∧ d = .list ds ∧ ¬ ex a ∧ H a = some (.lst xs) ∧ Dats ex H xs ds := by
  cases h with
  | lst n e r => exact ⟨_, _, _, rfl, rfl, n, e, r⟩
  | _ => cases t
theorem Dat.strI (h : Dat ex H v d) (t : isStrD d = true) : ∃ x, v = .str x ∧ d = .str x ∧ x.length ≤ 1000000 := by
  cases h with
  | str x h => exact ⟨_, rfl, rfl, h⟩
  | _ => cases t
theorem Dat.wholeI (h : Dat ex H v d) (t : wholeD d = true) : ∃ i, v = .int i ∧ d = .int i := by
  cases h with
  | int i => exact ⟨_, rfl, rfl⟩
  | _ => cases t
theorem Dat.nonI (h : Dat ex H v d) (t : decide (v = .non) = true) : v = .non ∧ d = .none := by
  have e : v = .non := of_decide_eq_true t
  subst e
  cases h
  exact ⟨rfl, rfl⟩
theorem Dat.notNon (h : Dat ex H v d) (t : decide (v = .non) = false) : d ≠ .none := fun e => by
  subst e
  cases h
  exact absurd t (by decide)
theorem fin_b {a b : Bool} (k : ∀ H', Kp ex H H' → Q (.bl a) H') (e : a = b) (h : Kp ex H H') : Q (.bl b) H' := by
  rw [← e]; exact k _ h
theorem r_eq_ii {a b : Int} (h : Q (.bl (decide (a = b))) H) : rEq2 K (.int a) (.int b) H Q := .inl ⟨rfl, by
  have e : decide (V.int a = V.int b) = decide (a = b) := by rw [dec_int]; rfl
  rw [e]; exact h⟩
theorem r_ne_ii {a b : Int} (h : Q (.bl (!decide (a = b))) H) : rNe2 K (.int a) (.int b) H Q := .inl ⟨rfl, by
  have e : decide (V.int a = V.int b) = decide (a = b) := by rw [dec_int]; rfl
  rw [e]; exact h⟩
theorem r_eq_ss {a b : Str} (h : Q (.bl (decide (a = b))) H) : rEq2 K (.str a) (.str b) H Q := .inl ⟨rfl, by
  have e : decide (V.str a = V.str b) = decide (a = b) := by simp
  rw [e]; exact h⟩
theorem r_ne_ss {a b : Str} (h : Q (.bl (!decide (a = b))) H) : rNe2 K (.str a) (.str b) H Q := .inl ⟨rfl, by
  have e : decide (V.str a = V.str b) = decide (a = b) := by simp
  rw [e]; exact h⟩
end
/-! ### loops: what is walked has been reckoned (x in H1), then the word -/
section
variable {K : PySem.W.Frag} {σ : L2.St} {H H1 : Hp} {D : Ends} {te : TE} {tb : TS} {g : TG} {ta : TA} {a : Addr} {xs : List V} {z : Str} {n : Nat}
def LpW (J : It) (g : TG) (tb : TS) (D : Ends) (σ : L2.St) (H1 : Hp) : Prop := ∃ W : Nat → Nat → L2.St → Hp → Prop, (∃ m, W 0 m σ H1) ∧ ∀ i m σ H, W i m σ H →
  (J.stop i H ∧ D.nx σ H) ∨ (J.go i H ∧ ∃ N : L2.St → Hp → Prop, (∀ σ' H', N σ' H' → ∃ m', m' < m ∧ W (i + 1) m' σ' H') ∧ ∀ x H', J.yld i H x H' → g x σ H' fun σ2 H2 => tb { D with nx := N, ct := N, bk := D.nx } σ2 H2)
def LpT (K : PySem.W.Frag) (g : TG) (tb : TS) (D : Ends) (σ : L2.St) (x : V) (H1 : Hp) : Prop := ∃ a, x = .ref a ∧ (∃ xs, SqT K H1 a xs) ∧ LpW (Itt K a) g tb D σ H1
def LpL (K : PySem.W.Frag) (g : TG) (tb : TS) (D : Ends) (σ : L2.St) (x : V) (H1 : Hp) : Prop := ∃ a, x = .ref a ∧ (∃ xs, SqL K H1 a xs) ∧ LpW (Itl K a) g tb D σ H1
def LpS (g : TG) (tb : TS) (D : Ends) (σ : L2.St) (x : V) (H1 : Hp) : Prop := ∃ z, x = .str z ∧ LpW (Its z) g tb D σ H1
def LpR (g : TG) (tb : TS) (D : Ends) (σ : L2.St) (vs : List V) (H1 : Hp) : Prop := ∃ j : Int, vs = [.int j] ∧ -(2 ^ 62) ≤ j ∧ j < 2 ^ 62 ∧ LpW (Itr 0 j.toNat) g tb D σ H1
theorem r_forT (h : te σ H (LpT K g tb D σ)) : tFor (iAny K te) g tb D σ H := Or.inr (Or.inl h)
theorem r_forL (h : te σ H (LpL K g tb D σ)) : tFor (iAny K te) g tb D σ H := Or.inl h
theorem r_forS (h : te σ H (LpS g tb D σ)) : tFor (iAny K te) g tb D σ H := Or.inr (Or.inr h)
theorem r_forR (h : ta σ H (LpR g tb D σ)) : tFor (iRng1 ta) g tb D σ H := h
/-- over a tuple -/
theorem lpT (ex : Addr → Prop) (Pv : Nat → L2.St → Hp → Prop) (ha : H1 a = some (.tup xs)) (h0 : Pv 0 σ H1)
    (hs : ∀ i y σ' H', xs[i]? = some y → Kp ex H1 H' → Pv i σ' H' → g y σ' H' fun σ2 H2 => tb { D with nx := fun s3 H3 => Kp ex H1 H3 ∧ Pv (i + 1) s3 H3, ct := fun s3 H3 => Kp ex H1 H3 ∧ Pv (i + 1) s3 H3, bk := D.nx } σ2 H2)
    (hd : ∀ σ' H', Kp ex H1 H' → Pv xs.length σ' H' → D.nx σ' H') : LpT K g tb D σ (.ref a) H1 :=
  ⟨a, rfl, ⟨xs, SqT.of ha⟩, for_tup (K := K) (a := a) (xs := xs) (fun i s3 H3 => Kp ex H1 H3 ∧ Pv i s3 H3) ⟨Kp.refl, h0⟩ (fun i s3 H3 _ hp => SqT.of (hp.1.tup ha)) (fun i y σ' H' hi hp => hs i y σ' H' hi hp.1 hp.2) fun σ' H' hp => hd σ' H' hp.1 hp.2⟩
/-- over a list -/
theorem lpL (Pv : Nat → L2.St → Hp → Prop) (ha : SqL K H1 a xs) (h0 : Pv 0 σ H1) (hl : ∀ i σ' H', Pv i σ' H' → SqL K H' a xs)
    (hs : ∀ i y σ' H', xs[i]? = some y → Pv i σ' H' → g y σ' H' fun σ2 H2 => tb { D with nx := Pv (i + 1), ct := Pv (i + 1), bk := D.nx } σ2 H2)
    (hd : ∀ σ' H', Pv xs.length σ' H' → D.nx σ' H') : LpL K g tb D σ (.ref a) H1 :=
  ⟨a, rfl, ⟨xs, ha⟩, for_list (K := K) (a := a) (xs := xs) Pv h0 (fun i s3 H3 _ hp => hl i s3 H3 hp) hs hd⟩
/-- over a text's signs -/
theorem lpS (Pv : Nat → L2.St → Hp → Prop) (h0 : Pv 0 σ H1)
    (hs : ∀ i c σ' H', z.cps.toList[i]? = some c → Pv i σ' H' → g (.str ⟨#[c]⟩) σ' H' fun σ2 H2 => tb { D with nx := Pv (i + 1), ct := Pv (i + 1), bk := D.nx } σ2 H2)
    (hd : ∀ σ' H', Pv z.cps.toList.length σ' H' → D.nx σ' H') : LpS g tb D σ (.str z) H1 := by
  refine ⟨z, rfl, fun i m s3 H3 => Pv i s3 H3 ∧ i + m = z.cps.toList.length, ⟨z.cps.toList.length, h0, by omega⟩, ?_⟩
  rintro i m s3 H3 ⟨hp, hm⟩
  by_cases hi : i < z.cps.size
  · refine .inr ⟨hi, fun s4 H4 => Pv (i + 1) s4 H4, fun s4 H4 q => ⟨m - 1, ?_, q, ?_⟩, ?_⟩
    · rw [Array.length_toList] at hm; omega
    · rw [Array.length_toList] at hm ⊢; omega
    · rintro y H' ⟨rfl, c, hc, rfl⟩
      exact hs i c s3 H' (by rw [Array.getElem?_toList]; exact hc) hp
  · have e : i = z.cps.toList.length := by rw [Array.length_toList] at hm ⊢; omega
    refine .inl ⟨by show z.cps.size ≤ i; omega, hd s3 H3 ?_⟩
    rw [← e]; exact hp
/-- over range(n) -/
theorem lpR (Pv : Nat → L2.St → Hp → Prop) (hn : n < 2 ^ 62) (h0 : Pv 0 σ H1)
    (hs : ∀ (i : Nat) σ' H', i < n → Pv i σ' H' → g (.int (i : Int)) σ' H' fun σ2 H2 => tb { D with nx := Pv (i + 1), ct := Pv (i + 1), bk := D.nx } σ2 H2)
    (hd : ∀ σ' H', Pv n σ' H' → D.nx σ' H') : LpR g tb D σ [.int (n : Int)] H1 := by
  refine ⟨(n : Int), rfl, by omega, by omega, ?_⟩
  rw [Int.toNat_natCast]
  refine for_range (lo := 0) (n := n) Pv h0 (fun i σ' H' hi hp => ?_) hd
  have e : (0 : Int) + (i : Int) = (i : Int) := by omega
  rw [e]
  exact hs i σ' H' hi hp
end
/-! ### comprehensions -/
section
variable {K : PySem.W.Frag} {σ : L2.St} {H H1 : Hp} {Q : VK} {te tl : TE} {tt : TT} {g : TG} {ta : TA} {a : Addr} {xs : List V} {z : Str} {n : Nat} {vs : List Nat}
def LcW (J : It) (g : TG) (tt : TT) (te : TE) (vs : List Nat) (σ : L2.St) (Q : VK) (H1 : Hp) : Prop := ∀ D, H1 D = none → ∃ W : Nat → Nat → Hp → Prop, (∃ m, W 0 m (upd H1 D (.lst []))) ∧ ∀ i m H, W i m H →
  (J.stop i H ∧ Q (.ref D) H) ∨ (J.go i H ∧ ∃ Nx : Hp → Prop, (∀ H', Nx H' → ∃ m', m' < m ∧ W (i + 1) m' H') ∧ ∀ x H', J.yld i H x H' → g x (wipe σ vs) H' fun σ2 H2 => wipe σ2 vs = wipe σ vs ∧ tt σ2 H2 fun b H3 =>
    if b = true then te σ2 H3 fun y H4 => ∃ acc, H4 D = some (.lst acc) ∧ acc.length < sizeLine ∧ Nx (upd H4 D (.lst (acc ++ [y]))) else Nx H3)
def LcT (K : PySem.W.Frag) (g : TG) (tt : TT) (te : TE) (vs : List Nat) (σ : L2.St) (Q : VK) (x : V) (H1 : Hp) : Prop := ∃ a, x = .ref a ∧ (∃ xs, SqT K H1 a xs) ∧ LcW (Itt K a) g tt te vs σ Q H1
def LcL (K : PySem.W.Frag) (g : TG) (tt : TT) (te : TE) (vs : List Nat) (σ : L2.St) (Q : VK) (x : V) (H1 : Hp) : Prop := ∃ a, x = .ref a ∧ (∃ xs, SqL K H1 a xs) ∧ LcW (Itl K a) g tt te vs σ Q H1
def LcS (g : TG) (tt : TT) (te : TE) (vs : List Nat) (σ : L2.St) (Q : VK) (x : V) (H1 : Hp) : Prop := ∃ z, x = .str z ∧ LcW (Its z) g tt te vs σ Q H1
def LcR (g : TG) (tt : TT) (te : TE) (vs : List Nat) (σ : L2.St) (Q : VK) (us : List V) (H1 : Hp) : Prop := ∃ j : Int, us = [.int j] ∧ -(2 ^ 62) ≤ j ∧ j < 2 ^ 62 ∧ LcW (Itr 0 j.toNat) g tt te vs σ Q H1
theorem r_lcT (h : tl σ H (LcT K g tt te vs σ Q)) : tLc (iAny K tl) g tt te vs σ H Q := Or.inr (Or.inl h)
theorem r_lcL (h : tl σ H (LcL K g tt te vs σ Q)) : tLc (iAny K tl) g tt te vs σ H Q := Or.inl h
theorem r_lcS (h : tl σ H (LcS g tt te vs σ Q)) : tLc (iAny K tl) g tt te vs σ H Q := Or.inr (Or.inr h)
theorem r_lcR (h : ta σ H (LcR g tt te vs σ Q)) : tLc (iRng1 ta) g tt te vs σ H Q := h
/-- between two turns: what the new list at D holds, and the word -/
def LcAll (D : Addr) (Pv : Nat → List V → Hp → Prop) (i : Nat) (H' : Hp) : Prop := ∃ acc, H' D = some (.lst acc) ∧ acc.length ≤ i ∧ Pv i acc H'
theorem lc_yes {D : Addr} {Pv : Nat → List V → Hp → Prop} {i : Nat} {acc : List V} {y : V} {H' : Hp} (e : H' D = some (.lst acc)) (hl : acc.length ≤ i) (hi : i < 100000) (p : Pv (i + 1) (acc ++ [y]) (upd H' D (.lst (acc ++ [y])))) :
    ∃ acc, H' D = some (.lst acc) ∧ acc.length < sizeLine ∧ LcAll D Pv (i + 1) (upd H' D (.lst (acc ++ [y]))) :=
  ⟨acc, e, Nat.lt_of_le_of_lt hl (Nat.lt_trans hi (by decide)), acc ++ [y], upd_same, by rw [List.length_append]; exact Nat.add_le_add_right hl 1, p⟩
theorem lc_no {D : Addr} {Pv : Nat → List V → Hp → Prop} {i : Nat} {acc : List V} {H' : Hp} (e : H' D = some (.lst acc)) (hl : acc.length ≤ i) (p : Pv (i + 1) acc H') : LcAll D Pv (i + 1) H' := ⟨acc, e, Nat.le_succ_of_le hl, p⟩
theorem r_yes {QB : Bool → Hp → Prop} (h : QB true H) : tYes σ H QB := h
theorem r_wipe {σ2 : L2.St} {R : Prop} (e : wipe σ2 vs = wipe σ vs) (h : R) : wipe σ2 vs = wipe σ vs ∧ R := ⟨e, h⟩
/-- a turn -/
abbrev LcTurn (g : TG) (tt : TT) (te : TE) (vs : List Nat) (σ : L2.St) (D : Addr) (Pv : Nat → List V → Hp → Prop) (i : Nat) (y : V) (H' : Hp) : Prop :=
  g y (wipe σ vs) H' fun σ2 H2 => wipe σ2 vs = wipe σ vs ∧ tt σ2 H2 fun b H3 => if b = true then te σ2 H3 fun y H4 => ∃ acc, H4 D = some (.lst acc) ∧ acc.length < sizeLine ∧ LcAll D Pv (i + 1) (upd H4 D (.lst (acc ++ [y]))) else LcAll D Pv (i + 1) H3
theorem lcT (Pv : Addr → Nat → List V → Hp → Prop) (ha : H1 a = some (.tup xs)) (h0 : ∀ D, H1 D = none → Pv D 0 [] (upd H1 D (.lst [])))
    (hk : ∀ D i acc H', Pv D i acc H' → H' a = some (.tup xs))
    (hs : ∀ D i acc y H', H1 D = none → xs[i]? = some y → H' D = some (.lst acc) → acc.length ≤ i → Pv D i acc H' → LcTurn g tt te vs σ D (Pv D) i y H')
    (hd : ∀ D acc H', H1 D = none → H' D = some (.lst acc) → acc.length ≤ xs.length → Pv D xs.length acc H' → Q (.ref D) H') : LcT K g tt te vs σ Q (.ref a) H1 :=
  ⟨a, rfl, ⟨xs, SqT.of ha⟩, fun D hD => lc_tup (K := K) (a := a) (xs := xs) (LcAll D (Pv D)) ⟨[], upd_same, Nat.le_refl _, h0 D hD⟩ (fun i H' _ ⟨acc, _, _, p⟩ => SqT.of (hk D i acc H' p))
    (fun i y H' hi ⟨acc, e, hl, p⟩ => hs D i acc y H' hD hi e hl p) fun H' ⟨acc, e, hl, p⟩ => hd D acc H' hD e hl p⟩
theorem lcL (Pv : Addr → Nat → List V → Hp → Prop) (ha : SqL K H1 a xs) (h0 : ∀ D, H1 D = none → Pv D 0 [] (upd H1 D (.lst [])))
    (hk : ∀ D i acc H', H1 D = none → Pv D i acc H' → SqL K H' a xs)
    (hs : ∀ D i acc y H', H1 D = none → xs[i]? = some y → H' D = some (.lst acc) → acc.length ≤ i → Pv D i acc H' → LcTurn g tt te vs σ D (Pv D) i y H')
    (hd : ∀ D acc H', H1 D = none → H' D = some (.lst acc) → acc.length ≤ xs.length → Pv D xs.length acc H' → Q (.ref D) H') : LcL K g tt te vs σ Q (.ref a) H1 :=
  ⟨a, rfl, ⟨xs, ha⟩, fun D hD => lc_list (K := K) (a := a) (xs := xs) (LcAll D (Pv D)) ⟨[], upd_same, Nat.le_refl _, h0 D hD⟩ (fun i H' _ ⟨acc, _, _, p⟩ => hk D i acc H' hD p)
    (fun i y H' hi ⟨acc, e, hl, p⟩ => hs D i acc y H' hD hi e hl p) fun H' ⟨acc, e, hl, p⟩ => hd D acc H' hD e hl p⟩
theorem lcR (Pv : Addr → Nat → List V → Hp → Prop) (hn : n < 2 ^ 62) (h0 : ∀ D, H1 D = none → Pv D 0 [] (upd H1 D (.lst [])))
    (hs : ∀ D (i : Nat) acc H', H1 D = none → i < n → H' D = some (.lst acc) → acc.length ≤ i → Pv D i acc H' → LcTurn g tt te vs σ D (Pv D) i (.int (i : Int)) H')
    (hd : ∀ D acc H', H1 D = none → H' D = some (.lst acc) → acc.length ≤ n → Pv D n acc H' → Q (.ref D) H') : LcR g tt te vs σ Q [.int (n : Int)] H1 := by
  refine ⟨(n : Int), rfl, by omega, by omega, fun D hD => ?_⟩
  rw [Int.toNat_natCast]
  refine lc_range (lo := 0) (n := n) (LcAll D (Pv D)) ⟨[], upd_same, Nat.le_refl _, h0 D hD⟩ (fun i H' hi ⟨acc, e, hl, p⟩ => ?_) fun H' ⟨acc, e, hl, p⟩ => hd D acc H' hD e hl p
  have e0 : (0 : Int) + (i : Int) = (i : Int) := by omega
  rw [e0]
  exact hs D i acc H' hD hi e hl p
theorem lcS (Pv : Addr → Nat → List V → Hp → Prop) (h0 : ∀ D, H1 D = none → Pv D 0 [] (upd H1 D (.lst [])))
    (hs : ∀ D i acc c H', H1 D = none → z.cps.toList[i]? = some c → H' D = some (.lst acc) → acc.length ≤ i → Pv D i acc H' → LcTurn g tt te vs σ D (Pv D) i (.str ⟨#[c]⟩) H')
    (hd : ∀ D acc H', H1 D = none → H' D = some (.lst acc) → acc.length ≤ z.cps.toList.length → Pv D z.cps.toList.length acc H' → Q (.ref D) H') : LcS g tt te vs σ Q (.str z) H1 := by
  refine ⟨z, rfl, fun D hD => ⟨fun i m H3 => LcAll D (Pv D) i H3 ∧ i + m = z.cps.toList.length, ⟨z.cps.toList.length, ⟨[], upd_same, Nat.le_refl _, h0 D hD⟩, by omega⟩, ?_⟩⟩
  rintro i m H3 ⟨⟨acc, e, hl, p⟩, hm⟩
  by_cases hi : i < z.cps.size
  · refine .inr ⟨hi, LcAll D (Pv D) (i + 1), fun H4 q => ⟨m - 1, ?_, q, ?_⟩, ?_⟩
    · rw [Array.length_toList] at hm; omega
    · rw [Array.length_toList] at hm ⊢; omega
    · rintro y H' ⟨rfl, c, hc, rfl⟩
      exact hs D i acc c H' hD (by rw [Array.getElem?_toList]; exact hc) e hl p
  · have e2 : i = z.cps.toList.length := by rw [Array.length_toList] at hm ⊢; omega
    refine .inl ⟨by show z.cps.size ≤ i; omega, ?_⟩
    subst e2
    exact hd D acc H3 hD e hl p
end
/-! ### targets, branches, calls of looks -/
section
variable {ex : Addr → Prop} {K : PySem.W.Frag} {σ : L2.St} {H : Hp} {Q : VK} {QS : L2.St → Hp → Prop} {t : TG} {u : TGs} {tu : TGs} {a : Addr} {xs r : List V} {x v : V} {n : Nat} {d : PyData} {E : XK}
theorem r_gtup (h : H a = some (.tup xs)) (hl : xs.length = n) (q : tu xs σ H QS) : gTup K n tu (.ref a) σ H QS := ⟨a, xs, rfl, SqT.of h, hl, q⟩
theorem r_gcons (h : t x σ H fun σ' H' => u r σ' H' QS) : gCons t u (x :: r) σ H QS := ⟨x, r, rfl, h⟩
theorem r_gnil (h : QS σ H) : gNil [] σ H QS := ⟨rfl, h⟩
theorem br_nd {p : Prop} [Decidable p] {A B : Prop} (h1 : ¬ p → A) (h2 : p → B) : if (!decide p) = true then A else B := r_ite (fun h => h1 (by simpa using h)) fun h => h2 (by simpa using h)
theorem br_d {p : Prop} [Decidable p] {A B : Prop} (h1 : p → A) (h2 : ¬ p → B) : if decide p = true then A else B := r_ite (fun h => h1 (by simpa using h)) fun h => h2 (by simpa using h)
theorem br_n {b : Bool} {A B : Prop} (h1 : b = false → A) (h2 : b = true → B) : if (!b) = true then A else B := r_ite (fun h => h1 (by simpa using h)) fun h => h2 (by simpa using h)
theorem r_in_c {c : Nat} {z : Str} (h : Q (.bl (decide (c ∈ z.cps.toList))) H) : rIn2 K false (.str ⟨#[c]⟩) (.str z) H Q := .inl ⟨c, z, rfl, rfl, h⟩
theorem r_nin_c {c : Nat} {z : Str} (h : Q (.bl (!decide (c ∈ z.cps.toList))) H) : rIn2 K true (.str ⟨#[c]⟩) (.str z) H Q := .inl ⟨c, z, rfl, rfl, h⟩
theorem r_at_t {i : Nat} {j : Int} (h : H a = some (.tup xs)) (e : j = (i : Int)) (hv : xs[i]? = some v) (q : Q v H) : rIx K (.ref a) (.int j) H Q := by
  subst e; exact r_ix_t h hv q
/-- the promise of a look at data: a value in, a truth out, nothing changed -/
def spBool1 (f : PyData → Bool) : Sp := sp1 fun v H Q _ => ∃ ex d, Dat ex H v d ∧ ∀ H', Kp No H H' → Q (.bl (f d)) H'
theorem r_bool1 {f : PyData → Bool} (h : Dat ex H v d) (k : ∀ H', Kp No H H' → Q (.bl (f d)) H') : spBool1 f ([v] ++ []) H Q E := ⟨v, rfl, ex, d, h, k⟩
end
end NB

/-! NM: what the program's own looks tell of data, in plain Lean (mirrors). -/
namespace NB
open PySem PySem.Spec PyProof.Rows L2

def endD : PyData → Bool
  | .none => true
  | .int _ => true
  | _ => false
def leD : PyData → PyData → Bool
  | .int a, .int b => decide (a ≤ b)
  | _, _ => true
def spanD : PyData → Bool
  | .tuple [a, b] => endD a && endD b && leD a b
  | _ => false
def lettersL : List Nat := ("abcdefghijklmnopqrstuvwxyz" : Str).cps.toList
/-- a field's signs -/
def fieldL (l : List Nat) : Bool := !l.isEmpty && decide (l.length ≤ 8) && l.all fun c => decide (c ∈ lettersL)
def fieldS (x : Str) : Bool := fieldL x.cps.toList
def fieldD : PyData → Bool
  | .str x => fieldS x
  | _ => false
def ltS (a b : Str) : Bool := decide (a.cps.toList < b.cps.toList)
/-- tuples of n parts, each with a field first, rising from last -/
def partsGo (n : Nat) : Str → List PyData → Bool
  | _, [] => true
  | last, .tuple (.str f :: r) :: t => decide ((r.length + 1 = n)) && (fieldS f && (ltS last f && partsGo n f t))
  | _, _ :: _ => false
def partsD (n : Nat) : PyData → Bool
  | .tuple ds => partsGo n Str.empty ds
  | _ => false
def spanOf : PyData → Bool
  | .tuple [_, lo, hi] => spanD (.tuple [lo, hi])
  | _ => false
def numOf : PyData → Bool
  | .tuple [_, n] => wholeD n
  | _ => false
def wishD : PyData → Bool
  | .tuple ds => partsGo 3 Str.empty ds && ds.all spanOf
  | _ => false
def pieceD : PyData → Bool
  | .tuple ds => partsGo 2 Str.empty ds && ds.all numOf
  | _ => false
theorem letters_iff {c : Nat} : c ∈ lettersL ↔ 97 ≤ c ∧ c ≤ 122 := by
  have e : lettersL = (List.range 26).map (· + 97) := by decide +kernel
  rw [e]
  simp only [List.mem_map, List.mem_range]
  constructor
  · rintro ⟨k, hk, rfl⟩; omega
  · rintro ⟨h1, h2⟩; exact ⟨c - 97, by omega, by omega⟩
theorem fieldL_iff {l : List Nat} : fieldL l = true ↔ l ≠ [] ∧ l.length ≤ 8 ∧ ∀ c ∈ l, 97 ≤ c ∧ c ≤ 122 := by
  unfold fieldL
  rw [Bool.and_eq_true, Bool.and_eq_true, decide_eq_true_eq, List.all_eq_true]
  constructor
  · rintro ⟨⟨h1, h2⟩, h3⟩
    refine ⟨(fun e => by subst e; cases h1), h2, fun c hc => letters_iff.mp (of_decide_eq_true (h3 c hc))⟩
  · rintro ⟨h1, h2, h3⟩
    have e : (!l.isEmpty) = true := by
      cases l with
      | nil => exact absurd rfl h1
      | cons _ _ => rfl
    exact ⟨⟨e, h2⟩, fun c hc => decide_eq_true (letters_iff.mpr (h3 c hc))⟩
theorem partsGo_len {n : Nat} {last : Str} {es t : List PyData} (h : es.length ≠ n) : partsGo n last (.tuple es :: t) = false := by
  match es, h with
  | [], _ => rfl
  | .str f :: r, h =>
    unfold partsGo
    rw [decide_eq_false (by simpa using h), Bool.false_and]
  | .none :: r, _ => rfl
  | .bool _ :: r, _ => rfl
  | .int _ :: r, _ => rfl
  | .list _ :: r, _ => rfl
  | .tuple _ :: r, _ => rfl
  | .dict _ :: r, _ => rfl
theorem partsGo_fld {n : Nat} {last : Str} {e : PyData} {es t : List PyData} (h : fieldD e = false) : partsGo n last (.tuple (e :: es) :: t) = false := by
  cases e with
  | str f =>
    unfold partsGo
    have h' : fieldS f = false := h
    rw [h', Bool.false_and, Bool.and_false]
  | _ => rfl
theorem partsGo_le {n : Nat} {last f : Str} {es t : List PyData} (h : ltS last f = false) : partsGo n last (.tuple (.str f :: es) :: t) = false := by
  unfold partsGo
  rw [h, Bool.false_and, Bool.and_false, Bool.and_false]
theorem partsGo_ok {n : Nat} {last f : Str} {es t : List PyData} (h1 : es.length + 1 = n) (h2 : fieldS f = true) (h3 : ltS last f = true) : partsGo n last (.tuple (.str f :: es) :: t) = partsGo n f t := by
  conv => lhs; unfold partsGo
  rw [decide_eq_true h1, h2, h3]
  simp
theorem partsGo_mem {n : Nat} : ∀ {last : Str} {ds : List PyData}, partsGo n last ds = true → ∀ d ∈ ds, ∃ f r, d = .tuple (.str f :: r) ∧ r.length + 1 = n ∧ fieldS f = true
  | _, [], _, d, hd => by cases hd
  | last, e :: t, h, d, hd => by
    unfold partsGo at h
    split at h
    · next he => cases he
    · next l f r t' he =>
      injection he with h1 h2
      subst h1 h2
      simp only [Bool.and_eq_true, decide_eq_true_eq] at h
      rcases List.mem_cons.mp hd with rfl | hm
      · exact ⟨f, r, rfl, h.1, h.2.1⟩
      · exact partsGo_mem h.2.2.2 d hm
    · cases h
end NB

/-! NT: numbers, wishes, pieces as signs, written and read, in plain Lean. -/
namespace NB
open PySem PySem.Spec PyProof.Rows L2 TL
open PySem.NumText

theorem snoc_ind {α : Type} {p : List α → Prop} (h0 : p []) (h1 : ∀ l c, p l → p (l ++ [c])) (l : List α) : p l := by
  have q : ∀ r : List α, p r.reverse := fun r => by
    induction r with
    | nil => exact h0
    | cons c r ih => rw [List.reverse_cons]; exact h1 _ _ ih
  have e := q l.reverse
  rw [List.reverse_reverse] at e
  exact e
/-! ### numbers -/
def numLI (i : Int) : List Nat := if i < 0 then 45 :: numL i.natAbs else numL i.natAbs
theorem tl_numI (i : Int) : tl (Str.ofString (toString i)) = numLI i := by
  cases i with
  | ofNat n =>
    have e : numLI (Int.ofNat n) = numL n := by
      unfold numLI
      rw [if_neg (by simp)]
      rfl
    rw [e]
    exact tl_num n
  | negSucc n =>
    have e : numLI (Int.negSucc n) = 45 :: numL (n + 1) := by
      unfold numLI
      rw [if_pos (Int.negSucc_lt_zero n)]
      rfl
    rw [e, ← tl_num (n + 1), tl_ofString, tl_ofString]
    show (("-" ++ toString (n + 1)).toList.map Char.toNat) = _
    rw [String.toList_append, List.map_append]
    rfl
theorem numL_head {n : Nat} : (numL n).head? = some 48 → n = 0 := by
  induction n using Nat.strongRecOn with
  | _ n ih =>
    intro h
    by_cases hn : n < 10
    · rw [numL_lt hn] at h
      simp at h
      exact h
    · have hn' : 10 ≤ n := Nat.le_of_not_lt hn
      rw [numL_step hn', List.head?_append] at h
      have hne := numL_ne (n / 10)
      obtain ⟨c, r, e⟩ := List.exists_cons_of_ne_nil hne
      have : (numL (n / 10)).head? = some 48 := by
        rw [e] at h ⊢
        simpa using h
      have := ih (n / 10) (by omega) this
      omega
theorem numL_zero : numL 0 = [48] := numL_lt (by decide)
theorem canon : ∀ (l : List Nat), l ≠ [] → AllDigits l → (l.head? = some 48 → l = [48]) → l = numL (digitsVal l) := by
  intro l
  refine snoc_ind (p := fun l => l ≠ [] → AllDigits l → (l.head? = some 48 → l = [48]) → l = numL (digitsVal l)) (fun h => absurd rfl h) (fun l c ih => ?_) l
  · intro _ hd hh
    have hc := hd c (by simp)
    by_cases hl : l = []
    · subst hl
      have e : digitsVal ([] ++ [c]) = c - 48 := by simp [digitsVal]
      rw [e, numL_lt (by omega)]
      have : 48 + (c - 48) = c := by omega
      rw [this]; rfl
    · have hd' : AllDigits l := fun x hx => hd x (by simp [hx])
      have hne : l.head? ≠ some 48 := fun h => by
        have : (l ++ [c]).head? = some 48 := by
          obtain ⟨a, r, rfl⟩ := List.exists_cons_of_ne_nil hl
          simpa using h
        have := congrArg List.length (hh this)
        obtain ⟨a, r, rfl⟩ := List.exists_cons_of_ne_nil hl
        simp at this
      have e := ih hl hd' fun h => absurd h hne
      have hv : digitsVal (l ++ [c]) = digitsVal l * 10 + (c - 48) := digitsVal_snoc l c
      have hpos : 0 < digitsVal l := by
        rcases Nat.eq_zero_or_pos (digitsVal l) with h0 | h0
        · rw [h0, numL_zero] at e
          rw [e] at hne
          exact absurd rfl hne
        · exact h0
      rw [hv, numL_step (by omega)]
      have h1 : (digitsVal l * 10 + (c - 48)) / 10 = digitsVal l := by omega
      have h2 : 48 + (digitsVal l * 10 + (c - 48)) % 10 = c := by omega
      rw [h1, h2, ← e]
def isFig (c : Nat) : Bool := decide (48 ≤ c ∧ c ≤ 57)
def figsOf (l : List Nat) : List Nat := if l.head? = some 45 then l.tail else l
def valOf (l : List Nat) : Int := if l.head? = some 45 then -((digitsVal l.tail : Nat) : Int) else ((digitsVal l : Nat) : Int)
/-- the number that signs write, of at most fifteen figures -/
def rdNum (l : List Nat) : Option Int :=
  if figsOf l = [] ∨ 15 < (figsOf l).length ∨ ((figsOf l).head? = some 48 ∧ l ≠ [48]) then none
  else if (figsOf l).all isFig = true then some (valOf l) else none
theorem allDigits_iff {l : List Nat} : l.all isFig = true ↔ AllDigits l := by
  rw [List.all_eq_true]
  exact ⟨fun h c hc => of_decide_eq_true (h c hc), fun h c hc => decide_eq_true (h c hc)⟩
theorem head_digit {n : Nat} : (numL n).head? ≠ some 45 := fun h => by
  have hd := numL_digits n 45 (List.mem_of_head? h)
  omega
theorem digits_bound {l : List Nat} (hd : AllDigits l) : digitsVal l < 10 ^ l.length := by
  revert hd
  refine snoc_ind (p := fun l => AllDigits l → digitsVal l < 10 ^ l.length) (fun _ => by simp [digitsVal]) (fun l c ih => ?_) l
  · intro hd
    rw [digitsVal_snoc, List.length_append, List.length_singleton, Nat.pow_succ]
    have := ih fun x hx => hd x (by simp [hx])
    have hc := hd c (by simp)
    omega
theorem rdNum_iff {l : List Nat} {i : Int} : rdNum l = some i ↔ l = numLI i ∧ i.natAbs < 10 ^ 15 := by
  constructor
  · intro h
    unfold rdNum at h
    split at h
    · cases h
    · next hn =>
      split at h
      · next ha =>
        injection h with h
        have hd := allDigits_iff.mp ha
        have h1 : figsOf l ≠ [] := fun e => hn (.inl e)
        have h2 : (figsOf l).length ≤ 15 := Nat.le_of_not_lt fun e => hn (.inr (.inl e))
        have h3 : (figsOf l).head? = some 48 → l = [48] := fun e => by
          rcases Classical.em (l = [48]) with q | q
          · exact q
          · exact absurd (.inr (.inr ⟨e, q⟩)) hn
        have hb : digitsVal (figsOf l) < 10 ^ 15 := Nat.lt_of_lt_of_le (digits_bound hd) (Nat.pow_le_pow_right (by decide) h2)
        by_cases h45 : l.head? = some 45
        · have ef : figsOf l = l.tail := if_pos h45
          have ev : valOf l = -((digitsVal l.tail : Nat) : Int) := if_pos h45
          have el : l = 45 :: l.tail := by
            cases l with
            | nil => cases h45
            | cons a r => simp at h45; subst h45; rfl
          rw [ef] at h1 h2 h3 hd hb
          have h48 : l.tail.head? ≠ some 48 := fun e => by
            have q := h3 e
            rw [q] at h45
            cases h45
          have ec := canon l.tail h1 hd fun e => absurd e h48
          have hp : 0 < digitsVal l.tail := by
            rcases Nat.eq_zero_or_pos (digitsVal l.tail) with h0 | h0
            · rw [h0, numL_zero] at ec
              rw [ec] at h48
              exact absurd rfl h48
            · exact h0
          rw [ev] at h
          subst h
          refine ⟨?_, by omega⟩
          unfold numLI
          rw [if_pos (by omega)]
          have : (-((digitsVal l.tail : Nat) : Int)).natAbs = digitsVal l.tail := by omega
          rw [this, ← ec]
          exact el
        · have ef : figsOf l = l := if_neg h45
          have ev : valOf l = ((digitsVal l : Nat) : Int) := if_neg h45
          rw [ef] at h1 h2 h3 hd hb
          have ec := canon l h1 hd h3
          rw [ev] at h
          subst h
          refine ⟨?_, by omega⟩
          unfold numLI
          rw [if_neg (by omega)]
          have : (((digitsVal l : Nat) : Int)).natAbs = digitsVal l := by omega
          rw [this, ← ec]
      · cases h
  · rintro ⟨rfl, hb⟩
    by_cases hi : i < 0
    · have e : numLI i = 45 :: numL i.natAbs := if_pos hi
      rw [e]
      have hf : figsOf (45 :: numL i.natAbs) = numL i.natAbs := rfl
      have hv : valOf (45 :: numL i.natAbs) = -((digitsVal (numL i.natAbs) : Nat) : Int) := rfl
      unfold rdNum
      rw [hf, hv, numL_val, if_neg, if_pos (allDigits_iff.mpr (numL_digits _))]
      · congr 1; omega
      · rintro (h | h | ⟨h, _⟩)
        · exact numL_ne _ h
        · have := numL_len (n := i.natAbs) (k := 15) (by decide) hb; omega
        · have := numL_head h; omega
    · have e : numLI i = numL i.natAbs := if_neg hi
      rw [e]
      have hf : figsOf (numL i.natAbs) = numL i.natAbs := if_neg head_digit
      have hv : valOf (numL i.natAbs) = ((digitsVal (numL i.natAbs) : Nat) : Int) := if_neg head_digit
      unfold rdNum
      rw [hf, hv, numL_val, if_neg, if_pos (allDigits_iff.mpr (numL_digits _))]
      · congr 1; omega
      · rintro (h | h | ⟨h, h2⟩)
        · exact numL_ne _ h
        · have := numL_len (n := i.natAbs) (k := 15) (by decide) hb; omega
        · have := numL_head h
          rw [this, numL_zero] at h2
          exact h2 rfl
theorem numLI_len {i : Int} {k : Nat} (hk : 0 < k) (h : i.natAbs < 10 ^ k) : (numLI i).length ≤ k + 1 := by
  have := numL_len hk h
  unfold numLI
  split
  · rw [List.length_cons]; omega
  · omega
theorem numLI_free {i : Int} {s : Nat} (h : s < 45 ∨ s = 46 ∨ 57 < s) : s ∉ numLI i := by
  unfold numLI
  split
  · intro hm
    rcases List.mem_cons.mp hm with e | hm
    · omega
    · have := numL_digits _ s hm; omega
  · intro hm
    have := numL_digits _ s hm; omega
theorem valOf_num (i : Int) : valOf (numLI i) = i := by
  by_cases hi : i < 0
  · have e : numLI i = 45 :: numL i.natAbs := if_pos hi
    rw [e]
    have hv : valOf (45 :: numL i.natAbs) = -((digitsVal (numL i.natAbs) : Nat) : Int) := rfl
    rw [hv, numL_val]; omega
  · have e : numLI i = numL i.natAbs := if_neg hi
    rw [e]
    have hv : valOf (numL i.natAbs) = ((digitsVal (numL i.natAbs) : Nat) : Int) := if_neg head_digit
    rw [hv, numL_val]; omega
theorem numLI_inj {i j : Int} (h : numLI i = numLI j) : i = j := by
  have := congrArg valOf h
  rwa [valOf_num, valOf_num] at this
theorem rdNum_num {i : Int} (h : i.natAbs < 10 ^ 15) : rdNum (numLI i) = some i := rdNum_iff.mpr ⟨rfl, h⟩
theorem rdNum_great {i : Int} (h : ¬ i.natAbs < 10 ^ 15) : rdNum (numLI i) = none := by
  cases e : rdNum (numLI i) with
  | none => rfl
  | some j =>
    obtain ⟨h1, h2⟩ := rdNum_iff.mp e
    have := numLI_inj h1
    subst this
    exact absurd h2 h
/-! ### lists of words -/
def mapO {α β : Type} (f : α → Option β) : List α → Option (List β)
  | [] => some []
  | a :: r => match f a, mapO f r with
    | some b, some bs => some (b :: bs)
    | _, _ => none
theorem mapO_map {α β : Type} {f : β → Option α} {g : α → β} : ∀ {l : List α}, (∀ a ∈ l, f (g a) = some a) → mapO f (l.map g) = some l
  | [], _ => rfl
  | a :: r, h => by
    have h1 := h a List.mem_cons_self
    have h2 := mapO_map (f := f) (g := g) (l := r) fun b hb => h b (List.mem_cons_of_mem _ hb)
    show (match f (g a), mapO f (r.map g) with | some b, some bs => some (b :: bs) | _, _ => none) = _
    rw [h1, h2]
theorem mapO_none {α β : Type} {f : α → Option β} : ∀ {l : List α}, (∃ a ∈ l, f a = none) → mapO f l = none
  | [], h => by obtain ⟨_, h, _⟩ := h; cases h
  | a :: r, h => by
    show (match f a, mapO f r with | some b, some bs => some (b :: bs) | _, _ => none) = none
    obtain ⟨b, hb, e⟩ := h
    rcases List.mem_cons.mp hb with rfl | hm
    · rw [e]
    · rw [mapO_none ⟨b, hm, e⟩]
      cases f a <;> rfl
/-- two parts between the signs S -/
def two (S w : List Nat) : Option (List Nat × List Nat) := match spl S 0 [] w with
  | [a, b] => some (a, b)
  | _ => none
theorem two_at {s : Nat} {S a b : List Nat} (ha : s ∉ a) (hb : s ∉ b) : two (s :: S) (a ++ (s :: S ++ b)) = some (a, b) := by
  unfold two
  rw [spl_part1 ha, spl_last1 hb]
  rfl
/-! ### wishes and pieces written, read -/
def shEnd : PyData → List Nat
  | .int i => numLI i
  | _ => [42]
def rdEnd (l : List Nat) : Option PyData := if l = [42] then some .none else (rdNum l).map .int
def ofL (l : List Nat) : Str := ⟨l.toArray⟩
theorem tl_ofL (l : List Nat) : tl (ofL l) = l := tl_mk l
theorem ofL_tl (x : Str) : ofL (tl x) = x := mk_tl x
def shWishPart : PyData → List Nat
  | .tuple [.str f, lo, hi] => tl f ++ ([58] ++ (shEnd lo ++ ([46, 46] ++ shEnd hi)))
  | _ => []
def shPiecePart : PyData → List Nat
  | .tuple [.str f, .int n] => tl f ++ ([58] ++ numLI n)
  | _ => []
def shWish (ds : List PyData) : List Nat := if ds = [] then [45] else joinL [32] (ds.map shWishPart)
def shPiece (ds : List PyData) : List Nat := if ds = [] then [45] else joinL [32] (ds.map shPiecePart)
def rdWishPart (w : List Nat) : Option PyData := match two [58] w with
  | some (f, e) => (match two [46, 46] e with
    | some (lo, hi) => (match rdEnd lo, rdEnd hi with
      | some a, some b => some (.tuple [.str (ofL f), a, b])
      | _, _ => none)
    | none => none)
  | none => none
def rdPiecePart (w : List Nat) : Option PyData := match two [58] w with
  | some (f, n) => (rdNum n).map fun i => .tuple [.str (ofL f), .int i]
  | none => none
def rdWish (l : List Nat) : Option (List PyData) := if l = [45] then some [] else match mapO rdWishPart (spl [32] 0 [] l) with
  | some ds => if wishD (.tuple ds) = true then some ds else none
  | none => none
def rdPiece (l : List Nat) : Option (List PyData) := if l = [45] then some [] else match mapO rdPiecePart (spl [32] 0 [] l) with
  | some ds => if pieceD (.tuple ds) = true then some ds else none
  | none => none
/-- numbers of at most k figures -/
def okNum (k : Nat) : PyData → Bool
  | .int i => decide (i.natAbs < 10 ^ k)
  | _ => true
def okPart (k : Nat) : PyData → Bool
  | .tuple ps => ps.all (okNum k)
  | _ => true
theorem field_free {f : Str} (h : fieldS f = true) {s : Nat} (hs : s < 97 ∨ 122 < s) : s ∉ tl f := fun hm => by
  have := (fieldL_iff.mp h).2.2 s hm
  omega
theorem shEnd_free {d : PyData} {s : Nat} (h : s < 42 ∨ s = 46 ∨ s = 43 ∨ s = 44 ∨ 57 < s) : s ∉ shEnd d := by
  cases d with
  | int i => exact numLI_free (by omega)
  | _ => exact fun hm => by have := List.mem_singleton.mp hm; omega
theorem rdEnd_end {d : PyData} (h : endD d = true) (hk : okNum 15 d = true) : rdEnd (shEnd d) = some d := by
  cases d with
  | none => rfl
  | int i =>
    have hne : shEnd (.int i) ≠ [42] := fun e => by
      have : (42 : Nat) ∈ numLI i := by rw [show numLI i = [42] from e]; simp
      exact numLI_free (by omega) this
    unfold rdEnd
    rw [if_neg hne, show shEnd (.int i) = numLI i from rfl, rdNum_num (of_decide_eq_true hk)]
    rfl
  | _ => cases h
theorem wish_part {ds : List PyData} (h : wishD (.tuple ds) = true) {d : PyData} (hd : d ∈ ds) : ∃ f lo hi, d = .tuple [.str f, lo, hi] ∧ fieldS f = true ∧ endD lo = true ∧ endD hi = true ∧ spanD (.tuple [lo, hi]) = true := by
  have h' : (partsGo 3 Str.empty ds && ds.all spanOf) = true := h
  rw [Bool.and_eq_true, List.all_eq_true] at h'
  obtain ⟨f, r, rfl, hr, hf⟩ := partsGo_mem h'.1 d hd
  obtain ⟨lo, hi, rfl⟩ : ∃ lo hi, r = [lo, hi] := by
    match r, hr with
    | [lo, hi], _ => exact ⟨lo, hi, rfl⟩
  have hs := h'.2 _ hd
  have hs' : (endD lo && endD hi && leD lo hi) = true := hs
  rw [Bool.and_eq_true, Bool.and_eq_true] at hs'
  exact ⟨f, lo, hi, rfl, hf, hs'.1.1, hs'.1.2, hs⟩
theorem piece_part {ds : List PyData} (h : pieceD (.tuple ds) = true) {d : PyData} (hd : d ∈ ds) : ∃ f i, d = .tuple [.str f, .int i] ∧ fieldS f = true := by
  have h' : (partsGo 2 Str.empty ds && ds.all numOf) = true := h
  rw [Bool.and_eq_true, List.all_eq_true] at h'
  obtain ⟨f, r, rfl, hr, hf⟩ := partsGo_mem h'.1 d hd
  obtain ⟨n, rfl⟩ : ∃ n, r = [n] := by
    match r, hr with
    | [n], _ => exact ⟨n, rfl⟩
  have hs := h'.2 _ hd
  have hs' : wholeD n = true := hs
  cases n with
  | int i => exact ⟨f, i, rfl, hf⟩
  | _ => cases hs'
theorem part_free {f : Str} {lo hi : PyData} (hf : fieldS f = true) : 32 ∉ shWishPart (.tuple [.str f, lo, hi]) := by
  show 32 ∉ tl f ++ ([58] ++ (shEnd lo ++ ([46, 46] ++ shEnd hi)))
  simp only [List.mem_append, List.mem_cons, List.not_mem_nil, or_false, not_or]
  exact ⟨field_free hf (by omega), by decide, shEnd_free (by omega), ⟨by decide, by decide⟩, shEnd_free (by omega)⟩
theorem ppart_free {f : Str} {i : Int} (hf : fieldS f = true) : 32 ∉ shPiecePart (.tuple [.str f, .int i]) := by
  show 32 ∉ tl f ++ ([58] ++ numLI i)
  simp only [List.mem_append, List.mem_cons, List.not_mem_nil, or_false, not_or]
  exact ⟨field_free hf (by omega), by decide, numLI_free (by omega)⟩
theorem rdWishPart_sh {f : Str} {lo hi : PyData} (hf : fieldS f = true) (h1 : endD lo = true) (h2 : endD hi = true) (k1 : okNum 15 lo = true) (k2 : okNum 15 hi = true) :
    rdWishPart (shWishPart (.tuple [.str f, lo, hi])) = some (.tuple [.str f, lo, hi]) := by
  show rdWishPart (tl f ++ ([58] ++ (shEnd lo ++ ([46, 46] ++ shEnd hi)))) = _
  have e1 : two [58] (tl f ++ ([58] ++ (shEnd lo ++ ([46, 46] ++ shEnd hi)))) = some (tl f, shEnd lo ++ ([46, 46] ++ shEnd hi)) := two_at (field_free hf (by omega)) (by
    simp only [List.mem_append, List.mem_cons, List.not_mem_nil, or_false, not_or]
    exact ⟨shEnd_free (by omega), ⟨by decide, by decide⟩, shEnd_free (by omega)⟩)
  have e2 : two [46, 46] (shEnd lo ++ ([46, 46] ++ shEnd hi)) = some (shEnd lo, shEnd hi) := two_at (shEnd_free (by omega)) (shEnd_free (by omega))
  unfold rdWishPart
  rw [e1]
  simp only
  rw [e2]
  simp only
  rw [rdEnd_end h1 k1, rdEnd_end h2 k2, ofL_tl]
theorem rdPiecePart_sh {f : Str} {i : Int} (hf : fieldS f = true) : rdPiecePart (shPiecePart (.tuple [.str f, .int i])) = (rdNum (numLI i)).map fun i => .tuple [.str f, .int i] := by
  show rdPiecePart (tl f ++ ([58] ++ numLI i)) = _
  have e1 : two [58] (tl f ++ ([58] ++ numLI i)) = some (tl f, numLI i) := two_at (field_free hf (by omega)) (numLI_free (by omega))
  unfold rdPiecePart
  rw [e1]
  simp only
  rw [ofL_tl]
theorem sh_ne_dash {ps : List (List Nat)} (h : ∀ p ∈ ps, 58 ∈ p) (hne : ps ≠ []) : joinL [32] ps ≠ [45] := fun e => by
  cases ps with
  | nil => exact hne rfl
  | cons p r =>
    have hp := h p List.mem_cons_self
    have : 58 ∈ joinL [32] (p :: r) := by
      cases r with
      | nil => exact hp
      | cons q r => show 58 ∈ p ++ _; exact List.mem_append_left _ hp
    rw [e] at this
    have := List.mem_singleton.mp this
    omega
/-- a wish that is written is read -/
theorem rdWish_sh {ds : List PyData} (h : wishD (.tuple ds) = true) (hk : ds.all (okPart 15) = true) : rdWish (shWish ds) = some ds := by
  cases hd : ds with
  | nil => rfl
  | cons d0 r =>
    rw [← hd]
    have hne : ds ≠ [] := by rw [hd]; simp
    have hne' : ds.map shWishPart ≠ [] := by simpa using hne
    rw [List.all_eq_true] at hk
    have e : shWish ds = joinL [32] (ds.map shWishPart) := if_neg hne
    have hfree : ∀ p ∈ ds.map shWishPart, (32 : Nat) ∉ p := fun p hp => by
      obtain ⟨d, hdm, rfl⟩ := List.mem_map.mp hp
      obtain ⟨f, lo, hi, rfl, hf, _⟩ := wish_part h hdm
      exact part_free hf
    have h58 : ∀ p ∈ ds.map shWishPart, (58 : Nat) ∈ p := fun p hp => by
      obtain ⟨d, hdm, rfl⟩ := List.mem_map.mp hp
      obtain ⟨f, lo, hi, rfl, hf, _⟩ := wish_part h hdm
      show 58 ∈ tl f ++ ([58] ++ _)
      simp
    unfold rdWish
    rw [e, if_neg (sh_ne_dash h58 hne'), spl_join hne' hfree, mapO_map fun d hdm => ?_]
    · simp only
      rw [if_pos h]
    · obtain ⟨f, lo, hi, rfl, hf, h1, h2, _⟩ := wish_part h hdm
      have hk' := hk _ hdm
      have hk2 : (okNum 15 (.str f) && (okNum 15 lo && (okNum 15 hi && true))) = true := hk'
      simp only [Bool.and_eq_true] at hk2
      exact rdWishPart_sh hf h1 h2 hk2.2.1 hk2.2.2.1
theorem rdPiece_go {ds : List PyData} (h : pieceD (.tuple ds) = true) (hne : ds ≠ []) : rdPiece (shPiece ds) = match mapO rdPiecePart (ds.map shPiecePart) with
    | some ds => if pieceD (.tuple ds) = true then some ds else none
    | none => none := by
  have hne' : ds.map shPiecePart ≠ [] := by simpa using hne
  have e : shPiece ds = joinL [32] (ds.map shPiecePart) := if_neg hne
  have hfree : ∀ p ∈ ds.map shPiecePart, (32 : Nat) ∉ p := fun p hp => by
    obtain ⟨d, hdm, rfl⟩ := List.mem_map.mp hp
    obtain ⟨f, i, rfl, hf⟩ := piece_part h hdm
    exact ppart_free hf
  have h58 : ∀ p ∈ ds.map shPiecePart, (58 : Nat) ∈ p := fun p hp => by
    obtain ⟨d, hdm, rfl⟩ := List.mem_map.mp hp
    obtain ⟨f, i, rfl, hf⟩ := piece_part h hdm
    show 58 ∈ tl f ++ ([58] ++ _)
    simp
  unfold rdPiece
  rw [e, if_neg (sh_ne_dash h58 hne'), spl_join hne' hfree]
theorem rdPiece_sh {ds : List PyData} (h : pieceD (.tuple ds) = true) (hk : ds.all (okPart 15) = true) : rdPiece (shPiece ds) = some ds := by
  by_cases hne : ds = []
  · subst hne; rfl
  rw [rdPiece_go h hne, mapO_map fun d hdm => ?_]
  · simp only
    rw [if_pos h]
  · obtain ⟨f, i, rfl, hf⟩ := piece_part h hdm
    rw [List.all_eq_true] at hk
    have hk2 : (okNum 15 (.str f) && (okNum 15 (.int i) && true)) = true := hk _ hdm
    simp only [Bool.and_eq_true] at hk2
    rw [rdPiecePart_sh hf, rdNum_num (of_decide_eq_true hk2.2.1)]
    rfl
theorem rdPiece_great {ds : List PyData} (h : pieceD (.tuple ds) = true) (hk : ds.all (okPart 15) = false) : rdPiece (shPiece ds) = none := by
  by_cases hne : ds = []
  · subst hne; cases hk
  obtain ⟨d, hdm, hd⟩ := List.all_eq_false.mp hk
  obtain ⟨f, i, rfl, hf⟩ := piece_part h hdm
  have hi : ¬ i.natAbs < 10 ^ 15 := fun hi => hd (by
    show (okNum 15 (.str f) && (decide (i.natAbs < 10 ^ 15) && true)) = true
    rw [decide_eq_true hi]; rfl)
  rw [rdPiece_go h hne, mapO_none ⟨_, List.mem_map.mpr ⟨_, hdm, rfl⟩, by rw [rdPiecePart_sh hf, rdNum_great hi]; rfl⟩]
end NB

/-! NF: readings over texts: str(n), +, join, split, f-strings; what is refused. -/
namespace NB
open PySem PySem.Spec PyProof.Rows L2 TL

def numS (i : Int) : Str := Str.ofString (toString i)
theorem tl_numS (i : Int) : tl (numS i) = numLI i := tl_numI i
theorem len_tl' (x : Str) : x.length = (tl x).length := len_tl x
theorem len_app (a b : Str) : (a ++ b).length = a.length + b.length := Str.length_append a b
theorem numS_len {i : Int} {k : Nat} (hk : 0 < k) (h : i.natAbs < 10 ^ k) : (numS i).length ≤ k + 1 := by
  rw [len_tl', tl_numS]; exact numLI_len hk h
theorem l_colon : (Str.ofString ":").length = 1 := by decide +kernel
theorem l_dots : (Str.ofString "..").length = 2 := by decide +kernel
theorem l_blank : (Str.ofString " ").length = 1 := by decide +kernel
theorem l_empty : (Str.ofString "").length = 0 := by decide +kernel
theorem l_bar : (Str.ofString " | ").length = 3 := by decide +kernel
theorem l_dash : (Str.ofString "-").length = 1 := by decide +kernel
theorem l_star : (Str.ofString "*").length = 1 := by decide +kernel
theorem l_comma : (Str.ofString ",").length = 1 := by decide +kernel
theorem l_emp : Str.empty.length = 0 := rfl
def rStrI : List V → Hp → VK → Prop := fun xs H Q => ∃ i : Int, xs = [.int i] ∧ i.natAbs.log2 < 1920 ∧ Q (.str (toString i)) H
theorem call_strI {X : Cx} : CallR X (.type "str") rStrI := call_str_int
def rJoin (K : PySem.W.Frag) : V → List V → Hp → VK → Prop := fun x xs H Q => ∃ a p, ∃ ys : List Str, x = .str a ∧ xs = [.ref p] ∧ (SqL K H p (ys.map V.str) ∨ SqT K H p (ys.map V.str)) ∧ (ys.map (·.length)).sum + ys.length * a.length ≤ 16777216 ∧ Q (.str (Txt.join a ys)) H
def rSplit : V → List V → Hp → VK → Prop := fun x xs H Q => ∃ a b, x = .str a ∧ xs = [.str b] ∧ (b.length == 0) = false ∧ a.length + 2 ≤ sizeLine ∧ rNewStrs (Txt.split a b) H Q
def rStarts : V → List V → Hp → VK → Prop := fun x xs H Q => ∃ a b, x = .str a ∧ xs = [.str b] ∧ Q (.bl (Txt.startswith a b)) H
section
variable {X : Cx} {o e : Expr} {to te : TE} {apos pos : Pos}
theorem pe_join2 {K : PySem.W.Frag} (ho : PE X o to) (he : PE X e te) (hs : starEach [e] X.env = [(false, eval e X.env)] := by rfl) (hbase : attributeBase o "join" X.env (eval o X.env) = eval o X.env := by rfl) (hline : (apos.endLine == pos.line) = true := by rfl) (hK : X.K = K := by rfl) :
    PE X (.Call (.Attribute o "join" apos) [e] [] pos) (tM1 (rJoin K) to te) := by subst hK; exact pe_join ho he hs hbase hline
theorem pe_split2 (ho : PE X o to) (he : PE X e te) (hs : starEach [e] X.env = [(false, eval e X.env)] := by rfl) (hbase : attributeBase o "split" X.env (eval o X.env) = eval o X.env := by rfl) (hline : (apos.endLine == pos.line) = true := by rfl) :
    PE X (.Call (.Attribute o "split" apos) [e] [] pos) (tM1 rSplit to te) := pe_split ho he hs hbase hline
theorem pe_starts2 (ho : PE X o to) (he : PE X e te) (hs : starEach [e] X.env = [(false, eval e X.env)] := by rfl) (hbase : attributeBase o "startswith" X.env (eval o X.env) = eval o X.env := by rfl) (hline : (apos.endLine == pos.line) = true := by rfl) :
    PE X (.Call (.Attribute o "startswith" apos) [e] [] pos) (tM1 rStarts to te) := pe_m1 PySem.F.slot_str_startswith PySem.F.type_str_startswith mt_startswith ho he hs hbase hline
def tJoined (ts : List TE) : TE := fun σ H Q => tJs ts Str.empty σ H fun out H1 => Q (.str out) H1
theorem pe_joined2 {v1 v2 : Expr} {rest : List Expr} {ts : List TE} {pos : Pos} (h : PJ X (v1 :: v2 :: rest) ts) : PE X (.JoinedStr (v1 :: v2 :: rest) pos) (tJoined ts) := pe_joined h
/-- a refusal -/
def tExc (W : WX) (C : Addr) : TS := fun _ σ H => W (.ref C) none σ H
theorem ps_exc2 {x m : Str} {p p2 pos pos2 : Pos} {j : Nat} {C : Addr} {W : WX} (e : ExcC X.K X.mg x C) (hc : X.calm = true) (tk : Takes X W) (hg : Gl X x := by rfl) (hdb : (x == ("__debug__" : Str)) = false := by decide) :
    PS X (.Raise (some (.Call (.Name x p) [.Constant (.str m) j p2] [] pos)) none pos2) (tExc W C) := ps_exc e hc tk hg hdb
end
section
variable {ex : Addr → Prop} {K : PySem.W.Frag} {σ : L2.St} {H : Hp} {D : Ends} {Q : VK} {te to : TE} {v : V} {d : PyData} {x y a b : Str} {i : Int} {p : Addr} {ys : List Str} {QT : Str → Hp → Prop} {ts : List TE} {acc : Str}
theorem r_exc {W : WX} {C : Addr} (h : W (.ref C) none σ H) : tExc W C D σ H := h
theorem r_m1 {r : V → List V → Hp → VK → Prop} (h : to σ H fun x H1 => (∃ a, x = .str a) ∧ te σ H1 fun y H2 => r x [y] H2 Q) : tM1 r to te σ H Q := h
theorem r_isS {R : Prop} (h : R) : (∃ a, V.str x = .str a) ∧ R := ⟨⟨x, rfl⟩, h⟩
theorem r_strI (h : i.natAbs < 10 ^ 40) (q : Q (.str (numS i)) H) : rStrI [.int i] H Q := ⟨i, rfl, Nat.lt_of_lt_of_le (PySem.Flt.log2_lt_of (k := 200) (by decide) (Nat.lt_trans h (by decide))) (by decide), q⟩
theorem r_join (h : SqL K H p (ys.map V.str)) (hl : (ys.map (·.length)).sum + ys.length * a.length ≤ 16777216) (q : Q (.str (Txt.join a ys)) H) : rJoin K (.str a) [.ref p] H Q := ⟨a, p, ys, rfl, rfl, .inl h, hl, q⟩
theorem r_split (hb : (b.length == 0) = false) (ha : a.length ≤ 1000000) (q : ∀ p H', H p = none → Kp No H H' → H' p = some (.lst ((Txt.split a b).map V.str)) → Q (.ref p) H') : rSplit (.str a) [.str b] H Q :=
  ⟨a, b, rfl, rfl, hb, Nat.le_trans (Nat.add_le_add_right ha 2) (by decide), fun p np => q p _ np (Kp.new Kp.refl np) upd_same⟩
theorem r_starts (q : Q (.bl (Txt.startswith a b)) H) : rStarts (.str a) [.str b] H Q := ⟨a, b, rfl, rfl, q⟩
theorem r_joined (h : tJs ts Str.empty σ H fun out H1 => Q (.str out) H1) : tJoined ts σ H Q := h
theorem r_js0 (h : QT acc H) : tJs [] acc σ H QT := h
theorem r_js (h : te σ H fun x H1 => ∃ y : Str, x = .str y ∧ (acc ++ y).length ≤ sizeLine ∧ tJs ts (acc ++ y) σ H1 QT) : tJs (te :: ts) acc σ H QT := h
theorem r_js1 (hl : (acc ++ y).length ≤ 1000000) (h : tJs ts (acc ++ y) σ H QT) : ∃ z : Str, V.str y = .str z ∧ (acc ++ z).length ≤ sizeLine ∧ tJs ts (acc ++ z) σ H QT := ⟨y, rfl, million hl, h⟩
/-- {x} of a text, of an int -/
def FmtV (Q : VK) (x : V) (H1 : Hp) : Prop := (∃ y : Str, x = .str y ∧ y.length ≤ sizeLine ∧ Q (.str y) H1) ∨ ∃ i : Int, x = .int i ∧ i.natAbs.log2 < 1920 ∧ Q (.str (toString i)) H1
theorem r_fmt (h : te σ H (FmtV Q)) : tFmt te σ H Q := h
theorem r_fmt_s (h : y.length ≤ 1000000) (q : Q (.str y) H) : FmtV Q (.str y) H := .inl ⟨y, rfl, million h, q⟩
theorem r_fmt_i (h : i.natAbs < 10 ^ 40) (q : Q (.str (numS i)) H) : FmtV Q (.int i) H := .inr ⟨i, rfl, Nat.lt_of_lt_of_le (PySem.Flt.log2_lt_of (k := 200) (by decide) (Nat.lt_trans h (by decide))) (by decide), q⟩
theorem r_add_s (hl : a.length + b.length ≤ 1000000) (h : Q (.str (a ++ b)) H) : rAdd2 K (.str a) (.str b) H Q := ⟨million hl, h⟩
end
end NB

/-! NG: texts cut, taken apart, read as numbers; lists that grow. -/
namespace NB
open PySem PySem.Spec PyProof.Rows L2 TL
open PySem.NumText

theorem tl_cut1 (z : Str) : tl (cutS z (some 1) none) = (tl z).tail := by
  have hz := len_tl z
  show ((tl z).drop (HT.sIx z.length 0 (some 1))).take (HT.sIx z.length z.length none - HT.sIx z.length 0 (some 1)) = _
  have e : HT.sIx z.length 0 (some 1) = min 1 z.length := HT.sIx_nat z.length 0 1
  rw [e, HT.sIx_none, hz]
  cases h : tl z with
  | nil => rfl
  | cons c r =>
    have e2 : min 1 (c :: r).length = 1 := by rw [List.length_cons]; omega
    rw [e2]
    show (r.take (r.length + 1 - 1)) = r
    rw [Nat.add_sub_cancel, List.take_length]
theorem starts_one (z : Str) {y : Str} {c : Nat} (hy : tl y = [c]) : Txt.startswith z y = decide ((tl z).head? = some c) := by
  have h1 : y.length = 1 := by rw [len_tl, hy]; rfl
  have h2 : y.cps.toList = [c] := hy
  unfold Txt.startswith
  rw [StrLaws.subAt_eq, h2, h1, len_tl z, List.drop_zero]
  show (_ && ((tl z).take 1 == [c])) = _
  cases h : tl z with
  | nil => rfl
  | cons d r =>
    show (decide (0 + 1 ≤ r.length + 1) && ([d] == [c])) = decide (some d = some c)
    have e : decide (0 + 1 ≤ r.length + 1) = true := decide_eq_true (by omega)
    rw [e, Bool.true_and]
    by_cases q : d = c
    · subst q; simp
    · have : ¬ some d = some c := fun z => q (Option.some.inj z)
      rw [decide_eq_false this]
      simp [q]
theorem tl_eq_iff {x y : Str} : x = y ↔ tl x = tl y := ⟨fun e => by rw [e], TL.ext_tl⟩
theorem dec_tl {x y : Str} : decide (x = y) = decide (tl x = tl y) := by
  by_cases h : x = y
  · rw [decide_eq_true h, decide_eq_true (tl_eq_iff.mp h)]
  · rw [decide_eq_false h, decide_eq_false fun e => h (TL.ext_tl e)]
theorem split_tl (x : Str) {y : Str} (hy : tl y ≠ []) (h : y.cps.all (· < 256) = true) : (Txt.split x y).map tl = spl (tl y) 0 [] (tl x) := split_spl x y hy (kind_ok h)
theorem spl_le (S : List Nat) : ∀ (L : List Nat) (k : Nat) (acc : List Nat), ∀ w ∈ spl S k acc L, w.length ≤ acc.length + L.length
  | [], k, acc, w, h => by
    rw [spl_nil] at h
    rw [List.mem_singleton.mp h]; exact Nat.le_add_right _ _
  | c :: r, 0, acc, w, h => by
    cases hp : pre S (c :: r) with
    | true =>
      rw [spl_hit hp] at h
      rcases List.mem_cons.mp h with rfl | h
      · exact Nat.le_add_right _ _
      · have := spl_le S r _ [] w h
        simp only [List.length_nil, List.length_cons] at this ⊢
        omega
    | false =>
      rw [spl_miss hp] at h
      have := spl_le S r 0 _ w h
      simp only [List.length_append, List.length_cons, List.length_nil] at this ⊢
      omega
  | c :: r, k + 1, acc, w, h => by
    have := spl_le S r k acc w h
    simp only [List.length_cons] at this ⊢
    omega
theorem spl_count (S : List Nat) : ∀ (L : List Nat) (k : Nat) (acc : List Nat), (spl S k acc L).length ≤ L.length + 1
  | [], k, acc => by rw [spl_nil]; exact Nat.le_refl _
  | c :: r, 0, acc => by
    cases hp : pre S (c :: r) with
    | true =>
      rw [spl_hit hp]
      have := spl_count S r (S.length - 1) []
      simp only [List.length_cons] at this ⊢
      omega
    | false =>
      rw [spl_miss hp]
      have := spl_count S r 0 (acc ++ [c])
      simp only [List.length_cons] at this ⊢
      omega
  | c :: r, k + 1, acc => by
    have := spl_count S r k acc
    simp only [List.length_cons] at this ⊢
    show (spl S k acc r).length ≤ _
    omega
theorem split_count (x : Str) {y : Str} (hy : tl y ≠ []) (h : y.cps.all (· < 256) = true) : (Txt.split x y).length ≤ x.length + 1 := by
  have e := congrArg List.length (split_tl x hy h)
  rw [List.length_map] at e
  rw [e, len_tl]
  exact spl_count _ _ _ _
theorem split_le (x : Str) {y : Str} (hy : tl y ≠ []) (h : y.cps.all (· < 256) = true) {w : Str} (hw : w ∈ Txt.split x y) : w.length ≤ x.length := by
  have e := split_tl x hy h
  have m : tl w ∈ spl (tl y) 0 [] (tl x) := by rw [← e]; exact List.mem_map_of_mem hw
  have := spl_le _ _ _ _ _ m
  rw [len_tl w, len_tl x]
  simpa using this
/-- two parts -/
theorem two_split (x : Str) {y : Str} (hy : tl y ≠ []) (h : y.cps.all (· < 256) = true) :
    (∀ a b, two (tl y) (tl x) = some (a, b) → Txt.split x y = [ofL a, ofL b]) ∧ (two (tl y) (tl x) = none → (Txt.split x y).length ≠ 2) := by
  have e := split_tl x hy h
  constructor
  · intro a b hab
    unfold two at hab
    rw [← e] at hab
    generalize Txt.split x y = ws at *
    match ws, hab with
    | [u, v], hab =>
      simp only [List.map_cons, List.map_nil, Option.some.injEq, Prod.mk.injEq] at hab
      rw [← hab.1, ← hab.2, ofL_tl, ofL_tl]
    | [], hab => cases hab
    | [_], hab => cases hab
    | _ :: _ :: _ :: _, hab => cases hab
  · intro hn hl
    unfold two at hn
    rw [← e] at hn
    match hw : Txt.split x y, hl with
    | [u, v], _ => rw [hw] at hn; cases hn
theorem two_le {S x a b : List Nat} (h : two S x = some (a, b)) : a.length ≤ x.length ∧ b.length ≤ x.length := by
  unfold two at h
  have q := spl_le S x 0 []
  generalize spl S 0 [] x = ws at *
  match ws, h with
  | [u, v], h =>
    cases h
    have h1 := q a (by simp)
    have h2 := q b (by simp)
    simp at h1 h2
    exact ⟨h1, h2⟩
/-- the text that a number's signs are, read by int -/
theorem int_read {z : Str} {i : Int} (h : rdNum (tl z) = some i) : PySem.intText? z = some i ∧ z.length ≤ 16 := by
  unfold rdNum at h
  by_cases h1 : figsOf (tl z) = [] ∨ 15 < (figsOf (tl z)).length ∨ ((figsOf (tl z)).head? = some 48 ∧ tl z ≠ [48])
  · rw [if_pos h1] at h; cases h
  · rw [if_neg h1] at h
    by_cases h2 : (figsOf (tl z)).all isFig = true
    · rw [if_pos h2] at h
      have hv := Option.some.inj h
      have hd := allDigits_iff.mp h2
      have hne : figsOf (tl z) ≠ [] := fun e => h1 (.inl e)
      have hlen : (figsOf (tl z)).length ≤ 15 := by
        rcases Nat.lt_or_ge 15 (figsOf (tl z)).length with q | q
        · exact absurd (.inr (.inl q)) h1
        · exact q
      unfold valOf at hv
      unfold figsOf at hd hne hlen
      by_cases hm : (tl z).head? = some 45
      · rw [if_pos hm] at hv hd hne hlen
        cases hz : tl z with
        | nil => rw [hz] at hm; cases hm
        | cons c r =>
          rw [hz] at hm hv hd hne hlen
          have hc : c = 45 := by simpa using hm
          subst hc
          have hl16 : z.length ≤ 16 := by rw [len_tl, hz, List.length_cons]; simpa using hlen
          exact ⟨by rw [← hv]; exact intText_neg hz hd hne (by omega), hl16⟩
      · rw [if_neg hm] at hv hd hne hlen
        have hl15 : z.length ≤ 15 := by rw [len_tl]; exact hlen
        exact ⟨by rw [← hv]; exact intText_digits hd hne (by omega), by omega⟩
    · rw [if_neg h2] at h; cases h
theorem rdNum_no {l : List Nat} (h : figsOf l = [] ∨ 15 < (figsOf l).length ∨ ((figsOf l).head? = some 48 ∧ l ≠ [48])) : rdNum l = none := if_pos h
theorem rdNum_bad {l : List Nat} {c : Nat} (h : c ∈ figsOf l) (hc : isFig c = false) : rdNum l = none := by
  unfold rdNum
  split
  · rfl
  · rw [if_neg]
    intro q
    rw [List.all_eq_true.mp q c h] at hc
    cases hc
theorem rdNum_yes {l : List Nat} (h1 : ¬ figsOf l = []) (h2 : ¬ 15 < (figsOf l).length) (h3 : ¬ ((figsOf l).head? = some 48 ∧ l ≠ [48])) (h : (figsOf l).all isFig = true) : rdNum l = some (valOf l) := by
  unfold rdNum
  rw [if_neg (fun z => z.elim h1 fun z => z.elim h2 h3), if_pos h]
theorem figs_le (l : List Nat) : (figsOf l).length ≤ l.length := by
  unfold figsOf
  split
  · rw [List.length_tail]; omega
  · exact Nat.le_refl _
/-! ### what has been read so far -/
theorem mapO_app {α β : Type} {f : α → Option β} {a : α} {b : β} : ∀ {l : List α} {bs : List β}, mapO f l = some bs → f a = some b → mapO f (l ++ [a]) = some (bs ++ [b])
  | [], bs, h, ha => by
    cases h
    show (match f a, some [] with | some b, some bs => some (b :: bs) | _, _ => none) = _
    rw [ha]; rfl
  | c :: r, bs, h, ha => by
    show (match f c, mapO f (r ++ [a]) with | some b, some bs => some (b :: bs) | _, _ => none) = _
    have h' : (match f c, mapO f r with | some b, some bs => some (b :: bs) | _, _ => none) = some bs := h
    cases hc : f c with
    | none => rw [hc] at h'; cases h'
    | some d =>
      cases hr : mapO f r with
      | none => rw [hc, hr] at h'; cases h'
      | some ds =>
        rw [hc, hr] at h'
        cases h'
        rw [mapO_app hr ha]
        rfl
theorem mapO_take {α β : Type} {f : α → Option β} {a : α} {b : β} {l : List α} {bs : List β} {i : Nat} (h : mapO f (l.take i) = some bs) (hi : l[i]? = some a) (ha : f a = some b) : mapO f (l.take (i + 1)) = some (bs ++ [b]) := by
  rw [List.take_add_one, hi]; exact mapO_app h ha
theorem mapO_len {α β : Type} {f : α → Option β} : ∀ {l : List α} {bs : List β}, mapO f l = some bs → bs.length = l.length
  | [], bs, h => by cases h; rfl
  | c :: r, bs, h => by
    have h' : (match f c, mapO f r with | some b, some bs => some (b :: bs) | _, _ => none) = some bs := h
    cases hc : f c with
    | none => rw [hc] at h'; cases h'
    | some d =>
      cases hr : mapO f r with
      | none => rw [hc, hr] at h'; cases h'
      | some ds =>
        rw [hc, hr] at h'
        cases h'
        rw [List.length_cons, List.length_cons, mapO_len hr]
section
variable {ex : Addr → Prop} {K : PySem.W.Frag} {H : Hp} {Q : VK} {z : Str} {p : Addr} {xs : List V} {y : V} {i : Int} {c : Nat} {lo hi : Option Int}
theorem r_sl_s (h : z.length ≤ 1000000) (q : Q (.str (cutS z lo hi)) H) : rSl2 K (.str z) lo hi H Q := .inr (.inr ⟨z, rfl, million h, q⟩)
theorem r_ix_s {n : Nat} {j : Int} (h : z.length ≤ 1000000) (e : j = (n : Int)) (hc : z.cps.toList[n]? = some c) (q : Q (.str ⟨#[c]⟩) H) : rIx K (.str z) (.int j) H Q := by
  subst e
  exact .inr (.inr ⟨z, _, c, rfl, rfl, million h, atI_nat hc, q⟩)
theorem r_int_s (h : rdNum (tl z) = some i) (q : Q (.int i) H) : rInt2 [.str z] H Q := .inr ⟨z, i, rfl, (int_read h).1, Nat.le_trans (int_read h).2 (by decide), q⟩
theorem r_append (h : H p = some (.lst xs)) (hl : xs.length ≤ 10000000) (q : Q .non (upd H p (.lst (xs ++ [y])))) : rAppend (.ref p) [y] H Q := ⟨p, xs, y, rfl, rfl, h, Nat.lt_of_le_of_lt hl (by decide), q⟩
theorem r_tupL (h : H p = some (.lst xs)) (q : ∀ l H', H l = none → Kp No H H' → H' l = some (.tup xs) → Q (.ref l) H') : rTupOf K [.ref p] H Q :=
  ⟨p, xs, rfl, .inl ⟨SqL.of h, fun l hn => q l _ hn (Kp.new Kp.refl hn) upd_same⟩⟩
end
/-! ### data against a text; methods of lists -/
def isSD (z : Str) : PyData → Bool | .str x => decide (x = z) | _ => false
/-- data that == takes -/
def cmpD : PyData → Bool | .list xs => SeqAt.shaped (.list xs) | .tuple xs => SeqAt.shaped (.tuple xs) | .dict _ => false | _ => true
section
variable {ex : Addr → Prop} {K : PySem.W.Frag} {σ : L2.St} {H : Hp} {Q : VK} {z : Str} {p : Addr} {xs : List V} {v y : V} {d : PyData} {to : TE} {t : TA} {r : V → List V → Hp → VK → Prop}
theorem r_ne_ds (h : Dat ex H v d) (hc : cmpD d = true) (hz : SeqAt.shaped (.str z) = true) (q : Q (.bl (!isSD z d)) H) : rNe2 K v (.str z) H Q := by
  cases h with
  | non => exact .inl ⟨rfl, by have e : decide (V.non = V.str z) = false := decide_eq_false (by simp); rw [e]; exact q⟩
  | bl b => exact .inl ⟨rfl, by have e : decide (V.bl b = V.str z) = false := decide_eq_false (by simp); rw [e]; exact q⟩
  | int i => exact .inl ⟨rfl, by have e : decide (V.int i = V.str z) = false := decide_eq_false (by simp); rw [e]; exact q⟩
  | str x hx => exact r_ne_ss q
  | tup e r => exact .inr (.inl ⟨_, _, Dat.dp (.tup e r), .str z, hc, hz, by
      have e2 : ∀ ds : List PyData, PyData.eqv (.tuple ds) (.str z) = false := fun ds => by simp [PyData.eqv]
      rw [e2]; exact q⟩)
  | lst n e r => exact .inr (.inl ⟨_, _, Dat.dp (.lst n e r), .str z, hc, hz, by
      have e2 : ∀ ds : List PyData, PyData.eqv (.list ds) (.str z) = false := fun ds => by simp [PyData.eqv]
      rw [e2]; exact q⟩)
theorem r_bm (h : to σ H fun x H1 => tyV K "list" x H1 ∧ t σ H1 fun xs H2 => r x xs H2 Q) : tBM K "list" r to t σ H Q := h
theorem r_bm0 (h : to σ H fun x H1 => tyV K "list" x H1 ∧ r x [] H1 Q) : tBM0 K "list" r to σ H Q := h
theorem r_tyL {R : Prop} (e : H p = some (.lst xs)) (h : R) : tyV K "list" (.ref p) H ∧ R := ⟨.inl ⟨rfl, xs, SqL.of e⟩, h⟩
end
theorem Kp.app {H : Hp} {p : Addr} {xs ys : List V} (h : H p = some (.lst xs)) : Kp All H (upd H p (.lst ys)) := Kp.mut Kp.refl trivial h rfl
theorem Kp.all {ex : Addr → Prop} {H H' : Hp} (k : Kp ex H H') : Kp All H H' := k.mono fun _ _ => trivial
theorem Dat.all {ex : Addr → Prop} {H H' : Hp} {v : V} {d : PyData} (h : Dat All H v d) (k : Kp ex H H') : Dat All H' v d := h.kp k.all
theorem Dats.all {ex : Addr → Prop} {H H' : Hp} {v : List V} {d : List PyData} (h : Dats All H v d) (k : Kp ex H H') : Dats All H' v d := h.kp k.all
theorem isFig_iff {d : Nat} : d ∈ (Str.ofString "0123456789").cps.toList ↔ isFig d = true := by
  have e : (Str.ofString "0123456789").cps.toList = [48, 49, 50, 51, 52, 53, 54, 55, 56, 57] := by decide +kernel
  rw [e]
  unfold isFig
  simp only [List.mem_cons, List.not_mem_nil, or_false, decide_eq_true_eq]
  omega
/-- a text compared with one that is known -/
theorem eq_lit {x y : Str} {l : List Nat} (e : tl y = l) : decide (x = y) = decide (tl x = l) := by rw [dec_tl, e]
theorem r_len_ss {K : PySem.W.Frag} {H : Hp} {Q : VK} {y : Str} (h : y.length ≤ 1000000) (q : Q (.int y.length) H) : rLen K [.str y] H Q := ⟨_, _, rfl, ⟨million h, rfl⟩, q⟩
/-- what comes of a term is known first, then used -/
theorem via {te : TE} {σ : L2.St} {H : Hp} {Z : VK} (S : VK) (h1 : ∀ Z' : VK, (∀ v H1, S v H1 → Z' v H1) → te σ H Z') (h2 : ∀ v H1, S v H1 → Z v H1) : te σ H Z := h1 Z h2
theorem viaI {Z S : VK} {R : VK → Prop} (h1 : ∀ Z' : VK, (∀ v H1, S v H1 → Z' v H1) → R Z') (h2 : ∀ v H1, S v H1 → Z v H1) : R Z := h1 Z h2
/-! ### ends of spans: None or an int -/
def EV : Option Int → V
  | none => .non
  | some i => .int i
def ED : Option Int → PyData
  | none => .none
  | some i => .int i
theorem Dat.edI {ex : Addr → Prop} {H : Hp} {y : V} {c : Option Int} (h : Dat ex H y (ED c)) : y = EV c := by
  cases c with
  | none => cases h; rfl
  | some i => cases h; rfl
theorem Dat.ed {ex : Addr → Prop} {H : Hp} (c : Option Int) : Dat ex H (EV c) (ED c) := by
  cases c with
  | none => exact .non
  | some i => exact .int i
theorem br_iN {i : Int} {A B : Prop} [Decidable (V.int i = V.non)] (h : B) : if decide (V.int i = V.non) = true then A else B := iteF' (by simp) h
where iteF' {b : Bool} {A B : Prop} (e : b = false) (h : B) : if b = true then A else B := by rw [e]; exact iteF h
theorem br_nN {i : Int} {A B : Prop} [Decidable (V.int i = V.non)] (h : A) : if (!decide (V.int i = V.non)) = true then A else B := r_iteT (by simp) h
theorem br_iNN {A B : Prop} [Decidable (V.non = V.non)] (h : A) : if decide (V.non = V.non) = true then A else B := r_iteT (by simp) h
theorem br_nNN {A B : Prop} [Decidable (V.non = V.non)] (h : B) : if (!decide (V.non = V.non)) = true then A else B := r_iteF (by simp) h
/-! min, max, abs -/
def rMin2 : List V → Hp → VK → Prop := fun xs H Q => ∃ i j, xs = [.int i, .int j] ∧ Q (.int (if j < i then j else i)) H
def rMax2 : List V → Hp → VK → Prop := fun xs H Q => ∃ i j, xs = [.int i, .int j] ∧ Q (.int (if j > i then j else i)) H
def rAbs : List V → Hp → VK → Prop := fun xs H Q => ∃ i : Int, xs = [.int i] ∧ Q (.int (if i < 0 then -i else i)) H
theorem cr_min2 {X : Cx} (hc : X.calm = true) : CallR X (.builtin "min") rMin2 := call_min2 hc
theorem cr_max2 {X : Cx} (hc : X.calm = true) : CallR X (.builtin "max") rMax2 := call_max2 hc
theorem cr_abs {X : Cx} : CallR X (.builtin "abs") rAbs := call_abs
section
variable {H : Hp} {Q : VK} {i j : Int}
theorem r_min2 (h : Q (.int (min i j)) H) : rMin2 [.int i, .int j] H Q := ⟨i, j, rfl, by
  have e : (if j < i then j else i) = min i j := by rw [Int.min_def]; split <;> split <;> omega
  rw [e]; exact h⟩
theorem r_max2 (h : Q (.int (max i j)) H) : rMax2 [.int i, .int j] H Q := ⟨i, j, rfl, by
  have e : (if j > i then j else i) = max i j := by rw [Int.max_def]; split <;> split <;> omega
  rw [e]; exact h⟩
theorem r_abs (h : Q (.int (i.natAbs : Int)) H) : rAbs [.int i] H Q := ⟨i, rfl, by
  have e : (if i < 0 then -i else i) = (i.natAbs : Int) := by split <;> omega
  rw [e]; exact h⟩
end
theorem fin_i {ex : Addr → Prop} {Q : VK} {H H' : Hp} {a b : Int} (k : ∀ H', Kp ex H H' → Q (.int a) H') (e : a = b) (h : Kp ex H H') : Q (.int b) H' := by
  rw [← e]; exact k _ h
theorem exm_own {K : PySem.W.Frag} {mg : Str → Option Value} {x : Str} {C : Addr} (e : ExcC K mg x C) : PySem.W.exmOne K (.ref C) (.ref C) = some true := by
  unfold PySem.W.exmOne
  rw [e.bC, if_pos (by rfl)]
  have i := e.iC
  have t := e.tC
  unfold PySem.W.isClsIn at i
  unfold PySem.W.kitCls
  simp [i, t, e.sC]
end NB

/-! ND: dicts: written, read, walked while locked. -/
namespace NB
open PySem PySem.Spec PyProof.Rows L2 TL
section
variable {ex : Addr → Prop} {K : PySem.W.Frag} {σ : L2.St} {H H' H1 : Hp} {D : Ends} {Q : VK} {te td ty tv : TE} {tb : TS} {g : TG} {a d q : Addr} {o : Obj} {kvs : List (Key × V)} {k : Key} {v x y : V} {u : HO}
def kS (f : Str) : Key := Sum.inr f
theorem r_dnewK (h : ∀ p H', H p = none → Kp No H H' → H' p = some (.dK []) → Q (.ref p) H') : tDNewK σ H Q := fun p hp => h p _ hp (Kp.new Kp.refl hp) upd_same
def RDGet (Q : VK) (x y : V) (H : Hp) : Prop := ∃ a v, x = .ref a ∧ DGet H a y (some v) ∧ Q v H
def RDNin (Q : VK) (x y : V) (H : Hp) : Prop := ∃ a o, x = .ref a ∧ DGet H a y o ∧ Q (.bl (!o.isSome)) H
def RDIn (Q : VK) (x y : V) (H : Hp) : Prop := ∃ a o, x = .ref a ∧ DGet H a y o ∧ Q (.bl o.isSome) H
theorem r_dget (h : td σ H fun x H1 => ty σ H1 fun y H2 => RDGet Q x y H2) : tDGet td ty σ H Q := h
theorem r_dgetS {f : Str} (h : Rd H a (.dK kvs)) (e : valV kvs (kS f) = some v) (q : Q v H) : RDGet Q (.ref a) (.str f) H := ⟨a, v, rfl, .inl ⟨kvs, kS f, h, rfl, e.symm⟩, q⟩
theorem r_dnin (h : ty σ H fun y H1 => td σ H1 fun x H2 => RDNin Q x y H2) : tDNotIn ty td σ H Q := h
theorem r_din (h : ty σ H fun y H1 => td σ H1 fun x H2 => RDIn Q x y H2) : tDIn ty td σ H Q := h
theorem r_dninS {f : Str} (h : Rd H a (.dK kvs)) (q : Q (.bl (!(valV kvs (kS f)).isSome)) H) : RDNin Q (.ref a) (.str f) H := ⟨a, _, rfl, .inl ⟨kvs, kS f, h, rfl, rfl⟩, q⟩
theorem r_dinS {f : Str} (h : Rd H a (.dK kvs)) (q : Q (.bl (valV kvs (kS f)).isSome) H) : RDIn Q (.ref a) (.str f) H := ⟨a, _, rfl, .inl ⟨kvs, kS f, h, rfl, rfl⟩, q⟩
theorem r_dput (h : tv σ H fun v H1 => td σ H1 fun x H2 => ty σ H2 fun y H3 => ∃ a H4, x = .ref a ∧ DPut H3 a y v H4 ∧ D.nx σ H4) : sDPut td ty tv D σ H := h
theorem r_dputS {f : Str} (h : H a = some (.dK kvs)) (hl : kvs.length ≤ 100000) (q : D.nx σ (upd H a (.dK (putK kvs (kS f) v)))) : ∃ b H4, V.ref a = .ref b ∧ DPut H b (.str f) v H4 ∧ D.nx σ H4 :=
  ⟨a, _, rfl, DPut.k (k := kS f) h (Nat.lt_of_le_of_lt hl (by decide)), q⟩
/-- what a lock asks -/
theorem r_lock {t : TS} (h : H d = some u) (m : Mut (some u)) (k : ∀ od, t ⟨fun σ' H' => H' d = some (.frz od u) ∧ D.nx σ' (upd H' d u), fun v H' => H' d = some (.frz od u) ∧ D.rt v (upd H' d u), fun σ' H' => H' d = some (.frz od u) ∧ D.bk σ' (upd H' d u), fun σ' H' => H' d = some (.frz od u) ∧ D.ct σ' (upd H' d u)⟩ σ (upd H d (.frz od u))) : tLock t D σ H := ⟨d, u, h, m, k⟩
theorem Kp.unlock (h : H d = some u) (k : Kp ex (upd H d (.frz o u)) H') : Kp ex H (upd H' d u) := fun a w e z => by
  by_cases q : a = d
  · subst q
    rw [h] at e
    cases e
    exact upd_same
  · rw [upd_ne q]
    exact k a w (by rw [upd_ne q]; exact e) z
theorem Kp.lock (h : H d = some u) (k : Kp ex H H1) (n : ¬ ex d ∨ isTup u = true) : Kp ex (upd H d (.frz o u)) (upd H1 d (.frz o u)) := fun a w e z => by
  by_cases q : a = d
  · subst q
    rw [upd_same] at e ⊢
    exact e
  · rw [upd_ne q] at e ⊢
    exact k a w e z
def LpI (g : TG) (tb : TS) (D : Ends) (σ : L2.St) (x : V) (H1 : Hp) : Prop := ∃ d o kvs, x = .ref d ∧ H1 d = some (.frz o (.dK kvs)) ∧ LpW (Iti d o kvs) g tb D σ H1
theorem r_forI (h : te σ H (LpI g tb D σ)) : tFor (iItems te) g tb D σ H := h
theorem lpI (Pv : Nat → L2.St → Hp → Prop) (hd0 : H1 d = some (.frz o (.dK kvs))) (h0 : Pv 0 σ H1) (hG : ∀ i σ' H', Pv i σ' H' → H' d = some (.frz o (.dK kvs)))
    (hs : ∀ i k v q σ' H', kvs[i]? = some (k, v) → Pv i σ' H' → H' q = none → g (.ref q) σ' (upd H' q (.tup [kV k, v])) fun σ2 H2 => tb { D with nx := Pv (i + 1), ct := Pv (i + 1), bk := D.nx } σ2 H2)
    (hd : ∀ σ' H', Pv kvs.length σ' H' → D.nx σ' H') : LpI g tb D σ (.ref d) H1 :=
  ⟨d, o, kvs, rfl, hd0, for_it (walk_items (d := d) (o := o) (kvs := kvs)) Pv h0 (fun i σ' H' _ p => hG i σ' H' p) (fun i x σ' H' H'' hi p y => by
    obtain ⟨q, a, b, rfl, hq, rfl, e1, e2⟩ := y
    have e1 : kvs[i]?.map (fun kv => kV kv.1) = some a := e1
    have e2 : kvs[i]?.map Prod.snd = some b := e2
    cases e : kvs[i]? with
    | none => rw [e] at e1; cases e1
    | some kv =>
      rw [e] at e1 e2
      have e1' := Option.some.inj e1
      have e2' := Option.some.inj e2
      subst e1' e2'
      exact hs i kv.1 kv.2 q σ' H' e p hq) hd⟩
/-- sorted(d), its keys texts -/
def rSortD : List V → Hp → VK → Prop := fun xs H Q => ∃ (a : Addr) (kvs : List (Key × V)) (ks : List Str), xs = [.ref a] ∧ Rd H a (.dK kvs) ∧ kvs.map (·.1) = ks.map Sum.inr ∧ ks.length < 64 ∧
    ∀ ys p, ys.Perm ks → sortedS ys = true → H p = none → Q (.ref p) (upd H p (.lst (ys.map V.str)))
theorem cr_sortD {X : Cx} (hc : X.calm = true) : CallR X (.builtin "sorted") rSortD := call_sortedD hc
end
theorem ne_of_tup {H : Hp} {a b : Addr} {xs : List V} {kvs : List (Key × V)} (h : H a = some (.tup xs)) (h2 : H b = some (.dK kvs)) : a ≠ b := fun z => by
  subst z; rw [h] at h2; cases h2
theorem r_sortD1 {H : Hp} {Q : VK} {a : Addr} {f : Str} {v : V} (h : Rd H a (.dK [(kS f, v)])) (q : ∀ l H', H l = none → Kp No H H' → H' l = some (.lst [.str f]) → Q (.ref l) H') : rSortD [.ref a] H Q :=
  ⟨a, _, [f], rfl, h, rfl, Nat.lt_of_sub_pos (by simp), fun ys p hp _ hn => by
    obtain rfl := List.perm_singleton.mp hp
    exact q p _ hn (Kp.new Kp.refl hn) upd_same⟩
end NB

/-! NS: set(list of texts), sorted(set of texts). -/
namespace NB
open PySem PySem.Spec PyProof.Rows L2 PySem.Froz

/-- a set's payload: the texts l, each once; its table can be walked -/
structure TxSet (P : Program) (w : World) (D : SD) (l : List Str) : Prop where
  ok : TxOk P w D l
  ris : Ris D.2.2.place.toList
  led : w.params.followText "set-order" = true ∨ D.2.2.led = true
  nd : l.Nodup
section
variable {P : Program} {w : World} {A : Around} {E : Value → Shared → Prop} {s : Shared}
theorem tail_ris {ep : Nat} {es1 : Array (Int × Value)} {t2 : SetTable} {b : Bool} (hr : Ris t2.place.toList) : Ris (tailTx ep es1 t2 b).2.2.place.toList := by
  unfold tailTx
  split
  · exact relayAll_ris _ _ _
  · exact hr
theorem tail_led {ep : Nat} {es1 : Array (Int × Value)} {t2 : SetTable} {b : Bool} : (tailTx ep es1 t2 b).2.2.led = t2.led := by
  unfold tailTx
  split
  · exact relayAll_led _ _ _
  · rfl
theorem TxSet.add {D : SD} {l : List Str} {k : Str} (u : Tok) (F : TxSet P w D l) (hk : k ∉ l) : TxSet P w (addTx (hashStr w k) (.str k u) D) (k :: l) where
  ok := add_ok u F.ok
  ris := by
    have q := layNew_ris D.2.2 D.1 (hashStr w k) (.str k u) F.ris
    unfold addTx
    refine tail_ris ?_
    split <;> exact q
  led := by
    have q := layNew_led D.2.2 D.1 (hashStr w k) (.str k u)
    refine F.led.imp id fun z => ?_
    unfold addTx
    rw [tail_led]
    split <;> (show (layNew D.2.2 D.1 (hashStr w k) (.str k u)).2.1.led = true; rw [q]; exact z)
  nd := List.nodup_cons.mpr ⟨hk, F.nd⟩
/-- a member is added again -/
theorem same_x {a : Addr} {D : SD} {l : List Str} {k : Str} {u : Tok} {Q : Bool → Shared → Prop} (at_a : s.heap.get? a = some (sObj "set" D)) (F : TxOk P w D l) (mem : k ∈ l) (few : l.length < scanBound)
    (post : Q false s) : wpAny (model P w) A (setAddHashed a (.str k u) (hashStr w k)) Q E s := by
  obtain ⟨rows, era, tab⟩ := D
  have dt : (sObj "set" (rows, era, tab)).data = .set rows era tab := rfl
  have ft : tab.fits rows.size = true := F.fit
  have els : ElemsOf (strKind P w) rows.toList := F.el
  have cnt : rows.size = l.length := F.sz
  have is : (strKind P w).is k (.str k u) = true := is_str k u
  unfold setAddHashed setAddHashedIn
  refine wpAny_holding (wpAny_bind (wpAny_setState_of at_a dt ft ?_))
  dsimp only
  rw [byScan_of rfl (by omega) els]
  simp only [↓reduceIte]
  unfold setAddByScan
  refine wpAny_bind (wpAny_bind (wpAny_rule (wpAny_bind (wpAny_setScan_of (knd := strKind P w) (k := k) is at_a dt ft els ?_))))
  cases where_ : List.findIdx? (fun e => (strKind P w).is k e.2) rows.toList with
  | some j =>
    dsimp only
    exact wpAny_pure (wpAny_pure post)
  | none =>
    obtain ⟨e, he, q⟩ := (F.mem k).mp mem
    have z := List.findIdx?_eq_none_iff.mp where_ e he
    rw [q] at z
    cases z
/-- behind i of the texts xs -/
def TxGot (P : Program) (w : World) (h : Heap) (a : Addr) (xs : List Str) : Prop := ∃ D l, h.get? a = some (sObj "set" D) ∧ TxSet P w D l ∧ (∀ k, k ∈ l ↔ k ∈ xs) ∧ l.length ≤ xs.length
theorem TxGot.at {h h' : Heap} {a : Addr} {xs : List Str} (g : TxGot P w h a xs) (k : ∀ o, h.get? a = some o → h'.get? a = some o) : TxGot P w h' a xs := by
  obtain ⟨D, l, e, r⟩ := g
  exact ⟨D, l, k _ e, r⟩
theorem TxGot.step {a : Addr} {xs : List Str} {z : Str} {u : Tok} {Q : Bool → Shared → Prop} (g : TxGot P w s.heap a xs) (few : xs.length + 1 < scanBound)
    (post : ∀ b h', Heap.SameBut a s.heap h' → TxGot P w h' a (xs ++ [z]) → Q b { s with heap := h' }) : wpAny (model P w) A (setAddHashed a (.str z u) (hashStr w z)) Q E s := by
  obtain ⟨D, l, e, F, m, le⟩ := g
  by_cases hz : z ∈ l
  · refine same_x e F.ok hz (by omega) ?_
    have q := post false s.heap (Heap.SameBut.refl a s.heap) ⟨D, l, e, F, fun k => ?_, by rw [List.length_append]; omega⟩
    · exact q
    · rw [m k, List.mem_append, List.mem_singleton]
      exact ⟨.inl, fun o => o.elim id fun o => by rw [o]; exact (m z).mp hz⟩
  · refine add_x e F.ok hz (by omega) (post true _ (Heap.SameBut.update s.heap a _) ⟨_, z :: l, get_upd _ e rfl, F.add u hz, fun k => ?_, by simp only [List.length_cons, List.length_append, List.length_nil]; omega⟩)
    rw [List.mem_cons, m k, List.mem_append, List.mem_singleton]
    exact Or.comm
theorem setLoopTx {it : Addr} {fp wr : List Addr} {G : Array GenState → Array GenState → Prop} {n : Nat} {Pv : Nat → Value → Prop} {St : Nat → Shared → Prop} {R : Result → Shared → Prop}
    (W : WalksS P w A.in1 it fp wr G n Pv St) (a : Addr) (off : a ∉ fp) (xs : List Str) (hn : n = xs.length) (few : xs.length + 1 < scanBound) (val : ∀ i v, Pv i v → ∃ z t, xs[i]? = some z ∧ v = .str z t) :
    ∀ (left i : Nat) (s : Shared), n - i = left → i ≤ n → St i s → TxGot P w s.heap a (xs.take i) →
      (∀ s', Moved (a :: wr) G s s' → TxGot P w s'.heap a xs → R (.ok (.ret .none)) s') → codeAny (model P w) A (.builtin "set.update.loop" ⟨[.ref a, .ref it], []⟩) R s := by
  have offw : a ∉ wr := fun m => off (W.sub _ m)
  have more : ∀ b ∈ wr, b ∈ a :: wr := fun b m => List.mem_cons_of_mem _ m
  intro left
  induction left with
  | zero =>
    intro i s hl hi st g post
    obtain rfl : i = n := by omega
    rw [List.take_of_length_le (by omega)] at g
    refine codeAny_builtin F.entry_set_update_loop ?_
    rw [Around.under_plainId F.plain_set_update_loop _]
    show wpAny _ A.in1 (pyNext (.ref it) >>= _) _ _ s
    refine wpAny_bind (W.done s _ _ st fun s' mv => ?_)
    show wpAny _ A.in1 (ret Value.none) _ _ s'
    exact wpAny_pure (post s' (mv.mono more) (g.at fun o e => mv.heap a o offw e))
  | succ left ih =>
    intro i s hl hi st g post
    have lt : i < n := by omega
    refine codeAny_builtin F.entry_set_update_loop ?_
    rw [Around.under_plainId F.plain_set_update_loop _]
    show wpAny _ A.in1 (pyNext (.ref it) >>= _) _ _ s
    refine wpAny_bind (W.item i s _ _ lt st fun v s' pv st' mv => ?_)
    obtain ⟨z, t, hz, rfl⟩ := val i v pv
    have g' := g.at fun o e => mv.heap a o offw e
    show wpAny _ A.in1 (holding [Value.str z t] (setAdd a (.str z t)) >>= _) _ _ s'
    refine wpAny_bind (wpAny_holding ?_)
    unfold setAdd
    refine wpAny_holding (wpAny_bind ((strKind P w).pyHash (k := z) (is_str _ _) ?_))
    refine TxGot.step (s := { s' with toks := s'.toks + 1 }) g' (by rw [List.length_take]; omega) fun b h' sb g2 => ?_
    have g3 : TxGot P w h' a (xs.take (i + 1)) := by rw [List.take_add_one, hz]; exact g2
    refine wpAny_pure ⟨plainId_quiet F.plain_set_update_loop _, ih (i + 1) _ (by omega) lt (W.frame _ s' _ _ st' (Nat.le_succ _) fun b hb o e => ?_) g3 fun s'' mv2 g4 => post s'' (Moved.trans W.gtrans ((mv.mono more).then_heap (Nat.le_succ _) fun b o hb e => ?_) mv2) g4⟩
    · rw [sb.2 b fun q => off (q ▸ hb)]; exact e
    · rw [sb.2 b fun q => hb (by rw [q]; exact List.mem_cons_self)]; exact e
/-- what set() lays -/
abbrev set0 (w : World) : Obj := { cls := .type "set", dict := none, data := .set #[] 0 (.fresh 0 0 (!w.params.followText "set-order")) }
theorem got0 {h : Heap} {a : Addr} {xs : List Str} (e : h.get? a = some (set0 w)) : TxGot P w h a (xs.take 0) := by
  refine ⟨(#[], 0, .fresh 0 0 (!w.params.followText "set-order")), [], e, ⟨TxOk.nil (by rfl), List.Pairwise.nil, ?_, List.nodup_nil⟩, fun k => by simp, by simp⟩
  show _ ∨ (!w.params.followText "set-order") = true
  cases w.params.followText "set-order"
  · exact .inr rfl
  · exact .inl rfl
end
section
variable {P : Program} {w : World} {A : Around} {E : Value → Shared → Prop} {s : Shared}
set_option maxHeartbeats 8000000 in
/-- set(l), l a list of texts -/
theorem callSetTx {l : Addr} {items : Array Value} (xs : List Str) {Q : Value → Shared → Prop} (calm : A.handled = none) (li : s.heap.IsList l items) (tx : StrsAre items.toList xs) (few : xs.length + 1 < scanBound)
    (post : ∀ h' tk, TxGot P w h' s.heap.objs.size xs → (∀ b o, s.heap.get? b = some o → h'.get? b = some o) → Q (.ref s.heap.objs.size) { s with heap := h', toks := tk }) :
    wpAny (model P w) A (call (.type "set") [.ref l]) Q E s := by
  have sz : items.size = xs.length := by rw [← Array.length_toList]; exact StrsAre.length tx
  obtain ⟨cc, tl, hmro⟩ := F.called_set.mro
  have hmade := F.called_set.made
  have hsub := F.called_set.sub
  refine wpAny_call (codeAny_of_tree ?_)
  show wpAny _ _ (callAny (.type "set") _) _ _ _
  refine wpAny_pure ⟨Code.quiet_builtin _ (by decide +kernel), codeAny_builtin F.entry_type_call ?_⟩
  rw [Around.under_plain (weight_type_call_type "set" [.ref l] []) rfl]
  have f1 := F.called_set.notType
  have f2 := F.called_set.canCreate
  have f3 := F.typeCall_set_1 (.ref l)
  repeat (any_goals (first | assumption | wp_step))
  refine codeAny_mono (code_set_led1 (.ref l) (E := E) (Q₁ := fun v t => v = .ref s.heap.objs.size ∧ t = { s with heap := s.heap.push (set0 w) }) ⟨rfl, rfl⟩) fun r t hr => ?_
  match r, hr with
  | .error _, hr => exact hr
  | .ok (.ret _), hr =>
    obtain ⟨rfl, rfl⟩ := hr
    have new : (s.heap.push (set0 w)).get? s.heap.objs.size = some (set0 w) := Heap.get?_push_size _ rfl
    have ty : Shared.TypeIs { s with heap := s.heap.push (set0 w) } (.ref s.heap.objs.size) "set" := ⟨_, new, rfl⟩
    have f4 := F.called_set.init.lookup
    have f5 := F.called_set.init.bind (.ref s.heap.objs.size)
    repeat (any_goals (first | assumption | wp_step))
    refine codeAny_mono (codeAny_call_builtin (R := wants (fun v t => v = .none ∧ ∃ h' tk, t = { s with heap := h', toks := tk } ∧ TxGot P w h' s.heap.objs.size xs ∧ (∀ b o, s.heap.get? b = some o → h'.get? b = some o)) E) F.called_set.init.plain F.entry_set_init (check_set_init_1 ty ?_)) fun r2 t2 hr2 => ?_
    · obtain ⟨ob, at_l, hcl, nl, hdl⟩ := li
      obtain ⟨oc, od, dta, osl⟩ := ob
      simp only at hcl hdl
      subst hcl hdl
      have at_l2 : (s.heap.push (set0 w)).get? l = some { cls := .type "list", dict := od, data := .seq items nl, slots := osl } := Heap.get?_push_of_some _ at_l
      have f6 := F.sub_list_set
      have f7 := F.sub_list_frozenset
      have f8 : (Value.type "list" == Value.type "dict") = false := by decide
      have li2 : (s.heap.push (set0 w)).IsList l items := ⟨_, at_l2, rfl, nl, rfl⟩
      unfold Builtin.«set.__init__» noKeywords Builtin.Frozenset.updateFrom
      generalize hPI : pyIter = PI
      wp_walk
      subst hPI
      refine wpAny_pyIter_list li2 (wpAny_bind (wpAny_runValue ?_))
      have lt_l : l < s.heap.objs.size := Heap.lt_size at_l
      have calm3 : A.in1.in1.in1.handled = none := by simp [calm]
      have ne1 : l ≠ (s.heap.push (set0 w)).objs.size := by rw [Heap.size_push]; exact Nat.ne_of_lt (Nat.lt_succ_of_lt lt_l)
      have off : s.heap.objs.size ∉ [(s.heap.push (set0 w)).objs.size, l] := by
        rw [Heap.size_push]
        intro m
        rcases List.mem_cons.mp m with e | m
        · exact absurd e (Nat.ne_of_lt (Nat.lt_succ_self _))
        · exact absurd (List.mem_singleton.mp m) (Nat.ne_of_gt lt_l)
      refine setLoopTx ((Walks.list calm3 _ l ne1 items).toS) s.heap.objs.size off xs sz few (fun i v hv => ?_) (items.size - 0) 0 _ (by omega) (Nat.zero_le _)
        ⟨⟨_, Heap.get?_push_size _ rfl, rfl, rfl⟩, li2.push _⟩ (got0 (Heap.get?_push_of_some _ new)) fun s' mv g => ?_
      · have hi : i < xs.length := by rw [← sz]; exact (Array.getElem?_eq_some_iff.mp hv).1
        obtain ⟨t, e⟩ := SS.strs_at tx i v (by rw [Array.getElem?_toList]; exact hv)
        refine ⟨xs[i], t, List.getElem?_eq_getElem hi, ?_⟩
        rw [e, List.getD_eq_getElem?_getD, List.getElem?_eq_getElem hi]
        rfl
      · obtain ⟨h', g1, d1, tk', os1⟩ := s'
        obtain rfl : g1 = s.gens := mv.gens
        obtain rfl : d1 = s.drawn := mv.drawn
        obtain rfl : os1 = s.os := mv.os
        show wpAny _ _ _ _ _ _
        refine wpAny_pure ?_
        show wpAny _ _ (ret Value.none) _ _ _
        refine wpAny_pure ⟨rfl, h', tk', rfl, g, fun b o e => ?_⟩
        have lt_b : b < s.heap.objs.size := Heap.lt_size e
        refine mv.heap b o (fun m => ?_) (Heap.get?_push_of_some _ (Heap.get?_push_of_some _ e))
        rcases List.mem_cons.mp m with q | m
        · exact Nat.ne_of_lt lt_b q
        · have q := List.mem_singleton.mp m
          rw [Heap.size_push] at q
          exact Nat.ne_of_lt (Nat.lt_succ_of_lt lt_b) q
    · match r2, hr2 with
      | .error _, hr2 => exact hr2
      | .ok (.ret _), hr2 =>
        obtain ⟨rfl, h', tk, rfl, g, kp⟩ := hr2
        repeat (any_goals (first | assumption | wp_step))
        exact post _ _ g kp
end
/-- the set of the texts xs at a -/
def TxO (P : Program) (w : World) (a : Addr) (xs : List Str) : HO := .ext fun h => TxGot P w h a xs
theorem txO_new {P : Program} {w : World} {H : Hp} {h : Heap} {a : Addr} {xs : List Str} (g : TxGot P w h a xs) : ObjOk P w H h a (TxO P w a xs) := by
  obtain ⟨D, l, e, r⟩ := id g
  exact ⟨g, ⟨_, e⟩, fun h1 h2 p k => TxGot.at p k⟩
def rSetOfS (K : PySem.W.Frag) (P : Program) (w : World) : List V → Hp → VK → Prop := fun vs H Q => ∃ (l : Addr) (xs : List Str), vs = [.ref l] ∧ SqL K H l (xs.map V.str) ∧ xs.length < 64 ∧ ∀ a, H a = none → Q (.ref a) (upd H a (TxO P w a xs))
def rSortedOfS (P : Program) (w : World) : List V → Hp → VK → Prop := fun vs H Q => ∃ (a : Addr) (xs : List Str), vs = [.ref a] ∧ H a = some (TxO P w a xs) ∧ xs.length < 64 ∧
  ∀ (l ys : List Str) (p : Addr), l.Nodup → (∀ k, k ∈ l ↔ k ∈ xs) → ys.Perm l → sortedS ys = true → H p = none → Q (.ref p) (upd H p (.lst (ys.map V.str)))
section
variable {X : Cx}
theorem cr_setOfS {K : PySem.W.Frag} {P : Program} {w : World} (hc : X.calm = true) (hK : X.K = K := by rfl) (hP : X.prog = P := by rfl) (hw : X.w = w := by rfl) : CallR X (.type "set") (rSetOfS K P w) := by
  subst hK hP hw
  intro pins s σ H vs us Q I r h
  obtain ⟨l, xs, rfl, hl, few, q⟩ := h
  rw [Vals.ref1 r]
  obtain ⟨its, rv, pl, hz⟩ := I.list hl
  have hn : H s.heap.objs.size = none := I.hok.fresh (Nat.le_refl _)
  refine callSetTx xs (I.ok.hd hc) pl.isList (by simpa using strsAre_of rv) (Nat.lt_trans (Nat.succ_lt_succ few) (by decide)) fun h' tk g k => ?_
  exact ⟨.ref s.heap.objs.size, upd H s.heap.objs.size (TxO X.prog X.w s.heap.objs.size xs), I.laid (t' := tk) k (Nat.le_refl _) (txO_new g), rfl, q _ hn⟩
def strV : Value → Str
  | .str k _ => k
  | _ => Str.empty
theorem strs_self : ∀ (vs : List Value), (∀ v ∈ vs, ∃ k t, v = Value.str k t) → StrsAre vs (vs.map strV)
  | [], _ => .nil
  | v :: vs, h => by
    obtain ⟨k, t, rfl⟩ := h v List.mem_cons_self
    exact .cons k t (strs_self vs fun u hu => h u (List.mem_cons_of_mem _ hu))
theorem nodup_of_more : ∀ (r l : List Str), l.Nodup → (∀ k ∈ l, k ∈ r) → r.length ≤ l.length → r.Nodup
  | [], _, _, _, _ => List.nodup_nil
  | a :: r, l, nd, sub, le => by
    by_cases h : a ∈ r
    · have q : l.length ≤ r.length := List.Nodup.length_le_of_subset nd fun k hk => (List.mem_cons.mp (sub k hk)).elim (fun e => e ▸ h) id
      rw [List.length_cons] at le
      omega
    · refine List.nodup_cons.mpr ⟨h, nodup_of_more r (l.erase a) (nd.erase a) (fun k hk => ?_) ?_⟩
      · obtain ⟨q1, q2⟩ := (List.Nodup.mem_erase_iff nd).mp hk
        exact (List.mem_cons.mp (sub k q2)).elim (fun e => absurd e q1) id
      · have q := List.length_erase (a := a) (l := l)
        rw [List.length_cons] at le
        rw [q]
        split <;> omega
theorem cr_sortedOfS {P : Program} {w : World} (hc : X.calm = true) (hP : X.prog = P := by rfl) (hw : X.w = w := by rfl) : CallR X (.builtin "sorted") (rSortedOfS P w) := by
  subst hP hw
  intro pins s σ H vs us Q I r h
  obtain ⟨a, xs, rfl, ha, few, q⟩ := h
  rw [Vals.ref1 r]
  obtain ⟨⟨rows, era, tab⟩, l, e, S, mem, le⟩ := (show TxGot X.prog X.w s.heap a xs from (I.hok a _ ha).1)
  have cnt : rows.size = l.length := S.ok.sz
  have sa : SetAt s.heap a rows era tab := ⟨_, e, rfl, rfl⟩
  refine Calls.call_function_entry PyProof.Rows.kind_sorted PyProof.Rows.plain_sorted PyProof.Rows.entry_sorted (PyProof.Rows.args_sorted1 _) ?_
  unfold Builtin.«sorted»
  refine wpAny_bind (m := checkCount "sorted" 1 1 _) (wpAny_pure ?_)
  refine wpAny_bind (collect_set (A := X.A.in1) (I.ok.hd hc) sa S.ok.fit (by rw [cnt]; exact Nat.lt_of_le_of_lt le (Nat.lt_trans few (by decide))) S.ris S.led fun s1 out k1 z1 g1 o1 pm => ?_)
  have els : ElemsOf (PySem.strKind X.prog X.w) rows.toList := S.ok.el
  have outS : StrsAre out (out.map strV) := strs_self out fun v hv => by
    obtain ⟨row, hr, rfl⟩ := List.mem_map.mp (pm.mem_iff.mp hv)
    obtain ⟨⟨k, hk, _⟩, _⟩ := els row hr
    obtain ⟨t, ev⟩ := Value.isStrOf_shape (x := k) (v := row.2) hk
    exact ⟨k, t, ev⟩
  have olen : out.length = l.length := by rw [pm.length_eq, List.length_map, Array.length_toList, cnt]
  have pk : (out.map strV).Perm ((rows.toList.map (·.2)).map strV) := pm.map strV
  have sub : ∀ k ∈ l, k ∈ (rows.toList.map (·.2)).map strV := fun k hk => by
    obtain ⟨row, hr, is⟩ := (S.ok.mem k).mp hk
    obtain ⟨t, ev⟩ := Value.isStrOf_shape (x := k) (v := row.2) is
    exact List.mem_map.mpr ⟨row.2, List.mem_map_of_mem hr, by rw [ev]; rfl⟩
  have back : ∀ k ∈ (rows.toList.map (·.2)).map strV, k ∈ l := fun k hk => by
    obtain ⟨v, hv, rfl⟩ := List.mem_map.mp hk
    obtain ⟨row, hr, rfl⟩ := List.mem_map.mp hv
    obtain ⟨⟨k, hk2, _⟩, _⟩ := els row hr
    obtain ⟨t, ev⟩ := Value.isStrOf_shape (x := k) (v := row.2) hk2
    refine (S.ok.mem _).mpr ⟨row, hr, ?_⟩
    rw [ev]
    exact is_str k t
  have nd : ((rows.toList.map (·.2)).map strV).Nodup := nodup_of_more _ l S.nd sub (by rw [List.length_map, List.length_map, Array.length_toList, cnt]; exact Nat.le_refl _)
  refine wpAny_bind (wpAny_newList ?_ (by rw [olen, sizeLine_eq]; omega))
  have hoL : (s1.heap.push (seqObj "list" out.toArray 0)).get? s1.heap.objs.size = some (seqObj "list" out.toArray 0) := Heap.get?_push_size _ rfl
  show wpAny _ _ _ _ _ { s1 with heap := s1.heap.push (seqObj "list" out.toArray 0) }
  refine wpAny_bind (wpAny_holding (wpAny_call_entry PyProof.Rows.slot_list_sort ⟨_, hoL, rfl⟩ PyProof.Rows.entry_list_sort
    (list_sort_treeK strKind_oneLt (s := { s1 with heap := s1.heap.push (seqObj "list" out.toArray 0) }) hoL outS.keysOf (fun v₁ v₂ rest e2 => keyKind_strs (by rw [← e2]; exact outS)) (by omega) fun st' hp hs => ⟨_, rfl, ?_⟩)
    (PyProof.Rows.args_list_sort _)))
  obtain ⟨ys, y1, y2, y3⟩ := sorted_out_str outS hp hs
  obtain ⟨c, hc2⟩ := PyProof.Rows.sortedHeap_at (vs := out) (out := (arrOf st').map (·.2)) hoL
  have ylen : (ys.map V.str).length ≤ sizeLine := by rw [List.length_map, y2.length_eq, List.length_map, olen, sizeLine_eq]; omega
  have hn : H s1.heap.objs.size = none := I.hok.fresh z1
  have k2 : ∀ b o, s.heap.get? b = some o → (sortedHeap (s1.heap.push (seqObj "list" out.toArray 0)) s1.heap.objs.size out ((arrOf st').map (·.2))).get? b = some o := fun b u e3 => by
    have q3 := k1 b u e3
    have lt := Heap.lt_size q3
    rw [PyProof.Rows.sortedHeap_old (Nat.ne_of_lt lt) (by rw [size_push']; exact Nat.lt_succ_of_lt lt)]
    exact Heap.get?_push_of_some _ q3
  obtain ⟨hp1, ge1, dr1, tk1, os1⟩ := s1
  obtain rfl : ge1 = s.gens := g1
  obtain rfl : os1 = s.os := o1
  refine wpAny_pure ⟨_, rfl, .ref hp1.objs.size, upd H hp1.objs.size (.lst (ys.map V.str)), ?_, rfl, q _ ys _ nd (fun k => ⟨fun z => (mem k).mp (back k z), fun z => sub k ((mem k).mpr z)⟩) (y2.trans pk) y3 hn⟩
  show Inv X pins σ _ { s with heap := sortedHeap (hp1.push (seqObj "list" out.toArray 0)) hp1.objs.size out ((arrOf st').map (·.2)), gens := s.gens, drawn := dr1, toks := tk1 }
  exact I.call (ch := []) (Un.laid k2 z1 hn) (I.hok.laid k2 z1 (show ObjOk X.prog X.w _ _ _ (.lst (ys.map V.str)) from ⟨ylen, _, c, vals_of_strs y1, by rw [Array.toArray_toList]; exact hc2⟩)) I.bare (fun _ z => nomatch z)
end
end NB

/-! NW: what the laws draw: the bag; lists changed in place; while. -/
namespace NB
open PySem PySem.Spec PyProof.Rows L2 TL
section
variable {ex : Addr → Prop} {K : PySem.W.Frag} {σ : L2.St} {H H' H1 : Hp} {D : Ends} {Q : VK} {QH : Hp → Prop} {QS : L2.St → Hp → Prop} {te to ti : TE} {tb : TS} {c : TT} {p a b : Addr} {xs ys : List V} {v y : V}
/-- a turn of a while: on with a lesser measure -/
def WhB (Pv : Nat → L2.St → Hp → Prop) (m : Nat) (tb : TS) (D : Ends) (σ : L2.St) (b : Bool) (H1 : Hp) : Prop :=
  if b = true then ∃ N : L2.St → Hp → Prop, (∀ σ' H', N σ' H' → ∃ m', m' < m ∧ Pv m' σ' H') ∧ tb { D with nx := N, ct := N, bk := D.nx } σ H1 else D.nx σ H1
theorem r_while (Pv : Nat → L2.St → Hp → Prop) (m : Nat) (h0 : Pv m σ H) (hs : ∀ m σ H, Pv m σ H → c σ H (WhB Pv m tb D σ)) : tWhile c tb D σ H := ⟨Pv, ⟨m, h0⟩, fun m σ H p => hs m σ H p⟩
def WhN (Pv : Nat → L2.St → Hp → Prop) (m : Nat) : L2.St → Hp → Prop := fun s h => ∃ m', m' < m ∧ Pv m' s h
theorem r_whT {Pv : Nat → L2.St → Hp → Prop} {m : Nat} (h : tb { D with nx := WhN Pv m, ct := WhN Pv m, bk := D.nx } σ H) : WhB Pv m tb D σ true H := ⟨WhN Pv m, fun _ _ h => h, h⟩
theorem r_whF {Pv : Nat → L2.St → Hp → Prop} {m : Nat} (h : D.nx σ H) : WhB Pv m tb D σ false H := h
theorem r_wh {Pv : Nat → L2.St → Hp → Prop} {m : Nat} {b : Bool} (h1 : b = true → tb { D with nx := WhN Pv m, ct := WhN Pv m, bk := D.nx } σ H) (h2 : b = false → D.nx σ H) : WhB Pv m tb D σ b H := by
  cases b
  · exact r_whF (h2 rfl)
  · exact r_whT (h1 rfl)
theorem r_gsub {t : TSet} (h : to σ H fun o H1 => ti σ H1 fun i H2 => t o i v H2 fun H3 => QS σ H3) : gSub to ti t v σ H QS := h
theorem r_setL {n : Nat} {j : Int} (h : H p = some (.lst xs)) (e : j = (n : Int)) (hn : n < xs.length) (q : QH (upd H p (.lst (xs.set n v)))) : rSetL (.ref p) (.int j) v H QH := by
  subst e
  refine ⟨p, xs, (n : Int), n, rfl, rfl, h, ?_, q⟩
  unfold ixN
  rw [if_pos (by omega), if_pos (by omega)]; simp
theorem r_pop0 (h : H p = some (.lst (y :: xs))) (q : Q y (upd H p (.lst xs))) : rPopAt (.ref p) [.int 0] H Q := by
  refine ⟨p, y :: xs, 0, 0, y, rfl, rfl, h, by decide, by decide, ?_, rfl, q⟩
  unfold seqIndex?
  simp
theorem r_ixl {n : Nat} {j : Int} (h : H p = some (.lst xs)) (e : j = (n : Int)) (hv : xs[n]? = some v) (q : Q v H) : rIx K (.ref p) (.int j) H Q := by
  subst e; exact r_ix_l h hv q
theorem r_cat (h1 : H a = some (.lst xs)) (h2 : H b = some (.lst ys)) (hl : xs.length + ys.length ≤ 100000) (q : ∀ p H', H p = none → Kp No H H' → H' p = some (.lst (xs ++ ys)) → Q (.ref p) H') : rAdd2 K (.ref a) (.ref b) H Q :=
  .inl ⟨a, b, xs, ys, rfl, rfl, h1, h2, Nat.le_trans hl (by decide), fun p hp => q p _ hp (Kp.new Kp.refl hp) upd_same⟩
theorem r_slL {lo hi : Option Int} (h : SqL K H a xs) (q : ∀ p H', H p = none → Kp No H H' → H' p = some (.lst (cutV xs lo hi)) → Q (.ref p) H') : rSl2 K (.ref a) lo hi H Q :=
  .inl ⟨a, xs, rfl, h, fun p hp => q p _ hp (Kp.new Kp.refl hp) upd_same⟩
end
/-! ### the bag -/
abbrev MM : Int := 618970019642690137449562111
/-- the bag at b: great numbers at g, lesser ones at l -/
structure BagAt (H : Hp) (b g l : Addr) (gs ls : List Int) (n st : Int) : Prop where
  hb : H b = some (.lst [.ref g, .ref l, .int n, .int st])
  hg : H g = some (.lst (gs.map V.int))
  hl : H l = some (.lst (ls.map V.int))
  lp : ∀ x ∈ ls, 0 ≤ x ∧ x < 10 ^ 18
  ln : ls ≠ []
  sp : 0 ≤ st ∧ st < MM
  np : 0 ≤ n
  d1 : b ≠ g
  d2 : b ≠ l
  d3 : g ≠ l
/-- a bag from which B more may be drawn -/
def Bag (H : Hp) (b g : Addr) (B : Nat) : Prop := ∃ l gs ls n st, BagAt H b g l gs ls n st ∧ n + B ≤ 1000000
/-- what drawing changes -/
def bx (b g : Addr) : Addr → Prop := fun c => c = b ∨ c = g
section
variable {H H' : Hp} {b g l : Addr} {gs ls : List Int} {n st : Int} {B B' : Nat}
theorem BagAt.kp (h : BagAt H b g l gs ls n st) (k : Kp No H H') : BagAt H' b g l gs ls n st :=
  { h with hb := k.lst h.hb, hg := k.lst h.hg, hl := k.lst h.hl }
theorem Bag.kp (h : Bag H b g B) (k : Kp No H H') : Bag H' b g B := by
  obtain ⟨l, gs, ls, n, st, h, e⟩ := h
  exact ⟨l, gs, ls, n, st, h.kp k, e⟩
theorem Bag.less (h : Bag H b g B) (k : B' ≤ B) : Bag H b g B' := by
  obtain ⟨l, gs, ls, n, st, h, e⟩ := h
  exact ⟨l, gs, ls, n, st, h, by omega⟩
theorem Bag.old (h : Bag H b g B) {p : Addr} (hp : H p = none) : ¬ bx b g p := by
  obtain ⟨l, gs, ls, n, st, h, e⟩ := h
  rintro (z | z)
  · subst z; rw [h.hb] at hp; cases hp
  · subst z; rw [h.hg] at hp; cases hp
theorem BagAt.popG {x : Int} (h : BagAt H b g l (x :: gs) ls n st) : BagAt (upd H g (.lst (gs.map V.int))) b g l gs ls n st :=
  { h with hb := by rw [upd_ne h.d1]; exact h.hb, hg := upd_same, hl := by rw [upd_ne h.d3.symm]; exact h.hl }
theorem BagAt.setG {gs' : List Int} (h : BagAt H b g l gs ls n st) : BagAt (upd H g (.lst (gs'.map V.int))) b g l gs' ls n st :=
  { h with hb := by rw [upd_ne h.d1]; exact h.hb, hg := upd_same, hl := by rw [upd_ne h.d3.symm]; exact h.hl }
theorem BagAt.setB {n' st' : Int} (h : BagAt H b g l gs ls n st) (hn : 0 ≤ n') (hs : 0 ≤ st' ∧ st' < MM) : BagAt (upd H b (.lst [.ref g, .ref l, .int n', .int st'])) b g l gs ls n' st' :=
  { h with hb := upd_same, hg := by rw [upd_ne h.d1.symm]; exact h.hg, hl := by rw [upd_ne h.d2.symm]; exact h.hl, np := hn, sp := hs }
theorem BagAt.kG {gs' : List V} (h : BagAt H b g l gs ls n st) : Kp (bx b g) H (upd H g (.lst gs')) := Kp.mut Kp.refl (.inr rfl) h.hg rfl
theorem BagAt.kB {xs' : List V} (h : BagAt H b g l gs ls n st) : Kp (bx b g) H (upd H b (.lst xs')) := Kp.mut Kp.refl (.inl rfl) h.hb rfl
end
abbrev spDraw : Sp := sp2 fun v m H Q _ => ∃ b g B, ∃ k : Int, v = .ref b ∧ m = .int k ∧ 1 ≤ k ∧ k ≤ 10 ^ 15 ∧ Bag H b g (B + 1) ∧ ∀ r H', 0 ≤ r → r < k → Kp (bx b g) H H' → Bag H' b g B → Q (.int r) H'
end NB

/-! NV: plain facts of what the laws draw: rising texts, parts, signs joined. -/
namespace NB
open PySem PySem.Spec PyProof.Rows L2 TL
theorem cps_other : ∀ a b : List Nat, ltCps b a = false → a ≠ b → ltCps a b = true
  | [], [], _, h => absurd rfl h
  | [], _ :: _, _, _ => rfl
  | _ :: _, [], h, _ => by cases h
  | a :: r, b :: t, h, ne => by
    simp only [ltCps, Bool.or_eq_false_iff, Bool.and_eq_false_iff, decide_eq_false_iff_not, beq_eq_false_iff_ne] at h
    simp only [ltCps, Bool.or_eq_true, Bool.and_eq_true, decide_eq_true_eq, beq_iff_eq]
    obtain ⟨h1, h2⟩ := h
    rcases Nat.lt_trichotomy a b with q | q | q
    · exact .inl q
    · subst q
      refine .inr ⟨rfl, cps_other r t (h2.resolve_left fun z => z rfl) fun z => ne (by rw [z])⟩
    · exact absurd q h1
/-- rising -/
def ascS : Str → List Str → Bool
  | _, [] => true
  | last, f :: r => ltS last f && ascS f r
theorem ascS_of : ∀ (r : List Str) (p : Str), risingS p r = true → (p :: r).Nodup → ascS p r = true
  | [], _, _, _ => rfl
  | x :: r, p, h, nd => by
    have h' : (!ltCps x.cps.toList p.cps.toList && risingS x r) = true := h
    rw [Bool.and_eq_true] at h'
    obtain ⟨h1, h2⟩ := h'
    obtain ⟨n1, n2⟩ := List.nodup_cons.mp nd
    have e : ltS p x = true := by
      unfold ltS
      rw [← ltCps_eq]
      refine cps_other _ _ (by simpa using h1) fun z => n1 ?_
      have : p = x := TL.ext_tl z
      rw [this]; exact List.mem_cons_self
    show (ltS p x && ascS x r) = true
    rw [e, ascS_of r x h2 n2]; rfl
theorem field_pos {f : Str} (h : fieldS f = true) : ltS Str.empty f = true := by
  have q := (fieldL_iff.mp h).1
  unfold ltS
  refine decide_eq_true ?_
  show ([] : List Nat) < f.cps.toList
  obtain ⟨a, r, e⟩ := List.exists_cons_of_ne_nil q
  rw [e]
  exact List.nil_lt_cons _ _
theorem ascS_sorted {ys : List Str} (h : sortedS ys = true) (nd : ys.Nodup) (hf : ∀ f ∈ ys, fieldS f = true) : ascS Str.empty ys = true := by
  cases ys with
  | nil => rfl
  | cons x r =>
    show (ltS Str.empty x && ascS x r) = true
    rw [field_pos (hf x List.mem_cons_self), ascS_of r x h nd]; rfl
/-- a part: a field and what stands behind it -/
def mk1 (p : Str × List PyData) : PyData := .tuple (.str p.1 :: p.2)
theorem partsGo_mk {n : Nat} : ∀ (ps : List (Str × List PyData)) (last : Str), ascS last (ps.map (·.1)) = true → (∀ p ∈ ps, fieldS p.1 = true ∧ p.2.length + 1 = n) → partsGo n last (ps.map mk1) = true
  | [], _, _, _ => rfl
  | p :: r, last, h, hp => by
    have h' : (ltS last p.1 && ascS p.1 (r.map (·.1))) = true := h
    rw [Bool.and_eq_true] at h'
    obtain ⟨q1, q2⟩ := hp p List.mem_cons_self
    show partsGo n last (.tuple (.str p.1 :: p.2) :: r.map mk1) = true
    rw [partsGo_ok q2 q1 h'.1]
    exact partsGo_mk r p.1 h'.2 fun x hx => hp x (List.mem_cons_of_mem _ hx)
/-- numbers of at most fifteen figures -/
def okO (o : Option Int) : Prop := ∀ i, o = some i → i.natAbs < 10 ^ 15
def goodR (size : Int) (r : List PyData) : Prop :=
  (size = 3 ∧ ∃ lo hi : Option Int, r = [ED lo, ED hi] ∧ spanD (.tuple [ED lo, ED hi]) = true ∧ okO lo ∧ okO hi) ∨ (size = 2 ∧ ∃ i : Int, r = [.int i] ∧ i.natAbs < 10 ^ 15)
theorem okO_num {o : Option Int} (h : okO o) : okNum 15 (ED o) = true := by
  cases o with
  | none => rfl
  | some i => exact decide_eq_true (h i rfl)
theorem made_wish {ps : List (Str × List PyData)} (ha : ascS Str.empty (ps.map (·.1)) = true) (h : ∀ p ∈ ps, fieldS p.1 = true ∧ goodR 3 p.2) : wishD (.tuple (ps.map mk1)) = true ∧ (ps.map mk1).all (okPart 15) = true := by
  have g : ∀ p ∈ ps, ∃ lo hi : Option Int, p.2 = [ED lo, ED hi] ∧ spanD (.tuple [ED lo, ED hi]) = true ∧ okO lo ∧ okO hi := fun p hp => by
    rcases (h p hp).2 with ⟨_, q⟩ | ⟨z, _⟩
    · exact q
    · cases z
  constructor
  · show (partsGo 3 Str.empty (ps.map mk1) && (ps.map mk1).all spanOf) = true
    rw [partsGo_mk ps _ ha fun p hp => ⟨(h p hp).1, by obtain ⟨lo, hi, e, _⟩ := g p hp; rw [e]; rfl⟩, Bool.true_and, List.all_eq_true]
    intro d hd
    obtain ⟨p, hp, rfl⟩ := List.mem_map.mp hd
    obtain ⟨lo, hi, e, s, _⟩ := g p hp
    unfold mk1
    rw [e]
    exact s
  · rw [List.all_eq_true]
    intro d hd
    obtain ⟨p, hp, rfl⟩ := List.mem_map.mp hd
    obtain ⟨lo, hi, e, s, o1, o2⟩ := g p hp
    unfold mk1
    rw [e]
    show (okNum 15 (.str p.1) && (okNum 15 (ED lo) && (okNum 15 (ED hi) && true))) = true
    rw [okO_num o1, okO_num o2]; rfl
theorem made_piece {ps : List (Str × List PyData)} (ha : ascS Str.empty (ps.map (·.1)) = true) (h : ∀ p ∈ ps, fieldS p.1 = true ∧ goodR 2 p.2) : pieceD (.tuple (ps.map mk1)) = true ∧ (ps.map mk1).all (okPart 15) = true := by
  have g : ∀ p ∈ ps, ∃ i : Int, p.2 = [.int i] ∧ i.natAbs < 10 ^ 15 := fun p hp => by
    rcases (h p hp).2 with ⟨z, _⟩ | ⟨_, q⟩
    · cases z
    · exact q
  constructor
  · show (partsGo 2 Str.empty (ps.map mk1) && (ps.map mk1).all numOf) = true
    rw [partsGo_mk ps _ ha fun p hp => ⟨(h p hp).1, by obtain ⟨i, e, _⟩ := g p hp; rw [e]; rfl⟩, Bool.true_and, List.all_eq_true]
    intro d hd
    obtain ⟨p, hp, rfl⟩ := List.mem_map.mp hd
    obtain ⟨i, e, _⟩ := g p hp
    unfold mk1
    rw [e]
    rfl
  · rw [List.all_eq_true]
    intro d hd
    obtain ⟨p, hp, rfl⟩ := List.mem_map.mp hd
    obtain ⟨i, e, hi⟩ := g p hp
    unfold mk1
    rw [e]
    show (okNum 15 (.str p.1) && (decide (i.natAbs < 10 ^ 15) && true)) = true
    rw [decide_eq_true hi]; rfl
/-- signs joined -/
def sg (c : Nat) : Str := ⟨#[c]⟩
theorem joinL_signs : ∀ cs : List Nat, joinL [] (cs.map fun c => [c]) = cs
  | [] => rfl
  | [c] => rfl
  | c :: d :: r => by
    show [c] ++ ([] ++ joinL [] ((d :: r).map fun c => [c])) = _
    rw [joinL_signs (d :: r)]
    rfl
theorem tl_signs (cs : List Nat) : tl (Txt.join (Str.ofString "") (cs.map sg)) = cs := by
  rw [TL.join_eq, TL.tl_join]
  have e : tl (Str.ofString "") = [] := by decide +kernel
  have e2 : (cs.map sg).map tl = cs.map fun c => [c] := by rw [List.map_map]; rfl
  rw [e, e2, joinL_signs]
theorem field_signs {cs : List Nat} (h1 : cs ≠ []) (h2 : cs.length ≤ 8) (h3 : ∀ c ∈ cs, c ∈ lettersL) : fieldS (Txt.join (Str.ofString "") (cs.map sg)) = true := by
  refine fieldL_iff.mpr ?_
  have e : (Txt.join (Str.ofString "") (cs.map sg)).cps.toList = cs := tl_signs cs
  rw [e]
  exact ⟨h1, h2, fun c hc => letters_iff.mp (h3 c hc)⟩
theorem letters_len : lettersL.length = 26 := by decide +kernel
theorem sum_ones (cs : List Nat) : ((cs.map sg).map (·.length)).sum = cs.length := by
  rw [List.map_map]
  have e : ((fun x : Str => x.length) ∘ sg) = fun _ => 1 := by funext c; rfl
  rw [e]
  induction cs with
  | nil => rfl
  | cons c r ih => rw [List.map_cons, List.sum_cons, ih, List.length_cons]; omega
section
variable {K : PySem.W.Frag} {P : Program} {w : World} {H : Hp} {Q : VK} {l a : Addr} {xs : List Str}
theorem r_setOfS (h : SqL K H l (xs.map V.str)) (few : xs.length < 64) (q : ∀ a H', H a = none → Kp No H H' → H' a = some (TxO P w a xs) → Q (.ref a) H') : rSetOfS K P w [.ref l] H Q :=
  ⟨l, xs, rfl, h, few, fun a hn => q a _ hn (Kp.new Kp.refl hn) upd_same⟩
theorem r_sortedOfS (h : H a = some (TxO P w a xs)) (few : xs.length < 64) (q : ∀ ys p H', ys.Nodup → sortedS ys = true → (∀ k, k ∈ ys ↔ k ∈ xs) → H p = none → Kp No H H' → H' p = some (.lst (ys.map V.str)) → Q (.ref p) H') : rSortedOfS P w [.ref a] H Q :=
  ⟨a, xs, rfl, h, few, fun l ys p nd m pm so hn => q ys p _ (pm.nodup_iff.mpr nd) so (fun k => pm.mem_iff.trans (m k)) hn (Kp.new Kp.refl hn) upd_same⟩
end
/-- a list of no ints is written: the bag stands -/
theorem Bag.wr {H : Hp} {b g D : Addr} {B : Nat} {xs ys : List V} (h : Bag H b g B) (hD : H D = some (.lst xs)) (nb : ¬ bx b g D) (ni : ∀ i : Int, xs.head? ≠ some (.int i)) : Bag (upd H D (.lst ys)) b g B := by
  obtain ⟨l, gs, ls, n, st, hb, hn⟩ := h
  have n1 : b ≠ D := fun z => nb (.inl z.symm)
  have n2 : g ≠ D := fun z => nb (.inr z.symm)
  have n3 : l ≠ D := fun z => by
    subst z
    have e := hb.hl
    rw [hD] at e
    cases e
    obtain ⟨a, r, e2⟩ := List.exists_cons_of_ne_nil hb.ln
    exact ni a (by rw [e2]; rfl)
  exact ⟨l, gs, ls, n, st, { hb with hb := by rw [upd_ne n1]; exact hb.hb, hg := by rw [upd_ne n2]; exact hb.hg, hl := by rw [upd_ne n3]; exact hb.hl }, hn⟩
theorem head_str {ys : List Str} : ∀ i : Int, (ys.map V.str).head? ≠ some (.int i) := fun i e => by
  cases ys with
  | nil => cases e
  | cons y r => cases e
end NB

/-! NY: the same data twice; isinstance of two classes. -/
namespace NB
open PySem PySem.Spec PyProof.Rows L2 TL
theorem any_lt (K : PySem.W.Frag) (d : PyData) : PySem.W.kitAny K (.type (tyN d)) [.type "list", .type "tuple"] = some (isListD d || isTupD d) := by
  have two : ∀ {t : String} {a b : Bool}, kitB t "list" = some a → kitB t "tuple" = some b → PySem.W.kitAny K (.type t) [.type "list", .type "tuple"] = some (a || b) := by
    intro t a b h1 h2
    refine kitAny_cons (kit_ty h1) (fun e => ?_) (fun e => by rw [e]; rfl)
    subst e
    refine kitAny_cons (kit_ty h2) (fun e => by rw [e]; exact kitAny_nil) (fun e => by rw [e]; rfl)
  cases d with
  | none => exact two (by decide +kernel : kitB "NoneType" "list" = some false) (by decide +kernel : kitB "NoneType" "tuple" = some false)
  | bool b => exact two (by decide +kernel : kitB "bool" "list" = some false) (by decide +kernel : kitB "bool" "tuple" = some false)
  | int i => exact two (by decide +kernel : kitB "int" "list" = some false) (by decide +kernel : kitB "int" "tuple" = some false)
  | str x => exact two (by decide +kernel : kitB "str" "list" = some false) (by decide +kernel : kitB "str" "tuple" = some false)
  | list xs => exact two (by decide +kernel : kitB "list" "list" = some true) (by decide +kernel : kitB "list" "tuple" = some false)
  | tuple xs => exact two (by decide +kernel : kitB "tuple" "list" = some false) (by decide +kernel : kitB "tuple" "tuple" = some true)
  | dict kvs => exact two (by decide +kernel : kitB "dict" "list" = some false) (by decide +kernel : kitB "dict" "tuple" = some false)
section
variable {ex : Addr → Prop} {K : PySem.W.Frag} {H : Hp} {Q : VK} {v : V} {d : PyData} {tp p : Addr}
theorem r_isiLT (h : Dat ex H v d) (ht : H tp = some (.tup [.ty "list", .ty "tuple"])) (q : Q (.bl (isListD d || isTupD d)) H) : rIsiT K [v, .ref tp] H Q :=
  ⟨v, tp, _, .type (tyN d), [.type "list", .type "tuple"], _, rfl, ht, .cons (.ty _) (.cons (.ty _) .nil), h.ty, any_lt K d, q⟩
theorem r_all {bs : List Bool} (h : SqL K H p (bs.map V.bl)) (q : Q (.bl (bs.all id)) H) : rAll K [.ref p] H Q := ⟨p, bs, rfl, h, q⟩
end
theorem br_bN {b : Bool} {A B : Prop} [Decidable (V.bl b = V.non)] (h : B) : if decide (V.bl b = V.non) = true then A else B := r_iteF (by simp) h
theorem br_sN {x : Str} {A B : Prop} [Decidable (V.str x = V.non)] (h : B) : if decide (V.str x = V.non) = true then A else B := r_iteF (by simp) h
theorem br_rN {a : Addr} {A B : Prop} [Decidable (V.ref a = V.non)] (h : B) : if decide (V.ref a = V.non) = true then A else B := r_iteF (by simp) h
/-- data of depth at most n -/
def upTo : Nat → PyData → Bool
  | 0, _ => false
  | n + 1, .list ds => decide (ds.length ≤ 10000) && ds.all (upTo n)
  | n + 1, .tuple ds => decide (ds.length ≤ 10000) && ds.all (upTo n)
  | _ + 1, .dict _ => false
  | _ + 1, _ => true
abbrev spSame (n : Nat) : Sp := sp2 fun v u H Q _ => ∃ ex ex2 d, Dat ex H v d ∧ Dat ex2 H u d ∧ upTo n d = true ∧ ∀ H', Kp No H H' → Q (.bl true) H'
theorem bools_true (i : Nat) : (List.replicate i true).all id = true := by
  rw [List.all_eq_true]
  intro x hx
  rw [List.eq_of_mem_replicate hx]; rfl
theorem r_slT1 {K : PySem.W.Frag} {H : Hp} {Q : VK} {p : Addr} {x : V} {xs : List V} (h : H p = some (.tup (x :: xs))) (q : ∀ l H', H l = none → Kp No H H' → H' l = some (.tup xs) → Q (.ref l) H') : rSl2 K (.ref p) (some 1) none H Q := by
  have e1 : HT.sIx (x :: xs).length 0 (some 1) = 1 := by
    have e := HT.sIx_nat (x :: xs).length 0 1
    rw [show ((1 : Nat) : Int) = 1 from rfl] at e
    rw [e, List.length_cons]; omega
  refine .inr (.inl ⟨p, x :: xs, rfl, SqT.of h, fun z => ?_, fun _ l hl => q l _ hl (Kp.new Kp.refl hl) ?_⟩)
  · rw [e1] at z
    exact absurd z.1 (by decide)
  · have e : cutV (x :: xs) (some 1) none = xs := by
      unfold cutV
      rw [e1, HT.sIx_none, List.length_cons, Nat.add_sub_cancel, List.drop_succ_cons, List.drop_zero, List.take_length]
    rw [e]; exact upd_same
/-! ### what is written -/
def wrP (p : Str × List PyData) : List Nat := tl p.1 ++ ([58] ++ joinL [46, 46] (p.2.map shEnd))
def wrL (ps : List (Str × List PyData)) : List Nat := if ps = [] then [45] else joinL [32] (ps.map wrP)
theorem wr_wish {ps : List (Str × List PyData)} (h : ∀ p ∈ ps, ∃ lo hi, p.2 = [lo, hi]) : wrL ps = shWish (ps.map mk1) := by
  have e : ps.map wrP = (ps.map mk1).map shWishPart := by
    rw [List.map_map]
    refine List.map_congr_left fun p hp => ?_
    obtain ⟨lo, hi, e⟩ := h p hp
    show tl p.1 ++ ([58] ++ joinL [46, 46] (p.2.map shEnd)) = shWishPart (.tuple (.str p.1 :: p.2))
    rw [e]
    rfl
  unfold wrL shWish
  by_cases hn : ps = []
  · subst hn; rfl
  · rw [if_neg hn, if_neg (by simpa using hn), e]
theorem wr_piece {ps : List (Str × List PyData)} (h : ∀ p ∈ ps, ∃ i : Int, p.2 = [.int i]) : wrL ps = shPiece (ps.map mk1) := by
  have e : ps.map wrP = (ps.map mk1).map shPiecePart := by
    rw [List.map_map]
    refine List.map_congr_left fun p hp => ?_
    obtain ⟨i, e⟩ := h p hp
    show tl p.1 ++ ([58] ++ joinL [46, 46] (p.2.map shEnd)) = shPiecePart (.tuple (.str p.1 :: p.2))
    rw [e]
    rfl
  unfold wrL shPiece
  by_cases hn : ps = []
  · subst hn; rfl
  · rw [if_neg hn, if_neg (by simpa using hn), e]
/-- a part that can be written -/
def okW (p : Str × List PyData) : Prop := fieldS p.1 = true ∧ p.2.length ≤ 2 ∧ ∀ e ∈ p.2, endD e = true ∧ okNum 40 e = true
theorem shEnd_len' {d : PyData} (h : okNum 40 d = true) : (shEnd d).length ≤ 41 := by
  cases d with
  | int i => exact numLI_len (by decide) (of_decide_eq_true h)
  | _ => exact (by decide : (1 : Nat) ≤ 41)
theorem end_num {e : PyData} (h : endD e = true) : e = .none ∨ ∃ i, e = .int i := by
  cases e with
  | none => exact .inl rfl
  | int i => exact .inr ⟨i, rfl⟩
  | _ => cases h
theorem sum_le' {α : Type} {f : α → Nat} {n : Nat} : ∀ (l : List α), (∀ a ∈ l, f a ≤ n) → (l.map f).sum ≤ n * l.length
  | [], _ => by simp
  | a :: r, h => by
    have h1 := h a List.mem_cons_self
    have h2 := sum_le' r fun b hb => h b (List.mem_cons_of_mem _ hb)
    rw [List.map_cons, List.sum_cons, List.length_cons, Nat.mul_succ]
    omega
theorem joinL_len {S : List Nat} : ∀ ps : List (List Nat), (joinL S ps).length ≤ (ps.map List.length).sum + ps.length * S.length
  | [] => by simp [joinL]
  | [p] => by simp [joinL]
  | p :: q :: r => by
    have ih := joinL_len (S := S) (q :: r)
    show (p ++ (S ++ joinL S (q :: r))).length ≤ _
    rw [List.length_append, List.length_append, List.map_cons, List.sum_cons, List.length_cons, Nat.succ_mul]
    omega
theorem wrP_len {p : Str × List PyData} (h : okW p) : (wrP p).length ≤ 100 := by
  obtain ⟨h1, h2, h3⟩ := h
  have e1 : (tl p.1).length ≤ 8 := (fieldL_iff.mp h1).2.1
  have e2 := joinL_len (S := [46, 46]) (p.2.map shEnd)
  have e3 : ((p.2.map shEnd).map List.length).sum ≤ 41 * p.2.length := by
    rw [List.map_map]
    exact sum_le' p.2 fun e he => shEnd_len' (h3 e he).2
  rw [List.length_map] at e2
  simp only [List.length_cons, List.length_nil] at e2
  unfold wrP
  rw [List.length_append, List.length_append]
  simp only [List.length_cons, List.length_nil]
  omega
theorem r_callS {sp : Sp} {E : L2.St → XK} {t : TA} {σ : L2.St} {H : Hp} {Q : VK} (h : t σ H fun vs H1 => sp vs H1 Q (E σ)) : tCallS sp E t σ H Q := h
theorem sp1_in1 {g : V → Hp → VK → XK → Prop} {a : V} {H : Hp} {Q : VK} {E : XK} (h : g a H Q E) : sp1 g [a] H Q E := ⟨a, rfl, h⟩
theorem wrL_len {ps : List (Str × List PyData)} (h : ∀ p ∈ ps, okW p) (hl : ps.length ≤ 1000) : (ofL (wrL ps)).length ≤ 1000000 := by
  rw [TL.len_tl, tl_ofL]
  unfold wrL
  split
  · exact (by decide : (1 : Nat) ≤ 1000000)
  · have e := joinL_len (S := [32]) (ps.map wrP)
    have e2 : ((ps.map wrP).map List.length).sum ≤ 100 * ps.length := by
      rw [List.map_map]
      exact sum_le' ps fun p hp => wrP_len (h p hp)
    rw [List.length_map] at e
    simp only [List.length_cons, List.length_nil] at e
    omega
theorem ed_end (o : Option Int) : endD (ED o) = true := by cases o <;> rfl
theorem ed_num {o : Option Int} (h : okO o) : okNum 40 (ED o) = true := by
  cases o with
  | none => rfl
  | some i => exact decide_eq_true (Nat.lt_trans (h i rfl) (by decide))
theorem okPart_more {d : PyData} (h : okPart 15 d = true) : okPart 40 d = true := by
  cases d with
  | tuple ps =>
    refine List.all_eq_true.mpr fun e he => ?_
    have q := List.all_eq_true.mp h e he
    cases e with
    | int i => exact decide_eq_true (Nat.lt_trans (of_decide_eq_true q) (by decide))
    | _ => rfl
  | _ => rfl
theorem flat_up {ps : List (Str × List PyData)} (hl : ps.length ≤ 1000) (h : ∀ p ∈ ps, okW p) : upTo 4 (.tuple (ps.map mk1)) = true := by
  show (decide ((ps.map mk1).length ≤ 10000) && (ps.map mk1).all (upTo 3)) = true
  rw [decide_eq_true (by rw [List.length_map]; omega), Bool.true_and, List.all_eq_true]
  intro d hd
  obtain ⟨p, hp, rfl⟩ := List.mem_map.mp hd
  obtain ⟨h1, h2, h3⟩ := h p hp
  show (decide ((PyData.str p.1 :: p.2).length ≤ 10000) && (PyData.str p.1 :: p.2).all (upTo 2)) = true
  rw [decide_eq_true (by rw [List.length_cons]; omega), Bool.true_and, List.all_eq_true]
  intro e he
  rcases List.mem_cons.mp he with rfl | he
  · rfl
  · rcases end_num (h3 e he).1 with rfl | ⟨i, rfl⟩ <;> rfl
/-- a list against a new empty one -/
theorem r_ne_nil2 {K : PySem.W.Frag} {H : Hp} {Q : VK} {p q : Addr} {xs : List V} (h : H p = some (.lst xs)) (h0 : H q = some (.lst [])) (k : Q (.bl (!xs.isEmpty)) H) : rNe2 K (.ref p) (.ref q) H Q := r_ne_nil (SqL.of h) h0 k
/-! ### below, above -/
def bel (x1 x2 : Option Int) : Bool := match x2 with | none => false | some l => match x1 with | none => true | some m => decide (m < l)
def abv (y1 y2 : Option Int) : Bool := match y2 with | none => false | some h => match y1 with | none => true | some m => decide (h < m)
theorem one_wish {f : Str} {x y : Option Int} (hf : fieldS f = true) (hs : spanD (.tuple [ED x, ED y]) = true) : wishD (.tuple [.tuple [.str f, ED x, ED y]]) = true := by
  show (partsGo 3 Str.empty (.tuple (.str f :: [ED x, ED y]) :: []) && (spanD (.tuple [ED x, ED y]) && true)) = true
  have e : partsGo 3 Str.empty (.tuple (.str f :: [ED x, ED y]) :: []) = partsGo 3 f [] := partsGo_ok (n := 3) (es := [ED x, ED y]) rfl hf (field_pos hf)
  have e2 : partsGo 3 Str.empty [.tuple [.str f, ED x, ED y]] = true := e
  rw [e2, hs]
  rfl
theorem asc_one {f : Str} (hf : fieldS f = true) (r : List PyData) : ascS Str.empty ([(f, r)].map (·.1)) = true := by
  show (ltS Str.empty f && true) = true
  rw [field_pos hf]; rfl
end NB

namespace K
open PySem PySem.Spec PyProof.Rows L2 NB
abbrev pg : PySem.Program := PySem.Challenge.pw_newsways_k78_wishes_and_pieces_written
def top (i : Nat) : Stmt := pg.main.body.getD i (.Pass ⟨0, 0, 0, 0⟩)
abbrev s_is_whole : Stmt := top 7
abbrev s_is_span : Stmt := top 8
abbrev s_looked : Stmt := top 9
abbrev s_span_covers : Stmt := top 10
abbrev s_is_field : Stmt := top 14
abbrev s_are_parts : Stmt := top 15
abbrev s_is_wish : Stmt := top 16
abbrev s_is_piece : Stmt := top 17
abbrev s_spans_of : Stmt := top 18
abbrev s_number_of : Stmt := top 19
abbrev s_parting_number : Stmt := top 20
abbrev s_parting_piece : Stmt := top 21
abbrev s_show_end : Stmt := top 27
abbrev s_with_blanks : Stmt := top 28
abbrev s_show_wish : Stmt := top 29
abbrev s_show_piece : Stmt := top 30
abbrev s_words_of : Stmt := top 31
abbrev s_read_number : Stmt := top 32
abbrev s_read_end : Stmt := top 33
abbrev s_two_of : Stmt := top 34
abbrev s_read_wish : Stmt := top 35
abbrev s_read_piece : Stmt := top 36
abbrev s__law_bag : Stmt := top 38
abbrev s__law_draw : Stmt := top 39
abbrev s__law_number : Stmt := top 40
abbrev s__law_held : Stmt := top 41
abbrev s__law_span : Stmt := top 42
abbrev s__law_field : Stmt := top 44
abbrev s__law_fields : Stmt := top 45
abbrev s__law_same : Stmt := top 46
abbrev s__law_made : Stmt := top 47
abbrev s__law_written : Stmt := top 48
abbrev s__law_refused : Stmt := top 49
abbrev s__law_right : Stmt := top 50
abbrev s_law : Stmt := top 51
theorem sc_is_whole : FnScope ["thing"] ["thing"] (defScope s_is_whole) := ⟨rfl, rfl, rfl, by decide +kernel, rfl, by decide +kernel, by decide +kernel⟩
theorem sc_is_span : FnScope ["thing", "end", "low", "high"] ["thing"] (defScope s_is_span) := ⟨rfl, rfl, rfl, by decide +kernel, rfl, by decide +kernel, by decide +kernel⟩
theorem sc_looked : FnScope ["span"] ["span"] (defScope s_looked) := ⟨rfl, rfl, rfl, by decide +kernel, rfl, by decide +kernel, by decide +kernel⟩
theorem sc_span_covers : FnScope ["one", "other", "low", "high", "least", "most"] ["one", "other"] (defScope s_span_covers) := ⟨rfl, rfl, rfl, by decide +kernel, rfl, by decide +kernel, by decide +kernel⟩
theorem sc_is_field : FnScope ["thing", "sign"] ["thing"] (defScope s_is_field) := ⟨rfl, rfl, rfl, by decide +kernel, rfl, by decide +kernel, by decide +kernel⟩
theorem sc_are_parts : FnScope ["thing", "size", "last", "part"] ["thing", "size"] (defScope s_are_parts) := ⟨rfl, rfl, rfl, by decide +kernel, rfl, by decide +kernel, by decide +kernel⟩
theorem sc_is_wish : FnScope ["thing", "field", "low", "high"] ["thing"] (defScope s_is_wish) := ⟨rfl, rfl, rfl, by decide +kernel, rfl, by decide +kernel, by decide +kernel⟩
theorem sc_is_piece : FnScope ["thing", "field", "number"] ["thing"] (defScope s_is_piece) := ⟨rfl, rfl, rfl, by decide +kernel, rfl, by decide +kernel, by decide +kernel⟩
theorem sc_spans_of : FnScope ["wish", "spans", "field", "low", "high"] ["wish"] (defScope s_spans_of) := ⟨rfl, rfl, rfl, by decide +kernel, rfl, by decide +kernel, by decide +kernel⟩
theorem sc_number_of : FnScope ["span", "low", "high"] ["span"] (defScope s_number_of) := ⟨rfl, rfl, rfl, by decide +kernel, rfl, by decide +kernel, by decide +kernel⟩
theorem sc_parting_number : FnScope ["span", "other", "low", "high"] ["span", "other"] (defScope s_parting_number) := ⟨rfl, rfl, rfl, by decide +kernel, rfl, by decide +kernel, by decide +kernel⟩
theorem sc_parting_piece : FnScope ["one", "other", "ours", "theirs", "numbers", "field", "span", "parted"] ["one", "other"] (defScope s_parting_piece) := ⟨rfl, rfl, rfl, by decide +kernel, rfl, by decide +kernel, by decide +kernel⟩
theorem sc_show_end : FnScope ["end"] ["end"] (defScope s_show_end) := ⟨rfl, rfl, rfl, by decide +kernel, rfl, by decide +kernel, by decide +kernel⟩
theorem sc_with_blanks : FnScope ["words"] ["words"] (defScope s_with_blanks) := ⟨rfl, rfl, rfl, by decide +kernel, rfl, by decide +kernel, by decide +kernel⟩
theorem sc_show_wish : FnScope ["wish", "field", "low", "high"] ["wish"] (defScope s_show_wish) := ⟨rfl, rfl, rfl, by decide +kernel, rfl, by decide +kernel, by decide +kernel⟩
theorem sc_show_piece : FnScope ["piece", "field", "number"] ["piece"] (defScope s_show_piece) := ⟨rfl, rfl, rfl, by decide +kernel, rfl, by decide +kernel, by decide +kernel⟩
theorem sc_words_of : FnScope ["text", "by"] ["text", "by"] (defScope s_words_of) := ⟨rfl, rfl, rfl, by decide +kernel, rfl, by decide +kernel, by decide +kernel⟩
theorem sc_read_number : FnScope ["word", "figures", "sign"] ["word"] (defScope s_read_number) := ⟨rfl, rfl, rfl, by decide +kernel, rfl, by decide +kernel, by decide +kernel⟩
theorem sc_read_end : FnScope ["word"] ["word"] (defScope s_read_end) := ⟨rfl, rfl, rfl, by decide +kernel, rfl, by decide +kernel, by decide +kernel⟩
theorem sc_two_of : FnScope ["word", "by", "parts"] ["word", "by"] (defScope s_two_of) := ⟨rfl, rfl, rfl, by decide +kernel, rfl, by decide +kernel, by decide +kernel⟩
theorem sc_read_wish : FnScope ["text", "wish", "word", "field", "ends", "low", "high"] ["text"] (defScope s_read_wish) := ⟨rfl, rfl, rfl, by decide +kernel, rfl, by decide +kernel, by decide +kernel⟩
theorem sc_read_piece : FnScope ["text", "piece", "word", "field", "number"] ["text"] (defScope s_read_piece) := ⟨rfl, rfl, rfl, by decide +kernel, rfl, by decide +kernel, by decide +kernel⟩
theorem sc__law_bag : FnScope ["script", "great", "cell", "lesser", "stir"] ["script"] (defScope s__law_bag) := ⟨rfl, rfl, rfl, by decide +kernel, rfl, by decide +kernel, by decide +kernel⟩
theorem sc__law_draw : FnScope ["bag", "many", "found", "cell"] ["bag", "many"] (defScope s__law_draw) := ⟨rfl, rfl, rfl, by decide +kernel, rfl, by decide +kernel, by decide +kernel⟩
theorem sc__law_number : FnScope ["bag", "choice", "number"] ["bag"] (defScope s__law_number) := ⟨rfl, rfl, rfl, by decide +kernel, rfl, by decide +kernel, by decide +kernel⟩
theorem sc__law_held : FnScope ["number"] ["number"] (defScope s__law_held) := ⟨rfl, rfl, rfl, by decide +kernel, rfl, by decide +kernel, by decide +kernel⟩
theorem sc__law_span : FnScope ["bag", "choice", "low", "high"] ["bag"] (defScope s__law_span) := ⟨rfl, rfl, rfl, by decide +kernel, rfl, by decide +kernel, by decide +kernel⟩
theorem sc__law_field : FnScope ["bag", "choice", "some", "k"] ["bag"] (defScope s__law_field) := ⟨rfl, rfl, rfl, by decide +kernel, rfl, by decide +kernel, by decide +kernel⟩
theorem sc__law_fields : FnScope ["bag", "most", "k"] ["bag", "most"] (defScope s__law_fields) := ⟨rfl, rfl, rfl, by decide +kernel, rfl, by decide +kernel, by decide +kernel⟩
theorem sc__law_same : FnScope ["found", "due", "k"] ["found", "due"] (defScope s__law_same) := ⟨rfl, rfl, rfl, by decide +kernel, rfl, by decide +kernel, by decide +kernel⟩
theorem sc__law_made : FnScope ["bag", "size", "most", "parts", "field", "span"] ["bag", "size", "most"] (defScope s__law_made) := ⟨rfl, rfl, rfl, by decide +kernel, rfl, by decide +kernel, by decide +kernel⟩
theorem sc__law_written : FnScope ["thing", "words", "part", "ends", "end"] ["thing"] (defScope s__law_written) := ⟨rfl, rfl, rfl, by decide +kernel, rfl, by decide +kernel, by decide +kernel⟩
theorem sc__law_refused : FnScope ["text", "refused"] ["text"] (defScope s__law_refused) := ⟨rfl, rfl, rfl, by decide +kernel, rfl, by decide +kernel, by decide +kernel⟩
theorem sc__law_right : FnScope ["thing", "size", "text", "great", "part"] ["thing", "size"] (defScope s__law_right) := ⟨rfl, rfl, rfl, by decide +kernel, rfl, by decide +kernel, by decide +kernel⟩
theorem sc_law : FnScope ["script", "bag", "last", "turn", "size", "thing", "end", "field", "spans", "one", "other", "told", "below", "above"] ["script"] (defScope s_law) := ⟨rfl, rfl, rfl, by decide +kernel, rfl, by decide +kernel, by decide +kernel⟩
/-- where the exception classes stand -/
structure Ads where
  NewsError : Addr
  NoSpan : Addr
  NoWish : Addr
  NoPiece : Addr
  NoText : Addr
structure Txt (K : PySem.W.Frag) (mg : Str → Option Value) (c : Ads) : Prop where
  d_is_whole : Def K mg "is_whole" s_is_whole ["thing"]
  d_is_span : Def K mg "is_span" s_is_span ["thing"]
  d_looked : Def K mg "looked" s_looked ["span"]
  d_span_covers : Def K mg "span_covers" s_span_covers ["one", "other"]
  d_is_field : Def K mg "is_field" s_is_field ["thing"]
  d_are_parts : Def K mg "are_parts" s_are_parts ["thing", "size"]
  d_is_wish : Def K mg "is_wish" s_is_wish ["thing"]
  d_is_piece : Def K mg "is_piece" s_is_piece ["thing"]
  d_spans_of : Def K mg "spans_of" s_spans_of ["wish"]
  d_number_of : Def K mg "number_of" s_number_of ["span"]
  d_parting_number : Def K mg "parting_number" s_parting_number ["span", "other"]
  d_parting_piece : Def K mg "parting_piece" s_parting_piece ["one", "other"]
  d_show_end : Def K mg "show_end" s_show_end ["end"]
  d_with_blanks : Def K mg "with_blanks" s_with_blanks ["words"]
  d_show_wish : Def K mg "show_wish" s_show_wish ["wish"]
  d_show_piece : Def K mg "show_piece" s_show_piece ["piece"]
  d_words_of : Def K mg "words_of" s_words_of ["text", "by"]
  d_read_number : Def K mg "read_number" s_read_number ["word"]
  d_read_end : Def K mg "read_end" s_read_end ["word"]
  d_two_of : Def K mg "two_of" s_two_of ["word", "by"]
  d_read_wish : Def K mg "read_wish" s_read_wish ["text"]
  d_read_piece : Def K mg "read_piece" s_read_piece ["text"]
  d__law_bag : Def K mg "_law_bag" s__law_bag ["script"]
  d__law_draw : Def K mg "_law_draw" s__law_draw ["bag", "many"]
  d__law_number : Def K mg "_law_number" s__law_number ["bag"]
  d__law_held : Def K mg "_law_held" s__law_held ["number"]
  d__law_span : Def K mg "_law_span" s__law_span ["bag"]
  d__law_field : Def K mg "_law_field" s__law_field ["bag"]
  d__law_fields : Def K mg "_law_fields" s__law_fields ["bag", "most"]
  d__law_same : Def K mg "_law_same" s__law_same ["found", "due"]
  d__law_made : Def K mg "_law_made" s__law_made ["bag", "size", "most"]
  d__law_written : Def K mg "_law_written" s__law_written ["thing"]
  d__law_refused : Def K mg "_law_refused" s__law_refused ["text"]
  d__law_right : Def K mg "_law_right" s__law_right ["thing", "size"]
  d_law : Def K mg "law" s_law ["script"]
  g_LETTERS : Glo mg "LETTERS" (.str "abcdefghijklmnopqrstuvwxyz")
  g_LONGEST : Glo mg "LONGEST" (.int 8)
  g_FIGURES : Glo mg "FIGURES" (.str "0123456789")
  g_MOST : Glo mg "MOST" (.int 15)
  g_NONE : Glo mg "NONE" (.str "-")
  g_OPEN : Glo mg "OPEN" (.str "*")
  e_NewsError : ExcC K mg "NewsError" c.NewsError
  e_NoSpan : ExcC K mg "NoSpan" c.NoSpan
  e_NoWish : ExcC K mg "NoWish" c.NoWish
  e_NoPiece : ExcC K mg "NoPiece" c.NoPiece
  e_NoText : ExcC K mg "NoText" c.NoText
  n_len : mg "len" = none
  n_isinstance : mg "isinstance" = none
  n_int : mg "int" = none
  n_str : mg "str" = none
  n_bool : mg "bool" = none
  n_list : mg "list" = none
  n_tuple : mg "tuple" = none
  n_all : mg "all" = none
  n_sorted : mg "sorted" = none
  n_set : mg "set" = none
  n_max : mg "max" = none
  n_min : mg "min" = none
  n_abs : mg "abs" = none
  n_range : mg "range" = none
  n_ValueError : mg "ValueError" = none

/-! ### steps of a reading -/
local macro_rules | `(tactic| walk_at "kp") => `(tactic| first
  | exact Kp.refl
  | assumption
  | exact Kp.no (by assumption)
  | ((with_reducible refine Kp.fresh ?_ (by assumption)); walk_at "kp")
  | ((with_reducible refine Kp.new ?_ (by assumption)); walk_at "kp")
  | (refine Kp.trans (by assumption) ?_; walk_at "kp")
  | (refine Kp.trans (Kp.no (by assumption)) ?_; walk_at "kp"))
local macro_rules | `(tactic| walk_at "tup") => `(tactic| first
  | assumption
  | exact upd_same
  | (refine Kp.tup (ex := No) ?_ (by assumption); walk_at "kp"))
local macro_rules | `(tactic| walk_at "lst") => `(tactic| first
  | assumption
  | exact upd_same
  | (refine Kp.lst ?_ (by assumption); walk_at "kp"))
local macro_rules | `(tactic| walk_at "sql") => `(tactic| first
  | assumption
  | exact SqL.of (by assumption)
  | (refine Kp.sql ?_ (by assumption); walk_at "kp")
  | (refine SqL.of ?_; walk_at "lst"))
local macro_rules | `(tactic| walk_at "dat") => `(tactic| first
  | assumption
  | with_reducible exact Dat.int _
  | with_reducible exact Dat.str _ (by assumption)
  | with_reducible exact Dat.str _ (by decide +kernel)
  | with_reducible exact Dat.bl _
  | with_reducible exact Dat.non
  | (refine Dat.mono (ex' := No) ?_ (fun _ z => z.elim) (by assumption); walk_at "kp")
  | (refine Dat.kp (by assumption) ?_; walk_at "kp")
  | ((with_reducible apply Dat.tup); (walk_at "tup"); (walk_at "dats")))
local macro_rules | `(tactic| walk_at "scal") => `(tactic| first
  | with_reducible exact Dat.int _
  | with_reducible exact Dat.str _ (by assumption)
  | with_reducible exact Dat.bl _
  | with_reducible exact Dat.non)
local macro_rules | `(tactic| walk_at "dats") => `(tactic| first
  | assumption
  | with_reducible exact Dats.nil
  | ((with_reducible apply Dats.cons); (walk_at "dat"); (walk_at "dats"))
  | (refine Dats.mono (ex' := No) ?_ (fun _ z => z.elim) (by assumption); walk_at "kp")
  | (refine Dats.kp (by assumption) ?_; walk_at "kp"))
local macro_rules | `(tactic| walk_at "len") => `(tactic| first
  | omega
  | (simp only [len_app, l_colon, l_dots, l_blank, l_empty, l_bar, l_dash, l_star, l_comma, l_emp]; omega))
local macro_rules | `(tactic| walk_at "s") => `(tactic| first
  | with_reducible refine r_seq ?_
  | with_reducible refine r_nx ?_
  | with_reducible refine r_asg ?_
  | with_reducible refine r_name ?_
  | with_reducible refine r_ret ?_
  | with_reducible refine r_if ?_
  | with_reducible refine r_drop ?_
  | ((with_reducible show tVar _ _ _ _); refine ⟨_, rfl, ?_⟩)
  | with_reducible refine r_c ?_
  | with_reducible refine r_op ?_
  | with_reducible refine r_un ?_
  | with_reducible refine r_test ?_
  | with_reducible refine r_tB ?_
  | with_reducible refine r_bl ?_
  | with_reducible refine r_and ?_
  | with_reducible refine r_or ?_
  | with_reducible refine r_not ?_
  | with_reducible refine r_andV ?_
  | with_reducible refine r_orV ?_
  | with_reducible refine r_notV ?_
  | with_reducible refine r_ife ?_
  | with_reducible refine r_chain ?_
  | with_reducible refine r_nil ?_
  | with_reducible refine r_cons ?_
  | with_reducible refine r_call ?_
  | with_reducible refine r_cb ?_
  | with_reducible refine r_tup ?_
  | with_reducible refine r_lst ?_
  | with_reducible refine r_isN ?_
  | with_reducible refine r_notN ?_
  | with_reducible refine r_part0 ?_
  | with_reducible refine r_part ?_
  | with_reducible refine r_int ?_
  | with_reducible refine r_sl ?_
  | ((with_reducible apply r_eq_nil); (walk_at "sql"); (walk_at "lst"))
  | ((with_reducible apply r_ne_nil); (walk_at "sql"); (walk_at "lst"))
  | with_reducible refine r_yes ?_
  | ((with_reducible refine r_wipe ?_ ?_); rfl)
  | with_reducible refine r_exc ?_
  | with_reducible refine r_m1 ?_
  | with_reducible refine r_isS ?_
  | with_reducible refine r_starts ?_
  | with_reducible refine r_joined ?_
  | with_reducible refine r_js0 ?_
  | with_reducible refine r_js ?_
  | with_reducible refine r_fmt ?_
  | ((with_reducible refine r_js1 ?_ ?_); (walk_at "len"))
  | ((with_reducible refine r_fmt_s ?_ ?_); (walk_at "len"))
  | ((with_reducible refine r_fmt_i ?_ ?_); (walk_at "len"))
  | ((with_reducible refine r_strI ?_ ?_); (walk_at "len"))
  | ((with_reducible refine r_add_s ?_ ?_); (walk_at "len"))
  | with_reducible refine r_callS ?_
  | with_reducible refine sp1_in1 ?_
  | with_reducible refine sp1_in ?_
  | with_reducible refine sp2_in ?_
  | with_reducible refine sp3_in ?_
  | with_reducible refine r_I0 ?_
  | with_reducible refine r_U ?_
  | with_reducible refine iteT ?_
  | with_reducible refine iteF ?_
  | with_reducible refine r_eq_ii ?_
  | with_reducible refine r_ne_ii ?_
  | with_reducible refine r_eq_ss ?_
  | with_reducible refine r_ne_ss ?_
  | ((with_reducible refine r_eq_s ?_ ?_); rfl)
  | ((with_reducible refine r_ne_s ?_ ?_); rfl)
  | with_reducible refine r_lt_ii ?_
  | with_reducible refine r_lt_ss ?_
  | with_reducible refine r_le_ii ?_
  | with_reducible refine r_le_ss ?_
  | with_reducible refine r_gt_ii ?_
  | with_reducible refine r_ge_ii ?_
  | with_reducible refine r_add_ii ?_
  | ((with_reducible apply r_isi_int (ex := No)); (walk_at "scal"))
  | ((with_reducible apply r_isi_int); (walk_at "dat"))
  | ((with_reducible apply r_isi_bool (ex := No)); (walk_at "scal"))
  | ((with_reducible apply r_isi_bool); (walk_at "dat"))
  | ((with_reducible apply r_isi_str (ex := No)); (walk_at "scal"))
  | ((with_reducible apply r_isi_str); (walk_at "dat"))
  | ((with_reducible apply r_isi_tup (ex := No)); (walk_at "scal"))
  | ((with_reducible apply r_isi_tup); (walk_at "dat"))
  | ((with_reducible apply r_isi_list (ex := No)); (walk_at "scal"))
  | ((with_reducible apply r_isi_list); (walk_at "dat"))
  | ((with_reducible apply r_len_t); (walk_at "tup"))
  | ((with_reducible refine r_len_ss ?_ ?_); assumption)
  | ((with_reducible apply r_len_s); (walk_at "dat"))
  | ((with_reducible apply r_gtup); (walk_at "tup"); rfl)
  | with_reducible refine r_in_c ?_
  | with_reducible refine r_nin_c ?_
  | ((with_reducible apply r_at_t (i := 0)); (walk_at "tup"); (exact rfl); rfl)
  | ((with_reducible apply r_at_t (i := 1)); (walk_at "tup"); (exact rfl); rfl)
  | ((with_reducible apply r_at_t (i := 2)); (walk_at "tup"); (exact rfl); rfl)
  | ((with_reducible refine r_newT ?_ ?_); (exact Nat.le_of_ble_eq_true rfl); intro _ _ _ _ _)
  | ((with_reducible refine r_newL ?_ ?_); (exact Nat.le_of_ble_eq_true rfl); intro _ _ _ _ _)
  | with_reducible refine r_gcons ?_
  | with_reducible refine r_gnil ?_
  | ((with_reducible apply r_bool1); (walk_at "dat"); intro _ _)
  | with_reducible refine r_gsub ?_
  | ((with_reducible apply r_ixl (n := 0)); (walk_at "lst"); (exact rfl); rfl)
  | ((with_reducible apply r_ixl (n := 1)); (walk_at "lst"); (exact rfl); rfl)
  | ((with_reducible apply r_ixl (n := 2)); (walk_at "lst"); (exact rfl); rfl)
  | ((with_reducible apply r_ixl (n := 3)); (walk_at "lst"); (exact rfl); rfl)
  | with_reducible refine br_iN ?_
  | with_reducible refine br_nN ?_
  | with_reducible refine br_iNN ?_
  | with_reducible refine br_bN ?_
  | with_reducible refine br_sN ?_
  | with_reducible refine br_rN ?_
  | with_reducible refine br_nNN ?_
  | with_reducible refine r_min2 ?_
  | with_reducible refine r_max2 ?_
  | with_reducible refine r_abs ?_
  | with_reducible refine r_dget ?_
  | with_reducible refine r_din ?_
  | with_reducible refine r_dnin ?_
  | with_reducible refine r_dput ?_
  | ((with_reducible refine r_dnewK ?_); intro _ _ _ _ _)
  | with_reducible refine r_bm ?_
  | with_reducible refine r_bm0 ?_
  | ((with_reducible apply r_tyL); (walk_at "lst"))
  | ((with_reducible apply r_tupL); (walk_at "lst"); intro _ _ _ _ _)
  | ((with_reducible refine r_sl_s ?_ ?_); (walk_at "len")))
local macro_rules | `(tactic| walk_at "br") => `(tactic| first
  | with_reducible refine br_nd ?_ ?_
  | with_reducible refine br_d ?_ ?_
  | with_reducible refine br_n ?_ ?_
  | with_reducible refine r_ite ?_ ?_)
local macro_rules | `(tactic| walk_at "go") => `(tactic| repeat (walk_at "s"))

section
variable {P : Program} {w : World} {K : PySem.W.Frag} {mg : Str → Option Value} {base : Heap} {c : Ads}
/-! the looks at data -/
theorem c_is_whole (T : Txt K mg c) : Cal P w K mg base CX0 1 "is_whole" ["thing"] (spBool1 wholeD) := by
  refine T.d_is_whole.cal sc_is_whole sp1_len (fun f cdv A outer s H vs Q E hr h => ?_)
  obtain ⟨v, rfl, ex, d, hd, k⟩ := h
  refine ⟨_, (pss_one (ps_ret (pe_and (pe_callB (call_isi2 (K := K)) (by rfl) T.n_isinstance (by decide +kernel) (pa_cons (pv 0) (pa_cons (pe_bltn (v := .ty "int") (by rfl) T.n_int (by decide +kernel) rfl) pa_nil))) (pe_one (pe_not (pe_callB (call_isi2 (K := K)) (by rfl) T.n_isinstance (by decide +kernel) (pa_cons (pv 0) (pa_cons (pe_bltn (v := .ty "bool") (by rfl) T.n_bool (by decide +kernel) rfl) pa_nil)))))))), ?_⟩
  walk_at "go"
  walk_at "br"
  · intro h1
    walk_at "go"
    exact fin_b k (by rw [wholeD_eq, h1]; rfl) (by walk_at "kp")
  · intro h1
    exact fin_b k (by rw [wholeD_eq, h1]; rfl) (by walk_at "kp")
theorem c_is_span (T : Txt K mg c) : Cal P w K mg base CX0 2 "is_span" ["thing"] (spBool1 spanD) := by
  refine T.d_is_span.cal sc_is_span sp1_len (fun f cdv A outer s H vs Q E hr h => ?_)
  obtain ⟨v, rfl, ex, d, hd, k⟩ := h
  refine ⟨_, (pss_cons (ps_if (PW.pt (pw_or (pt_not (pt_val (pe_callB (call_isi2 (K := K)) (by rfl) T.n_isinstance (by decide +kernel) (pa_cons (pv 0) (pa_cons (pe_bltn (v := .ty "tuple") (by rfl) T.n_tuple (by decide +kernel) rfl) pa_nil))) (by intro _; rfl))) (pw_or1 (pt_cmpR (op_ne2 (K := K) hr.units) (pe_callB (call_len2 (K := K)) (by rfl) T.n_len (by decide +kernel) (pa_cons (pv 0) pa_nil)) pe_int (nomark _))))) (pss_one (ps_ret pe_bl)) pss_nil)
    (pss_cons (ps_for PassesOwn.never rfl (pi_any (K := K) (pv 0)) (pg_name (i := 1) sc_is_span.nd rfl (by first | exact Or.inl rfl | exact Or.inr rfl))
      (pss_one (ps_if (PW.pt (pw_and (pt_cmp (pc_notN (pv 1)) rfl) (pw_and1 (pt_not (pt_val (pe_cal (c_is_whole T) (hr.mono (by decide)) pass0 (pa_cons (pv 1) pa_nil)) (by intro _; rfl)))))) (pss_one (ps_ret pe_bl)) pss_nil)))
    (pss_cons (ps_asg (pv 0) (pg_tup2 (K := K) (n := 2) (by rfl) (pgs_cons (pg_name (i := 2) sc_is_span.nd rfl (by first | exact Or.inl rfl | exact Or.inr rfl)) (pgs_cons (pg_name (i := 3) sc_is_span.nd rfl (by first | exact Or.inl rfl | exact Or.inr rfl)) pgs_nil))))
    (pss_one (ps_ret (pe_or (pe_cmp (pc_isN (pv 2)) rfl) (pe_or (pe_cmp (pc_isN (pv 3)) rfl) (pe_one (pe_cmpR op_le2 (pv 2) (pv 3) (nomark _)))))))))), ?_⟩
  walk_at "go"
  walk_at "br"
  · intro h1
    walk_at "go"
    have e : spanD d = false := by cases d <;> first | rfl | cases h1
    exact fin_b k e (by walk_at "kp")
  · intro h1
    obtain ⟨a, xs, ds, rfl, rfl, ha, hds⟩ := hd.tupI h1
    have hl := hds.len
    walk_at "go"
    walk_at "br"
    · intro h2
      walk_at "go"
      have e : spanD (.tuple ds) = false := by
        match ds, hl with
        | [_, _], hl => exact absurd (by rw [hl]; rfl) h2
        | [], _ => rfl
        | [_], _ => rfl
        | _ :: _ :: _ :: _, _ => rfl
      exact fin_b k e (by walk_at "kp")
    · intro h2
      obtain ⟨d1, d2, rfl⟩ : ∃ d1 d2, ds = [d1, d2] := by
        match ds, hl with
        | [d1, d2], _ => exact ⟨d1, d2, rfl⟩
        | [], hl => simp at hl; subst hl; simp at h2
        | [_], hl => rw [hl] at h2; simp at h2
        | _ :: _ :: _ :: _, hl => rw [hl] at h2; simp at h2; omega
      obtain ⟨x, y, rfl⟩ : ∃ x y, xs = [x, y] := by
        match xs, hl with
        | [x, y], _ => exact ⟨x, y, rfl⟩
      have hx : Dat ex H x d1 := by
        cases hds with
        | cons h _ => exact h
      have hy : Dat ex H y d2 := by
        cases hds with
        | cons _ h => cases h with | cons h _ => exact h
      walk_at "go"
      refine r_forT ?_
      walk_at "go"
      refine lpT No (fun i σ' H' => ∃ o, σ' = [some (.ref a), o, none, none] ∧ (([d1, d2] : List PyData).take i).all endD = true) ha ⟨none, rfl, rfl⟩ ?_ ?_
      · rintro i z σ' H' hi kp ⟨o, rfl, hall⟩
        obtain ⟨dz, hdz, hz⟩ := hds.get hi
        walk_at "go"
        have step : ∀ b, endD dz = b → (([d1, d2] : List PyData).take (i + 1)).all endD = b := fun b hb => by
          rw [List.take_add_one, hdz, List.all_append, hall, ← hb]
          simp
        have bad : endD dz = false → spanD (.tuple [d1, d2]) = false := fun hb => by
          have hm : dz ∈ ([d1, d2] : List PyData) := List.mem_of_getElem? hdz
          simp only [List.mem_cons, List.not_mem_nil, or_false] at hm
          rcases hm with rfl | rfl <;> simp [spanD, hb]
        walk_at "br"
        · intro h3
          walk_at "go"
          walk_at "br"
          · intro h4
            walk_at "go"
            refine fin_b k (bad ?_) (by walk_at "kp")
            cases dz <;> first | rfl | (cases hz; exact absurd rfl h3) | cases h4
          · intro h4
            walk_at "go"
            refine ⟨by walk_at "kp", _, rfl, step true ?_⟩
            cases dz <;> first | rfl | cases h4
        · intro h3
          walk_at "go"
          refine ⟨by walk_at "kp", _, rfl, step true ?_⟩
          subst h3
          cases hz
          rfl
      · rintro σ' H' kp ⟨o, rfl, hall⟩
        have h12 : endD d1 = true ∧ endD d2 = true := by simpa using hall
        have endI : ∀ {x : V} {d : PyData}, Dat ex H x d → endD d = true → ¬ x = .non → ∃ i, x = .int i ∧ d = .int i := fun hx he hn => by
          cases hx <;> first | exact ⟨_, rfl, rfl⟩ | exact absurd rfl hn | cases he
        walk_at "go"
        walk_at "br"
        · intro h5
          subst h5
          cases hx
          refine fin_b k ?_ (by walk_at "kp")
          show (endD .none && endD d2 && leD .none d2) = true
          rw [h12.2]; rfl
        · intro h5
          walk_at "go"
          walk_at "br"
          · intro h6
            subst h6
            cases hy
            refine fin_b k ?_ (by walk_at "kp")
            show (endD d1 && endD .none && leD d1 .none) = true
            rw [h12.1]
            cases d1 <;> rfl
          · intro h6
            obtain ⟨i, rfl, rfl⟩ := endI hx h12.1 h5
            obtain ⟨j, rfl, rfl⟩ := endI hy h12.2 h6
            walk_at "go"
            exact fin_b k rfl (by walk_at "kp")
theorem c_is_field (T : Txt K mg c) : Cal P w K mg base CX0 1 "is_field" ["thing"] (spBool1 fieldD) := by
  refine T.d_is_field.cal sc_is_field sp1_len (fun f cdv A outer s H vs Q E hr h => ?_)
  obtain ⟨v, rfl, ex, d, hd, k⟩ := h
  refine ⟨_, (pss_cons (ps_if (PW.pt (pw_or (pt_not (pt_val (pe_callB (call_isi2 (K := K)) (by rfl) T.n_isinstance (by decide +kernel) (pa_cons (pv 0) (pa_cons (pe_bltn (v := .ty "str") (by rfl) T.n_str (by decide +kernel) rfl) pa_nil))) (by intro _; rfl))) (pw_or (pt_cmpR (op_eq2 (K := K) hr.units) (pv 0) pe_str (nomark _)) (pw_or1 (pt_cmpR op_gt2 (pe_callB (call_len2 (K := K)) (by rfl) T.n_len (by decide +kernel) (pa_cons (pv 0) pa_nil)) (pe_glo T.g_LONGEST) (nomark _)))))) (pss_one (ps_ret pe_bl)) pss_nil)
    (pss_cons (ps_for PassesOwn.never rfl (pi_any (K := K) (pv 0)) (pg_name (i := 1) sc_is_field.nd rfl (by first | exact Or.inl rfl | exact Or.inr rfl))
      (pss_one (ps_if (pt_cmpR (op_nin2 (K := K)) (pv 1) (pe_glo T.g_LETTERS) (by rfl)) (pss_one (ps_ret pe_bl)) pss_nil)))
    (pss_one (ps_ret pe_bl)))), ?_⟩
  walk_at "go"
  walk_at "br"
  · intro h1
    walk_at "go"
    have e : fieldD d = false := by cases d <;> first | rfl | cases h1
    exact fin_b k e (by walk_at "kp")
  · intro h1
    obtain ⟨x, rfl, rfl, hx⟩ := hd.strI h1
    have hlen : x.length = x.cps.toList.length := by rw [Array.length_toList]; rfl
    walk_at "go"
    walk_at "br"
    · intro h2
      walk_at "go"
      exact fin_b k (by subst h2; decide +kernel) (by walk_at "kp")
    · intro h2
      walk_at "go"
      walk_at "br"
      · intro h3
        walk_at "go"
        refine fin_b k ?_ (by walk_at "kp")
        have h3' : ¬ x.cps.toList.length ≤ 8 := by rw [← hlen]; omega
        show (!x.cps.toList.isEmpty && decide (x.cps.toList.length ≤ 8) && _) = false
        rw [decide_eq_false h3', Bool.and_false, Bool.false_and]
      · intro h3
        walk_at "go"
        refine r_forS ?_
        walk_at "go"
        refine lpS (fun i σ' H' => Kp No H H' ∧ (∃ o, σ' = [some (.str x), o]) ∧ (x.cps.toList.take i).all (fun c => decide (c ∈ lettersL)) = true) ⟨Kp.refl, ⟨none, rfl⟩, rfl⟩ ?_ ?_
        · rintro i z σ' H' hi ⟨kp, ⟨o, rfl⟩, hall⟩
          walk_at "go"
          have hz : z ∈ x.cps.toList := List.mem_of_getElem? hi
          walk_at "br"
          · intro h4
            walk_at "go"
            refine fin_b k ?_ (by walk_at "kp")
            have e : (x.cps.toList.all fun c => decide (c ∈ lettersL)) = false := List.all_eq_false.mpr ⟨z, hz, by rw [decide_eq_true_eq]; exact h4⟩
            show (!x.cps.toList.isEmpty && decide (x.cps.toList.length ≤ 8) && _) = false
            rw [e, Bool.and_false]
          · intro h4
            walk_at "go"
            refine ⟨by walk_at "kp", ⟨_, rfl⟩, ?_⟩
            rw [List.take_add_one, hi, List.all_append, hall]
            show (true && (decide (z ∈ lettersL) && true)) = true
            rw [decide_eq_true (show z ∈ lettersL from h4)]; rfl
        · rintro σ' H' ⟨kp, ⟨o, rfl⟩, hall⟩
          walk_at "go"
          refine fin_b k ?_ (by walk_at "kp")
          rw [List.take_length] at hall
          have h3' : x.cps.toList.length ≤ 8 := by rw [← hlen]; omega
          have h2' : (!x.cps.toList.isEmpty) = true := by
            cases e : x.cps.toList with
            | nil => exact absurd (TL.ext_tl (x := x) (y := Str.ofString "") (by show x.cps.toList = _; rw [e]; decide +kernel)) h2
            | cons _ _ => rfl
          show (!x.cps.toList.isEmpty && decide (x.cps.toList.length ≤ 8) && _) = true
          rw [h2', decide_eq_true h3', hall]; rfl
abbrev spParts : Sp := sp2 fun v z H Q _ => ∃ ex d n, Dat ex H v d ∧ z = .int (n : Nat) ∧ 1 ≤ n ∧ ∀ H', Kp No H H' → Q (.bl (partsD n d)) H'
theorem c_are_parts (T : Txt K mg c) : Cal P w K mg base CX0 2 "are_parts" ["thing", "size"] spParts := by
  refine T.d_are_parts.cal sc_are_parts sp2_len (fun f cdv A outer s H vs Q E hr h => ?_)
  obtain ⟨v, _, rfl, ex, d, n, hd, rfl, hn1, k⟩ := h
  refine ⟨_, (pss_cons (ps_if (pt_not (pt_val (pe_callB (call_isi2 (K := K)) (by rfl) T.n_isinstance (by decide +kernel) (pa_cons (pv 0) (pa_cons (pe_bltn (v := .ty "tuple") (by rfl) T.n_tuple (by decide +kernel) rfl) pa_nil))) (by intro _; rfl))) (pss_one (ps_ret pe_bl)) pss_nil)
    (pss_cons (ps_set (i := 2) sc_are_parts.nd rfl (by first | exact Or.inl rfl | exact Or.inr rfl) pe_str)
    (pss_cons (ps_for PassesOwn.never rfl (pi_any (K := K) (pv 0)) (pg_name (i := 3) sc_are_parts.nd rfl (by first | exact Or.inl rfl | exact Or.inr rfl))
      (pss_cons (ps_if (PW.pt (pw_or (pt_not (pt_val (pe_callB (call_isi2 (K := K)) (by rfl) T.n_isinstance (by decide +kernel) (pa_cons (pv 3) (pa_cons (pe_bltn (v := .ty "tuple") (by rfl) T.n_tuple (by decide +kernel) rfl) pa_nil))) (by intro _; rfl))) (pw_or1 (pt_cmpR (op_ne2 (K := K) hr.units) (pe_callB (call_len2 (K := K)) (by rfl) T.n_len (by decide +kernel) (pa_cons (pv 3) pa_nil)) (pv 1) (nomark _))))) (pss_one (ps_ret pe_bl)) pss_nil)
      (pss_cons (ps_if (PW.pt (pw_or (pt_not (pt_val (pe_cal (c_is_field T) (hr.mono (by decide)) pass0 (pa_cons (pe_ix (ix_any (K := K)) (pv 3) pe_int (fun _ _ => rfl)) pa_nil)) (by intro _; rfl))) (pw_or1 (pt_cmpR op_le2 (pe_ix (ix_any (K := K)) (pv 3) pe_int (fun _ _ => rfl)) (pv 2) (nomark _))))) (pss_one (ps_ret pe_bl)) pss_nil)
      (pss_one (ps_set (i := 2) sc_are_parts.nd rfl (by first | exact Or.inl rfl | exact Or.inr rfl) (pe_ix (ix_any (K := K)) (pv 3) pe_int (fun _ _ => rfl)))))))
    (pss_one (ps_ret pe_bl))))), ?_⟩
  walk_at "go"
  walk_at "br"
  · intro h1
    walk_at "go"
    have e : partsD n d = false := by cases d <;> first | rfl | cases h1
    exact fin_b k e (by walk_at "kp")
  · intro h1
    obtain ⟨a, xs, ds, rfl, rfl, ha, hds⟩ := hd.tupI h1
    walk_at "go"
    refine r_forT ?_
    walk_at "go"
    refine lpT No (fun i σ' H' => ∃ last o, σ' = [some (.ref a), some (.int (n : Nat)), some (.str last), o] ∧ partsGo n Str.empty ds = partsGo n last (ds.drop i) ∧ last.length ≤ 1000000) ha ⟨_, none, rfl, rfl, by decide⟩ ?_ ?_
    · rintro i z σ' H' hi kp ⟨last, o, rfl, hgo, hlast⟩
      obtain ⟨dz, hdz, hz0⟩ := hds.get hi
      have hz : Dat ex H' z dz := by walk_at "dat"
      have edrop : ds.drop i = dz :: ds.drop (i + 1) := by
        obtain ⟨hlt, e⟩ := List.getElem?_eq_some_iff.mp hdz
        rw [List.drop_eq_getElem_cons hlt, e]
      rw [edrop] at hgo
      walk_at "go"
      walk_at "br"
      · intro h2
        walk_at "go"
        refine fin_b k ?_ (by walk_at "kp")
        show partsGo n Str.empty ds = false
        rw [hgo]
        cases dz <;> first | rfl | cases h2
      · intro h2
        obtain ⟨b, ys, es, rfl, rfl, hb, hes⟩ := hz.tupI h2
        have hl := hes.len
        walk_at "go"
        walk_at "br"
        · intro h3
          walk_at "go"
          refine fin_b k ?_ (by walk_at "kp")
          show partsGo n Str.empty ds = false
          rw [hgo]
          exact partsGo_len (by omega)
        · intro h3
          obtain ⟨y0, ys', rfl⟩ : ∃ y0 ys', ys = y0 :: ys' := by
            cases ys with
            | nil => simp at h3; omega
            | cons y0 ys' => exact ⟨y0, ys', rfl⟩
          cases hes with
          | @cons _ _ e0 es' he0 hes' =>
            walk_at "go"
            walk_at "br"
            · intro h4
              walk_at "go"
              refine fin_b k ?_ (by walk_at "kp")
              show partsGo n Str.empty ds = false
              rw [hgo]
              exact partsGo_fld h4
            · intro h4
              have hstr : isStrD e0 = true := by cases e0 <;> first | rfl | cases h4
              obtain ⟨f0, rfl, rfl, hf0⟩ := he0.strI hstr
              walk_at "go"
              walk_at "br"
              · intro h5
                walk_at "go"
                refine fin_b k ?_ (by walk_at "kp")
                show partsGo n Str.empty ds = false
                rw [hgo]
                exact partsGo_le (decide_eq_false h5)
              · intro h5
                walk_at "go"
                refine ⟨by walk_at "kp", _, _, rfl, ?_, hf0⟩
                rw [hgo]
                have hlen2 : es'.length + 1 = n := by
                  have q := hes'.len
                  simp at h3
                  omega
                exact partsGo_ok hlen2 h4 (decide_eq_true h5)
    · rintro σ' H' kp ⟨last, o, rfl, hgo, hlast⟩
      walk_at "go"
      refine fin_b k ?_ (by walk_at "kp")
      show partsGo n Str.empty ds = true
      rw [hgo, hds.len, List.drop_length]
      rfl

end

section
variable {P : Program} {w : World} {K : PySem.W.Frag} {mg : Str → Option Value} {base : Heap} {c : Ads}
theorem c_is_wish (T : Txt K mg c) : Cal P w K mg base CX0 3 "is_wish" ["thing"] (spBool1 wishD) := by
  refine T.d_is_wish.cal sc_is_wish sp1_len (fun f cdv A outer s H vs Q E hr h => ?_)
  obtain ⟨v, rfl, ex, d, hd, k⟩ := h
  refine ⟨_, (pss_cons (ps_if (pt_not (pt_val (pe_cal (c_are_parts T) (hr.mono (by decide)) pass0 (pa_cons (pv 0) (pa_cons pe_int pa_nil))) (by intro _; rfl))) (pss_one (ps_ret pe_bl)) pss_nil)
    (pss_cons (ps_for PassesOwn.never rfl (pi_any (K := K) (pv 0)) (pg_tup2 (K := K) (n := 3) (by rfl) (pgs_cons (pg_name (i := 1) sc_is_wish.nd rfl (by first | exact Or.inl rfl | exact Or.inr rfl)) (pgs_cons (pg_name (i := 2) sc_is_wish.nd rfl (by first | exact Or.inl rfl | exact Or.inr rfl)) (pgs_cons (pg_name (i := 3) sc_is_wish.nd rfl (by first | exact Or.inl rfl | exact Or.inr rfl)) pgs_nil))))
      (pss_one (ps_if (pt_not (pt_val (pe_cal (c_is_span T) (hr.mono (by decide)) pass0 (pa_cons (pe_tup (pa_cons (pv 2) (pa_cons (pv 3) pa_nil))) pa_nil)) (by intro _; rfl))) (pss_one (ps_ret pe_bl)) pss_nil)))
    (pss_one (ps_ret pe_bl)))), ?_⟩
  walk_at "go"
  refine ⟨ex, d, 3, hd, rfl, by decide, fun H1 k1 => ?_⟩
  walk_at "go"
  walk_at "br"
  · intro h1
    walk_at "go"
    refine fin_b k ?_ (by walk_at "kp")
    cases d <;> first | rfl | (show (_ && _) = false; rw [show partsGo 3 Str.empty _ = false from h1]; rfl)
  · intro h1
    obtain ⟨ds, rfl⟩ : ∃ ds, d = .tuple ds := by cases d <;> first | exact ⟨_, rfl⟩ | cases h1
    obtain ⟨a, xs, rfl, ha0, hds0⟩ := hd.tupE
    have ha : H1 a = some (.tup xs) := by walk_at "tup"
    have hds : Dats ex H1 xs ds := by walk_at "dats"
    walk_at "go"
    refine r_forT ?_
    walk_at "go"
    refine lpT No (fun i σ' H' => (∃ o1 o2 o3, σ' = [some (.ref a), o1, o2, o3]) ∧ (ds.take i).all spanOf = true) ha ⟨⟨none, none, none, rfl⟩, rfl⟩ ?_ ?_
    · rintro i z σ' H' hi kp ⟨⟨o1, o2, o3, rfl⟩, hall⟩
      obtain ⟨dz, hdz, hz0⟩ := hds.get hi
      have hz : Dat ex H' z dz := by walk_at "dat"
      have hm : dz ∈ ds := List.mem_of_getElem? hdz
      obtain ⟨f, r, rfl, hr3, hf⟩ := partsGo_mem h1 dz hm
      obtain ⟨lo, hi', rfl⟩ : ∃ lo hi', r = [lo, hi'] := by
        match r, hr3 with
        | [lo, hi'], _ => exact ⟨lo, hi', rfl⟩
      obtain ⟨b, ys, rfl, hb, hes⟩ := hz.tupE
      obtain ⟨y0, y1, y2, rfl, hy0, hy1, hy2⟩ := hes.inv3
      walk_at "go"
      have step : spanD (.tuple [lo, hi']) = true → (ds.take (i + 1)).all spanOf = true := fun hb => by
        rw [List.take_add_one, hdz, List.all_append, hall]
        show (true && (spanD (.tuple [lo, hi']) && true)) = true
        rw [hb]; rfl
      walk_at "br"
      · intro h2
        walk_at "go"
        refine fin_b k ?_ (by walk_at "kp")
        have e : ds.all spanOf = false := List.all_eq_false.mpr ⟨_, hm, by rw [show spanOf (.tuple [.str f, lo, hi']) = spanD (.tuple [lo, hi']) from rfl, h2]; exact Bool.false_ne_true⟩
        show (partsGo 3 Str.empty ds && ds.all spanOf) = false
        rw [e, Bool.and_false]
      · intro h2
        walk_at "go"
        exact ⟨by walk_at "kp", ⟨_, _, _, rfl⟩, step h2⟩
    · rintro σ' H' kp ⟨⟨o1, o2, o3, rfl⟩, hall⟩
      walk_at "go"
      refine fin_b k ?_ (by walk_at "kp")
      rw [hds.len, List.take_length] at hall
      show (partsGo 3 Str.empty ds && ds.all spanOf) = true
      rw [hall, show partsGo 3 Str.empty ds = true from h1]; rfl
theorem c_is_piece (T : Txt K mg c) : Cal P w K mg base CX0 3 "is_piece" ["thing"] (spBool1 pieceD) := by
  refine T.d_is_piece.cal sc_is_piece sp1_len (fun f cdv A outer s H vs Q E hr h => ?_)
  obtain ⟨v, rfl, ex, d, hd, k⟩ := h
  refine ⟨_, (pss_cons (ps_if (pt_not (pt_val (pe_cal (c_are_parts T) (hr.mono (by decide)) pass0 (pa_cons (pv 0) (pa_cons pe_int pa_nil))) (by intro _; rfl))) (pss_one (ps_ret pe_bl)) pss_nil)
    (pss_cons (ps_for PassesOwn.never rfl (pi_any (K := K) (pv 0)) (pg_tup2 (K := K) (n := 2) (by rfl) (pgs_cons (pg_name (i := 1) sc_is_piece.nd rfl (by first | exact Or.inl rfl | exact Or.inr rfl)) (pgs_cons (pg_name (i := 2) sc_is_piece.nd rfl (by first | exact Or.inl rfl | exact Or.inr rfl)) pgs_nil)))
      (pss_one (ps_if (pt_not (pt_val (pe_cal (c_is_whole T) (hr.mono (by decide)) pass0 (pa_cons (pv 2) pa_nil)) (by intro _; rfl))) (pss_one (ps_ret pe_bl)) pss_nil)))
    (pss_one (ps_ret pe_bl)))), ?_⟩
  walk_at "go"
  refine ⟨ex, d, 2, hd, rfl, by decide, fun H1 k1 => ?_⟩
  walk_at "go"
  walk_at "br"
  · intro h1
    walk_at "go"
    refine fin_b k ?_ (by walk_at "kp")
    cases d <;> first | rfl | (show (_ && _) = false; rw [show partsGo 2 Str.empty _ = false from h1]; rfl)
  · intro h1
    obtain ⟨ds, rfl⟩ : ∃ ds, d = .tuple ds := by cases d <;> first | exact ⟨_, rfl⟩ | cases h1
    obtain ⟨a, xs, rfl, ha0, hds0⟩ := hd.tupE
    have ha : H1 a = some (.tup xs) := by walk_at "tup"
    have hds : Dats ex H1 xs ds := by walk_at "dats"
    walk_at "go"
    refine r_forT ?_
    walk_at "go"
    refine lpT No (fun i σ' H' => (∃ o1 o2, σ' = [some (.ref a), o1, o2]) ∧ (ds.take i).all numOf = true) ha ⟨⟨none, none, rfl⟩, rfl⟩ ?_ ?_
    · rintro i z σ' H' hi kp ⟨⟨o1, o2, rfl⟩, hall⟩
      obtain ⟨dz, hdz, hz0⟩ := hds.get hi
      have hz : Dat ex H' z dz := by walk_at "dat"
      have hm : dz ∈ ds := List.mem_of_getElem? hdz
      obtain ⟨f, r, rfl, hr3, hf⟩ := partsGo_mem h1 dz hm
      obtain ⟨nu, rfl⟩ : ∃ nu, r = [nu] := by
        match r, hr3 with
        | [nu], _ => exact ⟨nu, rfl⟩
      obtain ⟨b, ys, rfl, hb, hes⟩ := hz.tupE
      obtain ⟨y0, y1, rfl, hy0, hy1⟩ := hes.inv2
      walk_at "go"
      have step : wholeD nu = true → (ds.take (i + 1)).all numOf = true := fun hb => by
        rw [List.take_add_one, hdz, List.all_append, hall]
        show (true && (wholeD nu && true)) = true
        rw [hb]; rfl
      walk_at "br"
      · intro h2
        walk_at "go"
        refine fin_b k ?_ (by walk_at "kp")
        have e : ds.all numOf = false := List.all_eq_false.mpr ⟨_, hm, by rw [show numOf (.tuple [.str f, nu]) = wholeD nu from rfl, h2]; exact Bool.false_ne_true⟩
        show (partsGo 2 Str.empty ds && ds.all numOf) = false
        rw [e, Bool.and_false]
      · intro h2
        walk_at "go"
        exact ⟨by walk_at "kp", ⟨_, _, rfl⟩, step h2⟩
    · rintro σ' H' kp ⟨⟨o1, o2, rfl⟩, hall⟩
      walk_at "go"
      refine fin_b k ?_ (by walk_at "kp")
      rw [hds.len, List.take_length] at hall
      show (partsGo 2 Str.empty ds && ds.all numOf) = true
      rw [hall, show partsGo 2 Str.empty ds = true from h1]; rfl

end

section
variable {P : Program} {w : World} {K : PySem.W.Frag} {mg : Str → Option Value} {base : Heap} {c : Ads}
/-! writing -/
abbrev spShowEnd : Sp := sp1 fun v H Q _ => ∃ ex d, Dat ex H v d ∧ endD d = true ∧ okNum 40 d = true ∧ ∀ H', Kp No H H' → Q (.str (ofL (shEnd d))) H'
theorem c_show_end (T : Txt K mg c) : Cal P w K mg base CX0 1 "show_end" ["end"] spShowEnd := by
  refine T.d_show_end.cal sc_show_end sp1_len (fun f cdv A outer s H vs Q E hr h => ?_)
  obtain ⟨v, rfl, ex, d, hd, he, hk, k⟩ := h
  refine ⟨_, (pss_one (ps_ret (pe_ifExp (pt_cmp (pc_isN (pv 0)) rfl) (pe_glo T.g_OPEN) (pe_callTy call_strI (by rfl) T.n_str (by decide +kernel) (pa_cons (pv 0) pa_nil))))), ?_⟩
  walk_at "go"
  walk_at "br"
  · intro h1
    subst h1
    cases hd
    walk_at "go"
    have e : ofL (shEnd .none) = Str.ofString "*" := by decide +kernel
    rw [e] at k
    exact k _ (by walk_at "kp")
  · intro h1
    obtain ⟨i, rfl, rfl⟩ : ∃ i, v = .int i ∧ d = .int i := by
      cases hd <;> first | exact ⟨_, rfl, rfl⟩ | exact absurd rfl h1 | cases he
    have hk' : i.natAbs < 10 ^ 40 := of_decide_eq_true hk
    walk_at "go"
    have e : ofL (shEnd (.int i)) = numS i := TL.ext_tl (by rw [tl_ofL, tl_numS]; rfl)
    rw [e] at k
    exact k _ (by walk_at "kp")
def blanksS (ys : List Str) : Str := if ys = [] then Str.ofString "-" else Txt.join (Str.ofString " ") ys
abbrev spBlanks (K : PySem.W.Frag) : Sp := sp1 fun v H Q _ => ∃ (p : Addr) (ys : List Str), v = .ref p ∧ SqL K H p (ys.map V.str) ∧ (ys.map (·.length)).sum + ys.length ≤ 900000 ∧ ∀ H', Kp No H H' → Q (.str (blanksS ys)) H'
theorem c_with_blanks (T : Txt K mg c) : Cal P w K mg base CX0 1 "with_blanks" ["words"] (spBlanks K) := by
  refine T.d_with_blanks.cal sc_with_blanks sp1_len (fun f cdv A outer s H vs Q E hr h => ?_)
  obtain ⟨v, rfl, p, ys, rfl, hp, hsum, k⟩ := h
  refine ⟨_, (pss_one (ps_ret (pe_ifExp (pt_cmpR (op_eq2 (K := K) hr.units) (pv 0) (pe_lst pa_nil) (nomark _)) (pe_glo T.g_NONE) (pe_join2 (K := K) pe_str (pv 0))))), ?_⟩
  walk_at "go"
  walk_at "br"
  · intro h1
    have h1' : ys = [] := by cases ys <;> first | rfl | cases h1
    walk_at "go"
    have e : blanksS ys = Str.ofString "-" := if_pos h1'
    rw [e] at k
    exact k _ (by walk_at "kp")
  · intro h1
    have h1' : ys ≠ [] := fun z => by subst z; cases h1
    walk_at "go"
    refine r_join (by walk_at "sql") (by rw [l_blank]; omega) ?_
    have e : blanksS ys = Txt.join (Str.ofString " ") ys := if_neg h1'
    rw [e] at k
    exact k _ (by walk_at "kp")
theorem tl_blanks (ys : List Str) : TL.tl (blanksS ys) = if ys = [] then [45] else TL.joinL [32] (ys.map TL.tl) := by
  unfold blanksS
  by_cases h : ys = []
  · rw [if_pos h, if_pos h]; decide +kernel
  · rw [if_neg h, if_neg h, TL.join_eq, TL.tl_join]
    have e : TL.tl (Str.ofString " ") = [32] := by decide +kernel
    rw [e]
/-- the signs of a wish's part, as a text -/
theorem wpart_str {f : Str} {lo hi : PyData} : ((((f ++ Str.ofString ":") ++ ofL (shEnd lo)) ++ Str.ofString "..") ++ ofL (shEnd hi)) = ofL (shWishPart (.tuple [.str f, lo, hi])) := by
  refine TL.ext_tl ?_
  have e1 : TL.tl (Str.ofString ":") = [58] := by decide +kernel
  have e2 : TL.tl (Str.ofString "..") = [46, 46] := by decide +kernel
  rw [TL.tl_append, TL.tl_append, TL.tl_append, TL.tl_append, tl_ofL, tl_ofL, tl_ofL, e1, e2]
  show _ = TL.tl f ++ ([58] ++ (shEnd lo ++ ([46, 46] ++ shEnd hi)))
  simp only [List.append_assoc]
theorem ppart_str {f : Str} {i : Int} : (((Str.empty ++ f) ++ Str.ofString ":") ++ numS i) = ofL (shPiecePart (.tuple [.str f, .int i])) := by
  refine TL.ext_tl ?_
  have e1 : TL.tl (Str.ofString ":") = [58] := by decide +kernel
  have e0 : TL.tl Str.empty = [] := rfl
  rw [TL.tl_append, TL.tl_append, TL.tl_append, tl_ofL, e1, e0, tl_numS]
  show _ = TL.tl f ++ ([58] ++ numLI i)
  simp only [List.append_assoc, List.nil_append]
theorem shEnd_len {d : PyData} (h : okNum 40 d = true) : (shEnd d).length ≤ 41 := by
  cases d with
  | int i => exact numLI_len (by decide) (of_decide_eq_true h)
  | _ => exact (by decide : (1 : Nat) ≤ 41)
theorem field_len {f : Str} (h : fieldS f = true) : (TL.tl f).length ≤ 8 := (fieldL_iff.mp h).2.1
theorem sum_le {α : Type} {f : α → Nat} {n : Nat} : ∀ (l : List α), (∀ a ∈ l, f a ≤ n) → (l.map f).sum ≤ n * l.length
  | [], _ => by simp
  | a :: r, h => by
    have h1 := h a List.mem_cons_self
    have h2 := sum_le r fun b hb => h b (List.mem_cons_of_mem _ hb)
    rw [List.map_cons, List.sum_cons, List.length_cons, Nat.mul_succ]
    omega
/-- a wish's bounds: what writing asks -/
def SmallD (d : PyData) : Prop := ∀ ds, d = .tuple ds → ds.length ≤ 1000 ∧ ds.all (okPart 40) = true
abbrev spShowWish (c : Ads) : Sp := sp1 fun v H Q E => ∃ ex d, Dat ex H v d ∧ (wishD d = true → SmallD d) ∧ (∀ ds, d = .tuple ds → wishD d = true → ∀ H', Kp No H H' → Q (.str (ofL (shWish ds))) H') ∧ (wishD d = false → ∀ H', Kp No H H' → E (.ref c.NoWish) none H')
theorem c_show_wish (T : Txt K mg c) : Cal P w K mg base (L2.CX P w) 4 "show_wish" ["wish"] (spShowWish c) := by
  refine T.d_show_wish.calX sc_show_wish sp1_len (fun f cdv A outer s H vs Q E hr h => ?_)
  obtain ⟨v, rfl, ex, d, hd, hsm, k, kE⟩ := h
  refine ⟨_, (pss_cons (ps_if (pt_not (pt_val (pe_cal (c_is_wish T) (hr.mono (by decide)) pass0 (pa_cons (pv 0) pa_nil)) (by intro _; rfl))) (pss_one (ps_exc2 T.e_NoWish rfl (takes_of rfl rfl rfl rfl))) pss_nil)
    (pss_one (ps_ret (pe_cal (c_with_blanks T) (hr.mono (by decide)) pass0 (pa_cons (pe_lc (own := [("field", 1), ("low", 2), ("high", 3)]) (by rfl) sc_show_wish.nd (pi_any (K := K) (pv 0)) (blkOk_by (own := [("field", 1), ("low", 2), ("high", 3)]) (N := ["wish", "field", "low", "high"]) (sc := defScope s_show_wish) (by decide +kernel)) (fun _ _ _ _ _ => (pg_tup2 (K := K) (n := 3) (by rfl) (pgs_cons (pg_name (i := 1) sc_show_wish.nd rfl (by first | exact Or.inl rfl | exact Or.inr rfl)) (pgs_cons (pg_name (i := 2) sc_show_wish.nd rfl (by first | exact Or.inl rfl | exact Or.inr rfl)) (pgs_cons (pg_name (i := 3) sc_show_wish.nd rfl (by first | exact Or.inl rfl | exact Or.inr rfl)) pgs_nil))))) (fun _ _ _ _ _ => pts_nil) (fun _ _ _ _ _ => (pe_op (op_add2 (K := K)) (pe_op (op_add2 (K := K)) (pe_op (op_add2 (K := K)) (pe_op (op_add2 (K := K)) (pv 1) pe_str) (pe_cal (c_show_end T) (hr.mono (by decide)) pass0 (pa_cons (pv 2) pa_nil))) pe_str) (pe_cal (c_show_end T) (hr.mono (by decide)) pass0 (pa_cons (pv 3) pa_nil))))) pa_nil))))), ?_⟩
  walk_at "go"
  walk_at "br"
  · intro h1
    walk_at "go"
    exact kE h1 _ (by walk_at "kp")
  · intro h1
    obtain ⟨ds, rfl⟩ : ∃ ds, d = .tuple ds := by cases d <;> first | exact ⟨_, rfl⟩ | cases h1
    obtain ⟨hlen, hok⟩ := hsm h1 ds rfl
    obtain ⟨a, xs, rfl, ha0, hds0⟩ := hd.tupE
    walk_at "go"
    refine r_lcT ?_
    walk_at "go"
    have hdat : ∀ (z : V) (i : Nat), xs[i]? = some z → ∃ f lo hi y0 y1 y2 b, ds[i]? = some (.tuple [.str f, lo, hi]) ∧ z = .ref b ∧ H b = some (.tup [y0, y1, y2]) ∧ y0 = .str f ∧ Dat ex H y1 lo ∧ Dat ex H y2 hi ∧ fieldS f = true ∧ endD lo = true ∧ endD hi = true ∧ okNum 40 lo = true ∧ okNum 40 hi = true := fun z i hi => by
      obtain ⟨dz, hdz, hz⟩ := hds0.get hi
      have hm : dz ∈ ds := List.mem_of_getElem? hdz
      obtain ⟨f, lo, hi', rfl, hf, h1', h2', _⟩ := wish_part h1 hm
      obtain ⟨b, ys, rfl, hb, hes⟩ := hz.tupE
      obtain ⟨y0, y1, y2, rfl, hy0, hy1, hy2⟩ := hes.inv3
      obtain ⟨f', rfl, e, _⟩ := hy0.strI rfl
      injection e with e
      subst e
      have hk := List.all_eq_true.mp hok _ hm
      have hk2 : (okNum 40 (.str f) && (okNum 40 lo && (okNum 40 hi' && true))) = true := hk
      simp only [Bool.and_eq_true] at hk2
      exact ⟨f, lo, hi', _, y1, y2, b, hdz, rfl, hb, rfl, hy1, hy2, hf, h1', h2', hk2.2.1, hk2.2.2.1⟩
    have hxl : xs.length ≤ 1000 := by rw [hds0.len]; exact hlen
    refine lcT (fun D i acc H' => Kp No H H' ∧ acc = (ds.take i).map fun d => V.str (ofL (shWishPart d))) (by walk_at "tup") (fun D hD => ⟨by walk_at "kp", rfl⟩) (fun D i acc H' hp => hp.1.tup ha0) ?_ ?_
    · rintro D i acc z H' hD hi hacc hl ⟨kp, rfl⟩
      obtain ⟨fl, lo, hi', y0, y1, y2, b, hdz, rfl, hb, rfl, hy1, hy2, hf, he1, he2, hk1, hk2⟩ := hdat z i hi
      have hfl := field_len hf
      have hfl' : fl.length ≤ 8 := by rw [len_tl']; exact hfl
      have e1 := shEnd_len hk1
      have e2 := shEnd_len hk2
      have l1 : (ofL (shEnd lo)).length ≤ 41 := by rw [len_tl', tl_ofL]; exact e1
      have l2 : (ofL (shEnd hi')).length ≤ 41 := by rw [len_tl', tl_ofL]; exact e2
      have hil : i < xs.length := (List.getElem?_eq_some_iff.mp hi).1
      have hD0 : H D = none := Kp.free (ex := No) (by walk_at "kp") hD fun z => z
      walk_at "go"
      refine ⟨_, _, (by walk_at "dat"), he1, hk1, fun H2 k2 => ?_⟩
      walk_at "go"
      refine ⟨_, _, (by walk_at "dat"), he2, hk2, fun H3 k3 => ?_⟩
      walk_at "go"
      refine lc_yes (by walk_at "lst") hl (by omega) ⟨by walk_at "kp", ?_⟩
      rw [List.take_add_one, hdz, List.map_append, wpart_str]
      rfl
    · rintro D acc H' hD hacc hl ⟨kp, rfl⟩
      walk_at "go"
      have etake : ds.take xs.length = ds := by rw [hds0.len, List.take_length]
      rw [etake] at hacc
      have emap : (ds.map fun d => V.str (ofL (shWishPart d))) = (ds.map fun d => ofL (shWishPart d)).map V.str := by rw [List.map_map]; rfl
      rw [emap] at hacc
      have hpl : ∀ d ∈ ds, (ofL (shWishPart d)).length ≤ 100 := fun d hdm => by
        obtain ⟨f, lo, hi', rfl, hf, _⟩ := wish_part h1 hdm
        have hk2 : (okNum 40 (.str f) && (okNum 40 lo && (okNum 40 hi' && true))) = true := List.all_eq_true.mp hok _ hdm
        simp only [Bool.and_eq_true] at hk2
        have e1 := shEnd_len hk2.2.1
        have e2 := shEnd_len hk2.2.2.1
        have e3 := field_len hf
        rw [len_tl', tl_ofL]
        show (TL.tl f ++ ([58] ++ (shEnd lo ++ ([46, 46] ++ shEnd hi')))).length ≤ 100
        simp only [List.length_append, List.length_cons, List.length_nil]
        omega
      have hsum : (((ds.map fun d => ofL (shWishPart d)).map (·.length)).sum) ≤ 100 * ds.length := by
        rw [List.map_map]
        exact sum_le ds hpl
      refine ⟨D, _, rfl, SqL.of hacc, ?_, fun H2 k2 => ?_⟩
      · rw [List.length_map]; omega
      · have e : blanksS (ds.map fun d => ofL (shWishPart d)) = ofL (shWish ds) := TL.ext_tl (by
          rw [tl_blanks, tl_ofL]
          unfold shWish
          by_cases hne : ds = []
          · subst hne; rfl
          · rw [if_neg hne, if_neg (by simpa using hne), List.map_map]
            congr 1)
        rw [e]
        exact k ds rfl h1 _ (by walk_at "kp")
abbrev spShowPiece (c : Ads) : Sp := sp1 fun v H Q E => ∃ ex d, Dat ex H v d ∧ (pieceD d = true → SmallD d) ∧ (∀ ds, d = .tuple ds → pieceD d = true → ∀ H', Kp No H H' → Q (.str (ofL (shPiece ds))) H') ∧ (pieceD d = false → ∀ H', Kp No H H' → E (.ref c.NoPiece) none H')
theorem c_show_piece (T : Txt K mg c) : Cal P w K mg base (L2.CX P w) 4 "show_piece" ["piece"] (spShowPiece c) := by
  refine T.d_show_piece.calX sc_show_piece sp1_len (fun f cdv A outer s H vs Q E hr h => ?_)
  obtain ⟨v, rfl, ex, d, hd, hsm, k, kE⟩ := h
  refine ⟨_, (pss_cons (ps_if (pt_not (pt_val (pe_cal (c_is_piece T) (hr.mono (by decide)) pass0 (pa_cons (pv 0) pa_nil)) (by intro _; rfl))) (pss_one (ps_exc2 T.e_NoPiece rfl (takes_of rfl rfl rfl rfl))) pss_nil)
    (pss_one (ps_ret (pe_cal (c_with_blanks T) (hr.mono (by decide)) pass0 (pa_cons (pe_lc (own := [("field", 1), ("number", 2)]) (by rfl) sc_show_piece.nd (pi_any (K := K) (pv 0)) (blkOk_by (own := [("field", 1), ("number", 2)]) (N := ["piece", "field", "number"]) (sc := defScope s_show_piece) (by decide +kernel)) (fun _ _ _ _ _ => (pg_tup2 (K := K) (n := 2) (by rfl) (pgs_cons (pg_name (i := 1) sc_show_piece.nd rfl (by first | exact Or.inl rfl | exact Or.inr rfl)) (pgs_cons (pg_name (i := 2) sc_show_piece.nd rfl (by first | exact Or.inl rfl | exact Or.inr rfl)) pgs_nil)))) (fun _ _ _ _ _ => pts_nil) (fun _ _ _ _ _ => (pe_joined2 (.cons (pe_fmt (pv 1)) (.cons pe_str (.cons (pe_fmt (pv 2)) .nil)))))) pa_nil))))), ?_⟩
  walk_at "go"
  walk_at "br"
  · intro h1
    walk_at "go"
    exact kE h1 _ (by walk_at "kp")
  · intro h1
    obtain ⟨ds, rfl⟩ : ∃ ds, d = .tuple ds := by cases d <;> first | exact ⟨_, rfl⟩ | cases h1
    obtain ⟨hlen, hok⟩ := hsm h1 ds rfl
    obtain ⟨a, xs, rfl, ha0, hds0⟩ := hd.tupE
    walk_at "go"
    refine r_lcT ?_
    walk_at "go"
    have hdat : ∀ (z : V) (i : Nat), xs[i]? = some z → ∃ f n b, ds[i]? = some (.tuple [.str f, .int n]) ∧ z = .ref b ∧ H b = some (.tup [.str f, .int n]) ∧ fieldS f = true ∧ n.natAbs < 10 ^ 40 := fun z i hi => by
      obtain ⟨dz, hdz, hz⟩ := hds0.get hi
      have hm : dz ∈ ds := List.mem_of_getElem? hdz
      obtain ⟨f, n, rfl, hf⟩ := piece_part h1 hm
      obtain ⟨b, ys, rfl, hb, hes⟩ := hz.tupE
      obtain ⟨y0, y1, rfl, hy0, hy1⟩ := hes.inv2
      obtain ⟨f', rfl, e, _⟩ := hy0.strI rfl
      injection e with e
      subst e
      cases hy1
      have hk2 : (okNum 40 (.str f) && (decide (n.natAbs < 10 ^ 40) && true)) = true := List.all_eq_true.mp hok _ hm
      simp only [Bool.and_eq_true] at hk2
      exact ⟨f, n, b, hdz, rfl, hb, hf, of_decide_eq_true hk2.2.1⟩
    have hxl : xs.length ≤ 1000 := by rw [hds0.len]; exact hlen
    refine lcT (fun D i acc H' => Kp No H H' ∧ acc = (ds.take i).map fun d => V.str (ofL (shPiecePart d))) (by walk_at "tup") (fun D hD => ⟨by walk_at "kp", rfl⟩) (fun D i acc H' hp => hp.1.tup ha0) ?_ ?_
    · rintro D i acc z H' hD hi hacc hl ⟨kp, rfl⟩
      obtain ⟨fl, n, b, hdz, rfl, hb, hf, hn⟩ := hdat z i hi
      have hfl := field_len hf
      have hfl' : fl.length ≤ 8 := by rw [len_tl']; exact hfl
      have hnl : (numS n).length ≤ 41 := numS_len (by decide) hn
      have hil : i < xs.length := (List.getElem?_eq_some_iff.mp hi).1
      have hD0 : H D = none := Kp.free (ex := No) (by walk_at "kp") hD fun z => z
      walk_at "go"
      refine lc_yes (by walk_at "lst") hl (by omega) ⟨by walk_at "kp", ?_⟩
      rw [List.take_add_one, hdz, List.map_append, ppart_str]
      rfl
    · rintro D acc H' hD hacc hl ⟨kp, rfl⟩
      walk_at "go"
      have etake : ds.take xs.length = ds := by rw [hds0.len, List.take_length]
      rw [etake] at hacc
      have emap : (ds.map fun d => V.str (ofL (shPiecePart d))) = (ds.map fun d => ofL (shPiecePart d)).map V.str := by rw [List.map_map]; rfl
      rw [emap] at hacc
      have hpl : ∀ d ∈ ds, (ofL (shPiecePart d)).length ≤ 100 := fun d hdm => by
        obtain ⟨f, n, rfl, hf⟩ := piece_part h1 hdm
        have hk2 : (okNum 40 (.str f) && (decide (n.natAbs < 10 ^ 40) && true)) = true := List.all_eq_true.mp hok _ hdm
        simp only [Bool.and_eq_true] at hk2
        have e1 := numLI_len (i := n) (k := 40) (by decide) (of_decide_eq_true hk2.2.1)
        have e3 := field_len hf
        rw [len_tl', tl_ofL]
        show (TL.tl f ++ ([58] ++ numLI n)).length ≤ 100
        simp only [List.length_append, List.length_cons, List.length_nil]
        omega
      have hsum : (((ds.map fun d => ofL (shPiecePart d)).map (·.length)).sum) ≤ 100 * ds.length := by
        rw [List.map_map]
        exact sum_le ds hpl
      refine ⟨D, _, rfl, SqL.of hacc, ?_, fun H2 k2 => ?_⟩
      · rw [List.length_map]; omega
      · have e : blanksS (ds.map fun d => ofL (shPiecePart d)) = ofL (shPiece ds) := TL.ext_tl (by
          rw [tl_blanks, tl_ofL]
          unfold shPiece
          by_cases hne : ds = []
          · subst hne; rfl
          · rw [if_neg hne, if_neg (by simpa using hne), List.map_map]
            congr 1)
        rw [e]
        exact k ds rfl h1 _ (by walk_at "kp")

end

section
variable {P : Program} {w : World} {K : PySem.W.Frag} {mg : Str → Option Value} {base : Heap} {c : Ads}
/-! reading -/
abbrev spWordsOf (c : Ads) : Sp := sp2 fun v y H Q E => ∃ ex d b, Dat ex H v d ∧ y = .str b ∧ (b.length == 0) = false ∧ (∀ x, d = .str x → ∀ p H', H p = none → Kp No H H' → H' p = some (.lst ((Txt.split x b).map V.str)) → Q (.ref p) H') ∧ (isStrD d = false → ∀ H', Kp No H H' → E (.ref c.NoText) none H')
theorem c_words_of (T : Txt K mg c) : Cal P w K mg base (L2.CX P w) 1 "words_of" ["text", "by"] (spWordsOf c) := by
  refine T.d_words_of.calX sc_words_of sp2_len (fun f cdv A outer s H vs Q E hr h => ?_)
  obtain ⟨v, _, rfl, ex, d, b, hd, rfl, hb, k, kE⟩ := h
  refine ⟨_, (pss_cons (ps_if (pt_not (pt_val (pe_callB (call_isi2 (K := K)) (by rfl) T.n_isinstance (by decide +kernel) (pa_cons (pv 0) (pa_cons (pe_bltn (v := .ty "str") (by rfl) T.n_str (by decide +kernel) rfl) pa_nil))) (by intro _; rfl))) (pss_one (ps_exc2 T.e_NoText rfl (takes_of rfl rfl rfl rfl))) pss_nil)
    (pss_one (ps_ret (pe_split2 (pv 0) (pv 1))))), ?_⟩
  walk_at "go"
  walk_at "br"
  · intro h1
    walk_at "go"
    exact kE h1 _ (by walk_at "kp")
  · intro h1
    obtain ⟨x, rfl, rfl, hx⟩ := hd.strI h1
    walk_at "go"
    exact r_split hb hx (k x rfl)
abbrev spRdNum (c : Ads) : Sp := sp1 fun v H Q E => ∃ x, v = .str x ∧ x.length ≤ 1000000 ∧ (∀ i, rdNum (TL.tl x) = some i → ∀ H', Kp No H H' → Q (.int i) H') ∧ (rdNum (TL.tl x) = none → ∀ H', Kp No H H' → E (.ref c.NoText) none H')
theorem c_read_number (T : Txt K mg c) : Cal P w K mg base (L2.CX P w) 1 "read_number" ["word"] (spRdNum c) := by
  refine T.d_read_number.calX sc_read_number sp1_len (fun f cdv A outer s H vs Q E hr h => ?_)
  obtain ⟨v, rfl, x, rfl, hx, k, kE⟩ := h
  refine ⟨_, (pss_cons (ps_set (i := 1) sc_read_number.nd rfl (by first | exact Or.inl rfl | exact Or.inr rfl) (pe_ifExp (pt_val (pe_starts2 (pv 0) pe_str) (by intro _; rfl)) (pe_slice (sl_any (K := K)) (pv 0) (po_some pe_int) po_none) (pv 0)))
    (pss_cons (ps_if (PW.pt (pw_or (pt_cmpR (op_eq2 (K := K) hr.units) (pv 1) pe_str (nomark _)) (pw_or (pt_cmpR op_gt2 (pe_callB (call_len2 (K := K)) (by rfl) T.n_len (by decide +kernel) (pa_cons (pv 1) pa_nil)) (pe_glo T.g_MOST) (nomark _)) (pw_or1 (PW.pt (pw_and (pt_cmpR (op_eq2 (K := K) hr.units) (pe_ix (ix_any (K := K)) (pv 1) pe_int (fun _ _ => rfl)) pe_str (nomark _)) (pw_and1 (pt_cmpR (op_ne2 (K := K) hr.units) (pv 0) pe_str (nomark _))))))))) (pss_one (ps_exc2 T.e_NoText rfl (takes_of rfl rfl rfl rfl))) pss_nil)
    (pss_cons (ps_for (passes_of rfl) rfl (pi_any (K := K) (pv 1)) (pg_name (i := 2) sc_read_number.nd rfl (by first | exact Or.inl rfl | exact Or.inr rfl))
      (pss_one (ps_if (pt_cmpR (op_nin2 (K := K)) (pv 2) (pe_glo T.g_FIGURES) (by rfl)) (pss_one (ps_exc2 T.e_NoText rfl (takes_of rfl rfl rfl rfl))) pss_nil)))
    (pss_one (ps_ret (pe_callTy call_int2 (by rfl) T.n_int (by decide +kernel) (pa_cons (pv 0) pa_nil))))))), ?_⟩
  walk_at "go"
  walk_at "br"
  · intro h1
    rw [starts_one x (c := 45) (by decide +kernel)] at h1
    have hyt : TL.tl (cutS x (some 1) none) = figsOf (TL.tl x) := by
      unfold figsOf
      rw [if_pos (of_decide_eq_true h1), tl_cut1]
    have hyl : (cutS x (some 1) none).length ≤ 1000000 := Nat.le_trans (cutS_length _ _ _) hx
    walk_at "go"
    generalize cutS x (some 1) none = y at *
    rw [eq_lit (l := []) rfl, hyt]
    walk_at "br"
    · intro h2
      walk_at "go"
      exact kE (rdNum_no (.inl (of_decide_eq_true h2))) _ Kp.refl
    · intro h2'
      have h2 := of_decide_eq_false h2'
      walk_at "go"
      walk_at "br"
      · intro h3
        walk_at "go"
        exact kE (rdNum_no (.inr (.inl (by rw [← hyt, ← TL.len_tl]; omega)))) _ Kp.refl
      · intro h3
        obtain ⟨c0, r0, hcr⟩ := List.exists_cons_of_ne_nil h2
        have hc0 : (y).cps.toList[0]? = some c0 := by
          show (TL.tl y)[0]? = _
          rw [hyt, hcr]; rfl
        walk_at "go"
        refine r_ix_s hyl rfl hc0 ?_
        walk_at "go"
        rw [eq_lit (l := [48]) (by decide +kernel)]
        walk_at "br"
        · intro h4'
          have h4 : c0 = 48 := by
            have q : [c0] = [48] := h4'
            simpa using q
          walk_at "go"
          rw [eq_lit (l := [48]) (by decide +kernel)]
          walk_at "br"
          · intro h5
            walk_at "go"
            exact kE (rdNum_no (.inr (.inr ⟨by rw [hcr, h4]; rfl, h5⟩))) _ Kp.refl
          · intro h5
            have h6 : ¬ ((figsOf (TL.tl x)).head? = some 48 ∧ TL.tl x ≠ [48]) := fun z => z.2 h5
            walk_at "go"
            refine r_forS ?_
            walk_at "go"
            refine lpS (fun i σ' H' => Kp No H H' ∧ (∃ o, σ' = [some (.str x), some (.str y), o]) ∧ ((figsOf (TL.tl x)).take i).all isFig = true) ⟨Kp.refl, ⟨none, rfl⟩, rfl⟩ ?_ ?_
            · rintro i d σ' H' hi ⟨kp, ⟨o, rfl⟩, hall⟩
              have hi' : (figsOf (TL.tl x))[i]? = some d := by rw [← hyt]; exact hi
              walk_at "go"
              walk_at "br"
              · intro h7
                walk_at "go"
                refine kE (rdNum_bad (List.mem_of_getElem? hi') ?_) _ kp
                cases q : isFig d with
                | false => rfl
                | true => exact absurd (isFig_iff.mpr q) h7
              · intro h7
                walk_at "go"
                refine ⟨kp, ⟨_, rfl⟩, ?_⟩
                rw [List.take_add_one, hi', List.all_append, hall]
                show (true && (isFig d && true)) = true
                rw [isFig_iff.mp h7]; rfl
            · rintro σ' H' ⟨kp, ⟨o, rfl⟩, hall⟩
              have hl : (figsOf (TL.tl x)).take (y).cps.toList.length = figsOf (TL.tl x) := by
                show (figsOf (TL.tl x)).take (TL.tl y).length = _
                rw [congrArg List.length hyt, List.take_length]
              rw [hl] at hall
              have e := rdNum_yes h2 (by rw [← hyt, ← TL.len_tl]; omega) h6 hall
              walk_at "go"
              exact r_int_s e (k _ e _ kp)
        · intro h4'
          have h6 : ¬ ((figsOf (TL.tl x)).head? = some 48 ∧ TL.tl x ≠ [48]) := fun z => by
            have q : ¬ ([c0] = [48]) := h4'
            rw [hcr] at z
            exact q (by simpa using z.1)
          walk_at "go"
          refine r_forS ?_
          walk_at "go"
          refine lpS (fun i σ' H' => Kp No H H' ∧ (∃ o, σ' = [some (.str x), some (.str y), o]) ∧ ((figsOf (TL.tl x)).take i).all isFig = true) ⟨Kp.refl, ⟨none, rfl⟩, rfl⟩ ?_ ?_
          · rintro i d σ' H' hi ⟨kp, ⟨o, rfl⟩, hall⟩
            have hi' : (figsOf (TL.tl x))[i]? = some d := by rw [← hyt]; exact hi
            walk_at "go"
            walk_at "br"
            · intro h7
              walk_at "go"
              refine kE (rdNum_bad (List.mem_of_getElem? hi') ?_) _ kp
              cases q : isFig d with
              | false => rfl
              | true => exact absurd (isFig_iff.mpr q) h7
            · intro h7
              walk_at "go"
              refine ⟨kp, ⟨_, rfl⟩, ?_⟩
              rw [List.take_add_one, hi', List.all_append, hall]
              show (true && (isFig d && true)) = true
              rw [isFig_iff.mp h7]; rfl
          · rintro σ' H' ⟨kp, ⟨o, rfl⟩, hall⟩
            have hl : (figsOf (TL.tl x)).take (y).cps.toList.length = figsOf (TL.tl x) := by
              show (figsOf (TL.tl x)).take (TL.tl y).length = _
              rw [congrArg List.length hyt, List.take_length]
            rw [hl] at hall
            have e := rdNum_yes h2 (by rw [← hyt, ← TL.len_tl]; omega) h6 hall
            walk_at "go"
            exact r_int_s e (k _ e _ kp)
  · intro h1
    rw [starts_one x (c := 45) (by decide +kernel)] at h1
    have hyt : TL.tl x = figsOf (TL.tl x) := by
      unfold figsOf
      rw [if_neg (of_decide_eq_false h1)]
    have hyl := hx
    walk_at "go"
    rw [eq_lit (l := []) rfl, hyt]
    walk_at "br"
    · intro h2
      walk_at "go"
      exact kE (rdNum_no (.inl (of_decide_eq_true h2))) _ Kp.refl
    · intro h2'
      have h2 := of_decide_eq_false h2'
      walk_at "go"
      walk_at "br"
      · intro h3
        walk_at "go"
        exact kE (rdNum_no (.inr (.inl (by rw [← hyt, ← TL.len_tl]; omega)))) _ Kp.refl
      · intro h3
        obtain ⟨c0, r0, hcr⟩ := List.exists_cons_of_ne_nil h2
        have hc0 : (x).cps.toList[0]? = some c0 := by
          show (TL.tl x)[0]? = _
          rw [hyt, hcr]; rfl
        walk_at "go"
        refine r_ix_s hyl rfl hc0 ?_
        walk_at "go"
        rw [eq_lit (l := [48]) (by decide +kernel)]
        walk_at "br"
        · intro h4'
          have h4 : c0 = 48 := by
            have q : [c0] = [48] := h4'
            simpa using q
          walk_at "go"
          rw [eq_lit (l := [48]) (by decide +kernel)]
          walk_at "br"
          · intro h5
            walk_at "go"
            exact kE (rdNum_no (.inr (.inr ⟨by rw [hcr, h4]; rfl, h5⟩))) _ Kp.refl
          · intro h5
            have h6 : ¬ ((figsOf (TL.tl x)).head? = some 48 ∧ TL.tl x ≠ [48]) := fun z => z.2 h5
            walk_at "go"
            refine r_forS ?_
            walk_at "go"
            refine lpS (fun i σ' H' => Kp No H H' ∧ (∃ o, σ' = [some (.str x), some (.str x), o]) ∧ ((figsOf (TL.tl x)).take i).all isFig = true) ⟨Kp.refl, ⟨none, rfl⟩, rfl⟩ ?_ ?_
            · rintro i d σ' H' hi ⟨kp, ⟨o, rfl⟩, hall⟩
              have hi' : (figsOf (TL.tl x))[i]? = some d := by rw [← hyt]; exact hi
              walk_at "go"
              walk_at "br"
              · intro h7
                walk_at "go"
                refine kE (rdNum_bad (List.mem_of_getElem? hi') ?_) _ kp
                cases q : isFig d with
                | false => rfl
                | true => exact absurd (isFig_iff.mpr q) h7
              · intro h7
                walk_at "go"
                refine ⟨kp, ⟨_, rfl⟩, ?_⟩
                rw [List.take_add_one, hi', List.all_append, hall]
                show (true && (isFig d && true)) = true
                rw [isFig_iff.mp h7]; rfl
            · rintro σ' H' ⟨kp, ⟨o, rfl⟩, hall⟩
              have hl : (figsOf (TL.tl x)).take (x).cps.toList.length = figsOf (TL.tl x) := by
                show (figsOf (TL.tl x)).take (TL.tl x).length = _
                rw [congrArg List.length hyt, List.take_length]
              rw [hl] at hall
              have e := rdNum_yes h2 (by rw [← hyt, ← TL.len_tl]; omega) h6 hall
              walk_at "go"
              exact r_int_s e (k _ e _ kp)
        · intro h4'
          have h6 : ¬ ((figsOf (TL.tl x)).head? = some 48 ∧ TL.tl x ≠ [48]) := fun z => by
            have q : ¬ ([c0] = [48]) := h4'
            rw [hcr] at z
            exact q (by simpa using z.1)
          walk_at "go"
          refine r_forS ?_
          walk_at "go"
          refine lpS (fun i σ' H' => Kp No H H' ∧ (∃ o, σ' = [some (.str x), some (.str x), o]) ∧ ((figsOf (TL.tl x)).take i).all isFig = true) ⟨Kp.refl, ⟨none, rfl⟩, rfl⟩ ?_ ?_
          · rintro i d σ' H' hi ⟨kp, ⟨o, rfl⟩, hall⟩
            have hi' : (figsOf (TL.tl x))[i]? = some d := by rw [← hyt]; exact hi
            walk_at "go"
            walk_at "br"
            · intro h7
              walk_at "go"
              refine kE (rdNum_bad (List.mem_of_getElem? hi') ?_) _ kp
              cases q : isFig d with
              | false => rfl
              | true => exact absurd (isFig_iff.mpr q) h7
            · intro h7
              walk_at "go"
              refine ⟨kp, ⟨_, rfl⟩, ?_⟩
              rw [List.take_add_one, hi', List.all_append, hall]
              show (true && (isFig d && true)) = true
              rw [isFig_iff.mp h7]; rfl
          · rintro σ' H' ⟨kp, ⟨o, rfl⟩, hall⟩
            have hl : (figsOf (TL.tl x)).take (x).cps.toList.length = figsOf (TL.tl x) := by
              show (figsOf (TL.tl x)).take (TL.tl x).length = _
              rw [congrArg List.length hyt, List.take_length]
            rw [hl] at hall
            have e := rdNum_yes h2 (by rw [← hyt, ← TL.len_tl]; omega) h6 hall
            walk_at "go"
            exact r_int_s e (k _ e _ kp)
def endV : PyData → V
  | .int i => .int i
  | _ => .non
theorem rdEnd_kind {l : List Nat} {d : PyData} (h : rdEnd l = some d) : d = .none ∨ ∃ i, d = .int i := by
  unfold rdEnd at h
  split at h
  · cases h; exact .inl rfl
  · cases q : rdNum l with
    | none => rw [q] at h; cases h
    | some i => rw [q] at h; cases h; exact .inr ⟨i, rfl⟩
theorem endV_dat {ex : Addr → Prop} {H : Hp} {l : List Nat} {d : PyData} (h : rdEnd l = some d) : Dat ex H (endV d) d := by
  rcases rdEnd_kind h with rfl | ⟨i, rfl⟩
  · exact .non
  · exact .int i
abbrev spRdEnd (c : Ads) : Sp := sp1 fun v H Q E => ∃ x, v = .str x ∧ x.length ≤ 1000000 ∧ (∀ d, rdEnd (TL.tl x) = some d → ∀ H', Kp No H H' → Q (endV d) H') ∧ (rdEnd (TL.tl x) = none → ∀ H', Kp No H H' → E (.ref c.NoText) none H')
theorem c_read_end (T : Txt K mg c) : Cal P w K mg base (L2.CX P w) 2 "read_end" ["word"] (spRdEnd c) := by
  refine T.d_read_end.calX sc_read_end sp1_len (fun f cdv A outer s H vs Q E hr h => ?_)
  obtain ⟨v, rfl, x, rfl, hx, k, kE⟩ := h
  refine ⟨_, (pss_one (ps_ret (pe_ifExp (pt_cmpR (op_eq2 (K := K) hr.units) (pv 0) (pe_glo T.g_OPEN) (nomark _)) pe_non (pe_cal (c_read_number T) (hr.mono (by first | decide | omega)) (passes_call (takes_of rfl rfl rfl rfl) fun _ _ _ _ h => h) (pa_cons (pv 0) pa_nil))))), ?_⟩
  walk_at "go"
  rw [eq_lit (l := [42]) (by decide +kernel)]
  walk_at "br"
  · intro h1
    walk_at "go"
    exact k .none (if_pos h1) _ Kp.refl
  · intro h1
    walk_at "go"
    have e : rdEnd (TL.tl x) = (rdNum (TL.tl x)).map .int := if_neg h1
    refine ⟨x, rfl, hx, fun i hi H' kp => k (.int i) (by rw [e, hi]; rfl) _ kp, fun hn H' kp => kE (by rw [e, hn]; rfl) _ kp⟩
abbrev spTwoOf (c : Ads) : Sp := sp2 fun v y H Q E => ∃ x b, v = .str x ∧ x.length ≤ 1000000 ∧ y = .str b ∧ TL.tl b ≠ [] ∧ b.cps.all (· < 256) = true ∧ (b.length == 0) = false ∧ (∀ a e, two (TL.tl b) (TL.tl x) = some (a, e) → ∀ p H', Kp No H H' → H' p = some (.tup [.str (ofL a), .str (ofL e)]) → Q (.ref p) H') ∧ (two (TL.tl b) (TL.tl x) = none → ∀ H', Kp No H H' → E (.ref c.NoText) none H')
theorem c_two_of (T : Txt K mg c) : Cal P w K mg base (L2.CX P w) 1 "two_of" ["word", "by"] (spTwoOf c) := by
  refine T.d_two_of.calX sc_two_of sp2_len (fun f cdv A outer s H vs Q E hr h => ?_)
  obtain ⟨v, _, rfl, x, b, rfl, hx, rfl, hb, hb2, hb0, k, kE⟩ := h
  refine ⟨_, (pss_cons (ps_set (i := 2) sc_two_of.nd rfl (by first | exact Or.inl rfl | exact Or.inr rfl) (pe_split2 (pv 0) (pv 1)))
    (pss_cons (ps_if (pt_cmpR (op_ne2 (K := K) hr.units) (pe_callB (call_len2 (K := K)) (by rfl) T.n_len (by decide +kernel) (pa_cons (pv 2) pa_nil)) pe_int (nomark _)) (pss_one (ps_exc2 T.e_NoText rfl (takes_of rfl rfl rfl rfl))) pss_nil)
    (pss_one (ps_ret (pe_tup (pa_cons (pe_ix (ix_any (K := K)) (pv 2) pe_int (fun _ _ => rfl)) (pa_cons (pe_ix (ix_any (K := K)) (pv 2) pe_int (fun _ _ => rfl)) pa_nil))))))), ?_⟩
  walk_at "go"
  refine r_split hb0 hx fun p H1 hn k1 hp => ?_
  walk_at "go"
  refine r_len_l hp ?_
  walk_at "go"
  have hc := split_count x hb hb2
  have ht := two_split x hb hb2
  rw [List.length_map]
  walk_at "br"
  · intro h1
    walk_at "go"
    cases q : two (TL.tl b) (TL.tl x) with
    | none => exact kE q _ k1
    | some ae =>
      have e := ht.1 ae.1 ae.2 q
      rw [e] at h1
      exact absurd rfl h1
  · intro h1
    walk_at "go"
    cases q : two (TL.tl b) (TL.tl x) with
    | none => exact absurd (by omega) (ht.2 q)
    | some ae =>
      obtain ⟨a, e⟩ := ae
      have e2 := ht.1 a e q
      rw [e2] at hp
      walk_at "go"
      exact k a e q _ _ (by walk_at "kp") (by assumption)
/-- the words of a text: between blanks, none of "-" -/
def wordsD (x : Str) : List Str := if TL.tl x = [45] then [] else Txt.split x (Str.ofString " ")
theorem rdPiece_words (x : Str) : rdPiece (TL.tl x) = match mapO rdPiecePart ((wordsD x).map TL.tl) with
    | some ds => if pieceD (.tuple ds) = true then some ds else none
    | none => none := by
  unfold rdPiece wordsD
  by_cases h : TL.tl x = [45]
  · rw [if_pos h, if_pos h]; rfl
  · rw [if_neg h, if_neg h, split_tl x (by decide +kernel) (by decide +kernel)]
    have e : TL.tl (Str.ofString " ") = [32] := by decide +kernel
    first
      | (rw [e]; done)
      | (rw [e]; rfl)
theorem rdWish_words (x : Str) : rdWish (TL.tl x) = match mapO rdWishPart ((wordsD x).map TL.tl) with
    | some ds => if wishD (.tuple ds) = true then some ds else none
    | none => none := by
  unfold rdWish wordsD
  by_cases h : TL.tl x = [45]
  · rw [if_pos h, if_pos h]; rfl
  · rw [if_neg h, if_neg h, split_tl x (by decide +kernel) (by decide +kernel)]
    have e : TL.tl (Str.ofString " ") = [32] := by decide +kernel
    first
      | (rw [e]; done)
      | (rw [e]; rfl)
theorem wordsD_le {x w : Str} (h : w ∈ wordsD x) : w.length ≤ x.length := by
  unfold wordsD at h
  split at h
  · cases h
  · exact split_le x (by decide +kernel) (by decide +kernel) h
theorem wordsD_count (x : Str) : (wordsD x).length ≤ x.length + 1 := by
  unfold wordsD
  split
  · exact Nat.zero_le _
  · exact split_count x (by decide +kernel) (by decide +kernel)
abbrev spRd (c : Ads) (rd : List Nat → Option (List PyData)) : Sp := sp1 fun v H Q E => ∃ ex d, Dat ex H v d ∧ cmpD d = true ∧
  (∀ x ds, d = .str x → rd (TL.tl x) = some ds → ∀ p H', Kp No H H' → Dat All H' (.ref p) (.tuple ds) → Q (.ref p) H') ∧ ((∀ x, d = .str x → rd (TL.tl x) = none) → ∀ H', Kp No H H' → E (.ref c.NoText) none H')
theorem c_read_piece (T : Txt K mg c) : Cal P w K mg base (L2.CX P w) 4 "read_piece" ["text"] (spRd c rdPiece) := by
  refine T.d_read_piece.calX sc_read_piece sp1_len (fun f cdv A outer s H vs Q E hr h => ?_)
  obtain ⟨v, rfl, ex, d, hd, hcm, k, kE⟩ := h
  refine ⟨_, (pss_cons (ps_set (i := 1) sc_read_piece.nd rfl (by first | exact Or.inl rfl | exact Or.inr rfl) (pe_lst pa_nil))
    (pss_cons (ps_for (passes_of rfl) rfl (pi_any (K := K) (pe_ifExp (pt_cmpR (op_ne2 (K := K) hr.units) (pv 0) (pe_glo T.g_NONE) (nomark _)) (pe_cal (c_words_of T) (hr.mono (by first | decide | omega)) (passes_call (takes_of rfl rfl rfl rfl) fun _ _ _ _ h => h) (pa_cons (pv 0) (pa_cons pe_str pa_nil))) (pe_lst pa_nil))) (pg_name (i := 2) sc_read_piece.nd rfl (by first | exact Or.inl rfl | exact Or.inr rfl))
      (pss_cons (ps_asg (pe_cal (c_two_of T) (hr.mono (by first | decide | omega)) (passes_call (takes_of rfl rfl rfl rfl) fun _ _ _ _ h => h) (pa_cons (pv 2) (pa_cons pe_str pa_nil))) (pg_tup2 (K := K) (n := 2) (by rfl) (pgs_cons (pg_name (i := 3) sc_read_piece.nd rfl (by first | exact Or.inl rfl | exact Or.inr rfl)) (pgs_cons (pg_name (i := 4) sc_read_piece.nd rfl (by first | exact Or.inl rfl | exact Or.inr rfl)) pgs_nil))))
      (pss_one (ps_expr (pe_bm PySem.F.plainAttrs_list PySem.F.slot_list_append PySem.F.type_list_append mt_append (pv 1) (pa_cons (pe_tup (pa_cons (pv 3) (pa_cons (pe_cal (c_read_number T) (hr.mono (by first | decide | omega)) (passes_call (takes_of rfl rfl rfl rfl) fun _ _ _ _ h => h) (pa_cons (pv 4) pa_nil)) pa_nil))) pa_nil))))))
    (pss_cons (ps_if (pt_not (pt_val (pe_cal (c_is_piece T) (hr.mono (by first | decide | omega)) pass0 (pa_cons (pe_callTy (call_tuple2 (K := K)) (by rfl) T.n_tuple (by decide +kernel) (pa_cons (pv 1) pa_nil)) pa_nil)) (by intro _; rfl))) (pss_one (ps_exc2 T.e_NoText rfl (takes_of rfl rfl rfl rfl))) pss_nil)
    (pss_one (ps_ret (pe_callTy (call_tuple2 (K := K)) (by rfl) T.n_tuple (by decide +kernel) (pa_cons (pv 1) pa_nil))))))), ?_⟩
  walk_at "go"
  rename_i p H1 hp0 k1 hp1
  refine r_forL (via (fun u H2 => ∃ q x, u = .ref q ∧ d = .str x ∧ x.length ≤ 1000000 ∧ q ≠ p ∧ Kp No H1 H2 ∧ H2 q = some (.lst ((wordsD x).map V.str))) (fun Z hZ => ?_) ?_)
  · walk_at "go"
    refine r_ne_ds (by walk_at "dat") hcm (by decide +kernel) ?_
    walk_at "go"
    walk_at "br"
    · intro h1
      walk_at "go"
      refine ⟨_, d, _, (by walk_at "dat"), rfl, by decide +kernel, ?_, ?_⟩
      · rintro x rfl q H2 hq k2 hq2
        obtain ⟨_, _, e, hx⟩ := hd.strI rfl
        cases e
        refine hZ _ _ ⟨q, x, rfl, rfl, hx, ne_of_none hp1 hq |>.symm, k2, ?_⟩
        have e : wordsD x = Txt.split x (Str.ofString " ") := if_neg fun e => by
          have : isSD (Str.ofString "-") (.str x) = true := by
            show decide (x = _) = true
            rw [eq_lit (l := [45]) (by decide +kernel)]
            exact decide_eq_true e
          rw [this] at h1; cases h1
        rw [e]; exact hq2
      · intro hn H2 k2
        exact kE (fun x e => by rw [e] at hn; cases hn) _ (by walk_at "kp")
    · intro h1
      walk_at "go"
      rename_i q H2 hq k2 hq2
      have h1' : isSD (Str.ofString "-") d = true := by
        cases q : isSD (Str.ofString "-") d with
        | true => rfl
        | false => rw [q] at h1; cases h1
      obtain ⟨x, rfl⟩ : ∃ x, d = .str x := by cases d <;> first | exact ⟨_, rfl⟩ | cases h1'
      have e : wordsD x = [] := if_pos (by
        have q : decide (x = _) = true := h1'
        rw [eq_lit (l := [45]) (by decide +kernel)] at q
        exact of_decide_eq_true q)
      obtain ⟨_, _, e2, hx⟩ := hd.strI rfl
      cases e2
      exact hZ _ _ ⟨q, x, rfl, rfl, hx, ne_of_none hp1 hq |>.symm, k2, by rw [e]; exact hq2⟩
  · rintro u H2 ⟨q, x, rfl, rfl, hx, hqp, k2, hq2⟩
    have kE' : rdPiece (TL.tl x) = none → ∀ H', Kp No H H' → E (.ref c.NoText) none H' := fun e => kE fun y ey => by cases ey; exact e
    have hrd := rdPiece_words x
    refine lpL (fun i σ' H' => ∃ acc ds, Kp No H H' ∧ H' p = some (.lst acc) ∧ H' q = some (.lst ((wordsD x).map V.str)) ∧ Dats All H' acc ds ∧ mapO rdPiecePart (((wordsD x).map TL.tl).take i) = some ds ∧ ∃ o1 o2 o3, σ' = [some v, some (.ref p), o1, o2, o3])
      (SqL.of hq2) ⟨[], [], by walk_at "kp", k2.lst hp1, hq2, .nil, rfl, none, none, none, rfl⟩ (fun i σ' H' ⟨_, _, _, _, h, _⟩ => SqL.of h) ?_ ?_
    · rintro i z σ' H' hi ⟨acc, ds, kp, hp, hq, hds, hm, o1, o2, o3, rfl⟩
      obtain ⟨w, hw, rfl⟩ : ∃ w, (wordsD x)[i]? = some w ∧ z = V.str w := by
        rw [List.getElem?_map] at hi
        cases q : (wordsD x)[i]? with
        | none => rw [q] at hi; cases hi
        | some w => rw [q] at hi; cases hi; exact ⟨w, rfl, rfl⟩
      have hwm : w ∈ wordsD x := List.mem_of_getElem? hw
      have hwl : w.length ≤ 1000000 := Nat.le_trans (wordsD_le hwm) hx
      have hw' : ((wordsD x).map TL.tl)[i]? = some (TL.tl w) := by rw [List.getElem?_map, hw]; rfl
      have bad : rdPiecePart (TL.tl w) = none → rdPiece (TL.tl x) = none := fun e => by
        rw [hrd, mapO_none ⟨_, List.mem_map_of_mem hwm, e⟩]
      have hacc : acc.length ≤ 1000001 := by
        rw [hds.len, mapO_len hm, List.length_take, List.length_map]
        have := wordsD_count x
        omega
      walk_at "go"
      refine ⟨w, _, rfl, hwl, rfl, by decide +kernel, by decide +kernel, by decide +kernel, fun a e hae b H3 k3 hb => ?_, fun hn H3 k3 => ?_⟩
      · have hae' : two [58] (TL.tl w) = some (a, e) := hae
        have hle := two_le hae
        walk_at "go"
        refine ⟨_, rfl, (by rw [TL.len_tl, tl_ofL]; rw [TL.len_tl] at hwl; omega), fun n hn H4 k4 => ?_, fun hn H4 k4 => ?_⟩
        · have hn' : rdNum e = some n := by rw [tl_ofL] at hn; exact hn
          walk_at "go"
          rename_i b2 H5 hb2 k5 hb5
          have k7 : Kp No H' H5 := by walk_at "kp"
          have hp5 := k7.lst hp
          refine r_append hp5 (by omega) ?_
          have hpart : rdPiecePart (TL.tl w) = some (.tuple [.str (ofL a), .int n]) := by
            unfold rdPiecePart
            rw [hae']
            show (rdNum e).map _ = _
            rw [hn']; rfl
          refine ⟨_, _, Kp.fresh (by walk_at "kp") hp0, upd_same, by rw [upd_ne hqp]; exact k7.lst hq, Dats.all (Dats.append (hds.all k7) (Dats.one (.tup hb5 ?_))) (Kp.app hp5), mapO_take hm hw' hpart, _, _, _, rfl⟩
          have hal : (ofL a).length ≤ 1000000 := by rw [TL.len_tl, tl_ofL]; rw [TL.len_tl] at hwl; omega
          walk_at "dats"
        · refine kE' (bad ?_) _ (by walk_at "kp")
          have hn' : rdNum e = none := by rw [tl_ofL] at hn; exact hn
          unfold rdPiecePart
          rw [hae']
          show (rdNum e).map _ = none
          rw [hn']; rfl
      · refine kE' (bad ?_) _ (by walk_at "kp")
        unfold rdPiecePart
        have hn' : two [58] (TL.tl w) = none := hn
        rw [hn']
    · rintro σ' H' ⟨acc, ds, kp, hp, hq, hds, hm, o1, o2, o3, rfl⟩
      have hl : ((wordsD x).map TL.tl).take ((wordsD x).map V.str).length = (wordsD x).map TL.tl := by
        have e : ((wordsD x).map V.str).length = ((wordsD x).map TL.tl).length := by rw [List.length_map, List.length_map]
        rw [e, List.take_length]
      rw [hl] at hm
      rw [hm] at hrd
      walk_at "go"
      rename_i b H3 hb k3 hb3 H4 k4
      walk_at "br"
      · intro h1
        walk_at "go"
        exact kE' (by rw [hrd]; exact if_neg (by rw [h1]; exact Bool.false_ne_true)) _ (by walk_at "kp")
      · intro h1
        walk_at "go"
        rename_i b2 H5 hb2 k5 hb5
        exact k x ds rfl (by rw [hrd]; exact if_pos h1) _ _ (by walk_at "kp") (.tup hb5 (((hds.all k3).all k4).all k5))
theorem c_read_wish (T : Txt K mg c) : Cal P w K mg base (L2.CX P w) 4 "read_wish" ["text"] (spRd c rdWish) := by
  refine T.d_read_wish.calX sc_read_wish sp1_len (fun f cdv A outer s H vs Q E hr h => ?_)
  obtain ⟨v, rfl, ex, d, hd, hcm, k, kE⟩ := h
  refine ⟨_, (pss_cons (ps_set (i := 1) sc_read_wish.nd rfl (by first | exact Or.inl rfl | exact Or.inr rfl) (pe_lst pa_nil))
    (pss_cons (ps_for (passes_of rfl) rfl (pi_any (K := K) (pe_ifExp (pt_cmpR (op_ne2 (K := K) hr.units) (pv 0) (pe_glo T.g_NONE) (nomark _)) (pe_cal (c_words_of T) (hr.mono (by first | decide | omega)) (passes_call (takes_of rfl rfl rfl rfl) fun _ _ _ _ h => h) (pa_cons (pv 0) (pa_cons pe_str pa_nil))) (pe_lst pa_nil))) (pg_name (i := 2) sc_read_wish.nd rfl (by first | exact Or.inl rfl | exact Or.inr rfl))
      (pss_cons (ps_asg (pe_cal (c_two_of T) (hr.mono (by first | decide | omega)) (passes_call (takes_of rfl rfl rfl rfl) fun _ _ _ _ h => h) (pa_cons (pv 2) (pa_cons pe_str pa_nil))) (pg_tup2 (K := K) (n := 2) (by rfl) (pgs_cons (pg_name (i := 3) sc_read_wish.nd rfl (by first | exact Or.inl rfl | exact Or.inr rfl)) (pgs_cons (pg_name (i := 4) sc_read_wish.nd rfl (by first | exact Or.inl rfl | exact Or.inr rfl)) pgs_nil))))
      (pss_cons (ps_asg (pe_cal (c_two_of T) (hr.mono (by first | decide | omega)) (passes_call (takes_of rfl rfl rfl rfl) fun _ _ _ _ h => h) (pa_cons (pv 4) (pa_cons pe_str pa_nil))) (pg_tup2 (K := K) (n := 2) (by rfl) (pgs_cons (pg_name (i := 5) sc_read_wish.nd rfl (by first | exact Or.inl rfl | exact Or.inr rfl)) (pgs_cons (pg_name (i := 6) sc_read_wish.nd rfl (by first | exact Or.inl rfl | exact Or.inr rfl)) pgs_nil))))
      (pss_one (ps_expr (pe_bm PySem.F.plainAttrs_list PySem.F.slot_list_append PySem.F.type_list_append mt_append (pv 1) (pa_cons (pe_tup (pa_cons (pv 3) (pa_cons (pe_cal (c_read_end T) (hr.mono (by first | decide | omega)) (passes_call (takes_of rfl rfl rfl rfl) fun _ _ _ _ h => h) (pa_cons (pv 5) pa_nil)) (pa_cons (pe_cal (c_read_end T) (hr.mono (by first | decide | omega)) (passes_call (takes_of rfl rfl rfl rfl) fun _ _ _ _ h => h) (pa_cons (pv 6) pa_nil)) pa_nil)))) pa_nil)))))))
    (pss_cons (ps_if (pt_not (pt_val (pe_cal (c_is_wish T) (hr.mono (by first | decide | omega)) pass0 (pa_cons (pe_callTy (call_tuple2 (K := K)) (by rfl) T.n_tuple (by decide +kernel) (pa_cons (pv 1) pa_nil)) pa_nil)) (by intro _; rfl))) (pss_one (ps_exc2 T.e_NoText rfl (takes_of rfl rfl rfl rfl))) pss_nil)
    (pss_one (ps_ret (pe_callTy (call_tuple2 (K := K)) (by rfl) T.n_tuple (by decide +kernel) (pa_cons (pv 1) pa_nil))))))), ?_⟩
  walk_at "go"
  rename_i p H1 hp0 k1 hp1
  refine r_forL (via (fun u H2 => ∃ q x, u = .ref q ∧ d = .str x ∧ x.length ≤ 1000000 ∧ q ≠ p ∧ Kp No H1 H2 ∧ H2 q = some (.lst ((wordsD x).map V.str))) (fun Z hZ => ?_) ?_)
  · walk_at "go"
    refine r_ne_ds (by walk_at "dat") hcm (by decide +kernel) ?_
    walk_at "go"
    walk_at "br"
    · intro h1
      walk_at "go"
      refine ⟨_, d, _, (by walk_at "dat"), rfl, by decide +kernel, ?_, ?_⟩
      · rintro x rfl q H2 hq k2 hq2
        obtain ⟨_, _, e, hx⟩ := hd.strI rfl
        cases e
        refine hZ _ _ ⟨q, x, rfl, rfl, hx, ne_of_none hp1 hq |>.symm, k2, ?_⟩
        have e : wordsD x = Txt.split x (Str.ofString " ") := if_neg fun e => by
          have : isSD (Str.ofString "-") (.str x) = true := by
            show decide (x = _) = true
            rw [eq_lit (l := [45]) (by decide +kernel)]
            exact decide_eq_true e
          rw [this] at h1; cases h1
        rw [e]; exact hq2
      · intro hn H2 k2
        exact kE (fun x e => by rw [e] at hn; cases hn) _ (by walk_at "kp")
    · intro h1
      walk_at "go"
      rename_i q H2 hq k2 hq2
      have h1' : isSD (Str.ofString "-") d = true := by
        cases q : isSD (Str.ofString "-") d with
        | true => rfl
        | false => rw [q] at h1; cases h1
      obtain ⟨x, rfl⟩ : ∃ x, d = .str x := by cases d <;> first | exact ⟨_, rfl⟩ | cases h1'
      have e : wordsD x = [] := if_pos (by
        have q : decide (x = _) = true := h1'
        rw [eq_lit (l := [45]) (by decide +kernel)] at q
        exact of_decide_eq_true q)
      obtain ⟨_, _, e2, hx⟩ := hd.strI rfl
      cases e2
      exact hZ _ _ ⟨q, x, rfl, rfl, hx, ne_of_none hp1 hq |>.symm, k2, by rw [e]; exact hq2⟩
  · rintro u H2 ⟨q, x, rfl, rfl, hx, hqp, k2, hq2⟩
    have kE' : rdWish (TL.tl x) = none → ∀ H', Kp No H H' → E (.ref c.NoText) none H' := fun e => kE fun y ey => by cases ey; exact e
    have hrd := rdWish_words x
    refine lpL (fun i σ' H' => ∃ acc ds, Kp No H H' ∧ H' p = some (.lst acc) ∧ H' q = some (.lst ((wordsD x).map V.str)) ∧ Dats All H' acc ds ∧ mapO rdWishPart (((wordsD x).map TL.tl).take i) = some ds ∧ ∃ o1 o2 o3 o4 o5, σ' = [some v, some (.ref p), o1, o2, o3, o4, o5])
      (SqL.of hq2) ⟨[], [], by walk_at "kp", k2.lst hp1, hq2, .nil, rfl, none, none, none, none, none, rfl⟩ (fun i σ' H' ⟨_, _, _, _, h, _⟩ => SqL.of h) ?_ ?_
    · rintro i z σ' H' hi ⟨acc, ds, kp, hp, hq, hds, hm, o1, o2, o3, o4, o5, rfl⟩
      obtain ⟨w, hw, rfl⟩ : ∃ w, (wordsD x)[i]? = some w ∧ z = V.str w := by
        rw [List.getElem?_map] at hi
        cases q : (wordsD x)[i]? with
        | none => rw [q] at hi; cases hi
        | some w => rw [q] at hi; cases hi; exact ⟨w, rfl, rfl⟩
      have hwm : w ∈ wordsD x := List.mem_of_getElem? hw
      have hwl : w.length ≤ 1000000 := Nat.le_trans (wordsD_le hwm) hx
      have hw' : ((wordsD x).map TL.tl)[i]? = some (TL.tl w) := by rw [List.getElem?_map, hw]; rfl
      have bad : rdWishPart (TL.tl w) = none → rdWish (TL.tl x) = none := fun e => by
        rw [hrd, mapO_none ⟨_, List.mem_map_of_mem hwm, e⟩]
      have hacc : acc.length ≤ 1000001 := by
        rw [hds.len, mapO_len hm, List.length_take, List.length_map]
        have := wordsD_count x
        omega
      walk_at "go"
      refine ⟨w, _, rfl, hwl, rfl, by decide +kernel, by decide +kernel, by decide +kernel, fun a e hae b H3 k3 hb => ?_, fun hn H3 k3 => ?_⟩
      · have hae' : two [58] (TL.tl w) = some (a, e) := hae
        have hle := two_le hae
        walk_at "go"
        refine ⟨_, _, rfl, (by rw [TL.len_tl, tl_ofL]; rw [TL.len_tl] at hwl; omega), rfl, by decide +kernel, by decide +kernel, by decide +kernel, fun lo hi' hlh b2 H4 k4 hb2 => ?_, fun hn H4 k4 => ?_⟩
        · have hlh' : two [46, 46] e = some (lo, hi') := by
            have e2 : TL.tl (Str.ofString "..") = [46, 46] := by decide +kernel
            rw [tl_ofL, e2] at hlh; exact hlh
          have hle2 := two_le hlh'
          walk_at "go"
          refine ⟨_, rfl, (by rw [TL.len_tl, tl_ofL]; rw [TL.len_tl] at hwl; omega), fun d1 hd1 H5 k5 => ?_, fun hn H5 k5 => ?_⟩
          · have hd1' : rdEnd lo = some d1 := by rw [tl_ofL] at hd1; exact hd1
            walk_at "go"
            refine ⟨_, rfl, (by rw [TL.len_tl, tl_ofL]; rw [TL.len_tl] at hwl; omega), fun d2 hd2 H6 k6 => ?_, fun hn H6 k6 => ?_⟩
            · have hd2' : rdEnd hi' = some d2 := by rw [tl_ofL] at hd2; exact hd2
              walk_at "go"
              rename_i b3 H7 hb3n k7 hb3
              have kk : Kp No H' H7 := by walk_at "kp"
              have hp7 := kk.lst hp
              refine r_append hp7 (by omega) ?_
              have hpart : rdWishPart (TL.tl w) = some (.tuple [.str (ofL a), d1, d2]) := by
                unfold rdWishPart
                rw [hae']
                show (match two [46, 46] e with | some (lo, hi) => (match rdEnd lo, rdEnd hi with | some a', some b' => some (PyData.tuple [.str (ofL a), a', b']) | _, _ => none) | none => none) = _
                rw [hlh']
                show (match rdEnd lo, rdEnd hi' with | some a', some b' => some (PyData.tuple [.str (ofL a), a', b']) | _, _ => none) = _
                rw [hd1', hd2']
              have hal : (ofL a).length ≤ 1000000 := by rw [TL.len_tl, tl_ofL]; rw [TL.len_tl] at hwl; omega
              exact ⟨_, _, Kp.fresh (by walk_at "kp") hp0, upd_same, by rw [upd_ne hqp]; exact kk.lst hq, Dats.all (Dats.append (hds.all kk) (Dats.one (.tup hb3 (.cons (.str _ hal) (.cons (endV_dat hd1') (.cons (endV_dat hd2') .nil)))))) (Kp.app hp7), mapO_take hm hw' hpart, _, _, _, _, _, rfl⟩
            · refine kE' (bad ?_) _ (by walk_at "kp")
              have hn' : rdEnd hi' = none := by rw [tl_ofL] at hn; exact hn
              unfold rdWishPart
              rw [hae']
              show (match two [46, 46] e with | some (lo, hi) => (match rdEnd lo, rdEnd hi with | some a', some b' => some (PyData.tuple [.str (ofL a), a', b']) | _, _ => none) | none => none) = none
              rw [hlh']
              show (match rdEnd lo, rdEnd hi' with | some a', some b' => some (PyData.tuple [.str (ofL a), a', b']) | _, _ => none) = none
              rw [hd1', hn']
          · refine kE' (bad ?_) _ (by walk_at "kp")
            have hn' : rdEnd lo = none := by rw [tl_ofL] at hn; exact hn
            unfold rdWishPart
            rw [hae']
            show (match two [46, 46] e with | some (lo, hi) => (match rdEnd lo, rdEnd hi with | some a', some b' => some (PyData.tuple [.str (ofL a), a', b']) | _, _ => none) | none => none) = none
            rw [hlh']
            show (match rdEnd lo, rdEnd hi' with | some a', some b' => some (PyData.tuple [.str (ofL a), a', b']) | _, _ => none) = none
            rw [hn']
        · refine kE' (bad ?_) _ (by walk_at "kp")
          have hn' : two [46, 46] e = none := by
            have e2 : TL.tl (Str.ofString "..") = [46, 46] := by decide +kernel
            rw [tl_ofL, e2] at hn; exact hn
          unfold rdWishPart
          rw [hae']
          show (match two [46, 46] e with | some (lo, hi) => (match rdEnd lo, rdEnd hi with | some a', some b' => some (PyData.tuple [.str (ofL a), a', b']) | _, _ => none) | none => none) = none
          rw [hn']
      · refine kE' (bad ?_) _ (by walk_at "kp")
        unfold rdWishPart
        have hn' : two [58] (TL.tl w) = none := hn
        rw [hn']
    · rintro σ' H' ⟨acc, ds, kp, hp, hq, hds, hm, o1, o2, o3, o4, o5, rfl⟩
      have hl : ((wordsD x).map TL.tl).take ((wordsD x).map V.str).length = (wordsD x).map TL.tl := by
        have e : ((wordsD x).map V.str).length = ((wordsD x).map TL.tl).length := by rw [List.length_map, List.length_map]
        rw [e, List.take_length]
      rw [hl] at hm
      rw [hm] at hrd
      walk_at "go"
      rename_i b H3 hb k3 hb3 H4 k4
      walk_at "br"
      · intro h1
        walk_at "go"
        exact kE' (by rw [hrd]; exact if_neg (by rw [h1]; exact Bool.false_ne_true)) _ (by walk_at "kp")
      · intro h1
        walk_at "go"
        rename_i b2 H5 hb2 k5 hb5
        exact k x ds rfl (by rw [hrd]; exact if_pos h1) _ _ (by walk_at "kp") (.tup hb5 (((hds.all k3).all k4).all k5))

end

section
variable {P : Program} {w : World} {K : PySem.W.Frag} {mg : Str → Option Value} {base : Heap} {c : Ads}
/-! spans, what parts -/
def spD (c d : Option Int) : PyData := .tuple [ED c, ED d]
theorem spD_open {ex : Addr → Prop} {H : Hp} {v : V} {c d : Option Int} (h : Dat ex H v (spD c d)) : ∃ a, v = .ref a ∧ H a = some (.tup [EV c, EV d]) := by
  obtain ⟨a, xs, rfl, ha, hs⟩ := Dat.tupE h
  obtain ⟨x, y, rfl, h1, h2⟩ := hs.inv2
  rw [h1.edI, h2.edI] at ha
  exact ⟨a, rfl, ha⟩
abbrev spLooked : Sp := sp1 fun v H Q _ => ∃ ex d, Dat ex H v d ∧ spanD d = true ∧ ∀ H', Kp No H H' → Q v H'
theorem c_looked (T : Txt K mg c) : Cal P w K mg base (L2.CX P w) 3 "looked" ["span"] spLooked := by
  refine T.d_looked.calX sc_looked sp1_len (fun f cdv A outer s H vs Q E hr h => ?_)
  obtain ⟨v, rfl, ex, d, hd, hs, k⟩ := h
  refine ⟨_, (pss_cons (ps_if (pt_not (pt_val (pe_cal (c_is_span T) (hr.mono (by first | decide | omega)) pass0 (pa_cons (pv 0) pa_nil)) (by intro _; rfl))) (pss_one (ps_exc2 T.e_NoSpan rfl (takes_of rfl rfl rfl rfl))) pss_nil)
    (pss_one (ps_ret (pv 0)))), ?_⟩
  walk_at "go"
  walk_at "br"
  · intro h1
    rw [hs] at h1
    cases h1
  · intro h1
    walk_at "go"
    exact k _ (by walk_at "kp")
/-- c..d covers a..b -/
def covO (c d a b : Option Int) : Bool :=
  !(match c with | none => false | some l => match a with | none => true | some m => decide (m < l)) && (match d with | none => true | some h => match b with | none => false | some m => decide (m ≤ h))
abbrev spCovers : Sp := sp2 fun v u H Q _ => ∃ ex c d a b, Dat ex H v (spD c d) ∧ Dat ex H u (spD a b) ∧ spanD (spD c d) = true ∧ spanD (spD a b) = true ∧ ∀ H', Kp No H H' → Q (.bl (covO c d a b)) H'
theorem c_span_covers (T : Txt K mg c) : Cal P w K mg base (L2.CX P w) 4 "span_covers" ["one", "other"] spCovers := by
  refine T.d_span_covers.calX sc_span_covers sp2_len (fun f cdv A outer s H vs Q E hr h => ?_)
  obtain ⟨v, u, rfl, ex, c1, d1, a1, b1, hv, hu, s1, s2, k⟩ := h
  refine ⟨_, (pss_cons (ps_asg (pe_cal (c_looked T) (hr.mono (by first | decide | omega)) (passes_call (takes_of rfl rfl rfl rfl) fun _ _ _ _ h => h) (pa_cons (pv 0) pa_nil)) (pg_tup2 (K := K) (n := 2) (by rfl) (pgs_cons (pg_name (i := 2) sc_span_covers.nd rfl (by first | exact Or.inl rfl | exact Or.inr rfl)) (pgs_cons (pg_name (i := 3) sc_span_covers.nd rfl (by first | exact Or.inl rfl | exact Or.inr rfl)) pgs_nil))))
    (pss_cons (ps_asg (pe_cal (c_looked T) (hr.mono (by first | decide | omega)) (passes_call (takes_of rfl rfl rfl rfl) fun _ _ _ _ h => h) (pa_cons (pv 1) pa_nil)) (pg_tup2 (K := K) (n := 2) (by rfl) (pgs_cons (pg_name (i := 4) sc_span_covers.nd rfl (by first | exact Or.inl rfl | exact Or.inr rfl)) (pgs_cons (pg_name (i := 5) sc_span_covers.nd rfl (by first | exact Or.inl rfl | exact Or.inr rfl)) pgs_nil))))
    (pss_cons (ps_if (PW.pt (pw_and (pt_cmp (pc_notN (pv 2)) rfl) (pw_and1 (PW.pt (pw_or (pt_cmp (pc_isN (pv 4)) rfl) (pw_or1 (pt_cmpR op_lt2 (pv 4) (pv 2) (nomark _)))))))) (pss_one (ps_ret pe_bl)) pss_nil)
    (pss_one (ps_ret (pe_or (pe_cmp (pc_isN (pv 3)) rfl) (pe_one (pe_and (pe_cmp (pc_notN (pv 5)) rfl) (pe_one (pe_cmpR op_le2 (pv 5) (pv 3) (nomark _))))))))))), ?_⟩
  obtain ⟨p, rfl, hp⟩ := spD_open hv
  obtain ⟨q, rfl, hq⟩ := spD_open hu
  cases c1 <;> cases d1 <;> cases a1 <;> cases b1 <;>
    (simp only [EV] at hp hq
     walk_at "go"
     refine ⟨_, _, hv, s1, fun H1 k1 => ?_⟩
     walk_at "go"
     refine ⟨_, _, (by walk_at "dat"), s2, fun H2 k2 => ?_⟩
     walk_at "go"
     repeat' (first | (walk_at "br"; all_goals (intro hh; walk_at "go")) | (refine fin_b k ?_ (by walk_at "kp"); simp_all [covO])))
/-- what number_of tells -/
def nO : Option Int → Option Int → Int
  | some l, _ => l
  | none, some h => h
  | none, none => 0
abbrev spNumberOf : Sp := sp1 fun v H Q _ => ∃ (p : Addr) (a b : Option Int), v = .ref p ∧ H p = some (.tup [EV a, EV b]) ∧ ∀ H', Kp No H H' → Q (.int (nO a b)) H'
theorem c_number_of (T : Txt K mg c) : Cal P w K mg base CX0 1 "number_of" ["span"] spNumberOf := by
  refine T.d_number_of.cal sc_number_of sp1_len (fun f cdv A outer s H vs Q E hr h => ?_)
  obtain ⟨v, rfl, p, a, b, rfl, hp, k⟩ := h
  refine ⟨_, (pss_cons (ps_asg (pv 0) (pg_tup2 (K := K) (n := 2) (by rfl) (pgs_cons (pg_name (i := 1) sc_number_of.nd rfl (by first | exact Or.inl rfl | exact Or.inr rfl)) (pgs_cons (pg_name (i := 2) sc_number_of.nd rfl (by first | exact Or.inl rfl | exact Or.inr rfl)) pgs_nil))))
    (pss_cons (ps_if (pt_cmp (pc_notN (pv 1)) rfl) (pss_one (ps_ret (pv 1))) pss_nil)
    (pss_one (ps_ret (pe_ifExp (pt_cmp (pc_isN (pv 2)) rfl) pe_int (pv 2)))))), ?_⟩
  cases a <;> cases b <;>
    (simp only [EV] at hp
     walk_at "go"
     exact k _ (by walk_at "kp"))
/-- what parting_number tells: the span a..b, the other one c..d, which does not cover it -/
def pO (a b c d : Option Int) : Int :=
  match c, a with
  | some l, none => nO none (some (match b with | none => l - 1 | some h => min (l - 1) h))
  | some l, some m => if m < l then m else (match d with | none => 0 | some h => max (h + 1) m)
  | none, none => (match d with | none => 0 | some h => h + 1)
  | none, some m => (match d with | none => 0 | some h => max (h + 1) m)
abbrev spPartNum : Sp := sp2 fun v u H Q _ => ∃ (p q : Addr) (a b c d : Option Int), v = .ref p ∧ u = .ref q ∧ H p = some (.tup [EV a, EV b]) ∧ H q = some (.tup [EV c, EV d]) ∧ covO c d a b = false ∧ ∀ H', Kp No H H' → Q (.int (pO a b c d)) H'
theorem c_parting_number (T : Txt K mg c) : Cal P w K mg base CX0 2 "parting_number" ["span", "other"] spPartNum := by
  refine T.d_parting_number.cal sc_parting_number sp2_len (fun f cdv A outer s H vs Q E hr h => ?_)
  obtain ⟨v, u, rfl, p, q, a1, b1, c1, d1, rfl, rfl, hp, hq, hc, k⟩ := h
  refine ⟨_, (pss_cons (ps_asg (pv 1) (pg_tup2 (K := K) (n := 2) (by rfl) (pgs_cons (pg_name (i := 2) sc_parting_number.nd rfl (by first | exact Or.inl rfl | exact Or.inr rfl)) (pgs_cons (pg_name (i := 3) sc_parting_number.nd rfl (by first | exact Or.inl rfl | exact Or.inr rfl)) pgs_nil))))
    (pss_cons (ps_if (PW.pt (pw_and (pt_cmp (pc_notN (pv 2)) rfl) (pw_and1 (PW.pt (pw_or (pt_cmp (pc_isN (pe_ix (ix_any (K := K)) (pv 0) pe_int (fun _ _ => rfl))) rfl) (pw_or1 (pt_cmpR op_lt2 (pe_ix (ix_any (K := K)) (pv 0) pe_int (fun _ _ => rfl)) (pv 2) (nomark _)))))))) (pss_one (ps_ret (pe_cal (c_number_of T) (hr.mono (by first | decide | omega)) pass0 (pa_cons (pe_tup (pa_cons (pe_ix (ix_any (K := K)) (pv 0) pe_int (fun _ _ => rfl)) (pa_cons (pe_ifExp (pt_cmp (pc_isN (pe_ix (ix_any (K := K)) (pv 0) pe_int (fun _ _ => rfl))) rfl) (pe_op op_sub (pv 2) pe_int) (pe_callB (cr_min2 rfl) (by rfl) T.n_min (by decide +kernel) (pa_cons (pe_op op_sub (pv 2) pe_int) (pa_cons (pe_ix (ix_any (K := K)) (pv 0) pe_int (fun _ _ => rfl)) pa_nil)))) pa_nil))) pa_nil)))) pss_nil)
    (pss_one (ps_ret (pe_cal (c_number_of T) (hr.mono (by first | decide | omega)) pass0 (pa_cons (pe_tup (pa_cons (pe_ifExp (pt_cmp (pc_isN (pe_ix (ix_any (K := K)) (pv 0) pe_int (fun _ _ => rfl))) rfl) (pe_op (op_add2 (K := K)) (pv 3) pe_int) (pe_callB (cr_max2 rfl) (by rfl) T.n_max (by decide +kernel) (pa_cons (pe_op (op_add2 (K := K)) (pv 3) pe_int) (pa_cons (pe_ix (ix_any (K := K)) (pv 0) pe_int (fun _ _ => rfl)) pa_nil)))) (pa_cons (pe_ix (ix_any (K := K)) (pv 0) pe_int (fun _ _ => rfl)) pa_nil))) pa_nil)))))), ?_⟩
  cases c1 <;> cases d1 <;> cases a1 <;> cases b1 <;>
    (simp only [EV] at hp hq
     first
     | (exfalso; revert hc; simp [covO]; done)
     | (walk_at "go"
        repeat' (walk_at "br"; all_goals (intro hh; walk_at "go"))
        all_goals try (exfalso; revert hc; simp [covO, *]; done)
        all_goals first
          | refine ⟨_, some _, some _, rfl, (by assumption), fun H2 k2 => ?_⟩
          | refine ⟨_, some _, none, rfl, (by assumption), fun H2 k2 => ?_⟩
          | refine ⟨_, none, some _, rfl, (by assumption), fun H2 k2 => ?_⟩
          | refine ⟨_, none, none, rfl, (by assumption), fun H2 k2 => ?_⟩
        all_goals
          refine fin_i k ?_ (by walk_at "kp")
        all_goals first
          | rfl
          | (simp only [pO, nO]; rw [if_pos (by assumption)])
          | (simp only [pO, nO]; rw [if_neg (by assumption)])))
def oneW (f : Str) (a b : Option Int) : PyData := .tuple [.tuple [.str f, ED a, ED b]]
abbrev spSpansOf : Sp := sp1 fun v H Q _ => ∃ ex f a b, Dat ex H v (oneW f a b) ∧ wishD (oneW f a b) = true ∧ ∀ p q H', H p = none → Kp No H H' → H' p = some (.dK [(kS f, .ref q)]) → H' q = some (.tup [EV a, EV b]) → Q (.ref p) H'
theorem c_spans_of (T : Txt K mg c) : Cal P w K mg base (L2.CX P w) 4 "spans_of" ["wish"] spSpansOf := by
  refine T.d_spans_of.calX sc_spans_of sp1_len (fun f cdv A outer s H vs Q E hr h => ?_)
  obtain ⟨v, rfl, ex, fl, a, b, hd, hw, k⟩ := h
  refine ⟨_, (pss_cons (ps_if (pt_not (pt_val (pe_cal (c_is_wish T) (hr.mono (by first | decide | omega)) pass0 (pa_cons (pv 0) pa_nil)) (by intro _; rfl))) (pss_one (ps_exc2 T.e_NoWish rfl (takes_of rfl rfl rfl rfl))) pss_nil)
    (pss_cons (ps_set (i := 1) sc_spans_of.nd rfl (by first | exact Or.inl rfl | exact Or.inr rfl) pe_dnewK)
    (pss_cons (ps_for (passes_of rfl) rfl (pi_any (K := K) (pv 0)) (pg_tup2 (K := K) (n := 3) (by rfl) (pgs_cons (pg_name (i := 2) sc_spans_of.nd rfl (by first | exact Or.inl rfl | exact Or.inr rfl)) (pgs_cons (pg_name (i := 3) sc_spans_of.nd rfl (by first | exact Or.inl rfl | exact Or.inr rfl)) (pgs_cons (pg_name (i := 4) sc_spans_of.nd rfl (by first | exact Or.inl rfl | exact Or.inr rfl)) pgs_nil))))
      (pss_one (ps_dput (hu_of hr) (pv 1) (pv 2) (pe_tup (pa_cons (pv 3) (pa_cons (pv 4) pa_nil))) rfl)))
    (pss_one (ps_ret (pv 1)))))), ?_⟩
  obtain ⟨p0, xs, rfl, hp0, hs0⟩ := Dat.tupE hd
  obtain ⟨z, rfl, hz⟩ := hs0.inv1
  obtain ⟨p1, ys, rfl, hp1, hs1⟩ := Dat.tupE hz
  obtain ⟨y0, y1, y2, rfl, h0, h1, h2⟩ := hs1.inv3
  rw [h1.edI, h2.edI] at hp1
  obtain ⟨_, rfl, e, hfl⟩ := h0.strI rfl
  cases e
  walk_at "go"
  walk_at "br"
  · intro q
    rw [hw] at q
    cases q
  · intro _
    walk_at "go"
    rename_i H1 k1 hw2 p H2 hpn k2 hp
    refine r_forT ?_
    walk_at "go"
    refine lpT (fun c => c = p) (fun i σ' H' => (i = 0 → H' p = some (.dK [])) ∧ (i = 1 → ∃ q, H' p = some (.dK [(kS fl, .ref q)]) ∧ H' q = some (.tup [EV a, EV b])) ∧ Kp No H H' ∧ ∃ o1 o2 o3, σ' = [some (.ref p0), some (.ref p), o1, o2, o3]) (by walk_at "tup")
      ⟨fun _ => hp, fun z => absurd z (by decide), by walk_at "kp", none, none, none, rfl⟩ ?_ ?_
    · rintro i z σ' H' hi kp ⟨g0, _, kk, o1, o2, o3, rfl⟩
      obtain rfl : i = 0 := by
        cases i with
        | zero => rfl
        | succ i => simp at hi
      obtain rfl : z = .ref p1 := by simpa using hi.symm
      have hp1' : H' p1 = some (.tup [.str fl, EV a, EV b]) := kk.tup hp1
      walk_at "go"
      rename_i q H3 hq k3 hq3
      have hp3 : H3 p = some (.dK []) := k3.at (g0 rfl) (fun z => z)
      refine r_dputS hp3 (by decide) ?_
      have e : putK ([] : List (Key × V)) (kS fl) (.ref q) = [(kS fl, .ref q)] := rfl
      have hqp : q ≠ p := fun z => by subst z; rw [g0 rfl] at hq; cases hq
      have hpH : H p = none := k1.free (ex := No) hpn (fun z => z)
      rw [e]
      refine ⟨Kp.mut (kp.trans k3.no) rfl hp3 rfl, fun z => absurd z (by decide), fun _ => ⟨q, upd_same, by rw [upd_ne hqp]; exact hq3⟩, Kp.fresh (kk.trans k3) hpH, _, _, _, rfl⟩
    · rintro σ' H' kp ⟨_, g1, kk, o1, o2, o3, rfl⟩
      obtain ⟨q, e1, e2⟩ := g1 rfl
      walk_at "go"
      exact k p q H' (k1.free (ex := No) hpn (fun z => z)) kk e1 e2
theorem sp_dat {H : Hp} {q : Addr} {a b : Option Int} (h : H q = some (.tup [EV a, EV b])) : Dat All H (.ref q) (spD a b) := .tup h (.cons (.ed a) (.cons (.ed b) .nil))
abbrev spPartPiece : Sp := sp2 fun v u H Q _ => ∃ ex f a b c d, Dat ex H v (oneW f a b) ∧ Dat ex H u (oneW f c d) ∧ wishD (oneW f a b) = true ∧ wishD (oneW f c d) = true ∧ spanD (spD a b) = true ∧ spanD (spD c d) = true ∧
  (covO c d a b = true → ∀ H', Kp No H H' → Q .non H') ∧ (covO c d a b = false → ∀ p H', Kp No H H' → Dat All H' (.ref p) (.tuple [.tuple [.str f, .int (pO a b c d)]]) → Q (.ref p) H')
theorem c_parting_piece (T : Txt K mg c) : Cal P w K mg base (L2.CX P w) 5 "parting_piece" ["one", "other"] spPartPiece := by
  refine T.d_parting_piece.calX sc_parting_piece sp2_len (fun f cdv A outer s H vs Q E hr h => ?_)
  obtain ⟨v, u, rfl, ex, fl, a, b, c1, d1, hv, hu, wv, wu, sv, su, kN, kP⟩ := h
  refine ⟨_, (pss_cons (ps_set (i := 2) sc_parting_piece.nd rfl (by first | exact Or.inl rfl | exact Or.inr rfl) (pe_cal (c_spans_of T) (hr.mono (by first | decide | omega)) (passes_call (takes_of rfl rfl rfl rfl) fun _ _ _ _ h => h) (pa_cons (pv 0) pa_nil)))
    (pss_cons (ps_set (i := 3) sc_parting_piece.nd rfl (by first | exact Or.inl rfl | exact Or.inr rfl) (pe_cal (c_spans_of T) (hr.mono (by first | decide | omega)) (passes_call (takes_of rfl rfl rfl rfl) fun _ _ _ _ h => h) (pa_cons (pv 1) pa_nil)))
    (pss_cons (ps_set (i := 4) sc_parting_piece.nd rfl (by first | exact Or.inl rfl | exact Or.inr rfl) pe_dnewK)
    (pss_cons (ps_lock (ps_for (passes_of rfl) rfl (pi_items (pv 2)) (pg_tup2 (K := K) (n := 2) (by rfl) (pgs_cons (pg_name (i := 5) sc_parting_piece.nd rfl (by first | exact Or.inl rfl | exact Or.inr rfl)) (pgs_cons (pg_name (i := 6) sc_parting_piece.nd rfl (by first | exact Or.inl rfl | exact Or.inr rfl)) pgs_nil)))
      (pss_one (ps_dput (hu_of hr) (pv 4) (pv 5) (pe_cal (c_number_of T) (hr.mono (by first | decide | omega)) pass0 (pa_cons (pv 6) pa_nil)) rfl))))
    (pss_cons (ps_set (i := 7) sc_parting_piece.nd rfl (by first | exact Or.inl rfl | exact Or.inr rfl) pe_bl)
    (pss_cons (ps_lock (ps_for (passes_of rfl) rfl (pi_items (pv 3)) (pg_tup2 (K := K) (n := 2) (by rfl) (pgs_cons (pg_name (i := 5) sc_parting_piece.nd rfl (by first | exact Or.inl rfl | exact Or.inr rfl)) (pgs_cons (pg_name (i := 6) sc_parting_piece.nd rfl (by first | exact Or.inl rfl | exact Or.inr rfl)) pgs_nil)))
      (pss_one (ps_if (pt_cmp (pc_dnotin (hu_of hr) (pv 5) (pv 2))) (pss_one (ps_set (i := 7) sc_parting_piece.nd rfl (by first | exact Or.inl rfl | exact Or.inr rfl) pe_bl)) (pss_one (ps_if (pt_not (pt_val (pe_cal (c_span_covers T) (hr.mono (by first | decide | omega)) (passes_call (takes_of rfl rfl rfl rfl) fun _ _ _ _ h => h) (pa_cons (pv 6) (pa_cons (pe_dget (hu_of hr) (pv 2) (pv 5) (fun _ _ => rfl)) pa_nil))) (by intro _; rfl))) (pss_cons (ps_set (i := 7) sc_parting_piece.nd rfl (by first | exact Or.inl rfl | exact Or.inr rfl) pe_bl)
          (pss_one (ps_dput (hu_of hr) (pv 4) (pv 5) (pe_cal (c_parting_number T) (hr.mono (by first | decide | omega)) pass0 (pa_cons (pe_dget (hu_of hr) (pv 2) (pv 5) (fun _ _ => rfl)) (pa_cons (pv 6) pa_nil))) rfl))) pss_nil))))))
    (pss_cons (ps_if (pt_not (pt_val (pv 7) (by intro _; rfl))) (pss_one (ps_ret pe_non)) pss_nil)
    (pss_one (ps_ret (pe_callTy (call_tuple2 (K := K)) (by rfl) T.n_tuple (by decide +kernel) (pa_cons (pe_lc (own := [("field", 5)]) (by rfl) sc_parting_piece.nd (pi_any (K := K) (pe_callB (cr_sortD rfl) (by rfl) T.n_sorted (by decide +kernel) (pa_cons (pv 4) pa_nil))) (blkOk_by (own := [("field", 5)]) (N := ["one", "other", "ours", "theirs", "numbers", "field", "span", "parted"]) (sc := defScope s_parting_piece) (by decide +kernel)) (fun _ _ _ _ _ => (pg_name (i := 5) sc_parting_piece.nd rfl (by first | exact Or.inl rfl | exact Or.inr rfl))) (fun _ _ _ _ _ => pts_nil) (fun _ _ _ _ _ => (pe_tup (pa_cons (pv 5) (pa_cons (pe_dget (hu_of hr) (pv 4) (pv 5) (fun _ _ => rfl)) pa_nil))))) pa_nil))))))))))), ?_⟩
  have hfl : fl.length ≤ 1000000 := by
    obtain ⟨_, _, _, _, hs0⟩ := Dat.tupE hv
    obtain ⟨_, _, hz⟩ := hs0.inv1
    obtain ⟨_, _, _, _, hs1⟩ := Dat.tupE hz
    obtain ⟨_, _, _, _, h0, _, _⟩ := hs1.inv3
    obtain ⟨_, _, e, hl⟩ := h0.strI rfl
    cases e; exact hl
  walk_at "go"
  refine ⟨_, _, _, _, hv, wv, fun p1 q1 H1 hn1 k1 hp1 hq1 => ?_⟩
  walk_at "go"
  refine ⟨_, _, _, _, (by walk_at "dat"), wu, fun p2 q2 H2 hn2 k2 hp2 hq2 => ?_⟩
  walk_at "go"
  rename_i p3 H3 hn3 k3 hp3
  have p21 : p2 ≠ p1 := fun z => by subst z; rw [hp1] at hn2; cases hn2
  have p31 : p3 ≠ p1 := fun z => by subst z; rw [k2 _ _ hp1 (fun z => z.elim)] at hn3; cases hn3
  have p32 : p3 ≠ p2 := fun z => by subst z; rw [hp2] at hn3; cases hn3
  have hp13 : H3 p1 = some (.dK [(kS fl, .ref q1)]) := k3.at (k2.at hp1 fun z => z) fun z => z
  have hp23 : H3 p2 = some (.dK [(kS fl, .ref q2)]) := k3.at hp2 fun z => z
  have hq13 : H3 q1 = some (.tup [EV a, EV b]) := (k2.trans k3).tup hq1
  have hq23 : H3 q2 = some (.tup [EV c1, EV d1]) := k3.tup hq2
  have kk3 : Kp No H H3 := (k1.trans k2).trans k3
  have hpn3 : H p3 = none := (k1.trans k2).free (ex := No) hn3 fun z => z
  refine r_lock hp13 trivial fun od => ?_
  refine r_forI ?_
  walk_at "go"
  refine lpI (fun i σ' H' => Kp (fun c => c = p3) (upd H3 p1 (.frz od (.dK [(kS fl, .ref q1)]))) H' ∧ (i = 0 → H' p3 = some (.dK [])) ∧ (i = 1 → H' p3 = some (.dK [(kS fl, .int (nO a b))])) ∧ ∃ o5 o6, σ' = [some v, some u, some (.ref p1), some (.ref p2), some (.ref p3), o5, o6, none])
    upd_same ⟨Kp.refl, fun _ => by rw [upd_ne p31]; exact hp3, fun z => absurd z (by decide), none, none, rfl⟩ (fun i σ' H' h => h.1.at upd_same fun z => p31 z.symm) ?_ ?_
  · rintro i ky vv q σ' H' hi ⟨kk, g0, _, o5, o6, rfl⟩ hq
    obtain rfl : i = 0 := by
      cases i with
      | zero => rfl
      | succ i => simp at hi
    obtain ⟨rfl, rfl⟩ : ky = kS fl ∧ vv = .ref q1 := by
      simp at hi
      exact ⟨hi.1.symm, hi.2.symm⟩
    have kq : Kp No H' (upd H' q (.tup [kV (kS fl), .ref q1])) := Kp.new Kp.refl hq
    have hqq : (upd H' q (.tup [kV (kS fl), .ref q1])) q = some (.tup [.str fl, .ref q1]) := upd_same
    generalize upd H' q (.tup [kV (kS fl), .ref q1]) = H5 at kq hqq ⊢
    walk_at "go"
    have hq15 : H5 q1 = some (.tup [EV a, EV b]) := kq.tup (kk.tup (by rw [upd_ne (ne_of_tup hq13 hp13)]; exact hq13))
    refine ⟨q1, a, b, rfl, hq15, fun H6 k6 => ?_⟩
    walk_at "go"
    have h36 : H6 p3 = some (.dK []) := k6.at (kq.at (g0 rfl) fun z => z) fun z => z
    refine r_dputS h36 (by decide) ?_
    exact ⟨Kp.mut ((kk.trans kq.no).trans k6.no) rfl h36 rfl, fun z => absurd z (by decide), fun _ => upd_same, _, _, rfl⟩
  · rintro σ' H' ⟨kk, _, g1, o5, o6, rfl⟩
    refine ⟨kk.at upd_same fun z => p31 z.symm, ?_⟩
    have k4 : Kp (fun c => c = p3) H3 (upd H' p1 (.dK [(kS fl, .ref q1)])) := Kp.unlock hp13 kk
    have h34 : (upd H' p1 (.dK [(kS fl, .ref q1)])) p3 = some (.dK [(kS fl, .int (nO a b))]) := by rw [upd_ne p31]; exact g1 rfl
    generalize upd H' p1 (.dK [(kS fl, .ref q1)]) = H4 at k4 h34 ⊢
    walk_at "go"
    have h14 : H4 p1 = some (.dK [(kS fl, .ref q1)]) := k4.at hp13 fun z => p31 z.symm
    have h24 : H4 p2 = some (.dK [(kS fl, .ref q2)]) := k4.at hp23 fun z => p32 z.symm
    have hq14 : H4 q1 = some (.tup [EV a, EV b]) := k4.tup hq13
    have hq24 : H4 q2 = some (.tup [EV c1, EV d1]) := k4.tup hq23
    refine r_lock h24 trivial fun od2 => ?_
    refine r_forI ?_
    walk_at "go"
    refine lpI (fun i σ' H' => Kp (fun c => c = p3) (upd H4 p2 (.frz od2 (.dK [(kS fl, .ref q2)]))) H' ∧ (i = 0 → H' p3 = some (.dK [(kS fl, .int (nO a b))])) ∧ (i = 1 → H' p3 = some (.dK [(kS fl, .int (if covO c1 d1 a b = true then nO a b else pO a b c1 d1))])) ∧
        ∃ o5 o6, σ' = [some v, some u, some (.ref p1), some (.ref p2), some (.ref p3), o5, o6, some (.bl (decide (i = 1) && !covO c1 d1 a b))])
      upd_same ⟨Kp.refl, fun _ => by rw [upd_ne p32]; exact h34, fun z => absurd z (by decide), _, _, rfl⟩ (fun i σ' H' h => h.1.at upd_same fun z => p32 z.symm) ?_ ?_
    · rintro i ky vv q σ' H' hi ⟨kk5, g0, _, o5', o6', rfl⟩ hq
      obtain rfl : i = 0 := by
        cases i with
        | zero => rfl
        | succ i => simp at hi
      obtain ⟨rfl, rfl⟩ : ky = kS fl ∧ vv = .ref q2 := by
        simp at hi
        exact ⟨hi.1.symm, hi.2.symm⟩
      have kq : Kp No H' (upd H' q (.tup [kV (kS fl), .ref q2])) := Kp.new Kp.refl hq
      have hqq : (upd H' q (.tup [kV (kS fl), .ref q2])) q = some (.tup [.str fl, .ref q2]) := upd_same
      generalize upd H' q (.tup [kV (kS fl), .ref q2]) = H5 at kq hqq ⊢
      have h15 : H5 p1 = some (.dK [(kS fl, .ref q1)]) := kq.at (kk5.at (by rw [upd_ne p21.symm]; exact h14) fun z => p31 z.symm) fun z => z
      have hq15 : H5 q1 = some (.tup [EV a, EV b]) := kq.tup (kk5.tup (by rw [upd_ne (ne_of_tup hq14 h24)]; exact hq14))
      have hq25 : H5 q2 = some (.tup [EV c1, EV d1]) := kq.tup (kk5.tup (by rw [upd_ne (ne_of_tup hq24 h24)]; exact hq24))
      have h35 : H5 p3 = some (.dK [(kS fl, .int (nO a b))]) := kq.at (g0 rfl) fun z => z
      have val1 : ∀ x : V, valV [(kS fl, x)] (kS fl) = some x := fun x => valV_pos (p := (kS fl, x)) rfl
      have put1 : ∀ x y : V, putK [(kS fl, x)] (kS fl) y = [(kS fl, y)] := fun x y => by simp [putK]
      walk_at "go"
      refine r_dninS (.inl h15) ?_
      rw [val1]
      walk_at "go"
      refine r_iteF rfl ?_
      walk_at "go"
      refine r_dgetS (.inl h15) (val1 _) ?_
      walk_at "go"
      refine ⟨All, c1, d1, a, b, sp_dat hq25, sp_dat hq15, su, sv, fun H6 k6 => ?_⟩
      walk_at "go"
      have h16 : H6 p1 = some (.dK [(kS fl, .ref q1)]) := k6.at h15 fun z => z
      have h36 : H6 p3 = some (.dK [(kS fl, .int (nO a b))]) := k6.at h35 fun z => z
      walk_at "br"
      · intro hcov
        walk_at "go"
        refine r_dgetS (.inl h16) (val1 _) ?_
        walk_at "go"
        refine ⟨q1, q2, a, b, c1, d1, rfl, rfl, k6.tup hq15, k6.tup hq25, hcov, fun H7 k7 => ?_⟩
        walk_at "go"
        have h37 := k7.at h36 fun z => z
        refine r_dputS h37 (Nat.le_of_ble_eq_true rfl) ?_
        refine ⟨Kp.mut (((kk5.trans kq.no).trans k6.no).trans k7.no) rfl h37 rfl, fun z => absurd z (by decide), fun _ => ?_, some (.str fl), some (.ref q2), ?_⟩
        · rw [put1, hcov]; exact upd_same
        · rw [hcov]; rfl
      · intro hcov
        walk_at "go"
        refine ⟨(kk5.trans kq.no).trans k6.no, fun z => absurd z (by decide), fun _ => ?_, some (.str fl), some (.ref q2), ?_⟩
        · rw [hcov]; exact h36
        · rw [hcov]; rfl
    · rintro σ' H' ⟨kk5, _, g1', o5', o6', rfl⟩
      refine ⟨kk5.at upd_same fun z => p32 z.symm, ?_⟩
      have k5 : Kp (fun c => c = p3) H4 (upd H' p2 (.dK [(kS fl, .ref q2)])) := Kp.unlock h24 kk5
      have h35 : (upd H' p2 (.dK [(kS fl, .ref q2)])) p3 = some (.dK [(kS fl, .int (if covO c1 d1 a b = true then nO a b else pO a b c1 d1))]) := by rw [upd_ne p32]; exact g1' rfl
      generalize upd H' p2 (.dK [(kS fl, .ref q2)]) = H5 at k5 h35 ⊢
      have kk6 : Kp No H H5 := fun a' o' e' z' => by
        have e2 := kk3 a' o' e' z'
        have ne : a' ≠ p3 := fun z => by subst z; rw [hpn3] at e'; cases e'
        exact k5.at (k4.at e2 ne) ne
      walk_at "go"
      have pd : (decide (([(kS fl, V.ref q2)] : List (Key × V)).length = 1) && !covO c1 d1 a b) = !covO c1 d1 a b := rfl
      rw [pd]
      cases hcov : covO c1 d1 a b with
      | true =>
        walk_at "go"
        refine r_iteT rfl ?_
        walk_at "go"
        exact kN hcov _ kk6
      | false =>
        rw [hcov] at h35
        walk_at "go"
        refine r_iteF rfl ?_
        walk_at "go"
        refine r_lcL ?_
        walk_at "go"
        refine r_sortD1 (.inl h35) fun l H6 hl k7 hl6 => ?_
        have h36 : H6 p3 = some (.dK [(kS fl, .int (pO a b c1 d1))]) := k7.at h35 fun z => z
        refine lcL (fun D i acc H' => Kp No H6 H' ∧ (i = 0 → acc = []) ∧ (i = 1 → ∃ q, acc = [.ref q] ∧ H' q = some (.tup [.str fl, .int (pO a b c1 d1)]))) (SqL.of hl6) (fun D hD => ⟨Kp.new Kp.refl hD, fun _ => rfl, fun z => absurd z (by decide)⟩) (fun D i acc H' hD h => h.1.sql (SqL.of hl6)) ?_ ?_
        · rintro D i acc z H' hD hi hacc hl' ⟨kk8, a0, _⟩
          obtain rfl : i = 0 := by
            cases i with
            | zero => rfl
            | succ i => simp at hi
          obtain rfl : z = .str fl := by simpa using hi.symm
          walk_at "go"
          refine r_dgetS (.inl (kk8.at h36 fun z => z)) (valV_pos (p := (kS fl, V.int (pO a b c1 d1))) rfl) ?_
          walk_at "go"
          rename_i q H9 hq9 k9 hqt
          have hD9 : H9 D = some (.lst acc) := k9.at hacc fun z => z
          refine lc_yes hD9 hl' (by decide) ⟨Kp.fresh (kk8.trans k9) hD, fun z => absurd z (by decide), fun _ => ⟨q, by rw [a0 rfl]; rfl, ?_⟩⟩
          rw [upd_ne (fun z => by subst z; rw [hD9] at hqt; cases hqt)]
          exact hqt
        · rintro D acc H' hD hacc hl' ⟨kk8, _, a1⟩
          obtain ⟨q, rfl, hq⟩ := a1 rfl
          walk_at "go"
          rename_i t H9 ht k9 htt
          refine kP hcov t H9 (((kk6.trans k7).trans kk8).trans k9) (.tup htt (.cons (.tup (k9.tup hq) (.cons (.str fl hfl) (.cons (.int _) .nil))) .nil))

end

section
variable {P : Program} {w : World} {K : PySem.W.Frag} {mg : Str → Option Value} {base : Heap} {c : Ads}
/-! what the law draws -/
theorem small_cell {x : Int} (h : 0 ≤ x ∧ x < 10 ^ 18) {n : Int} (hn : 0 ≤ n ∧ n ≤ 1000001) {st : Int} (hs : 0 ≤ st ∧ st < MM) : 0 ≤ st + (x + 3 * n) * (2 * n + 1) ∧ st + (x + 3 * n) * (2 * n + 1) < 2 ^ 200 := by
  have e1 : 0 ≤ (x + 3 * n) * (2 * n + 1) := Int.mul_nonneg (by omega) (by omega)
  have e2 : (x + 3 * n) * (2 * n + 1) ≤ (10 ^ 18 + 3 * 1000001) * (2 * 1000001 + 1) := Int.mul_le_mul (by omega) (by omega) (by omega) (by omega)
  have e3 : ((10 : Int) ^ 18 + 3 * 1000001) * (2 * 1000001 + 1) = ((10 : Int) ^ 18 + 3000003) * 2000003 := by decide +kernel
  have e4 : (2 : Int) ^ 200 = 1606938044258990275541962092341162602522202993782792835301376 := by decide +kernel
  have e5 : MM = 618970019642690137449562111 := rfl
  omega
theorem c__law_draw (T : Txt K mg c) : Cal P w K mg base CX0 1 "_law_draw" ["bag", "many"] spDraw := by
  refine T.d__law_draw.cal sc__law_draw sp2_len (fun f cdv A outer s H vs Q E hr h => ?_)
  obtain ⟨_, _, rfl, b, g, B, m, rfl, rfl, hm1, hm2, ⟨l, gs, ls, n, st, hb, hn⟩, k⟩ := h
  refine ⟨_, (pss_cons (ps_while PassesOwn.never (PW.pt (pw_and (pt_cmpR (op_ne2 (K := K) hr.units) (pe_ix (ix_any (K := K)) (pv 0) pe_int (fun _ _ => rfl)) (pe_lst pa_nil) (nomark _)) (pw_and1 (pt_cmpR (op_eq2 (K := K) hr.units) (pe_ix (ix_any (K := K)) (pe_ix (ix_any (K := K)) (pv 0) pe_int (fun _ _ => rfl)) pe_int (fun _ _ => rfl)) pe_int (nomark _)))))
      (pss_one (ps_expr (pe_bm PySem.F.plainAttrs_list PySem.F.slot_list_pop PySem.F.type_list_pop mt_popAt (pe_ix (ix_any (K := K)) (pv 0) pe_int (fun _ _ => rfl)) (pa_cons pe_int pa_nil)))))
    (pss_cons (ps_if (pt_cmpR (op_ne2 (K := K) hr.units) (pe_ix (ix_any (K := K)) (pv 0) pe_int (fun _ _ => rfl)) (pe_lst pa_nil) (nomark _)) (pss_cons (ps_set (i := 2) sc__law_draw.nd rfl (by first | exact Or.inl rfl | exact Or.inr rfl) (pe_op op_mod (pe_ix (ix_any (K := K)) (pe_ix (ix_any (K := K)) (pv 0) pe_int (fun _ _ => rfl)) pe_int (fun _ _ => rfl)) (pv 1)))
      (pss_cons (ps_asg (pe_op op_fdivW (pe_ix (ix_any (K := K)) (pe_ix (ix_any (K := K)) (pv 0) pe_int (fun _ _ => rfl)) pe_int (fun _ _ => rfl)) (pv 1)) (pg_sub (pe_ix (ix_any (K := K)) (pv 0) pe_int (fun _ _ => rfl)) pe_int set_list))
      (pss_one (ps_ret (pv 2))))) pss_nil)
    (pss_cons (ps_asg (pe_op (op_add2 (K := K)) (pe_ix (ix_any (K := K)) (pv 0) pe_int (fun _ _ => rfl)) pe_int) (pg_sub (pv 0) pe_int set_list))
    (pss_cons (ps_set (i := 3) sc__law_draw.nd rfl (by first | exact Or.inl rfl | exact Or.inr rfl) (pe_ix (ix_any (K := K)) (pe_ix (ix_any (K := K)) (pv 0) pe_int (fun _ _ => rfl)) (pe_op op_mod (pe_ix (ix_any (K := K)) (pv 0) pe_int (fun _ _ => rfl)) (pe_callB (call_len2 (K := K)) (by rfl) T.n_len (by decide +kernel) (pa_cons (pe_ix (ix_any (K := K)) (pv 0) pe_int (fun _ _ => rfl)) pa_nil))) (fun _ _ => rfl)))
    (pss_cons (ps_asg (pe_op op_mod (pe_op op_pow2 (pe_op (op_add2 (K := K)) (pe_ix (ix_any (K := K)) (pv 0) pe_int (fun _ _ => rfl)) (pe_op op_mul2 (pe_op (op_add2 (K := K)) (pv 3) (pe_op op_mul2 pe_int (pe_ix (ix_any (K := K)) (pv 0) pe_int (fun _ _ => rfl)))) (pe_op (op_add2 (K := K)) (pe_op op_mul2 pe_int (pe_ix (ix_any (K := K)) (pv 0) pe_int (fun _ _ => rfl))) pe_int))) pe_int) pe_int) (pg_sub (pv 0) pe_int set_list))
    (pss_one (ps_ret (pe_op op_mod (pe_op op_fdivW (pe_ix (ix_any (K := K)) (pv 0) pe_int (fun _ _ => rfl)) pe_int) (pv 1))))))))), ?_⟩
  walk_at "go"
  refine r_while (fun i σ' H' => ∃ gs', i = gs'.length ∧ BagAt H' b g l gs' ls n st ∧ Kp (bx b g) H H' ∧ σ' = [some (.ref b), some (.int m), none, none]) gs.length ⟨gs, rfl, hb, Kp.refl, rfl⟩ ?_
  rintro i σ' H1 ⟨gs1, rfl, hb1, kp1, rfl⟩
  have h1b := hb1.hb
  have h1g := hb1.hg
  have h1l := hb1.hl
  walk_at "go"
  refine r_ne_nil (xs := gs1.map V.int) (SqL.of (Kp.lst (by assumption) h1g)) (by assumption) ?_
  walk_at "go"
  rename_i q1 H2 hq1 k12 hq1l
  have hb2 := hb1.kp k12
  have kp2 : Kp (bx b g) H H2 := kp1.trans k12.no
  cases gs1 with
  | cons x r =>
    refine r_iteT rfl ?_
    have h2b := hb2.hb
    have h2g := hb2.hg
    rw [List.map_cons] at h2g
    walk_at "go"
    refine r_wh (fun hx => ?_) (fun hx => ?_)
    · walk_at "go"
      refine r_pop0 h2g ?_
      walk_at "go"
      exact ⟨r.length, Nat.lt_succ_self _, r, rfl, hb2.popG, kp2.trans hb2.kG, rfl⟩
    · walk_at "go"
      rename_i q2 H3 hq2 k23 hq2l
      have hb3 := hb2.kp k23
      have h3b := hb3.hb
      have h3g := hb3.hg
      rw [List.map_cons] at h3g
      refine r_ne_nil (xs := V.int x :: r.map V.int) (SqL.of h3g) (by assumption) ?_
      refine r_bl (r_iteT rfl ?_)
      walk_at "go"
      refine r_mod (by omega) ?_
      walk_at "go"
      refine r_fdiv (by omega) (by omega) ?_
      walk_at "go"
      refine r_setL h3g rfl (by simp) ?_
      have e : ((V.int x :: r.map V.int).set 0 (.int (x / m))) = ((x / m) :: r).map V.int := rfl
      rw [e]
      walk_at "go"
      exact k _ _ (Int.emod_nonneg _ (by omega)) (Int.emod_lt_of_pos _ (by omega)) ((kp2.trans k23.no).trans hb3.kG) ⟨l, _, ls, n, st, hb3.setG, by omega⟩
  | nil =>
    refine r_iteF rfl ?_
    refine r_whF ?_
    have h2b := hb2.hb
    have h2g := hb2.hg
    walk_at "go"
    rename_i q2 H3 hq2 k23 hq2l
    have hb3 := hb2.kp k23
    have h3b := hb3.hb
    have h3g := hb3.hg
    have h3l := hb3.hl
    refine r_ne_nil (xs := []) (SqL.of h3g) (by assumption) ?_
    refine r_bl (r_iteF rfl ?_)
    walk_at "go"
    refine r_setL h3b rfl (by simp) ?_
    have e : (([.ref g, .ref l, .int n, .int st] : List V).set 2 (.int (n + 1))) = [.ref g, .ref l, .int (n + 1), .int st] := rfl
    rw [e]
    have hb4 := hb3.setB (n' := n + 1) (by have := hb3.np; omega) hb3.sp
    have kp4 := (kp2.trans k23.no).trans (hb3.kB (xs' := [.ref g, .ref l, .int (n + 1), .int st]))
    generalize upd H3 b (.lst [.ref g, .ref l, .int (n + 1), .int st]) = H4 at hb4 kp4 ⊢
    have h4b := hb4.hb
    have h4l := hb4.hl
    have lpos : 0 < ls.length := List.length_pos_iff.mpr hb4.ln
    walk_at "go"
    refine r_len_l h4l ?_
    rw [List.length_map]
    walk_at "go"
    refine r_mod (by omega) ?_
    have hi : ((n + 1) % (ls.length : Int)).toNat < ls.length := by
      have := Int.emod_lt_of_pos (n + 1) (b := (ls.length : Int)) (by omega)
      have := Int.emod_nonneg (n + 1) (b := (ls.length : Int)) (by omega)
      omega
    have hc := hb4.lp _ (List.getElem_mem hi)
    refine r_ixl (n := ((n + 1) % (ls.length : Int)).toNat) (v := .int ls[((n + 1) % (ls.length : Int)).toNat]) h4l (by have := Int.emod_nonneg (n + 1) (b := (ls.length : Int)) (by omega); omega) (by rw [List.getElem?_map, List.getElem?_eq_getElem hi]; rfl) ?_
    generalize ls[((n + 1) % (ls.length : Int)).toNat] = cell at hc ⊢
    walk_at "go"
    have np := hb3.np
    have c2 : (2 : Int) ^ 200 = 1606938044258990275541962092341162602522202993782792835301376 := by decide +kernel
    refine r_mul (by decide) (by omega) ?_
    walk_at "go"
    refine r_mul (by decide) (by omega) ?_
    walk_at "go"
    refine r_mul (by omega) (by omega) ?_
    walk_at "go"
    have sc := small_cell hc (n := n + 1) (by omega) hb4.sp
    refine r_pow (n := 7) (by decide) (by omega) ?_
    walk_at "go"
    refine r_mod (b := MM) (by decide) ?_
    walk_at "go"
    refine r_setL h4b rfl (by simp) ?_
    have e2 : ∀ y : Int, (([.ref g, .ref l, .int (n + 1), .int st] : List V).set 3 (.int y)) = [.ref g, .ref l, .int (n + 1), .int y] := fun _ => rfl
    rw [e2]
    have y1 := Int.emod_nonneg ((st + (cell + 3 * (n + 1)) * (2 * (n + 1) + 1)) ^ 7) (b := MM) (by decide)
    have y2 := Int.emod_lt_of_pos ((st + (cell + 3 * (n + 1)) * (2 * (n + 1) + 1)) ^ 7) (b := MM) (by decide)
    generalize (st + (cell + 3 * (n + 1)) * (2 * (n + 1) + 1)) ^ 7 % MM = y at y1 y2 ⊢
    have hb5 := hb4.setB (n' := n + 1) (st' := y) (by omega) ⟨y1, y2⟩
    have kp5 := kp4.trans (hb4.kB (xs' := [.ref g, .ref l, .int (n + 1), .int y]))
    generalize upd H4 b (.lst [.ref g, .ref l, .int (n + 1), .int y]) = H5 at hb5 kp5 ⊢
    have h5b := hb5.hb
    walk_at "go"
    refine r_fdiv (by decide) (by decide) ?_
    walk_at "go"
    refine r_mod (by omega) ?_
    exact k _ _ (Int.emod_nonneg _ (by omega)) (Int.emod_lt_of_pos _ (by omega)) kp5 ⟨l, _, ls, n + 1, y, hb5, by omega⟩

end

section
variable {P : Program} {w : World} {K : PySem.W.Frag} {mg : Str → Option Value} {base : Heap} {c : Ads}
theorem cut_ints (ns : List Int) (lo hi : Option Int) : ∃ ms : List Int, cutV (ns.map V.int) lo hi = ms.map V.int ∧ ms.length ≤ ns.length := by
  refine ⟨(ns.drop (HT.sIx ns.length 0 lo)).take (HT.sIx ns.length ns.length hi - HT.sIx ns.length 0 lo), ?_, ?_⟩
  · unfold cutV
    rw [List.length_map, List.map_take, List.map_drop]
  · rw [List.length_take, List.length_drop]
    omega
theorem int_at {ms : List Int} {i : Nat} {z : V} (h : (ms.map V.int)[i]? = some z) : ∃ x, z = .int x ∧ x ∈ ms := by
  rw [List.getElem?_map] at h
  cases q : ms[i]? with
  | none => rw [q] at h; cases h
  | some x => rw [q] at h; cases h; exact ⟨x, rfl, List.mem_of_getElem? q⟩
theorem int_app (ms : List Int) (x : Int) : ms.map V.int ++ [V.int x] = (ms ++ [x]).map V.int := by rw [List.map_append]; rfl
abbrev spBag (K : PySem.W.Frag) : Sp := sp1 fun v H Q _ => ∃ (a : Addr) (ns : List Int), v = .ref a ∧ SqL K H a (ns.map V.int) ∧ ns.length ≤ 63 ∧ ∀ b g H', H b = none → H g = none → Kp No H H' → Bag H' b g 900000 → Q (.ref b) H'
theorem c__law_bag (T : Txt K mg c) : Cal P w K mg base CX0 1 "_law_bag" ["script"] (spBag K) := by
  refine T.d__law_bag.cal sc__law_bag sp1_len (fun f cdv A outer s H vs Q E hr h => ?_)
  obtain ⟨v, rfl, a, ns, rfl, hs, hl63, k⟩ := h
  refine ⟨_, (pss_cons (ps_setLc (i := 1) (own := [("cell", 2)]) (by rfl) sc__law_bag.nd rfl rfl (sw_true rfl rfl rfl (by decide +kernel)) (pi_any (K := K) (pe_slice (sl_any (K := K)) (pv 0) po_none (po_some pe_int))) (blkOk_by (own := [("cell", 2)]) (N := ["script", "great", "cell", "lesser", "stir"]) (sc := defScope s__law_bag) (by decide +kernel)) (fun _ _ _ _ _ => (pg_name (i := 2) sc__law_bag.nd rfl (by first | exact Or.inl rfl | exact Or.inr rfl))) (fun _ _ _ _ _ => (pts_one (pt_cmpR op_ge2 (pv 2) (pe_op op_pow2 pe_int pe_int) (nomark _)))) (fun _ _ _ _ _ => (pe_op op_sub (pv 2) (pe_op op_pow2 pe_int pe_int))))
    (pss_cons (ps_setLc (i := 3) (own := [("cell", 2)]) (by rfl) sc__law_bag.nd rfl rfl (sw_true rfl rfl rfl (by decide +kernel)) (pi_any (K := K) (pe_slice (sl_any (K := K)) (pv 0) po_none (po_some pe_int))) (blkOk_by (own := [("cell", 2)]) (N := ["script", "great", "cell", "lesser", "stir"]) (sc := defScope s__law_bag) (by decide +kernel)) (fun _ _ _ _ _ => (pg_name (i := 2) sc__law_bag.nd rfl (by first | exact Or.inl rfl | exact Or.inr rfl))) (fun _ _ _ _ _ => (pts_one (pt_cmpR op_lt2 (pv 2) (pe_op op_pow2 pe_int pe_int) (nomark _)))) (fun _ _ _ _ _ => (pe_op op_mod (pv 2) (pe_op op_pow2 pe_int pe_int))))
    (pss_cons (ps_set (i := 4) sc__law_bag.nd rfl (by first | exact Or.inl rfl | exact Or.inr rfl) pe_int)
    (pss_cons (ps_for PassesOwn.never rfl (pi_any (K := K) (pv 3)) (pg_name (i := 2) sc__law_bag.nd rfl (by first | exact Or.inl rfl | exact Or.inr rfl))
      (pss_one (ps_set (i := 4) sc__law_bag.nd rfl (by first | exact Or.inl rfl | exact Or.inr rfl) (pe_op op_mod (pe_op op_pow2 (pe_op (op_add2 (K := K)) (pe_op (op_add2 (K := K)) (pv 4) (pv 2)) pe_int) pe_int) pe_int))))
    (pss_one (ps_ret (pe_lst (pa_cons (pv 1) (pa_cons (pe_op (op_add2 (K := K)) (pv 3) (pe_lst (pa_cons pe_int pa_nil))) (pa_cons pe_int (pa_cons (pv 4) pa_nil))))))))))), ?_⟩
  have e18 : (10 : Int) ^ 18 = 1000000000000000000 := by decide
  walk_at "go"
  refine r_lcL ?_
  walk_at "go"
  refine r_slL hs fun p1 H1 hp1 k1 hp1l => ?_
  obtain ⟨ms, em, lm⟩ := cut_ints ns none (some 63)
  rw [em] at hp1l
  refine lcL (fun D i acc H' => Kp No H1 H' ∧ ∃ gs : List Int, acc = gs.map V.int) (SqL.of hp1l) (fun D hD => ⟨Kp.new Kp.refl hD, [], rfl⟩) (fun D i acc H' hD h => h.1.sql (SqL.of hp1l)) ?_ ?_
  · rintro D i acc z H' hD hi hacc hl ⟨kp, gs, rfl⟩
    obtain ⟨x, rfl, -⟩ := int_at hi
    have hi2 : i < ms.length := by
      have := (List.getElem?_eq_some_iff.mp hi).1
      rwa [List.length_map] at this
    walk_at "go"
    refine r_pow (n := 18) (by decide) (by decide) ?_
    walk_at "go"
    walk_at "br"
    · intro _
      walk_at "go"
      refine r_pow (n := 18) (by decide) (by decide) ?_
      walk_at "go"
      exact lc_yes hacc hl (by omega) ⟨Kp.fresh kp hD, gs ++ [x - 10 ^ 18], int_app _ _⟩
    · intro _
      exact lc_no hacc hl ⟨kp, gs, rfl⟩
  · rintro g acc H2 hg hgl hl ⟨kp2, gs, rfl⟩
    walk_at "go"
    refine r_lcL ?_
    walk_at "go"
    refine r_slL (kp2.sql (k1.sql hs)) fun p3 H3 hp3 k3 hp3l => ?_
    rw [em] at hp3l
    refine lcL (fun D i acc H' => Kp No H3 H' ∧ ∃ ls : List Int, acc = ls.map V.int ∧ ∀ x ∈ ls, 0 ≤ x ∧ x < 10 ^ 18) (SqL.of hp3l) (fun D hD => ⟨Kp.new Kp.refl hD, [], rfl, fun x h => by cases h⟩) (fun D i acc H' hD h => h.1.sql (SqL.of hp3l)) ?_ ?_
    · rintro D i acc z H' hD hi hacc hl ⟨kp, ls, rfl, hls⟩
      obtain ⟨x, rfl, -⟩ := int_at hi
      have hi2 : i < ms.length := by
        have := (List.getElem?_eq_some_iff.mp hi).1
        rwa [List.length_map] at this
      walk_at "go"
      refine r_pow (n := 18) (by decide) (by decide) ?_
      walk_at "go"
      walk_at "br"
      · intro _
        walk_at "go"
        refine r_pow (n := 18) (by decide) (by decide) ?_
        walk_at "go"
        refine r_mod (b := (10 : Int) ^ 18) (by decide) ?_
        refine lc_yes hacc hl (by omega) ⟨Kp.fresh kp hD, ls ++ [x % 10 ^ 18], int_app _ _, fun y hy => ?_⟩
        rcases List.mem_append.mp hy with q | q
        · exact hls y q
        · rw [List.mem_singleton.mp q]
          exact ⟨Int.emod_nonneg _ (by decide), Int.emod_lt_of_pos _ (by decide)⟩
      · intro _
        exact lc_no hacc hl ⟨kp, ls, rfl, hls⟩
    · rintro l0 acc H4 hl0 hl0l hl4 ⟨kp4, ls, rfl, hls⟩
      walk_at "go"
      refine r_forL ?_
      walk_at "go"
      refine lpL (fun i σ' H' => Kp No H4 H' ∧ ∃ (st : Int) (o2 : Option V), 0 ≤ st ∧ st < MM ∧ σ' = [some (.ref a), some (.ref g), o2, some (.ref l0), some (.int st)]) (SqL.of hl0l) ⟨Kp.refl, 5, _, by decide, by decide, rfl⟩ (fun i σ' H' h => h.1.sql (SqL.of hl0l)) ?_ ?_
      · rintro i z σ' H' hi ⟨kp5, st, o2, s0, s1, rfl⟩
        obtain ⟨x, rfl, hx⟩ := int_at hi
        have hx2 := hls x hx
        have c2 : (2 : Int) ^ 200 = 1606938044258990275541962092341162602522202993782792835301376 := by decide +kernel
        have c3 : MM = 618970019642690137449562111 := rfl
        walk_at "go"
        refine r_pow (n := 7) (by decide) (by omega) ?_
        walk_at "go"
        refine r_mod (b := MM) (by decide) ?_
        walk_at "go"
        exact ⟨kp5, _, _, Int.emod_nonneg _ (by decide), Int.emod_lt_of_pos _ (by decide), rfl⟩
      · rintro σ' H5 ⟨kp5, st, o2, s0, s1, rfl⟩
        walk_at "go"
        rename_i q6 H6 hq6 k6 hq6l
        have hg6 : H6 g = some (.lst (gs.map V.int)) := k6.lst (kp5.lst (kp4.lst (k3.lst hgl)))
        have hl6 : H6 l0 = some (.lst (ls.map V.int)) := k6.lst (kp5.lst hl0l)
        refine r_cat hl6 hq6l (by simp only [List.length_map, List.length_cons, List.length_nil] at *; omega) fun l H7 hl7 k7 hl7l => ?_
        walk_at "go"
        rename_i b H8 hb8 k8 hb8l
        have hg7 : H7 g = some (.lst (gs.map V.int)) := k7.lst hg6
        have kall : Kp No H H8 := k1.trans (kp2.trans (k3.trans (kp4.trans (kp5.trans (k6.trans (k7.trans k8))))))
        have gl : g ≠ l := fun z => by subst z; rw [hg6] at hl7; cases hl7
        have bg : b ≠ g := fun z => by subst z; rw [hg7] at hb8; cases hb8
        have bl : b ≠ l := fun z => by subst z; rw [hl7l] at hb8; cases hb8
        refine k b g H8 ?_ (k1.free (ex := No) hg fun z => z) kall ⟨l, gs, ls ++ [0], 0, st, ⟨hb8l, k8.lst hg7, k8.lst (by rw [← int_app]; exact hl7l), fun x hx => ?_, by simp, ⟨s0, s1⟩, by decide, bg, bl, gl⟩, by decide⟩
        · have k17 : Kp No H H7 := k1.trans (kp2.trans (k3.trans (kp4.trans (kp5.trans (k6.trans k7)))))
          exact k17.free (ex := No) hb8 fun z => z
        · rcases List.mem_append.mp hx with q | q
          · exact hls x q
          · rw [List.mem_singleton.mp q]; decide

end

section
variable {P : Program} {w : World} {K : PySem.W.Frag} {mg : Str → Option Value} {base : Heap} {c : Ads}
abbrev spNumber : Sp := sp1 fun v H Q _ => ∃ b g B, v = .ref b ∧ Bag H b g (B + 3) ∧ ∀ (i : Int) H', i.natAbs < 10 ^ 15 → Kp (bx b g) H H' → Bag H' b g B → Q (.int i) H'
theorem c__law_number (T : Txt K mg c) : Cal P w K mg base CX0 2 "_law_number" ["bag"] spNumber := by
  refine T.d__law_number.cal sc__law_number sp1_len (fun f cdv A outer s H vs Q E hr h => ?_)
  obtain ⟨v, rfl, b, g, B, rfl, hB, k⟩ := h
  have e15 : (10 : Nat) ^ 15 = 1000000000000000 := by decide
  have e15' : (10 : Int) ^ 15 = 1000000000000000 := by decide
  refine ⟨_, (pss_cons (ps_set (i := 1) sc__law_number.nd rfl (by first | exact Or.inl rfl | exact Or.inr rfl) (pe_cal (c__law_draw T) (hr.mono (by first | decide | omega)) pass0 (pa_cons (pv 0) (pa_cons pe_int pa_nil))))
    (pss_cons (ps_if (pt_cmpR (op_eq2 (K := K) hr.units) (pv 1) pe_int (nomark _)) (pss_one (ps_ret (pe_op op_sub (pe_cal (c__law_draw T) (hr.mono (by first | decide | omega)) pass0 (pa_cons (pv 0) (pa_cons pe_int pa_nil))) pe_int))) pss_nil)
    (pss_cons (ps_if (pt_cmpR (op_eq2 (K := K) hr.units) (pv 1) pe_int (nomark _)) (pss_one (ps_ret (pe_op op_sub (pe_cal (c__law_draw T) (hr.mono (by first | decide | omega)) pass0 (pa_cons (pv 0) (pa_cons pe_int pa_nil))) pe_int))) pss_nil)
    (pss_cons (ps_if (pt_cmpR (op_eq2 (K := K) hr.units) (pv 1) pe_int (nomark _)) (pss_one (ps_ret (pe_op op_mul2 (pe_ix (ix_any (K := K)) (pe_lst (pa_cons pe_int (pa_cons (pe_un un_neg pe_int) pa_nil))) (pe_cal (c__law_draw T) (hr.mono (by first | decide | omega)) pass0 (pa_cons (pv 0) (pa_cons pe_int pa_nil))) (fun _ _ => rfl)) (pe_op op_sub (pe_op op_sub (pe_op op_pow2 pe_int pe_int) pe_int) (pe_cal (c__law_draw T) (hr.mono (by first | decide | omega)) pass0 (pa_cons (pv 0) (pa_cons pe_int pa_nil))))))) pss_nil)
    (pss_cons (ps_set (i := 2) sc__law_number.nd rfl (by first | exact Or.inl rfl | exact Or.inr rfl) (pe_cal (c__law_draw T) (hr.mono (by first | decide | omega)) pass0 (pa_cons (pv 0) (pa_cons (pe_op op_pow2 pe_int pe_int) pa_nil))))
    (pss_one (ps_ret (pe_ifExp (pt_cmpR (op_eq2 (K := K) hr.units) (pv 1) pe_int (nomark _)) (pv 2) (pe_op op_sub pe_int (pv 2)))))))))), ?_⟩
  walk_at "go"
  refine ⟨b, g, B + 2, 5, rfl, rfl, by decide, by decide, hB, fun r H1 r0 r1 k1 B1 => ?_⟩
  walk_at "go"
  walk_at "br"
  · intro _
    walk_at "go"
    refine ⟨b, g, B + 1, 9, rfl, rfl, by decide, by decide, B1, fun r H2 r0 r1 k2 B2 => ?_⟩
    walk_at "go"
    exact k _ _ (by omega) (k1.trans k2) (B2.less (by omega))
  · intro _
    walk_at "go"
    walk_at "br"
    · intro _
      walk_at "go"
      refine ⟨b, g, B + 1, 2000, rfl, rfl, by decide, by decide, B1, fun r H2 r0 r1 k2 B2 => ?_⟩
      walk_at "go"
      exact k _ _ (by omega) (k1.trans k2) (B2.less (by omega))
    · intro _
      walk_at "go"
      walk_at "br"
      · intro _
        walk_at "go"
        rename_i p Hp hpn kp hpl
        refine ⟨b, g, B + 1, 2, rfl, rfl, by decide, by decide, B1.kp kp, fun r H2 r0 r1 k2 B2 => ?_⟩
        have hp2 : H2 p = some (.lst [.int 1, .int (-1)]) := k2.at hpl (B1.old hpn)
        have key : ∀ s : Int, (s = 1 ∨ s = -1) → ([V.int 1, V.int (-1)] : List V)[r.toNat]? = some (.int s) → rIx K (.ref p) (.int r) H2 = rIx K (.ref p) (.int r) H2 := fun _ _ _ => rfl
        obtain ⟨s, hs, hv⟩ : ∃ s : Int, (s = 1 ∨ s = -1) ∧ ([V.int 1, V.int (-1)] : List V)[r.toNat]? = some (.int s) := by
          have : r = 0 ∨ r = 1 := by omega
          rcases this with rfl | rfl
          · exact ⟨1, .inl rfl, rfl⟩
          · exact ⟨-1, .inr rfl, rfl⟩
        refine r_ixl (n := r.toNat) hp2 (by omega) hv ?_
        walk_at "go"
        refine r_pow (n := 15) (by decide) (by decide) ?_
        walk_at "go"
        refine ⟨b, g, B, 3, rfl, rfl, by decide, by decide, B2, fun q H3 q0 q1 k3 B3 => ?_⟩
        walk_at "go"
        have c2 : (2 : Nat) ^ 200 = 1606938044258990275541962092341162602522202993782792835301376 := by decide +kernel
        refine r_mul (by omega) (by omega) ?_
        refine k _ _ ?_ (((k1.trans kp.no).trans k2).trans k3) B3
        rcases hs with rfl | rfl <;> omega
      · intro _
        walk_at "go"
        refine r_pow (n := 15) (by decide) (by decide) ?_
        walk_at "go"
        refine ⟨b, g, B + 1, 10 ^ 15, rfl, rfl, by decide, by decide, B1, fun r H2 r0 r1 k2 B2 => ?_⟩
        walk_at "go"
        walk_at "br"
        · intro _
          walk_at "go"
          exact k _ _ (by omega) (k1.trans k2) (B2.less (by omega))
        · intro _
          walk_at "go"
          exact k _ _ (by omega) (k1.trans k2) (B2.less (by omega))
abbrev spHeld : Sp := sp1 fun v H Q _ => ∃ i : Int, v = .int i ∧ ∀ H', Kp No H H' → Q (.int (max (1 - 10 ^ 15) (min (10 ^ 15 - 1) i))) H'
theorem c__law_held (T : Txt K mg c) : Cal P w K mg base CX0 1 "_law_held" ["number"] spHeld := by
  refine T.d__law_held.cal sc__law_held sp1_len (fun f cdv A outer s H vs Q E hr h => ?_)
  obtain ⟨v, rfl, i, rfl, k⟩ := h
  refine ⟨_, (pss_one (ps_ret (pe_callB (cr_max2 rfl) (by rfl) T.n_max (by decide +kernel) (pa_cons (pe_op op_sub pe_int (pe_op op_pow2 pe_int pe_int)) (pa_cons (pe_callB (cr_min2 rfl) (by rfl) T.n_min (by decide +kernel) (pa_cons (pe_op op_sub (pe_op op_pow2 pe_int pe_int) pe_int) (pa_cons (pv 0) pa_nil))) pa_nil))))), ?_⟩
  walk_at "go"
  refine r_pow (n := 15) (by decide) (by decide) ?_
  walk_at "go"
  refine r_pow (n := 15) (by decide) (by decide) ?_
  walk_at "go"
  exact k _ (by walk_at "kp")
/-- a span that was drawn -/
def SpanAt (H : Hp) (p : Addr) (lo hi : Option Int) : Prop := H p = some (.tup [EV lo, EV hi]) ∧ spanD (.tuple [ED lo, ED hi]) = true ∧ okO lo ∧ okO hi
abbrev spLawSpan : Sp := sp1 fun v H Q _ => ∃ b g B, v = .ref b ∧ Bag H b g (B + 7) ∧ ∀ p lo hi H', SpanAt H' p lo hi → Kp (bx b g) H H' → Bag H' b g B → Q (.ref p) H'
theorem okO_some {i : Int} (h : i.natAbs < 10 ^ 15) : okO (some i) := fun j e => by cases e; exact h
theorem okO_none : okO none := fun j e => by cases e
theorem c__law_span (T : Txt K mg c) : Cal P w K mg base CX0 3 "_law_span" ["bag"] spLawSpan := by
  refine T.d__law_span.cal sc__law_span sp1_len (fun f cdv A outer s H vs Q E hr h => ?_)
  obtain ⟨v, rfl, b, g, B, rfl, hB, k⟩ := h
  have e15 : (10 : Nat) ^ 15 = 1000000000000000 := by decide
  have e15' : (10 : Int) ^ 15 = 1000000000000000 := by decide
  refine ⟨_, (pss_cons (ps_set (i := 1) sc__law_span.nd rfl (by first | exact Or.inl rfl | exact Or.inr rfl) (pe_cal (c__law_draw T) (hr.mono (by first | decide | omega)) pass0 (pa_cons (pv 0) (pa_cons pe_int pa_nil))))
    (pss_cons (ps_set (i := 2) sc__law_span.nd rfl (by first | exact Or.inl rfl | exact Or.inr rfl) (pe_cal (c__law_number T) (hr.mono (by first | decide | omega)) pass0 (pa_cons (pv 0) pa_nil)))
    (pss_cons (ps_if (pt_cmpR (op_eq2 (K := K) hr.units) (pv 1) pe_int (nomark _)) (pss_one (ps_ret (pe_tup (pa_cons pe_non (pa_cons pe_non pa_nil))))) pss_nil)
    (pss_cons (ps_if (pt_cmpR (op_eq2 (K := K) hr.units) (pv 1) pe_int (nomark _)) (pss_one (ps_ret (pe_tup (pa_cons pe_non (pa_cons (pv 2) pa_nil))))) pss_nil)
    (pss_cons (ps_if (pt_cmpR (op_eq2 (K := K) hr.units) (pv 1) pe_int (nomark _)) (pss_one (ps_ret (pe_tup (pa_cons (pv 2) (pa_cons pe_non pa_nil))))) pss_nil)
    (pss_cons (ps_if (pt_cmpR (op_eq2 (K := K) hr.units) (pv 1) pe_int (nomark _)) (pss_one (ps_ret (pe_tup (pa_cons (pv 2) (pa_cons (pv 2) pa_nil))))) pss_nil)
    (pss_cons (ps_if (pt_cmpR op_lt2 (pv 1) pe_int (nomark _)) (pss_one (ps_ret (pe_tup (pa_cons (pv 2) (pa_cons (pe_cal (c__law_held T) (hr.mono (by first | decide | omega)) pass0 (pa_cons (pe_op (op_add2 (K := K)) (pe_op (op_add2 (K := K)) (pv 2) pe_int) (pe_cal (c__law_draw T) (hr.mono (by first | decide | omega)) pass0 (pa_cons (pv 0) (pa_cons pe_int pa_nil)))) pa_nil)) pa_nil))))) pss_nil)
    (pss_cons (ps_set (i := 3) sc__law_span.nd rfl (by first | exact Or.inl rfl | exact Or.inr rfl) (pe_cal (c__law_number T) (hr.mono (by first | decide | omega)) pass0 (pa_cons (pv 0) pa_nil)))
    (pss_one (ps_ret (pe_tup (pa_cons (pe_callB (cr_min2 rfl) (by rfl) T.n_min (by decide +kernel) (pa_cons (pv 2) (pa_cons (pv 3) pa_nil))) (pa_cons (pe_callB (cr_max2 rfl) (by rfl) T.n_max (by decide +kernel) (pa_cons (pv 2) (pa_cons (pv 3) pa_nil))) pa_nil))))))))))))), ?_⟩
  walk_at "go"
  refine ⟨b, g, B + 6, 7, rfl, rfl, by decide, by decide, hB, fun r H1 r0 r1 k1 B1 => ?_⟩
  walk_at "go"
  refine ⟨b, g, B + 3, rfl, B1, fun low H2 hlow k2 B2 => ?_⟩
  walk_at "go"
  walk_at "br"
  · intro _
    walk_at "go"
    rename_i p H3 hp k3 hpt
    exact k p none none H3 ⟨hpt, rfl, okO_none, okO_none⟩ ((k1.trans k2).trans k3.no) ((B2.kp k3).less (by omega))
  · intro _
    walk_at "go"
    walk_at "br"
    · intro _
      walk_at "go"
      rename_i p H3 hp k3 hpt
      exact k p none (some low) H3 ⟨hpt, rfl, okO_none, okO_some hlow⟩ ((k1.trans k2).trans k3.no) ((B2.kp k3).less (by omega))
    · intro _
      walk_at "go"
      walk_at "br"
      · intro _
        walk_at "go"
        rename_i p H3 hp k3 hpt
        exact k p (some low) none H3 ⟨hpt, rfl, okO_some hlow, okO_none⟩ ((k1.trans k2).trans k3.no) ((B2.kp k3).less (by omega))
      · intro _
        walk_at "go"
        walk_at "br"
        · intro _
          walk_at "go"
          rename_i p H3 hp k3 hpt
          refine k p (some low) (some low) H3 ⟨hpt, ?_, okO_some hlow, okO_some hlow⟩ ((k1.trans k2).trans k3.no) ((B2.kp k3).less (by omega))
          exact decide_eq_true (Int.le_refl _)
        · intro _
          walk_at "go"
          walk_at "br"
          · intro _
            walk_at "go"
            refine ⟨b, g, B + 2, 12, rfl, rfl, by decide, by decide, B2, fun q H3 q0 q1 k3 B3 => ?_⟩
            walk_at "go"
            intro H4 k4
            walk_at "go"
            rename_i p H5 hp k5 hpt
            refine k p (some low) (some _) H5 ⟨hpt, ?_, okO_some hlow, okO_some ?_⟩ (((k1.trans k2).trans k3).trans (k4.trans k5).no) ((B3.kp (k4.trans k5)).less (by omega))
            · refine decide_eq_true ?_
              omega
            · omega
          · intro _
            walk_at "go"
            refine ⟨b, g, B, rfl, B2, fun high H3 hhigh k3 B3 => ?_⟩
            walk_at "go"
            rename_i p H4 hp k4 hpt
            refine k p (some _) (some _) H4 ⟨hpt, ?_, okO_some ?_, okO_some ?_⟩ (((k1.trans k2).trans k3).trans k4.no) (B3.kp k4)
            · refine decide_eq_true ?_
              omega
            · omega
            · omega

end

section
variable {P : Program} {w : World} {K : PySem.W.Frag} {mg : Str → Option Value} {base : Heap} {c : Ads}
abbrev spField : Sp := sp1 fun v H Q _ => ∃ b g B, v = .ref b ∧ Bag H b g (B + 10) ∧ ∀ f H', fieldS f = true → Kp (bx b g) H H' → Bag H' b g B → Q (.str f) H'
theorem letter_at {r : Int} (r0 : 0 ≤ r) (r1 : r < 26) : ∃ d, lettersL[r.toNat]? = some d ∧ d ∈ lettersL := by
  have h : r.toNat < lettersL.length := by rw [letters_len]; omega
  exact ⟨lettersL[r.toNat], List.getElem?_eq_getElem h, List.getElem_mem h⟩
theorem c__law_field (T : Txt K mg c) : Cal P w K mg base CX0 2 "_law_field" ["bag"] spField := by
  refine T.d__law_field.cal sc__law_field sp1_len (fun f cdv A outer s H vs Q E hr h => ?_)
  obtain ⟨v, rfl, b, g, B, rfl, hB, k⟩ := h
  refine ⟨_, (pss_cons (ps_set (i := 1) sc__law_field.nd rfl (by first | exact Or.inl rfl | exact Or.inr rfl) (pe_cal (c__law_draw T) (hr.mono (by first | decide | omega)) pass0 (pa_cons (pv 0) (pa_cons pe_int pa_nil))))
    (pss_cons (ps_set (i := 2) sc__law_field.nd rfl (by first | exact Or.inl rfl | exact Or.inr rfl) pe_str)
    (pss_cons (ps_if (pt_cmpR (op_eq2 (K := K) hr.units) (pv 1) pe_int (nomark _)) (pss_one (ps_ret (pe_join2 (K := K) pe_str (pe_lc (own := [("k", 3)]) (by rfl) sc__law_field.nd (pi_range1 (by rfl) T.n_range (pa_cons (pe_op (op_add2 (K := K)) pe_int (pe_cal (c__law_draw T) (hr.mono (by first | decide | omega)) pass0 (pa_cons (pv 0) (pa_cons pe_int pa_nil)))) pa_nil)) (blkOk_by (own := [("k", 3)]) (N := ["bag", "choice", "some", "k"]) (sc := defScope s__law_field) (by decide +kernel)) (fun _ _ _ _ _ => (pg_name (i := 3) sc__law_field.nd rfl (by first | exact Or.inl rfl | exact Or.inr rfl))) (fun _ _ _ _ _ => pts_nil) (fun _ _ _ _ _ => (pe_ix (ix_any (K := K)) (pv 2) (pe_cal (c__law_draw T) (hr.mono (by first | decide | omega)) pass0 (pa_cons (pv 0) (pa_cons pe_int pa_nil))) (fun _ _ => rfl))))))) pss_nil)
    (pss_one (ps_ret (pe_join2 (K := K) pe_str (pe_lc (own := [("k", 3)]) (by rfl) sc__law_field.nd (pi_range1 (by rfl) T.n_range (pa_cons (pe_op (op_add2 (K := K)) pe_int (pe_cal (c__law_draw T) (hr.mono (by first | decide | omega)) pass0 (pa_cons (pv 0) (pa_cons pe_int pa_nil)))) pa_nil)) (blkOk_by (own := [("k", 3)]) (N := ["bag", "choice", "some", "k"]) (sc := defScope s__law_field) (by decide +kernel)) (fun _ _ _ _ _ => (pg_name (i := 3) sc__law_field.nd rfl (by first | exact Or.inl rfl | exact Or.inr rfl))) (fun _ _ _ _ _ => pts_nil) (fun _ _ _ _ _ => (pe_ix (ix_any (K := K)) (pv 2) (pe_op op_mul2 (pe_cal (c__law_draw T) (hr.mono (by first | decide | omega)) pass0 (pa_cons (pv 0) (pa_cons pe_int pa_nil))) pe_int) (fun _ _ => rfl)))))))))), ?_⟩
  walk_at "go"
  refine ⟨b, g, B + 9, 3, rfl, rfl, by decide, by decide, hB, fun r H1 r0 r1 k1 B1 => ?_⟩
  walk_at "go"
  have al : (Str.ofString "abcdefghijklmnopqrstuvwxyz").length ≤ 1000000 := by decide +kernel
  have ae : (Str.ofString "abcdefghijklmnopqrstuvwxyz").cps.toList = lettersL := by rfl
  walk_at "br"
  · intro _
    walk_at "go"
    refine r_lcR ?_
    walk_at "go"
    refine ⟨b, g, B + 8, 8, rfl, rfl, by decide, by decide, B1, fun q H2 q0 q1 k2 B2 => ?_⟩
    walk_at "go"
    obtain ⟨z, hz⟩ : ∃ z : Nat, 1 + q = (z : Int) := ⟨(1 + q).toNat, by omega⟩
    rw [hz]
    refine lcR (fun D i acc H' => Kp (bx b g) H2 H' ∧ Bag H' b g (B + (8 - i)) ∧ ∃ cs : List Nat, acc = (cs.map sg).map V.str ∧ cs.length = i ∧ ∀ d ∈ cs, d ∈ lettersL) (by omega) (fun D hD => ⟨Kp.new Kp.refl hD, B2.kp (Kp.new Kp.refl hD), [], rfl, rfl, fun d h => by cases h⟩) ?_ ?_
    · rintro D i acc H' hD hi hacc hl ⟨k3, B3, cs, rfl, hcs, hall⟩
      obtain ⟨B', hB'⟩ : ∃ B', B + (8 - i) = B' + 1 := ⟨B + (8 - i) - 1, by omega⟩
      rw [hB'] at B3
      walk_at "go"
      refine ⟨b, g, B', 26, rfl, rfl, by decide, by decide, B3, fun u H3 u0 u1 k4 B4 => ?_⟩
      walk_at "go"
      obtain ⟨d, hd, hdm⟩ := letter_at (r := u) (by omega) (by omega)
      refine r_ix_s (n := u.toNat) al (by omega) (by rw [ae]; exact hd) ?_
      have hDb : ¬ bx b g D := B2.old hD
      have hacc3 : H3 D = some (.lst ((cs.map sg).map V.str)) := k4.at hacc hDb
      refine lc_yes hacc3 hl (by omega) ⟨Kp.fresh (k3.trans k4) hD, ?_, cs ++ [d], by rw [List.map_append, List.map_append]; rfl, by rw [List.length_append, hcs]; rfl, fun y hy => ?_⟩
      · have e : B + (8 - (i + 1)) = B' := by omega
        rw [e]
        exact B4.wr hacc3 hDb head_str
      · rcases List.mem_append.mp hy with z | z
        · exact hall y z
        · rw [List.mem_singleton.mp z]; exact hdm
    · rintro D acc H' hD hacc hl ⟨k3, B3, cs, rfl, hcs, hall⟩
      walk_at "go"
      refine r_join (SqL.of hacc) (by rw [sum_ones, List.length_map, l_empty]; omega) ?_
      refine k _ _ (field_signs (fun z => by rw [z] at hcs; simp at hcs; omega) (by omega) hall) ((k1.trans k2).trans k3) (B3.less (by omega))
  · intro _
    walk_at "go"
    refine r_lcR ?_
    walk_at "go"
    refine ⟨b, g, B + 8, 4, rfl, rfl, by decide, by decide, B1, fun q H2 q0 q1 k2 B2 => ?_⟩
    walk_at "go"
    obtain ⟨z, hz⟩ : ∃ z : Nat, 1 + q = (z : Int) := ⟨(1 + q).toNat, by omega⟩
    rw [hz]
    refine lcR (fun D i acc H' => Kp (bx b g) H2 H' ∧ Bag H' b g (B + (8 - i)) ∧ ∃ cs : List Nat, acc = (cs.map sg).map V.str ∧ cs.length = i ∧ ∀ d ∈ cs, d ∈ lettersL) (by omega) (fun D hD => ⟨Kp.new Kp.refl hD, B2.kp (Kp.new Kp.refl hD), [], rfl, rfl, fun d h => by cases h⟩) ?_ ?_
    · rintro D i acc H' hD hi hacc hl ⟨k3, B3, cs, rfl, hcs, hall⟩
      obtain ⟨B', hB'⟩ : ∃ B', B + (8 - i) = B' + 1 := ⟨B + (8 - i) - 1, by omega⟩
      rw [hB'] at B3
      walk_at "go"
      refine ⟨b, g, B', 2, rfl, rfl, by decide, by decide, B3, fun u H3 u0 u1 k4 B4 => ?_⟩
      walk_at "go"
      refine r_mul (by omega) (by decide) ?_
      walk_at "go"
      obtain ⟨d, hd, hdm⟩ := letter_at (r := u * 25) (by omega) (by omega)
      refine r_ix_s (n := (u * 25).toNat) al (by omega) (by rw [ae]; exact hd) ?_
      have hDb : ¬ bx b g D := B2.old hD
      have hacc3 : H3 D = some (.lst ((cs.map sg).map V.str)) := k4.at hacc hDb
      refine lc_yes hacc3 hl (by omega) ⟨Kp.fresh (k3.trans k4) hD, ?_, cs ++ [d], by rw [List.map_append, List.map_append]; rfl, by rw [List.length_append, hcs]; rfl, fun y hy => ?_⟩
      · have e : B + (8 - (i + 1)) = B' := by omega
        rw [e]
        exact B4.wr hacc3 hDb head_str
      · rcases List.mem_append.mp hy with z | z
        · exact hall y z
        · rw [List.mem_singleton.mp z]; exact hdm
    · rintro D acc H' hD hacc hl ⟨k3, B3, cs, rfl, hcs, hall⟩
      walk_at "go"
      refine r_join (SqL.of hacc) (by rw [sum_ones, List.length_map, l_empty]; omega) ?_
      refine k _ _ (field_signs (fun z => by rw [z] at hcs; simp at hcs; omega) (by omega) hall) ((k1.trans k2).trans k3) (B3.less (by omega))
abbrev spFields : Sp := sp2 fun v m H Q _ => ∃ b g B, ∃ most : Int, v = .ref b ∧ m = .int most ∧ 0 ≤ most ∧ most ≤ 8 ∧ Bag H b g (B + 81) ∧
  ∀ p ys H', ascS Str.empty ys = true → (∀ f ∈ ys, fieldS f = true) → ys.length ≤ 8 → H p = none → H' p = some (.lst (ys.map V.str)) → Kp (bx b g) H H' → Bag H' b g B → Q (.ref p) H'
theorem c__law_fields (T : Txt K mg c) : Cal P w K mg base CX0 3 "_law_fields" ["bag", "most"] spFields := by
  refine T.d__law_fields.cal sc__law_fields sp2_len (fun f cdv A outer s H vs Q E hr h => ?_)
  obtain ⟨_, _, rfl, b, g, B, most, rfl, rfl, m0, m1, hB, k⟩ := h
  refine ⟨_, (pss_one (ps_ret (pe_callB (cr_sortedOfS (P := P) (w := w) rfl) (by rfl) T.n_sorted (by decide +kernel) (pa_cons (pe_callTy (cr_setOfS (K := K) (P := P) (w := w) rfl) (by rfl) T.n_set (by decide +kernel) (pa_cons (pe_lc (own := [("k", 2)]) (by rfl) sc__law_fields.nd (pi_range1 (by rfl) T.n_range (pa_cons (pe_cal (c__law_draw T) (hr.mono (by first | decide | omega)) pass0 (pa_cons (pv 0) (pa_cons (pe_op (op_add2 (K := K)) (pv 1) pe_int) pa_nil))) pa_nil)) (blkOk_by (own := [("k", 2)]) (N := ["bag", "most", "k"]) (sc := defScope s__law_fields) (by decide +kernel)) (fun _ _ _ _ _ => (pg_name (i := 2) sc__law_fields.nd rfl (by first | exact Or.inl rfl | exact Or.inr rfl))) (fun _ _ _ _ _ => pts_nil) (fun _ _ _ _ _ => (pe_cal (c__law_field T) (hr.mono (by first | decide | omega)) pass0 (pa_cons (pv 0) pa_nil)))) pa_nil)) pa_nil)))), ?_⟩
  walk_at "go"
  refine r_lcR ?_
  walk_at "go"
  refine ⟨b, g, B + 80, most + 1, rfl, rfl, by omega, by omega, hB, fun q H2 q0 q1 k2 B2 => ?_⟩
  walk_at "go"
  obtain ⟨z, rfl⟩ : ∃ z : Nat, q = (z : Int) := ⟨q.toNat, by omega⟩
  refine lcR (fun D i acc H' => Kp (bx b g) H2 H' ∧ Bag H' b g (B + 10 * (8 - i)) ∧ ∃ xs : List Str, acc = xs.map V.str ∧ xs.length = i ∧ ∀ d ∈ xs, fieldS d = true) (by omega) (fun D hD => ⟨Kp.new Kp.refl hD, B2.kp (Kp.new Kp.refl hD), [], rfl, rfl, fun d h => by cases h⟩) ?_ ?_
  · rintro D i acc H' hD hi hacc hl ⟨k3, B3, xs, rfl, hcs, hall⟩
    have e : B + 10 * (8 - i) = (B + 10 * (8 - (i + 1))) + 10 := by omega
    rw [e] at B3
    walk_at "go"
    refine ⟨b, g, _, rfl, B3, fun d H3 hd k4 B4 => ?_⟩
    have hDb : ¬ bx b g D := B2.old hD
    have hacc3 : H3 D = some (.lst (xs.map V.str)) := k4.at hacc hDb
    refine lc_yes hacc3 hl (by omega) ⟨Kp.fresh (k3.trans k4) hD, B4.wr hacc3 hDb head_str, xs ++ [d], by rw [List.map_append]; rfl, by rw [List.length_append, hcs]; rfl, fun y hy => ?_⟩
    rcases List.mem_append.mp hy with z | z
    · exact hall y z
    · rw [List.mem_singleton.mp z]; exact hd
  · rintro D acc H' hD hacc hl ⟨k3, B3, xs, rfl, hcs, hall⟩
    walk_at "go"
    refine r_setOfS (SqL.of hacc) (by omega) fun a H4 ha k4 hal => ?_
    walk_at "go"
    refine r_sortedOfS hal (by omega) fun ys p H5 nd so mem hp k5 hpl => ?_
    have hf : ∀ f ∈ ys, fieldS f = true := fun f hf => hall f ((mem f).mp hf)
    have hlen : ys.length ≤ xs.length := List.Nodup.length_le_of_subset nd fun f hf => (mem f).mp hf
    exact k p ys H5 (ascS_sorted so nd hf) hf (by omega) (((k2.trans k3).trans k4.no).free hp ((B3.kp k4).old hp)) hpl (((k2.trans k3).trans k4.no).trans k5.no) (((B3.kp k4).kp k5).less (by omega))
abbrev spMade : Sp := sp3 fun v sz m H Q _ => ∃ b g B, ∃ size most : Int, v = .ref b ∧ sz = .int size ∧ m = .int most ∧ (size = 2 ∨ size = 3) ∧ 0 ≤ most ∧ most ≤ 8 ∧ Bag H b g (B + 300) ∧
  ∀ p (ps : List (Str × List PyData)) H', ascS Str.empty (ps.map (·.1)) = true → (∀ q ∈ ps, fieldS q.1 = true ∧ goodR size q.2) → ps.length ≤ 8 → Dat All H' (.ref p) (.tuple (ps.map mk1)) → Kp (bx b g) H H' → Bag H' b g B → Q (.ref p) H'
theorem c__law_made (T : Txt K mg c) : Cal P w K mg base CX0 4 "_law_made" ["bag", "size", "most"] spMade := by
  refine T.d__law_made.cal sc__law_made sp3_len (fun f cdv A outer s H vs Q E hr h => ?_)
  obtain ⟨_, _, _, rfl, b, g, B, size, most, rfl, rfl, rfl, hsz, m0, m1, hB, k⟩ := h
  refine ⟨_, (pss_cons (ps_set (i := 3) sc__law_made.nd rfl (by first | exact Or.inl rfl | exact Or.inr rfl) (pe_lst pa_nil))
    (pss_cons (ps_for PassesOwn.never rfl (pi_any (K := K) (pe_cal (c__law_fields T) (hr.mono (by first | decide | omega)) pass0 (pa_cons (pv 0) (pa_cons (pv 2) pa_nil)))) (pg_name (i := 4) sc__law_made.nd rfl (by first | exact Or.inl rfl | exact Or.inr rfl))
      (pss_cons (ps_set (i := 5) sc__law_made.nd rfl (by first | exact Or.inl rfl | exact Or.inr rfl) (pe_cal (c__law_span T) (hr.mono (by first | decide | omega)) pass0 (pa_cons (pv 0) pa_nil)))
      (pss_one (ps_expr (pe_bm PySem.F.plainAttrs_list PySem.F.slot_list_append PySem.F.type_list_append mt_append (pv 3) (pa_cons (pe_ifExp (pt_cmpR (op_eq2 (K := K) hr.units) (pv 1) pe_int (nomark _)) (pe_tup (pa_cons (pv 4) (pa_cons (pe_ix (ix_any (K := K)) (pv 5) pe_int (fun _ _ => rfl)) (pa_cons (pe_ix (ix_any (K := K)) (pv 5) pe_int (fun _ _ => rfl)) pa_nil)))) (pe_tup (pa_cons (pv 4) (pa_cons (pe_cal (c__law_number T) (hr.mono (by first | decide | omega)) pass0 (pa_cons (pv 0) pa_nil)) pa_nil)))) pa_nil))))))
    (pss_one (ps_ret (pe_callTy (call_tuple2 (K := K)) (by rfl) T.n_tuple (by decide +kernel) (pa_cons (pv 3) pa_nil)))))), ?_⟩
  walk_at "go"
  rename_i p H1 hp k1 hpl
  have pb : ¬ bx b g p := hB.old hp
  refine r_forL ?_
  walk_at "go"
  refine ⟨b, g, B + 200, most, rfl, rfl, m0, m1, (hB.kp k1).less (by omega), fun q ys H2 hasc hf hlen hqn hq k2 B2 => ?_⟩
  have hp2 : H2 p = some (.lst []) := k2.at hpl pb
  have pq : q ≠ p := fun z => by
    subst z
    rw [hpl] at hqn; cases hqn
  have qb : ¬ bx b g q := (hB.kp k1).old hqn
  refine lpL (fun i σ' H' => ∃ (acc : List V) (ps : List (Str × List PyData)), Kp (bx b g) H H' ∧ Bag H' b g (B + 10 * (10 - i)) ∧ H' p = some (.lst acc) ∧ H' q = some (.lst (ys.map V.str)) ∧ Dats All H' acc (ps.map mk1) ∧ ps.map (·.1) = ys.take i ∧ (∀ r ∈ ps, fieldS r.1 = true ∧ goodR size r.2) ∧ ∃ o4 o5, σ' = [some (.ref b), some (.int size), some (.int most), some (.ref p), o4, o5])
    (SqL.of hq) ⟨[], [], (k1.no).trans k2, B2.less (by omega), hp2, hq, .nil, rfl, (fun r h => by cases h), none, none, rfl⟩ (fun i σ' H' ⟨_, _, _, _, _, h, _⟩ => SqL.of h) ?_ ?_
  · rintro i z σ' H' hi ⟨acc, ps, kp, Bi, hpi, hqi, hds, hps, hgood, o4, o5, rfl⟩
    obtain ⟨fl, hfl, rfl⟩ : ∃ fl, ys[i]? = some fl ∧ z = .str fl := by
      rw [List.getElem?_map] at hi
      cases e : ys[i]? with
      | none => rw [e] at hi; cases hi
      | some fl => rw [e] at hi; cases hi; exact ⟨fl, rfl, rfl⟩
    have hflf : fieldS fl = true := hf fl (List.mem_of_getElem? hfl)
    have hfll : fl.length ≤ 1000000 := by have := (fieldL_iff.mp hflf).2.1; rw [TL.len_tl]; exact Nat.le_trans this (by decide)
    have hi8 : i < 8 := by have := (List.getElem?_eq_some_iff.mp hfl).1; omega
    have e10 : B + 10 * (10 - i) = (B + 10 * (10 - (i + 1)) + 3) + 7 := by omega
    rw [e10] at Bi
    walk_at "go"
    refine ⟨b, g, _, rfl, Bi, fun t lo hi' H3 hsp k3 B3 => ?_⟩
    have hp3 : H3 p = some (.lst acc) := k3.at hpi pb
    have hq3 : H3 q = some (.lst (ys.map V.str)) := k3.at hqi qb
    obtain ⟨htt, hspan, o1, o2⟩ := hsp
    have hacc : acc.length ≤ 8 := by
      rw [hds.len, List.length_map]
      have e := congrArg List.length hps
      rw [List.length_map, List.length_take] at e
      omega
    have nohead : ∀ j : Int, acc.head? ≠ some (.int j) := fun j e => by
      obtain ⟨r, rfl⟩ : ∃ r, acc = .int j :: r := by
        cases acc with
        | nil => cases e
        | cons a r => cases e; exact ⟨r, rfl⟩
      cases ps with
      | nil => cases hds
      | cons p0 ps0 =>
        have hds' : Dats All H' (.int j :: r) (.tuple (.str p0.1 :: p0.2) :: ps0.map mk1) := hds
        cases hds' with
        | cons h1 _ => cases h1
    have hn : H p = none := hp
    walk_at "go"
    walk_at "br"
    · intro h3
      walk_at "go"
      rename_i u H4 hu k4 hut
      have hp4 := k4.lst hp3
      refine r_append hp4 (by omega) ?_
      have hlast : Dats All H4 [V.ref u] [mk1 (fl, [ED lo, ED hi'])] := Dats.one (.tup hut (.cons (.str fl hfll) (.cons (.ed lo) (.cons (.ed hi') .nil))))
      refine ⟨acc ++ [.ref u], ps ++ [(fl, [ED lo, ED hi'])], Kp.fresh ((kp.trans k3).trans k4.no) hn, ((B3.kp k4).wr hp4 pb nohead).less (by omega), upd_same, by rw [upd_ne pq]; exact k4.lst hq3, ?_, ?_, ?_, _, _, rfl⟩
      · rw [List.map_append]
        exact Dats.all (Dats.append ((hds.all k3).all k4) hlast) (Kp.app hp4)
      · rw [List.map_append, hps, List.take_add_one, hfl]; rfl
      · intro r hr
        rcases List.mem_append.mp hr with z | z
        · exact hgood r z
        · rw [List.mem_singleton.mp z]
          exact ⟨hflf, .inl ⟨h3, lo, hi', rfl, hspan, o1, o2⟩⟩
    · intro h3
      walk_at "go"
      refine ⟨b, g, _, rfl, B3, fun n H4 hn4 k4 B4 => ?_⟩
      walk_at "go"
      rename_i u H5 hu k5 hut
      have hp5 := k5.lst (k4.at hp3 pb)
      refine r_append hp5 (by omega) ?_
      have hlast : Dats All H5 [V.ref u] [mk1 (fl, [.int n])] := Dats.one (.tup hut (.cons (.str fl hfll) (.cons (.int n) .nil)))
      refine ⟨acc ++ [.ref u], ps ++ [(fl, [.int n])], Kp.fresh (((kp.trans k3).trans k4).trans k5.no) hn, ((B4.kp k5).wr hp5 pb nohead).less (by omega), upd_same, by rw [upd_ne pq]; exact k5.lst (k4.at hq3 qb), ?_, ?_, ?_, _, _, rfl⟩
      · rw [List.map_append]
        exact Dats.all (Dats.append (((hds.all k3).all k4).all k5) hlast) (Kp.app hp5)
      · rw [List.map_append, hps, List.take_add_one, hfl]; rfl
      · intro r hr
        rcases List.mem_append.mp hr with z | z
        · exact hgood r z
        · rw [List.mem_singleton.mp z]
          exact ⟨hflf, .inr ⟨hsz.resolve_right h3, n, rfl, hn4⟩⟩
  · rintro σ' H' ⟨acc, ps, kp, Bi, hpi, hqi, hds, hps, hgood, o4, o5, rfl⟩
    rw [List.length_map, List.take_length] at hps
    walk_at "go"
    rename_i u H3 hu k3 hut
    refine k u ps H3 (by rw [hps]; exact hasc) hgood ?_ (.tup hut (hds.all k3)) (kp.trans k3.no) ((Bi.kp k3).less (by omega))
    have e := congrArg List.length hps
    rw [List.length_map] at e
    omega

end

section
variable {P : Program} {w : World} {K : PySem.W.Frag} {mg : Str → Option Value} {base : Heap} {c : Ads}
/-! the law's own looks -/
theorem c__law_same (T : Txt K mg c) : ∀ n, Cal P w K mg base CX0 (n + 1) "_law_same" ["found", "due"] (spSame n)
  | 0 => T.d__law_same.cal sc__law_same sp2_len (fun f cdv A outer s H vs Q E hr h => by
      obtain ⟨_, _, _, _, _, _, _, _, z, _⟩ := h
      cases z)
  | n + 1 => by
    have ih := c__law_same T n
    refine T.d__law_same.cal sc__law_same sp2_len (fun f cdv A outer s H vs Q E hr h => ?_)
    obtain ⟨v, u, rfl, ex, ex2, d, hv, hu, hd, k⟩ := h
    refine ⟨_, (pss_cons (ps_if (pt_cmp (pc_isN (pv 1)) rfl) (pss_one (ps_ret (pe_cmp (pc_isN (pv 0)) rfl))) pss_nil)
    (pss_cons (ps_if (pt_val (pe_callB (call_isiT2 (K := K)) (by rfl) T.n_isinstance (by decide +kernel) (pa_cons (pv 1) (pa_cons (pe_tup (pa_cons (pe_bltn (v := .ty "list") (by rfl) T.n_list (by decide +kernel) rfl) (pa_cons (pe_bltn (v := .ty "tuple") (by rfl) T.n_tuple (by decide +kernel) rfl) pa_nil))) pa_nil))) (by intro _; rfl)) (pss_cons (ps_if (PW.pt (pw_or (pt_not (pt_val (pe_callB (call_isiT2 (K := K)) (by rfl) T.n_isinstance (by decide +kernel) (pa_cons (pv 0) (pa_cons (pe_tup (pa_cons (pe_bltn (v := .ty "list") (by rfl) T.n_list (by decide +kernel) rfl) (pa_cons (pe_bltn (v := .ty "tuple") (by rfl) T.n_tuple (by decide +kernel) rfl) pa_nil))) pa_nil))) (by intro _; rfl))) (pw_or1 (pt_cmpR (op_ne2 (K := K) hr.units) (pe_callB (call_isi2 (K := K)) (by rfl) T.n_isinstance (by decide +kernel) (pa_cons (pv 0) (pa_cons (pe_bltn (v := .ty "list") (by rfl) T.n_list (by decide +kernel) rfl) pa_nil))) (pe_callB (call_isi2 (K := K)) (by rfl) T.n_isinstance (by decide +kernel) (pa_cons (pv 1) (pa_cons (pe_bltn (v := .ty "list") (by rfl) T.n_list (by decide +kernel) rfl) pa_nil))) (nomark _))))) (pss_one (ps_ret pe_bl)) pss_nil)
      (pss_one (ps_ret (pe_and (pe_cmpR (op_eq2 (K := K) hr.units) (pe_callB (call_len2 (K := K)) (by rfl) T.n_len (by decide +kernel) (pa_cons (pv 0) pa_nil)) (pe_callB (call_len2 (K := K)) (by rfl) T.n_len (by decide +kernel) (pa_cons (pv 1) pa_nil)) (nomark _)) (pe_one (pe_callB (cr_all2 (K := K) rfl) (by rfl) T.n_all (by decide +kernel) (pa_cons (pe_lc (own := [("k", 2)]) (by rfl) sc__law_same.nd (pi_range1 (by rfl) T.n_range (pa_cons (pe_callB (call_len2 (K := K)) (by rfl) T.n_len (by decide +kernel) (pa_cons (pv 1) pa_nil)) pa_nil)) (blkOk_by (own := [("k", 2)]) (N := ["found", "due", "k"]) (sc := defScope s__law_same) (by decide +kernel)) (fun _ _ _ _ _ => (pg_name (i := 2) sc__law_same.nd rfl (by first | exact Or.inl rfl | exact Or.inr rfl))) (fun _ _ _ _ _ => pts_nil) (fun _ _ _ _ _ => (pe_cal ih (hr.mono (by first | decide | omega)) pass0 (pa_cons (pe_ix (ix_any (K := K)) (pv 0) (pv 2) (fun _ _ => rfl)) (pa_cons (pe_ix (ix_any (K := K)) (pv 1) (pv 2) (fun _ _ => rfl)) pa_nil))))) pa_nil))))))) pss_nil)
    (pss_cons (ps_if (PW.pt (pw_or (pt_cmpR (op_ne2 (K := K) hr.units) (pe_callB (call_isi2 (K := K)) (by rfl) T.n_isinstance (by decide +kernel) (pa_cons (pv 0) (pa_cons (pe_bltn (v := .ty "bool") (by rfl) T.n_bool (by decide +kernel) rfl) pa_nil))) (pe_callB (call_isi2 (K := K)) (by rfl) T.n_isinstance (by decide +kernel) (pa_cons (pv 1) (pa_cons (pe_bltn (v := .ty "bool") (by rfl) T.n_bool (by decide +kernel) rfl) pa_nil))) (nomark _)) (pw_or1 (pt_cmpR (op_ne2 (K := K) hr.units) (pe_callB (call_isi2 (K := K)) (by rfl) T.n_isinstance (by decide +kernel) (pa_cons (pv 0) (pa_cons (pe_bltn (v := .ty "int") (by rfl) T.n_int (by decide +kernel) rfl) pa_nil))) (pe_callB (call_isi2 (K := K)) (by rfl) T.n_isinstance (by decide +kernel) (pa_cons (pv 1) (pa_cons (pe_bltn (v := .ty "int") (by rfl) T.n_int (by decide +kernel) rfl) pa_nil))) (nomark _))))) (pss_one (ps_ret pe_bl)) pss_nil)
    (pss_one (ps_ret (pe_and (pe_cmpR (op_eq2 (K := K) hr.units) (pe_callB (call_isi2 (K := K)) (by rfl) T.n_isinstance (by decide +kernel) (pa_cons (pv 0) (pa_cons (pe_bltn (v := .ty "str") (by rfl) T.n_str (by decide +kernel) rfl) pa_nil))) (pe_callB (call_isi2 (K := K)) (by rfl) T.n_isinstance (by decide +kernel) (pa_cons (pv 1) (pa_cons (pe_bltn (v := .ty "str") (by rfl) T.n_str (by decide +kernel) rfl) pa_nil))) (nomark _)) (pe_one (pe_cmpR (op_eq2 (K := K) hr.units) (pv 0) (pv 1) (nomark _))))))))), ?_⟩
    cases d with
    | none =>
      cases hv
      cases hu
      walk_at "go"
      have e : decide (V.non = V.non) = true := decide_eq_true rfl
      show Q (.bl (decide (V.non = V.non))) H
      rw [e]
      exact k _ (by walk_at "kp")
    | bool b =>
      cases hv
      cases hu
      walk_at "go"
      refine r_isiLT (ex := No) (by walk_at "dat") (by assumption) ?_
      walk_at "go"
      refine r_iteF rfl ?_
      walk_at "go"
      refine r_iteF (by simp) ?_
      walk_at "go"
      refine r_iteF (by simp) ?_
      walk_at "go"
      refine r_iteT (by simp) ?_
      walk_at "go"
      exact fin_b k (by simp) (by walk_at "kp")
    | int i =>
      cases hv
      cases hu
      walk_at "go"
      refine r_isiLT (ex := No) (by walk_at "dat") (by assumption) ?_
      walk_at "go"
      refine r_iteF rfl ?_
      walk_at "go"
      refine r_iteF (by simp) ?_
      walk_at "go"
      refine r_iteF (by simp) ?_
      walk_at "go"
      refine r_iteT (by simp) ?_
      walk_at "go"
      exact fin_b k (by simp) (by walk_at "kp")
    | str x =>
      have hxl : x.length ≤ 1000000 := by cases hu; assumption
      cases hv
      cases hu
      walk_at "go"
      refine r_isiLT (ex := No) (by walk_at "dat") (by assumption) ?_
      walk_at "go"
      refine r_iteF rfl ?_
      walk_at "go"
      refine r_iteF (by simp) ?_
      walk_at "go"
      refine r_iteF (by simp) ?_
      walk_at "go"
      refine r_iteT (by simp) ?_
      walk_at "go"
      exact fin_b k (by simp) (by walk_at "kp")
    | tuple ds =>
      obtain ⟨hl1, hd'⟩ := Bool.and_eq_true_iff.mp (show (decide (ds.length ≤ 10000) && ds.all (upTo n)) = true from hd)
      have hlen := of_decide_eq_true hl1
      obtain ⟨a, xs, rfl, ha, hxs⟩ := hv.tupE
      obtain ⟨b, ys, rfl, hb, hys⟩ := hu.tupE
      have lx := hxs.len
      have ly := hys.len
      walk_at "go"
      refine r_isiLT (ex := ex2) (by walk_at "dat") (by assumption) ?_
      walk_at "go"
      refine r_iteT rfl ?_
      walk_at "go"
      refine r_isiLT (ex := ex) (by walk_at "dat") (by assumption) ?_
      walk_at "go"
      refine r_iteF rfl ?_
      walk_at "go"
      refine r_iteF (by simp) ?_
      walk_at "go"
      refine r_iteT (by rw [lx, ly]; simp) ?_
      walk_at "go"
      refine r_lcR ?_
      walk_at "go"
      refine lcR (fun D i acc H' => Kp No H H' ∧ acc = (List.replicate i true).map V.bl ∧ H D = none) (by omega) (fun D hD => ⟨by walk_at "kp", rfl, Kp.free (ex := No) (by walk_at "kp") hD fun z => z⟩) ?_ ?_
      · rintro D i acc H' hD hi hacc hl ⟨kp, rfl, hD0⟩
        have hix : i < xs.length := by omega
        obtain ⟨dx, hdx, hdx2⟩ := hxs.get (List.getElem?_eq_getElem hix)
        obtain ⟨dy, hdy, hdy2⟩ := hys.get (List.getElem?_eq_getElem hi)
        have e : dx = dy := Option.some.inj (hdx.symm.trans hdy)
        subst e
        have hup : upTo n dx = true := List.all_eq_true.mp hd' dx (List.mem_of_getElem? hdx)
        walk_at "go"
        refine r_at_t (by walk_at "tup") (e := rfl) (hv := List.getElem?_eq_getElem hix) ?_
        walk_at "go"
        refine r_at_t (by walk_at "tup") (e := rfl) (hv := List.getElem?_eq_getElem hi) ?_
        walk_at "go"
        refine ⟨ex, ex2, dx, (by walk_at "dat"), (by walk_at "dat"), hup, fun H2 k2 => ?_⟩
        walk_at "go"
        refine lc_yes (by walk_at "lst") hl (by omega) ⟨by walk_at "kp", ?_, hD0⟩
        rw [List.replicate_succ', List.map_append]
        rfl
      · rintro D acc H' hD hacc hl ⟨kp, rfl, _⟩
        walk_at "go"
        refine r_all (SqL.of hacc) ?_
        rw [bools_true]
        exact k _ (by walk_at "kp")
    | list ds =>
      obtain ⟨hl1, hd'⟩ := Bool.and_eq_true_iff.mp (show (decide (ds.length ≤ 10000) && ds.all (upTo n)) = true from hd)
      have hlen := of_decide_eq_true hl1
      obtain ⟨a, xs, _, rfl, e1, _, ha, hxs⟩ := hv.listI rfl
      cases e1
      obtain ⟨b, ys, _, rfl, e2, _, hb, hys⟩ := hu.listI rfl
      cases e2
      have lx := hxs.len
      have ly := hys.len
      walk_at "go"
      refine r_isiLT (ex := ex2) (by walk_at "dat") (by assumption) ?_
      walk_at "go"
      refine r_iteT rfl ?_
      walk_at "go"
      refine r_isiLT (ex := ex) (by walk_at "dat") (by assumption) ?_
      walk_at "go"
      refine r_iteF rfl ?_
      walk_at "go"
      refine r_iteF (by simp) ?_
      walk_at "go"
      refine r_len_l (by walk_at "lst") ?_
      walk_at "go"
      refine r_len_l (by walk_at "lst") ?_
      walk_at "go"
      refine r_iteT (by rw [lx, ly]; simp) ?_
      walk_at "go"
      refine r_lcR ?_
      walk_at "go"
      refine r_len_l (by walk_at "lst") ?_
      walk_at "go"
      refine lcR (fun D i acc H' => Kp No H H' ∧ acc = (List.replicate i true).map V.bl ∧ H D = none) (by omega) (fun D hD => ⟨by walk_at "kp", rfl, Kp.free (ex := No) (by walk_at "kp") hD fun z => z⟩) ?_ ?_
      · rintro D i acc H' hD hi hacc hl ⟨kp, rfl, hD0⟩
        have hix : i < xs.length := by omega
        obtain ⟨dx, hdx, hdx2⟩ := hxs.get (List.getElem?_eq_getElem hix)
        obtain ⟨dy, hdy, hdy2⟩ := hys.get (List.getElem?_eq_getElem hi)
        have e : dx = dy := Option.some.inj (hdx.symm.trans hdy)
        subst e
        have hup : upTo n dx = true := List.all_eq_true.mp hd' dx (List.mem_of_getElem? hdx)
        walk_at "go"
        refine r_ixl (by walk_at "lst") (e := rfl) (hv := List.getElem?_eq_getElem hix) ?_
        walk_at "go"
        refine r_ixl (by walk_at "lst") (e := rfl) (hv := List.getElem?_eq_getElem hi) ?_
        walk_at "go"
        refine ⟨ex, ex2, dx, (by walk_at "dat"), (by walk_at "dat"), hup, fun H2 k2 => ?_⟩
        walk_at "go"
        refine lc_yes (by walk_at "lst") hl (by omega) ⟨by walk_at "kp", ?_, hD0⟩
        rw [List.replicate_succ', List.map_append]
        rfl
      · rintro D acc H' hD hacc hl ⟨kp, rfl, _⟩
        walk_at "go"
        refine r_all (SqL.of hacc) ?_
        rw [bools_true]
        exact k _ (by walk_at "kp")
    | dict ds => cases hd

end

section
variable {P : Program} {w : World} {K : PySem.W.Frag} {mg : Str → Option Value} {base : Heap} {c : Ads}
abbrev spWritten : Sp := sp1 fun v H Q _ => ∃ ex, ∃ ps : List (Str × List PyData), Dat ex H v (.tuple (ps.map mk1)) ∧ (∀ p ∈ ps, okW p) ∧ ps.length ≤ 1000 ∧ ∀ H', Kp No H H' → Q (.str (ofL (wrL ps))) H'
theorem wr_part {f : Str} {es : List PyData} : ((f ++ Str.ofString ":") ++ Txt.join (Str.ofString "..") (es.map fun e => ofL (shEnd e))) = ofL (wrP (f, es)) := by
  refine TL.ext_tl ?_
  have e1 : TL.tl (Str.ofString ":") = [58] := by decide +kernel
  have e2 : TL.tl (Str.ofString "..") = [46, 46] := by decide +kernel
  rw [TL.tl_append, TL.tl_append, tl_ofL, TL.join_eq, TL.tl_join, e1, e2, List.map_map]
  have e3 : es.map (TL.tl ∘ fun e => ofL (shEnd e)) = es.map shEnd := List.map_congr_left fun e _ => tl_ofL _
  rw [e3, List.append_assoc]
  rfl
theorem c__law_written (T : Txt K mg c) : Cal P w K mg base CX0 1 "_law_written" ["thing"] spWritten := by
  refine T.d__law_written.cal sc__law_written sp1_len (fun f cdv A outer s H vs Q E hr h => ?_)
  obtain ⟨v, rfl, ex, ps, hd, hok, hlen, k⟩ := h
  refine ⟨_, (pss_cons (ps_set (i := 1) sc__law_written.nd rfl (by first | exact Or.inl rfl | exact Or.inr rfl) (pe_lst pa_nil))
    (pss_cons (ps_for PassesOwn.never rfl (pi_any (K := K) (pv 0)) (pg_name (i := 2) sc__law_written.nd rfl (by first | exact Or.inl rfl | exact Or.inr rfl))
      (pss_cons (ps_setLc (i := 3) (own := [("end", 4)]) (by rfl) sc__law_written.nd rfl rfl (sw_true rfl rfl rfl (by decide +kernel)) (pi_any (K := K) (pe_slice (sl_any (K := K)) (pv 2) (po_some pe_int) po_none)) (blkOk_by (own := [("end", 4)]) (N := ["thing", "words", "part", "ends", "end"]) (sc := defScope s__law_written) (by decide +kernel)) (fun _ _ _ _ _ => (pg_name (i := 4) sc__law_written.nd rfl (by first | exact Or.inl rfl | exact Or.inr rfl))) (fun _ _ _ _ _ => pts_nil) (fun _ _ _ _ _ => (pe_ifExp (pt_cmp (pc_isN (pv 4)) rfl) pe_str (pe_callTy call_strI (by rfl) T.n_str (by decide +kernel) (pa_cons (pv 4) pa_nil)))))
      (pss_one (ps_expr (pe_bm PySem.F.plainAttrs_list PySem.F.slot_list_append PySem.F.type_list_append mt_append (pv 1) (pa_cons (pe_op (op_add2 (K := K)) (pe_op (op_add2 (K := K)) (pe_ix (ix_any (K := K)) (pv 2) pe_int (fun _ _ => rfl)) pe_str) (pe_join2 (K := K) pe_str (pv 3))) pa_nil))))))
    (pss_one (ps_ret (pe_ifExp (pt_cmpR (op_ne2 (K := K) hr.units) (pv 1) (pe_lst pa_nil) (nomark _)) (pe_join2 (K := K) pe_str (pv 1)) pe_str))))), ?_⟩
  obtain ⟨a, xs, rfl, ha, hxs⟩ := hd.tupE
  have lx := hxs.len
  rw [List.length_map] at lx
  walk_at "go"
  rename_i p H1 hp k1 hpl
  refine r_forT ?_
  walk_at "go"
  refine lpT All (fun i σ' H' => Kp No H H' ∧ H' p = some (.lst (((ps.take i).map fun p => ofL (wrP p)).map V.str)) ∧ ∃ o2 o3 o4, σ' = [some (.ref a), some (.ref p), o2, o3, o4]) (k1.tup ha) ⟨k1, hpl, none, none, none, rfl⟩ ?_ ?_
  · rintro i z σ' H' hi kp ⟨kk, hpi, o2, o3, o4, rfl⟩
    obtain ⟨d, hdi, hz⟩ := hxs.get hi
    rw [List.getElem?_map] at hdi
    obtain ⟨q, hq, rfl⟩ : ∃ q, ps[i]? = some q ∧ d = mk1 q := by
      cases e : ps[i]? with
      | none => rw [e] at hdi; cases hdi
      | some q => rw [e] at hdi; cases hdi; exact ⟨q, rfl, rfl⟩
    have hqm : q ∈ ps := List.mem_of_getElem? hq
    obtain ⟨fl, es⟩ := q
    have okq := hok _ hqm
    have okq2 := okq
    obtain ⟨hf, hl2, hes⟩ := okq2
    have hl2 : es.length ≤ 2 := hl2
    have hf : fieldS fl = true := hf
    have hes : ∀ e ∈ es, endD e = true ∧ okNum 40 e = true := hes
    have hz' : Dat ex H z (.tuple (.str fl :: es)) := hz
    obtain ⟨b, ys, rfl, hb, hys⟩ := hz'.tupE
    cases hys with
    | cons h0 hys =>
      rename_i y0 ys
      obtain ⟨_, rfl, e0, hfl⟩ := h0.strI rfl
      cases e0
      have hb' : H' b = some (.tup (V.str fl :: ys)) := kk.tup hb
      have ly := hys.len
      walk_at "go"
      refine r_lcT ?_
      walk_at "go"
      refine r_slT1 hb' fun l H2 hl k2 hlt => ?_
      refine lcT (fun D j acc H3 => Kp No H2 H3 ∧ acc = ((es.take j).map fun e => ofL (shEnd e)).map V.str) hlt (fun D hD => ⟨Kp.new Kp.refl hD, rfl⟩) (fun D j acc H3 hp => hp.1.tup hlt) ?_ ?_
      · rintro D j acc y H3 hD hj hacc hjl ⟨k3, rfl⟩
        obtain ⟨e, he, hye⟩ := hys.get hj
        have hem : e ∈ es := List.mem_of_getElem? he
        obtain ⟨hend, hnum⟩ := hes e hem
        have hjl2 : j < 3 := by have := (List.getElem?_eq_some_iff.mp hj).1; omega
        have nx : ∀ s : Str, s = ofL (shEnd e) → ((es.take j).map fun e => ofL (shEnd e)).map V.str ++ [V.str s] = ((es.take (j + 1)).map fun e => ofL (shEnd e)).map V.str := fun s hs => by
          rw [List.take_add_one, he, List.map_append, List.map_append, hs]; rfl
        rcases end_num hend with rfl | ⟨i, rfl⟩
        · cases hye
          walk_at "go"
          exact lc_yes hacc hjl (by omega) ⟨Kp.fresh k3 hD, nx _ (TL.ext_tl (by rw [tl_ofL]; decide +kernel))⟩
        · cases hye
          have hi40 : i.natAbs < 10 ^ 40 := of_decide_eq_true hnum
          walk_at "go"
          exact lc_yes hacc hjl (by omega) ⟨Kp.fresh k3 hD, nx _ (TL.ext_tl (by rw [tl_ofL, tl_numS]; rfl))⟩
      · rintro D acc H3 hD hacc hjl ⟨k3, rfl⟩
        rw [ly, List.take_length] at hacc
        walk_at "go"
        have hb3 : H3 b = some (.tup (V.str fl :: ys)) := (k2.trans k3).tup hb'
        have hp3 := (k2.trans k3).lst hpi
        have fl8 : fl.length ≤ 8 := by rw [TL.len_tl]; exact (fieldL_iff.mp hf).2.1
        walk_at "go"
        have sum1 : ((es.map fun e => ofL (shEnd e)).map (·.length)).sum ≤ 41 * es.length := by
          rw [List.map_map]
          exact sum_le' es fun e he => by show (ofL (shEnd e)).length ≤ 41; rw [TL.len_tl, tl_ofL]; exact shEnd_len' (hes e he).2
        refine r_join (SqL.of hacc) (by rw [List.length_map, l_dots]; omega) ?_
        have hw := wrP_len okq
        have hw2 : (ofL (wrP (fl, es))).length ≤ 100 := by rw [TL.len_tl, tl_ofL]; exact hw
        rw [← wr_part, len_app, len_app] at hw2
        refine r_add_s (by rw [len_app]; omega) ?_
        rw [wr_part]
        walk_at "go"
        refine r_append hp3 (by rw [List.length_map, List.length_map, List.length_take]; omega) ?_
        refine ⟨?_, ?_, ?_, _, _, _, rfl⟩
        · exact (kp.trans (k2.trans k3).no).trans (Kp.app hp3)
        · exact Kp.fresh (kk.trans (k2.trans k3)) hp
        · rw [upd_same, List.take_add_one, hq, List.map_append, List.map_append]; rfl
  · rintro σ' H' kp ⟨kk, hpi, o2, o3, o4, rfl⟩
    rw [lx, List.take_length] at hpi
    walk_at "go"
    rename_i q H2 hq k2 hql
    have hp2 := k2.lst hpi
    by_cases hn : ps = []
    · subst hn
      refine r_ne_nil (xs := []) (SqL.of hp2) hql ?_
      refine r_bl (r_iteF rfl ?_)
      walk_at "go"
      have e : ofL (wrL []) = Str.ofString "-" := by decide +kernel
      rw [e] at k
      exact k _ (by walk_at "kp")
    · refine r_ne_nil (SqL.of hp2) hql ?_
      refine r_bl (r_iteT (by cases ps with | nil => exact absurd rfl hn | cons _ _ => rfl) ?_)
      walk_at "go"
      have sum1 : ((ps.map fun p => ofL (wrP p)).map (·.length)).sum ≤ 100 * ps.length := by
        rw [List.map_map]
        exact sum_le' ps fun p hp => by show (ofL (wrP p)).length ≤ 100; rw [TL.len_tl, tl_ofL]; exact wrP_len (hok p hp)
      refine r_join (SqL.of hp2) (by rw [List.length_map, l_blank]; omega) ?_
      have e : Txt.join (Str.ofString " ") (ps.map fun p => ofL (wrP p)) = ofL (wrL ps) := TL.ext_tl (by
        rw [TL.join_eq, TL.tl_join, tl_ofL, List.map_map]
        have e1 : TL.tl (Str.ofString " ") = [32] := by decide +kernel
        have e2 : ps.map (TL.tl ∘ fun p => ofL (wrP p)) = ps.map wrP := List.map_congr_left fun e _ => tl_ofL _
        unfold wrL
        rw [e1, e2, if_neg hn])
      rw [e]
      exact k _ (by walk_at "kp")

end

section
variable {P : Program} {w : World} {K : PySem.W.Frag} {mg : Str → Option Value} {base : Heap} {c : Ads}
/-- a thing that the laws make: its parts' ends and numbers -/
def goodT (size : Int) (r : List PyData) : Prop :=
  (size = 3 ∧ ∃ lo hi : Option Int, r = [ED lo, ED hi] ∧ spanD (.tuple [ED lo, ED hi]) = true ∧ okO lo ∧ okO hi) ∨ (size = 2 ∧ ∃ i : Int, r = [.int i] ∧ i.natAbs < 10 ^ 40)
theorem goodT_of {size : Int} {r : List PyData} (h : goodR size r) : goodT size r := by
  rcases h with h | ⟨h1, i, h2, h3⟩
  · exact .inl h
  · exact .inr ⟨h1, i, h2, Nat.lt_trans h3 (by decide)⟩
abbrev spRefused : Sp := sp1 fun v H Q _ => ∃ x, v = .str x ∧ x.length ≤ 1000000 ∧ rdPiece (TL.tl x) = none ∧ ∀ H', Kp No H H' → Q (.bl true) H'
theorem c__law_refused (T : Txt K mg c) : Cal P w K mg base CX0 5 "_law_refused" ["text"] spRefused := by
  refine T.d__law_refused.cal sc__law_refused sp1_len (fun f cdv A outer s H vs Q E hr h => ?_)
  obtain ⟨v, rfl, x, rfl, hx, hn, k⟩ := h
  refine ⟨_, (pss_cons (ps_set (i := 1) sc__law_refused.nd rfl (by first | exact Or.inl rfl | exact Or.inr rfl) pe_bl)
    (pss_cons (ps_try_only rfl rfl ⟨rfl, by decide, .inl T.e_NoText.gC⟩ takes0 (fun W pn xe tk _ => (pss_one (ps_expr (pe_calS (c_read_piece T) (hr.mono (by first | decide | omega)) (fun σ => passAt tk σ) (pa_cons (pv 0) pa_nil))))) (fun a oe cls d pn _ _ => (pss_one (ps_set (i := 1) sc__law_refused.nd rfl (by first | exact Or.inl rfl | exact Or.inr rfl) pe_bl))))
    (pss_one (ps_ret (pv 1))))), ?_⟩
  walk_at "go"
  refine ⟨All, .str x, .str x hx, rfl, fun y ds e hy => ?_, fun _ H1 k1 => ⟨true, exm_own T.e_NoText, fun _ a ha => ?_, fun z => by cases z⟩⟩
  · cases e
    rw [hn] at hy
    cases hy
  · walk_at "go"
    exact k _ k1
abbrev spRight : Sp := sp2 fun v sz H Q _ => ∃ ex, ∃ ps : List (Str × List PyData), ∃ size : Int, sz = .int size ∧ Dat ex H v (.tuple (ps.map mk1)) ∧ ascS Str.empty (ps.map (·.1)) = true ∧ (∀ p ∈ ps, fieldS p.1 = true ∧ goodT size p.2) ∧ ps.length ≤ 1000 ∧ ∀ H', Kp No H H' → Q (.bl true) H'
theorem c__law_right (T : Txt K mg c) : Cal P w K mg base CX0 6 "_law_right" ["thing", "size"] spRight := by
  refine T.d__law_right.cal sc__law_right sp2_len (fun f cdv A outer s H vs Q E hr h => ?_)
  obtain ⟨v, _, rfl, ex, ps, size, rfl, hd, hasc, hok, hlen, k⟩ := h
  have hsame := c__law_same (P := P) (w := w) (K := K) (base := base) T 4
  refine ⟨_, (pss_cons (ps_set (i := 2) sc__law_right.nd rfl (by first | exact Or.inl rfl | exact Or.inr rfl) (pe_ifExp (pt_cmpR (op_eq2 (K := K) hr.units) (pv 1) pe_int (nomark _)) (pe_cal (c_show_wish T) (hr.mono (by first | decide | omega)) passL (pa_cons (pv 0) pa_nil)) (pe_cal (c_show_piece T) (hr.mono (by first | decide | omega)) passL (pa_cons (pv 0) pa_nil))))
    (pss_cons (ps_if (PW.pt (pw_or (pt_not (pt_val (pe_callB (call_isi2 (K := K)) (by rfl) T.n_isinstance (by decide +kernel) (pa_cons (pv 2) (pa_cons (pe_bltn (v := .ty "str") (by rfl) T.n_str (by decide +kernel) rfl) pa_nil))) (by intro _; rfl))) (pw_or1 (pt_cmpR (op_ne2 (K := K) hr.units) (pv 2) (pe_cal (c__law_written T) (hr.mono (by first | decide | omega)) pass0 (pa_cons (pv 0) pa_nil)) (nomark _))))) (pss_one (ps_ret pe_bl)) pss_nil)
    (pss_cons (ps_setLc (i := 3) (own := [("part", 4)]) (by rfl) sc__law_right.nd rfl rfl (sw_true rfl rfl rfl (by decide +kernel)) (pi_any (K := K) (pv 0)) (blkOk_by (own := [("part", 4)]) (N := ["thing", "size", "text", "great", "part"]) (sc := defScope s__law_right) (by decide +kernel)) (fun _ _ _ _ _ => (pg_name (i := 4) sc__law_right.nd rfl (by first | exact Or.inl rfl | exact Or.inr rfl))) (fun _ _ _ _ _ => (pts_one (PW.pt (pw_and (pt_cmpR (op_eq2 (K := K) hr.units) (pv 1) pe_int (nomark _)) (pw_and1 (pt_cmpR op_ge2 (pe_callB cr_abs (by rfl) T.n_abs (by decide +kernel) (pa_cons (pe_ix (ix_any (K := K)) (pv 4) pe_int (fun _ _ => rfl)) pa_nil)) (pe_op op_pow2 pe_int pe_int) (nomark _))))))) (fun _ _ _ _ _ => (pv 4)))
    (pss_cons (ps_if (pt_cmpR (op_ne2 (K := K) hr.units) (pv 3) (pe_lst pa_nil) (nomark _)) (pss_one (ps_ret (pe_cal (c__law_refused T) (hr.mono (by first | decide | omega)) pass0 (pa_cons (pv 2) pa_nil)))) pss_nil)
    (pss_one (ps_ret (pe_cal hsame (hr.mono (by first | decide | omega)) pass0 (pa_cons (pe_ifExp (pt_cmpR (op_eq2 (K := K) hr.units) (pv 1) pe_int (nomark _)) (pe_cal (c_read_wish T) (hr.mono (by first | decide | omega)) passL (pa_cons (pv 2) pa_nil)) (pe_cal (c_read_piece T) (hr.mono (by first | decide | omega)) passL (pa_cons (pv 2) pa_nil))) (pa_cons (pv 0) pa_nil))))))))), ?_⟩
  walk_at "go"
  have okw : ∀ p ∈ ps, okW p := fun p hp => by
    refine ⟨(hok p hp).1, ?_⟩
    rcases (hok p hp).2 with ⟨_, lo, hi, e, _, o1, o2⟩ | ⟨_, i, e, o1⟩
    · rw [e]
      refine ⟨Nat.le_refl _, fun x hx => ?_⟩
      rcases List.mem_cons.mp hx with rfl | hx
      · exact ⟨ed_end _, ed_num o1⟩
      · rw [List.mem_singleton.mp hx]; exact ⟨ed_end _, ed_num o2⟩
    · rw [e]
      refine ⟨by simp, fun x hx => ?_⟩
      rw [List.mem_singleton.mp hx]; exact ⟨rfl, decide_eq_true o1⟩
  have hup := flat_up hlen okw
  have hwl := wrL_len okw hlen
  walk_at "br"
  · intro h3
    subst h3
    have hok3 : ∀ p ∈ ps, fieldS p.1 = true ∧ goodR 3 p.2 := fun p hp => ⟨(hok p hp).1, by
      rcases (hok p hp).2 with h | ⟨z, _⟩
      · exact .inl h
      · cases z⟩
    obtain ⟨hw, h15⟩ := made_wish hasc hok3
    have two : ∀ p ∈ ps, ∃ lo hi, p.2 = [lo, hi] := fun p hp => by
      rcases (hok3 p hp).2 with ⟨_, lo, hi, e, _⟩ | ⟨z, _⟩
      · exact ⟨_, _, e⟩
      · cases z
    have ew := wr_wish two
    walk_at "go"
    refine ⟨ex, _, hd, fun _ ds e => ?_, fun ds e _ H1 k1 => ?_, fun z => absurd hw (by rw [z]; decide)⟩
    · cases e
      exact ⟨by rw [List.length_map]; exact hlen, List.all_eq_true.mpr fun d hd => okPart_more (List.all_eq_true.mp h15 d hd)⟩
    · cases e
      rw [← ew]
      have hd1 : Dat ex H1 v (.tuple (ps.map mk1)) := by walk_at "dat"
      walk_at "go"
      refine r_iteF rfl ?_
      walk_at "go"
      refine ⟨ex, ps, hd1, okw, hlen, fun H2 k2 => ?_⟩
      have hd2 : Dat ex H2 v (.tuple (ps.map mk1)) := by walk_at "dat"
      walk_at "go"
      refine r_iteF (by simp) ?_
      walk_at "go"
      obtain ⟨a, xs, rfl, ha, hxs⟩ := hd2.tupE
      refine r_lcT ?_
      walk_at "go"
      refine lcT (fun D i acc H' => Kp No H2 H' ∧ acc = []) ha (fun D hD => ⟨Kp.new Kp.refl hD, rfl⟩) (fun D i acc H' hp => hp.1.tup ha) ?_ ?_
      · rintro D i acc z H' hD hi hacc hl ⟨kp, rfl⟩
        walk_at "go"
        refine r_iteF rfl ?_
        walk_at "go"
        exact lc_no hacc (Nat.zero_le _) ⟨kp, rfl⟩
      · rintro D acc H3 hD hacc hl ⟨k3, rfl⟩
        walk_at "go"
        rename_i q H4 hq k4 hql
        refine r_ne_nil2 (k4.lst hacc) hql ?_
        refine r_bl (r_iteF rfl ?_)
        walk_at "go"
        refine r_iteT rfl ?_
        walk_at "go"
        refine ⟨All, .str _, .str _ hwl, rfl, fun x ds e hx p H5 k5 hp => ?_, fun z => ?_⟩
        · cases e
          rw [tl_ofL, ew, rdWish_sh hw h15] at hx
          cases hx
          have hd5 : Dat ex H5 (.ref a) (.tuple (ps.map mk1)) := by
            have kk : Kp No H H5 := k1.trans (k2.trans (k3.trans (k4.trans k5)))
            exact hd.mono kk fun _ z => z.elim
          walk_at "go"
          refine ⟨All, ex, _, hp, hd5, hup, fun H6 k6 => ?_⟩
          exact k _ (k1.trans (k2.trans (k3.trans (k4.trans (k5.trans k6)))))
        · have z2 := z _ rfl
          rw [tl_ofL, ew, rdWish_sh hw h15] at z2
          cases z2
  · intro h3
    have g2 : ∀ p ∈ ps, ∃ i : Int, p.2 = [.int i] ∧ i.natAbs < 10 ^ 40 := fun p hp => by
      rcases (hok p hp).2 with ⟨z, _⟩ | ⟨_, h⟩
      · exact absurd z h3
      · exact h
    have hs2 : ps ≠ [] → size = 2 := fun hn => by
      obtain ⟨p, hp⟩ := List.exists_mem_of_ne_nil _ hn
      rcases (hok p hp).2 with ⟨z, _⟩ | ⟨z, _⟩
      · exact absurd z h3
      · exact z
    have one : ∀ p ∈ ps, ∃ i : Int, p.2 = [.int i] := fun p hp => by
      obtain ⟨i, e, _⟩ := g2 p hp
      exact ⟨i, e⟩
    have ew := wr_piece one
    have hp2 : pieceD (.tuple (ps.map mk1)) = true := by
      show (partsGo 2 Str.empty (ps.map mk1) && (ps.map mk1).all numOf) = true
      rw [partsGo_mk ps _ hasc fun p hp => ⟨(hok p hp).1, by obtain ⟨i, e, _⟩ := g2 p hp; rw [e]; rfl⟩, Bool.true_and, List.all_eq_true]
      intro d hd
      obtain ⟨p, hp, rfl⟩ := List.mem_map.mp hd
      obtain ⟨i, e, _⟩ := g2 p hp
      unfold mk1
      rw [e]
      rfl
    have h40 : (ps.map mk1).all (okPart 40) = true := List.all_eq_true.mpr fun d hd => by
      obtain ⟨p, hp, rfl⟩ := List.mem_map.mp hd
      obtain ⟨i, e, hi⟩ := g2 p hp
      unfold mk1
      rw [e]
      show (okNum 40 (.str p.1) && (decide (i.natAbs < 10 ^ 40) && true)) = true
      rw [decide_eq_true hi]; rfl
    walk_at "go"
    refine ⟨ex, _, hd, fun _ ds e => ?_, fun ds e _ H1 k1 => ?_, fun z => absurd hp2 (by rw [z]; decide)⟩
    · cases e
      exact ⟨by rw [List.length_map]; exact hlen, h40⟩
    · cases e
      rw [← ew]
      have hd1 : Dat ex H1 v (.tuple (ps.map mk1)) := by walk_at "dat"
      walk_at "go"
      refine r_iteF rfl ?_
      walk_at "go"
      refine ⟨ex, ps, hd1, okw, hlen, fun H2 k2 => ?_⟩
      have hd2 : Dat ex H2 v (.tuple (ps.map mk1)) := by walk_at "dat"
      walk_at "go"
      refine r_iteF (by simp) ?_
      walk_at "go"
      obtain ⟨a, xs, rfl, ha, hxs⟩ := hd2.tupE
      have lx := hxs.len
      rw [List.length_map] at lx
      refine r_lcT ?_
      walk_at "go"
      refine lcT (fun D i acc H' => Kp No H2 H' ∧ ((acc = [] ∧ ((ps.take i).map mk1).all (okPart 15) = true) ∨ (acc ≠ [] ∧ (ps.map mk1).all (okPart 15) = false))) ha (fun D hD => ⟨Kp.new Kp.refl hD, .inl ⟨rfl, rfl⟩⟩) (fun D i acc H' hp => hp.1.tup ha) ?_ ?_
      · rintro D i acc z H' hD hi hacc hl ⟨kp, hcase⟩
        obtain ⟨d, hdi, hz⟩ := hxs.get hi
        rw [List.getElem?_map] at hdi
        obtain ⟨q, hq, rfl⟩ : ∃ q, ps[i]? = some q ∧ d = mk1 q := by
          cases e : ps[i]? with
          | none => rw [e] at hdi; cases hdi
          | some q => rw [e] at hdi; cases hdi; exact ⟨q, rfl, rfl⟩
        have hqm : q ∈ ps := List.mem_of_getElem? hq
        have e2 := hs2 fun z => by rw [z] at hqm; cases hqm
        subst e2
        obtain ⟨m, em, hm⟩ := g2 q hqm
        obtain ⟨fl, es⟩ := q
        have em : es = [.int m] := em
        subst em
        have hz' : Dat ex H2 z (.tuple [.str fl, .int m]) := hz
        obtain ⟨b, ys, rfl, hb, hys⟩ := hz'.tupE
        obtain ⟨y0, y1, rfl, hy0, hy1⟩ := hys.inv2
        cases hy1
        have hi1 : i < 1000 := by have := (List.getElem?_eq_some_iff.mp hq).1; omega
        have hb' : H' b = some (.tup [y0, .int m]) := kp.tup hb
        have hsm : ∀ t : Bool, decide (m.natAbs < 10 ^ 15) = t → okPart 15 (mk1 (fl, [.int m])) = t := fun t ht => by
          show (okNum 15 (.str fl) && (decide (m.natAbs < 10 ^ 15) && true)) = t
          rw [ht]; cases t <;> rfl
        have e15 : (10 : Nat) ^ 15 = 1000000000000000 := by decide
        have e15' : (10 : Int) ^ 15 = 1000000000000000 := by decide
        walk_at "go"
        refine r_iteT rfl ?_
        walk_at "go"
        refine r_pow (n := 15) (by decide) (by decide) ?_
        walk_at "go"
        walk_at "br"
        · intro hge
          walk_at "go"
          refine lc_yes hacc hl (by omega) ⟨Kp.fresh kp hD, .inr ⟨by simp, ?_⟩⟩
          exact List.all_eq_false.mpr ⟨_, List.mem_map_of_mem hqm, by rw [hsm false (decide_eq_false (by omega))]; exact Bool.false_ne_true⟩
        · intro hge
          refine lc_no hacc hl ⟨kp, ?_⟩
          rcases hcase with ⟨c1, c2⟩ | c
          · refine .inl ⟨c1, ?_⟩
            rw [List.take_add_one, hq, List.map_append, List.all_append, c2]
            show (true && (okPart 15 (mk1 (fl, [.int m])) && true)) = true
            rw [hsm true (decide_eq_true (by omega))]; rfl
          · exact .inr c
      · rintro D acc H3 hD hacc hl ⟨k3, hcase⟩
        rw [lx, List.take_length] at hcase
        walk_at "go"
        rename_i q H4 hq k4 hql
        refine r_ne_nil2 (k4.lst hacc) hql ?_
        rcases hcase with ⟨rfl, h15⟩ | ⟨hne, h15⟩
        · refine r_bl (r_iteF rfl ?_)
          walk_at "go"
          refine r_iteF (by simp [h3]) ?_
          walk_at "go"
          refine ⟨All, .str _, .str _ hwl, rfl, fun x ds e hx p H5 k5 hp => ?_, fun z => ?_⟩
          · cases e
            rw [tl_ofL, ew, rdPiece_sh hp2 h15] at hx
            cases hx
            have hd5 : Dat ex H5 (.ref a) (.tuple (ps.map mk1)) := by
              have kk : Kp No H H5 := k1.trans (k2.trans (k3.trans (k4.trans k5)))
              exact hd.mono kk fun _ z => z.elim
            walk_at "go"
            refine ⟨All, ex, _, hp, hd5, hup, fun H6 k6 => ?_⟩
            exact k _ (k1.trans (k2.trans (k3.trans (k4.trans (k5.trans k6)))))
          · have z2 := z _ rfl
            rw [tl_ofL, ew, rdPiece_sh hp2 h15] at z2
            cases z2
        · refine r_bl (r_iteT (by cases acc with | nil => exact absurd rfl hne | cons _ _ => rfl) ?_)
          walk_at "go"
          refine ⟨_, rfl, hwl, by rw [tl_ofL, ew]; exact rdPiece_great hp2 h15, fun H5 k5 => ?_⟩
          exact k _ (k1.trans (k2.trans (k3.trans (k4.trans k5))))

end

section
variable {P : Program} {w : World} {K : PySem.W.Frag} {mg : Str → Option Value} {base : Heap} {c : Ads}
theorem cov_eq (x1 y1 x2 y2 : Option Int) : covO x2 y2 x1 y1 = (!bel x1 x2 && !abv y1 y2) := by
  have key : ∀ m h : Int, decide (m ≤ h) = !decide (h < m) := fun m h => by
    by_cases q : h < m
    · rw [decide_eq_true q, decide_eq_false (by omega)]; rfl
    · rw [decide_eq_false q, decide_eq_true (by omega)]; rfl
  cases x1 <;> cases y1 <;> cases x2 <;> cases y2 <;> simp only [covO, bel, abv, key] <;> rfl
theorem c_law (T : Txt K mg c) : Cal P w K mg base CX0 12 "law" ["script"] (spLaw K) := by
  refine T.d_law.cal sc_law sp1_len (fun f cdv A outer s H vs Q E hr h => ?_)
  obtain ⟨v, rfl, a, ns, rfl, hs, hl63, k⟩ := h
  refine ⟨_, (pss_cons (ps_set (i := 1) sc_law.nd rfl (by first | exact Or.inl rfl | exact Or.inr rfl) (pe_cal (c__law_bag T) (hr.mono (by first | decide | omega)) pass0 (pa_cons (pv 0) pa_nil)))
    (pss_cons (ps_set (i := 2) sc_law.nd rfl (by first | exact Or.inl rfl | exact Or.inr rfl) (pe_tup pa_nil))
    (pss_cons (ps_for PassesOwn.never rfl (pi_range1 (by rfl) T.n_range (pa_cons pe_int pa_nil)) (pg_name (i := 3) sc_law.nd rfl (by first | exact Or.inl rfl | exact Or.inr rfl))
      (pss_cons (ps_set (i := 4) sc_law.nd rfl (by first | exact Or.inl rfl | exact Or.inr rfl) (pe_op (op_add2 (K := K)) pe_int (pe_cal (c__law_draw T) (hr.mono (by first | decide | omega)) pass0 (pa_cons (pv 1) (pa_cons pe_int pa_nil)))))
      (pss_cons (ps_set (i := 5) sc_law.nd rfl (by first | exact Or.inl rfl | exact Or.inr rfl) (pe_cal (c__law_made T) (hr.mono (by first | decide | omega)) pass0 (pa_cons (pv 1) (pa_cons (pv 4) (pa_cons (pe_op op_sub pe_int (pe_op op_mul2 pe_int (pv 4))) pa_nil)))))
      (pss_cons (ps_if (PW.pt (pw_or (pt_not (pt_val (pe_cal (c__law_right T) (hr.mono (by first | decide | omega)) pass0 (pa_cons (pv 5) (pa_cons (pv 4) pa_nil))) (by intro _; rfl))) (pw_or (pt_not (pt_val (pe_cal (c__law_right T) (hr.mono (by first | decide | omega)) pass0 (pa_cons (pv 2) (pa_cons pe_int pa_nil))) (by intro _; rfl))) (pw_or1 (pt_not (pt_val (pe_cal (c__law_right T) (hr.mono (by first | decide | omega)) pass0 (pa_cons (pv 5) (pa_cons (pv 4) pa_nil))) (by intro _; rfl))))))) (pss_one (ps_ret pe_bl)) pss_nil)
      (pss_one (ps_set (i := 2) sc_law.nd rfl (by first | exact Or.inl rfl | exact Or.inr rfl) (pe_ifExp (pt_cmpR (op_eq2 (K := K) hr.units) (pv 4) pe_int (nomark _)) (pv 5) (pv 2))))))))
    (pss_cons (ps_set (i := 6) sc_law.nd rfl (by first | exact Or.inl rfl | exact Or.inr rfl) (pe_op op_sub (pe_op op_sub (pe_op op_pow2 pe_int pe_int) pe_int) (pe_cal (c__law_draw T) (hr.mono (by first | decide | omega)) pass0 (pa_cons (pv 1) (pa_cons pe_int pa_nil)))))
    (pss_cons (ps_set (i := 7) sc_law.nd rfl (by first | exact Or.inl rfl | exact Or.inr rfl) (pe_cal (c__law_field T) (hr.mono (by first | decide | omega)) pass0 (pa_cons (pv 1) pa_nil)))
    (pss_cons (ps_set (i := 8) sc_law.nd rfl (by first | exact Or.inl rfl | exact Or.inr rfl) (pe_lst (pa_cons (pe_tup (pa_cons pe_non (pa_cons pe_non pa_nil))) (pa_cons (pe_tup (pa_cons (pe_op op_sub pe_int (pv 6)) (pa_cons pe_non pa_nil))) (pa_cons (pe_tup (pa_cons pe_non (pa_cons (pv 6) pa_nil))) (pa_cons (pe_tup (pa_cons (pe_op op_sub pe_int (pv 6)) (pa_cons (pv 6) pa_nil))) pa_nil))))))
    (pss_cons (ps_set (i := 9) sc_law.nd rfl (by first | exact Or.inl rfl | exact Or.inr rfl) (pe_ix (ix_any (K := K)) (pv 8) (pe_cal (c__law_draw T) (hr.mono (by first | decide | omega)) pass0 (pa_cons (pv 1) (pa_cons pe_int pa_nil))) (fun _ _ => rfl)))
    (pss_cons (ps_set (i := 10) sc_law.nd rfl (by first | exact Or.inl rfl | exact Or.inr rfl) (pe_ix (ix_any (K := K)) (pv 8) (pe_op (op_add2 (K := K)) pe_int (pe_cal (c__law_draw T) (hr.mono (by first | decide | omega)) pass0 (pa_cons (pv 1) (pa_cons pe_int pa_nil)))) (fun _ _ => rfl)))
    (pss_cons (ps_set (i := 11) sc_law.nd rfl (by first | exact Or.inl rfl | exact Or.inr rfl) (pe_cal (c_parting_piece T) (hr.mono (by first | decide | omega)) passL (pa_cons (pe_tup (pa_cons (pe_tup (pa_cons (pv 7) (pa_cons (pe_ix (ix_any (K := K)) (pv 9) pe_int (fun _ _ => rfl)) (pa_cons (pe_ix (ix_any (K := K)) (pv 9) pe_int (fun _ _ => rfl)) pa_nil)))) pa_nil)) (pa_cons (pe_tup (pa_cons (pe_tup (pa_cons (pv 7) (pa_cons (pe_ix (ix_any (K := K)) (pv 10) pe_int (fun _ _ => rfl)) (pa_cons (pe_ix (ix_any (K := K)) (pv 10) pe_int (fun _ _ => rfl)) pa_nil)))) pa_nil)) pa_nil))))
    (pss_cons (ps_set (i := 12) sc_law.nd rfl (by first | exact Or.inl rfl | exact Or.inr rfl) (pe_and (pe_cmp (pc_notN (pe_ix (ix_any (K := K)) (pv 10) pe_int (fun _ _ => rfl))) rfl) (pe_one (pe_or (pe_cmp (pc_isN (pe_ix (ix_any (K := K)) (pv 9) pe_int (fun _ _ => rfl))) rfl) (pe_one (pe_cmpR op_lt2 (pe_ix (ix_any (K := K)) (pv 9) pe_int (fun _ _ => rfl)) (pe_ix (ix_any (K := K)) (pv 10) pe_int (fun _ _ => rfl)) (nomark _)))))))
    (pss_cons (ps_set (i := 13) sc_law.nd rfl (by first | exact Or.inl rfl | exact Or.inr rfl) (pe_and (pe_cmp (pc_notN (pe_ix (ix_any (K := K)) (pv 10) pe_int (fun _ _ => rfl))) rfl) (pe_one (pe_or (pe_cmp (pc_isN (pe_ix (ix_any (K := K)) (pv 9) pe_int (fun _ _ => rfl))) rfl) (pe_one (pe_cmpR op_gt2 (pe_ix (ix_any (K := K)) (pv 9) pe_int (fun _ _ => rfl)) (pe_ix (ix_any (K := K)) (pv 10) pe_int (fun _ _ => rfl)) (nomark _)))))))
    (pss_cons (ps_if (PW.pt (pw_and (pt_not (pt_val (pv 12) (by intro _; rfl))) (pw_and1 (pt_not (pt_val (pv 13) (by intro _; rfl)))))) (pss_one (ps_ret (pe_cmp (pc_isN (pv 11)) rfl))) pss_nil)
    (pss_one (ps_ret (pe_and (pe_cmp (pc_notN (pv 11)) rfl) (pe_one (pe_cal (c__law_right T) (hr.mono (by first | decide | omega)) pass0 (pa_cons (pv 11) (pa_cons pe_int pa_nil))))))))))))))))))), ?_⟩
  walk_at "go"
  refine ⟨a, ns, rfl, hs, hl63, fun b g H1 hb1 hg1 k1 B1 => ?_⟩
  walk_at "go"
  rename_i lp0 H2 hlp k2 hlp2
  refine r_forR ?_
  walk_at "go"
  refine lpR (n := 8) (fun i σ' H' => Bag H' b g (800000 + 400 * (8 - i)) ∧ ∃ (lp : Addr) (ps : List (Str × List PyData)) (o3 o4 o5 : Option V), Dat All H' (.ref lp) (.tuple (ps.map mk1)) ∧ ascS Str.empty (ps.map (·.1)) = true ∧ (∀ p ∈ ps, fieldS p.1 = true ∧ goodT 2 p.2) ∧ ps.length ≤ 1000 ∧
      σ' = [some (.ref a), some (.ref b), some (.ref lp), o3, o4, o5, none, none, none, none, none, none, none, none])
    (by decide) ⟨(B1.kp k2).less (by omega), lp0, [], none, none, none, .tup hlp2 .nil, rfl, (fun p h => by cases h), by decide, rfl⟩ ?_ ?_
  · rintro i σ' H' hi ⟨Bi, lp, ps, o3, o4, o5, hlast, hasc, hgood, hlen, rfl⟩
    have eB : 800000 + 400 * (8 - i) = (800000 + 400 * (8 - (i + 1)) + 99 + 300) + 1 := by omega
    rw [eB] at Bi
    walk_at "go"
    refine ⟨b, g, _, 2, rfl, rfl, by decide, by decide, Bi, fun r H3 r0 r1 k3 B3 => ?_⟩
    walk_at "go"
    refine r_mul (by decide) (by omega) ?_
    walk_at "go"
    refine ⟨b, g, _, 2 + r, 12 - 2 * (2 + r), rfl, rfl, rfl, by omega, by omega, by omega, B3, fun p qs H4 hasc4 hgood4 hlen4 hd4 k4 B4 => ?_⟩
    have hg4 : ∀ q ∈ qs, fieldS q.1 = true ∧ goodT (2 + r) q.2 := fun q hq => ⟨(hgood4 q hq).1, goodT_of (hgood4 q hq).2⟩
    have hlast4 := (hlast.all k3).all k4
    walk_at "go"
    refine ⟨All, qs, 2 + r, rfl, hd4, hasc4, hg4, by omega, fun H5 k5 => ?_⟩
    walk_at "go"
    refine r_iteF rfl ?_
    walk_at "go"
    refine ⟨All, ps, 2, rfl, hlast4.all k5, hasc, hgood, hlen, fun H6 k6 => ?_⟩
    walk_at "go"
    refine r_iteF rfl ?_
    walk_at "go"
    refine ⟨All, qs, 2 + r, rfl, (hd4.all k5).all k6, hasc4, hg4, by omega, fun H7 k7 => ?_⟩
    have B7 := ((B4.kp k5).kp k6).kp k7
    walk_at "go"
    refine r_iteF rfl ?_
    walk_at "go"
    walk_at "br"
    · intro h2
      walk_at "go"
      rw [h2] at hg4
      exact ⟨B7.less (by omega), p, qs, _, _, _, ((hd4.all k5).all k6).all k7, hasc4, hg4, by omega, rfl⟩
    · intro h2
      walk_at "go"
      exact ⟨B7.less (by omega), lp, ps, _, _, _, ((hlast4.all k5).all k6).all k7, hasc, hgood, hlen, rfl⟩
  · rintro σ' H3 ⟨B3, lp, ps, o3, o4, o5, hlast, hasc, hgood, hlen, rfl⟩
    walk_at "go"
    refine r_pow (n := 15) (by decide) (by decide) ?_
    walk_at "go"
    refine ⟨b, g, 700000, 3, rfl, rfl, by decide, by decide, B3.less (by omega), fun r H4 r0 r1 k4 B4 => ?_⟩
    walk_at "go"
    refine ⟨b, g, 600000, rfl, B4.less (by omega), fun fl H5 hfl k5 B5 => ?_⟩
    walk_at "go"
    rename_i p0 Ha n0 ka t0 p1 Hb n1 kb t1 p2 Hc n2 kc t2 p3 Hd n3 kd t3 L He nL ke tL
    obtain ⟨e, he⟩ : ∃ e : Int, e = 10 ^ 15 - 1 - r := ⟨_, rfl⟩
    have e15 : (10 : Int) ^ 15 = 1000000000000000 := by decide
    have e15n : (10 : Nat) ^ 15 = 1000000000000000 := by decide
    rw [← he] at t1 t2 t3
    have q0 : He p0 = some (.tup [EV none, EV none]) := ke.tup (kd.tup (kc.tup (kb.tup t0)))
    have q1 : He p1 = some (.tup [EV (some (0 - e)), EV none]) := ke.tup (kd.tup (kc.tup t1))
    have q2 : He p2 = some (.tup [EV none, EV (some e)]) := ke.tup (kd.tup t2)
    have q3 : He p3 = some (.tup [EV (some (0 - e)), EV (some e)]) := ke.tup t3
    have BL : Bag He b g 600000 := ((((B5.kp ka).kp kb).kp kc).kp kd).kp ke
    have nbL : ¬ bx b g L := ((((B5.kp ka).kp kb).kp kc).kp kd).old nL
    /- a span of the list, by its place -/
    have pick : ∀ i : Nat, i < 4 → ∃ (p : Addr) (x y : Option Int), [V.ref p0, V.ref p1, V.ref p2, V.ref p3][i]? = some (.ref p) ∧ He p = some (.tup [EV x, EV y]) ∧ spanD (spD x y) = true ∧ (∀ z, x = some z → z = 0 - e) ∧ (∀ z, y = some z → z = e) := fun i hi => by
      have : i = 0 ∨ i = 1 ∨ i = 2 ∨ i = 3 := by omega
      rcases this with rfl | rfl | rfl | rfl
      · exact ⟨p0, none, none, rfl, q0, rfl, (fun z h => by cases h), (fun z h => by cases h)⟩
      · exact ⟨p1, some (0 - e), none, rfl, q1, rfl, (fun z h => by cases h; rfl), (fun z h => by cases h)⟩
      · exact ⟨p2, none, some e, rfl, q2, rfl, (fun z h => by cases h), (fun z h => by cases h; rfl)⟩
      · refine ⟨p3, some (0 - e), some e, rfl, q3, ?_, (fun z h => by cases h; rfl), (fun z h => by cases h; rfl)⟩
        exact decide_eq_true (by omega)
    refine ⟨b, g, 500000, 4, rfl, rfl, by decide, by decide, BL.less (by omega), fun u Hf u0 u1 kf Bf => ?_⟩
    have tLf : Hf L = some (.lst [V.ref p0, V.ref p1, V.ref p2, V.ref p3]) := kf.at tL nbL
    obtain ⟨po, x1, y1, hpo, hto, hso, hx1, hy1⟩ := pick u.toNat (by omega)
    refine r_ixl (n := u.toNat) tLf (by omega) hpo ?_
    walk_at "go"
    refine ⟨b, g, 400000, 3, rfl, rfl, by decide, by decide, Bf.less (by omega), fun u2 Hg u20 u21 kg Bg => ?_⟩
    walk_at "go"
    have tLg : Hg L = some (.lst [V.ref p0, V.ref p1, V.ref p2, V.ref p3]) := kg.at tLf nbL
    obtain ⟨pt, x2, y2, hpt, htt, hst, hx2, hy2⟩ := pick (1 + u2).toNat (by omega)
    refine r_ixl (n := (1 + u2).toNat) tLg (by omega) hpt ?_
    have og : Hg po = some (.tup [EV x1, EV y1]) := kg.tup (kf.tup hto)
    have tg : Hg pt = some (.tup [EV x2, EV y2]) := kg.tup (kf.tup htt)
    walk_at "go"
    rename_i r0' H10 rn0 rk0 rt0 r1' H11 rn1 rk1 rt1 r2' H12 rn2 rk2 rt2 r3' H13 rn3 rk3 rt3
    have hfl8 : fl.length ≤ 1000000 := by have := (fieldL_iff.mp hfl).2.1; rw [TL.len_tl]; exact Nat.le_trans this (by decide)
    have d1 : Dat All H13 (.ref r1') (oneW fl x1 y1) := .tup (rk3.tup (rk2.tup rt1)) (.cons (.tup (rk3.tup (rk2.tup (rk1.tup rt0))) (.cons (.str fl hfl8) (.cons (.ed x1) (.cons (.ed y1) .nil)))) .nil)
    have d2 : Dat All H13 (.ref r3') (oneW fl x2 y2) := .tup rt3 (.cons (.tup (rk3.tup rt2) (.cons (.str fl hfl8) (.cons (.ed x2) (.cons (.ed y2) .nil)))) .nil)
    have og3 : H13 po = some (.tup [EV x1, EV y1]) := rk3.tup (rk2.tup (rk1.tup (rk0.tup og)))
    have tg3 : H13 pt = some (.tup [EV x2, EV y2]) := rk3.tup (rk2.tup (rk1.tup (rk0.tup tg)))
    have cov := cov_eq x1 y1 x2 y2
    have bnd : covO x2 y2 x1 y1 = false → (pO x1 y1 x2 y2).natAbs < 10 ^ 40 := fun _ => by
      have c40 : (10 : Nat) ^ 40 = 10000000000000000000000000000000000000000 := by decide +kernel
      cases x1 <;> cases y1 <;> cases x2 <;> cases y2 <;> simp only [pO, nO] <;>
        (first
         | omega
         | (simp only [Option.some.injEq, forall_eq'] at hx1 hy1 hx2 hy2; (try split) <;> omega))
    clear hpo hto hpt htt tLf tLg pick q0 q1 q2 q3 t0 t1 t2 t3 tL hgood hasc hlast rt0 rt1 rt2 rt3 og tg hlp2
    refine ⟨All, fl, x1, y1, x2, y2, d1, d2, one_wish hfl hso, one_wish hfl hst, hso, hst, fun hcov H14 k14 => ?_, fun hcov pp H14 k14 hpd => ?_⟩
    · have og4 : H14 po = some (.tup [EV x1, EV y1]) := k14.tup og3
      have tg4 : H14 pt = some (.tup [EV x2, EV y2]) := k14.tup tg3
      rw [cov] at hcov
      have hb : bel x1 x2 = false := by cases e : bel x1 x2 <;> simp_all
      have ha : abv y1 y2 = false := by cases e : abv y1 y2 <;> simp_all
      with_reducible refine r_name ?_
      with_reducible refine r_seq ?_
      with_reducible refine r_asg ?_
      refine via (fun v H1 => v = .bl (bel x1 x2) ∧ H14 = H1) (fun Z hZ => ?_) ?_
      · cases x2 <;> cases x1 <;> (simp only [EV] at og4 tg4; walk_at "go"; exact hZ _ _ ⟨rfl, rfl⟩)
      rintro v H1 ⟨rfl, rfl⟩
      with_reducible refine r_name ?_
      with_reducible refine r_seq ?_
      with_reducible refine r_asg ?_
      refine via (fun v H1 => v = .bl (abv y1 y2) ∧ H14 = H1) (fun Z hZ => ?_) ?_
      · cases y2 <;> cases y1 <;> (simp only [EV] at og4 tg4; walk_at "go"; exact hZ _ _ ⟨rfl, rfl⟩)
      rintro v H1 ⟨rfl, rfl⟩
      with_reducible refine r_name ?_
      rw [hb, ha]
      walk_at "go"
      refine r_iteT rfl ?_
      walk_at "go"
      refine r_iteT rfl ?_
      walk_at "go"
      have e : decide (V.non = V.non) = true := decide_eq_true rfl
      show Q (.bl (decide (V.non = V.non))) H14
      rw [e]
      exact k _
    · have og4 : H14 po = some (.tup [EV x1, EV y1]) := k14.tup og3
      have tg4 : H14 pt = some (.tup [EV x2, EV y2]) := k14.tup tg3
      have hb40 := bnd hcov
      rw [cov] at hcov
      with_reducible refine r_name ?_
      with_reducible refine r_seq ?_
      with_reducible refine r_asg ?_
      refine via (fun v H1 => v = .bl (bel x1 x2) ∧ H14 = H1) (fun Z hZ => ?_) ?_
      · cases x2 <;> cases x1 <;> (simp only [EV] at og4 tg4; walk_at "go"; exact hZ _ _ ⟨rfl, rfl⟩)
      rintro v H1 ⟨rfl, rfl⟩
      with_reducible refine r_name ?_
      with_reducible refine r_seq ?_
      with_reducible refine r_asg ?_
      refine via (fun v H1 => v = .bl (abv y1 y2) ∧ H14 = H1) (fun Z hZ => ?_) ?_
      · cases y2 <;> cases y1 <;> (simp only [EV] at og4 tg4; walk_at "go"; exact hZ _ _ ⟨rfl, rfl⟩)
      rintro v H1 ⟨rfl, rfl⟩
      with_reducible refine r_name ?_
      walk_at "go"
      walk_at "br"
      · intro hb
        rw [hb] at hcov
        walk_at "go"
        walk_at "br"
        · intro ha
          rw [ha] at hcov
          cases hcov
        · intro ha
          walk_at "go"
          refine r_iteT (by simp) ?_
          walk_at "go"
          exact ⟨All, [(fl, [.int (pO x1 y1 x2 y2)])], 2, rfl, hpd, asc_one hfl _, (fun p hp => by
            rw [List.mem_singleton.mp hp]
            exact ⟨hfl, .inr ⟨rfl, _, rfl, hb40⟩⟩), Nat.le_of_ble_eq_true rfl, fun H15 _ => k _⟩
      · intro hb
        walk_at "go"
        refine r_iteT (by simp) ?_
        walk_at "go"
        exact ⟨All, [(fl, [.int (pO x1 y1 x2 y2)])], 2, rfl, hpd, asc_one hfl _, (fun p hp => by
          rw [List.mem_singleton.mp hp]
          exact ⟨hfl, .inr ⟨rfl, _, rfl, hb40⟩⟩), Nat.le_of_ble_eq_true rfl, fun H15 _ => k _⟩

end

theorem mk_txt {K : PySem.W.Frag} {h : Heap} {mg : Str → Option Value} {C_NewsError C_NoSpan C_NoWish C_NoPiece C_NoText : Addr} (X : K.In h) (G : h.Ns mainGlobals mg)
    {f0 f1 f2 f3 f4 f5 f6 f7 f8 f9 f10 f11 f12 f13 f14 f15 f16 f17 f18 f19 f20 f21 f22 f23 f24 f25 f26 f27 f28 f29 f30 f31 f32 f33 f34 : Addr}
    {od0 an0 : Option Addr} {sl0 : Array (Option Value)} {oc0 kV0 dc0 pm0 cd0 ct0 : Value}
    {od1 an1 : Option Addr} {sl1 : Array (Option Value)} {oc1 kV1 dc1 pm1 cd1 ct1 : Value}
    {od2 an2 : Option Addr} {sl2 : Array (Option Value)} {oc2 kV2 dc2 pm2 cd2 ct2 : Value}
    {od3 an3 : Option Addr} {sl3 : Array (Option Value)} {oc3 kV3 dc3 pm3 cd3 ct3 : Value}
    {od4 an4 : Option Addr} {sl4 : Array (Option Value)} {oc4 kV4 dc4 pm4 cd4 ct4 : Value}
    {od5 an5 : Option Addr} {sl5 : Array (Option Value)} {oc5 kV5 dc5 pm5 cd5 ct5 : Value}
    {od6 an6 : Option Addr} {sl6 : Array (Option Value)} {oc6 kV6 dc6 pm6 cd6 ct6 : Value}
    {od7 an7 : Option Addr} {sl7 : Array (Option Value)} {oc7 kV7 dc7 pm7 cd7 ct7 : Value}
    {od8 an8 : Option Addr} {sl8 : Array (Option Value)} {oc8 kV8 dc8 pm8 cd8 ct8 : Value}
    {od9 an9 : Option Addr} {sl9 : Array (Option Value)} {oc9 kV9 dc9 pm9 cd9 ct9 : Value}
    {od10 an10 : Option Addr} {sl10 : Array (Option Value)} {oc10 kV10 dc10 pm10 cd10 ct10 : Value}
    {od11 an11 : Option Addr} {sl11 : Array (Option Value)} {oc11 kV11 dc11 pm11 cd11 ct11 : Value}
    {od12 an12 : Option Addr} {sl12 : Array (Option Value)} {oc12 kV12 dc12 pm12 cd12 ct12 : Value}
    {od13 an13 : Option Addr} {sl13 : Array (Option Value)} {oc13 kV13 dc13 pm13 cd13 ct13 : Value}
    {od14 an14 : Option Addr} {sl14 : Array (Option Value)} {oc14 kV14 dc14 pm14 cd14 ct14 : Value}
    {od15 an15 : Option Addr} {sl15 : Array (Option Value)} {oc15 kV15 dc15 pm15 cd15 ct15 : Value}
    {od16 an16 : Option Addr} {sl16 : Array (Option Value)} {oc16 kV16 dc16 pm16 cd16 ct16 : Value}
    {od17 an17 : Option Addr} {sl17 : Array (Option Value)} {oc17 kV17 dc17 pm17 cd17 ct17 : Value}
    {od18 an18 : Option Addr} {sl18 : Array (Option Value)} {oc18 kV18 dc18 pm18 cd18 ct18 : Value}
    {od19 an19 : Option Addr} {sl19 : Array (Option Value)} {oc19 kV19 dc19 pm19 cd19 ct19 : Value}
    {od20 an20 : Option Addr} {sl20 : Array (Option Value)} {oc20 kV20 dc20 pm20 cd20 ct20 : Value}
    {od21 an21 : Option Addr} {sl21 : Array (Option Value)} {oc21 kV21 dc21 pm21 cd21 ct21 : Value}
    {od22 an22 : Option Addr} {sl22 : Array (Option Value)} {oc22 kV22 dc22 pm22 cd22 ct22 : Value}
    {od23 an23 : Option Addr} {sl23 : Array (Option Value)} {oc23 kV23 dc23 pm23 cd23 ct23 : Value}
    {od24 an24 : Option Addr} {sl24 : Array (Option Value)} {oc24 kV24 dc24 pm24 cd24 ct24 : Value}
    {od25 an25 : Option Addr} {sl25 : Array (Option Value)} {oc25 kV25 dc25 pm25 cd25 ct25 : Value}
    {od26 an26 : Option Addr} {sl26 : Array (Option Value)} {oc26 kV26 dc26 pm26 cd26 ct26 : Value}
    {od27 an27 : Option Addr} {sl27 : Array (Option Value)} {oc27 kV27 dc27 pm27 cd27 ct27 : Value}
    {od28 an28 : Option Addr} {sl28 : Array (Option Value)} {oc28 kV28 dc28 pm28 cd28 ct28 : Value}
    {od29 an29 : Option Addr} {sl29 : Array (Option Value)} {oc29 kV29 dc29 pm29 cd29 ct29 : Value}
    {od30 an30 : Option Addr} {sl30 : Array (Option Value)} {oc30 kV30 dc30 pm30 cd30 ct30 : Value}
    {od31 an31 : Option Addr} {sl31 : Array (Option Value)} {oc31 kV31 dc31 pm31 cd31 ct31 : Value}
    {od32 an32 : Option Addr} {sl32 : Array (Option Value)} {oc32 kV32 dc32 pm32 cd32 ct32 : Value}
    {od33 an33 : Option Addr} {sl33 : Array (Option Value)} {oc33 kV33 dc33 pm33 cd33 ct33 : Value}
    {od34 an34 : Option Addr} {sl34 : Array (Option Value)} {oc34 kV34 dc34 pm34 cd34 ct34 : Value}
    (a0 : PySem.W.nsIn K mainGlobals "is_whole" = some (some (.ref f0))) (l0 : K.lookup f0 = some ⟨oc0, od0, .func (PySem.W.fnOf "is_whole" "is_whole" (defArgs s_is_whole) (defBody s_is_whole) (defScope s_is_whole) .none kV0 dc0 pm0 an0 cd0 ct0), sl0⟩) (c0 : PySem.W.codeIn K cd0 "is_whole" = true) (k0 : PySem.W.keepIn K (.ref f0) = true)
    (a1 : PySem.W.nsIn K mainGlobals "is_span" = some (some (.ref f1))) (l1 : K.lookup f1 = some ⟨oc1, od1, .func (PySem.W.fnOf "is_span" "is_span" (defArgs s_is_span) (defBody s_is_span) (defScope s_is_span) .none kV1 dc1 pm1 an1 cd1 ct1), sl1⟩) (c1 : PySem.W.codeIn K cd1 "is_span" = true) (k1 : PySem.W.keepIn K (.ref f1) = true)
    (a2 : PySem.W.nsIn K mainGlobals "looked" = some (some (.ref f2))) (l2 : K.lookup f2 = some ⟨oc2, od2, .func (PySem.W.fnOf "looked" "looked" (defArgs s_looked) (defBody s_looked) (defScope s_looked) .none kV2 dc2 pm2 an2 cd2 ct2), sl2⟩) (c2 : PySem.W.codeIn K cd2 "looked" = true) (k2 : PySem.W.keepIn K (.ref f2) = true)
    (a3 : PySem.W.nsIn K mainGlobals "span_covers" = some (some (.ref f3))) (l3 : K.lookup f3 = some ⟨oc3, od3, .func (PySem.W.fnOf "span_covers" "span_covers" (defArgs s_span_covers) (defBody s_span_covers) (defScope s_span_covers) .none kV3 dc3 pm3 an3 cd3 ct3), sl3⟩) (c3 : PySem.W.codeIn K cd3 "span_covers" = true) (k3 : PySem.W.keepIn K (.ref f3) = true)
    (a4 : PySem.W.nsIn K mainGlobals "is_field" = some (some (.ref f4))) (l4 : K.lookup f4 = some ⟨oc4, od4, .func (PySem.W.fnOf "is_field" "is_field" (defArgs s_is_field) (defBody s_is_field) (defScope s_is_field) .none kV4 dc4 pm4 an4 cd4 ct4), sl4⟩) (c4 : PySem.W.codeIn K cd4 "is_field" = true) (k4 : PySem.W.keepIn K (.ref f4) = true)
    (a5 : PySem.W.nsIn K mainGlobals "are_parts" = some (some (.ref f5))) (l5 : K.lookup f5 = some ⟨oc5, od5, .func (PySem.W.fnOf "are_parts" "are_parts" (defArgs s_are_parts) (defBody s_are_parts) (defScope s_are_parts) .none kV5 dc5 pm5 an5 cd5 ct5), sl5⟩) (c5 : PySem.W.codeIn K cd5 "are_parts" = true) (k5 : PySem.W.keepIn K (.ref f5) = true)
    (a6 : PySem.W.nsIn K mainGlobals "is_wish" = some (some (.ref f6))) (l6 : K.lookup f6 = some ⟨oc6, od6, .func (PySem.W.fnOf "is_wish" "is_wish" (defArgs s_is_wish) (defBody s_is_wish) (defScope s_is_wish) .none kV6 dc6 pm6 an6 cd6 ct6), sl6⟩) (c6 : PySem.W.codeIn K cd6 "is_wish" = true) (k6 : PySem.W.keepIn K (.ref f6) = true)
    (a7 : PySem.W.nsIn K mainGlobals "is_piece" = some (some (.ref f7))) (l7 : K.lookup f7 = some ⟨oc7, od7, .func (PySem.W.fnOf "is_piece" "is_piece" (defArgs s_is_piece) (defBody s_is_piece) (defScope s_is_piece) .none kV7 dc7 pm7 an7 cd7 ct7), sl7⟩) (c7 : PySem.W.codeIn K cd7 "is_piece" = true) (k7 : PySem.W.keepIn K (.ref f7) = true)
    (a8 : PySem.W.nsIn K mainGlobals "spans_of" = some (some (.ref f8))) (l8 : K.lookup f8 = some ⟨oc8, od8, .func (PySem.W.fnOf "spans_of" "spans_of" (defArgs s_spans_of) (defBody s_spans_of) (defScope s_spans_of) .none kV8 dc8 pm8 an8 cd8 ct8), sl8⟩) (c8 : PySem.W.codeIn K cd8 "spans_of" = true) (k8 : PySem.W.keepIn K (.ref f8) = true)
    (a9 : PySem.W.nsIn K mainGlobals "number_of" = some (some (.ref f9))) (l9 : K.lookup f9 = some ⟨oc9, od9, .func (PySem.W.fnOf "number_of" "number_of" (defArgs s_number_of) (defBody s_number_of) (defScope s_number_of) .none kV9 dc9 pm9 an9 cd9 ct9), sl9⟩) (c9 : PySem.W.codeIn K cd9 "number_of" = true) (k9 : PySem.W.keepIn K (.ref f9) = true)
    (a10 : PySem.W.nsIn K mainGlobals "parting_number" = some (some (.ref f10))) (l10 : K.lookup f10 = some ⟨oc10, od10, .func (PySem.W.fnOf "parting_number" "parting_number" (defArgs s_parting_number) (defBody s_parting_number) (defScope s_parting_number) .none kV10 dc10 pm10 an10 cd10 ct10), sl10⟩) (c10 : PySem.W.codeIn K cd10 "parting_number" = true) (k10 : PySem.W.keepIn K (.ref f10) = true)
    (a11 : PySem.W.nsIn K mainGlobals "parting_piece" = some (some (.ref f11))) (l11 : K.lookup f11 = some ⟨oc11, od11, .func (PySem.W.fnOf "parting_piece" "parting_piece" (defArgs s_parting_piece) (defBody s_parting_piece) (defScope s_parting_piece) .none kV11 dc11 pm11 an11 cd11 ct11), sl11⟩) (c11 : PySem.W.codeIn K cd11 "parting_piece" = true) (k11 : PySem.W.keepIn K (.ref f11) = true)
    (a12 : PySem.W.nsIn K mainGlobals "show_end" = some (some (.ref f12))) (l12 : K.lookup f12 = some ⟨oc12, od12, .func (PySem.W.fnOf "show_end" "show_end" (defArgs s_show_end) (defBody s_show_end) (defScope s_show_end) .none kV12 dc12 pm12 an12 cd12 ct12), sl12⟩) (c12 : PySem.W.codeIn K cd12 "show_end" = true) (k12 : PySem.W.keepIn K (.ref f12) = true)
    (a13 : PySem.W.nsIn K mainGlobals "with_blanks" = some (some (.ref f13))) (l13 : K.lookup f13 = some ⟨oc13, od13, .func (PySem.W.fnOf "with_blanks" "with_blanks" (defArgs s_with_blanks) (defBody s_with_blanks) (defScope s_with_blanks) .none kV13 dc13 pm13 an13 cd13 ct13), sl13⟩) (c13 : PySem.W.codeIn K cd13 "with_blanks" = true) (k13 : PySem.W.keepIn K (.ref f13) = true)
    (a14 : PySem.W.nsIn K mainGlobals "show_wish" = some (some (.ref f14))) (l14 : K.lookup f14 = some ⟨oc14, od14, .func (PySem.W.fnOf "show_wish" "show_wish" (defArgs s_show_wish) (defBody s_show_wish) (defScope s_show_wish) .none kV14 dc14 pm14 an14 cd14 ct14), sl14⟩) (c14 : PySem.W.codeIn K cd14 "show_wish" = true) (k14 : PySem.W.keepIn K (.ref f14) = true)
    (a15 : PySem.W.nsIn K mainGlobals "show_piece" = some (some (.ref f15))) (l15 : K.lookup f15 = some ⟨oc15, od15, .func (PySem.W.fnOf "show_piece" "show_piece" (defArgs s_show_piece) (defBody s_show_piece) (defScope s_show_piece) .none kV15 dc15 pm15 an15 cd15 ct15), sl15⟩) (c15 : PySem.W.codeIn K cd15 "show_piece" = true) (k15 : PySem.W.keepIn K (.ref f15) = true)
    (a16 : PySem.W.nsIn K mainGlobals "words_of" = some (some (.ref f16))) (l16 : K.lookup f16 = some ⟨oc16, od16, .func (PySem.W.fnOf "words_of" "words_of" (defArgs s_words_of) (defBody s_words_of) (defScope s_words_of) .none kV16 dc16 pm16 an16 cd16 ct16), sl16⟩) (c16 : PySem.W.codeIn K cd16 "words_of" = true) (k16 : PySem.W.keepIn K (.ref f16) = true)
    (a17 : PySem.W.nsIn K mainGlobals "read_number" = some (some (.ref f17))) (l17 : K.lookup f17 = some ⟨oc17, od17, .func (PySem.W.fnOf "read_number" "read_number" (defArgs s_read_number) (defBody s_read_number) (defScope s_read_number) .none kV17 dc17 pm17 an17 cd17 ct17), sl17⟩) (c17 : PySem.W.codeIn K cd17 "read_number" = true) (k17 : PySem.W.keepIn K (.ref f17) = true)
    (a18 : PySem.W.nsIn K mainGlobals "read_end" = some (some (.ref f18))) (l18 : K.lookup f18 = some ⟨oc18, od18, .func (PySem.W.fnOf "read_end" "read_end" (defArgs s_read_end) (defBody s_read_end) (defScope s_read_end) .none kV18 dc18 pm18 an18 cd18 ct18), sl18⟩) (c18 : PySem.W.codeIn K cd18 "read_end" = true) (k18 : PySem.W.keepIn K (.ref f18) = true)
    (a19 : PySem.W.nsIn K mainGlobals "two_of" = some (some (.ref f19))) (l19 : K.lookup f19 = some ⟨oc19, od19, .func (PySem.W.fnOf "two_of" "two_of" (defArgs s_two_of) (defBody s_two_of) (defScope s_two_of) .none kV19 dc19 pm19 an19 cd19 ct19), sl19⟩) (c19 : PySem.W.codeIn K cd19 "two_of" = true) (k19 : PySem.W.keepIn K (.ref f19) = true)
    (a20 : PySem.W.nsIn K mainGlobals "read_wish" = some (some (.ref f20))) (l20 : K.lookup f20 = some ⟨oc20, od20, .func (PySem.W.fnOf "read_wish" "read_wish" (defArgs s_read_wish) (defBody s_read_wish) (defScope s_read_wish) .none kV20 dc20 pm20 an20 cd20 ct20), sl20⟩) (c20 : PySem.W.codeIn K cd20 "read_wish" = true) (k20 : PySem.W.keepIn K (.ref f20) = true)
    (a21 : PySem.W.nsIn K mainGlobals "read_piece" = some (some (.ref f21))) (l21 : K.lookup f21 = some ⟨oc21, od21, .func (PySem.W.fnOf "read_piece" "read_piece" (defArgs s_read_piece) (defBody s_read_piece) (defScope s_read_piece) .none kV21 dc21 pm21 an21 cd21 ct21), sl21⟩) (c21 : PySem.W.codeIn K cd21 "read_piece" = true) (k21 : PySem.W.keepIn K (.ref f21) = true)
    (a22 : PySem.W.nsIn K mainGlobals "_law_bag" = some (some (.ref f22))) (l22 : K.lookup f22 = some ⟨oc22, od22, .func (PySem.W.fnOf "_law_bag" "_law_bag" (defArgs s__law_bag) (defBody s__law_bag) (defScope s__law_bag) .none kV22 dc22 pm22 an22 cd22 ct22), sl22⟩) (c22 : PySem.W.codeIn K cd22 "_law_bag" = true) (k22 : PySem.W.keepIn K (.ref f22) = true)
    (a23 : PySem.W.nsIn K mainGlobals "_law_draw" = some (some (.ref f23))) (l23 : K.lookup f23 = some ⟨oc23, od23, .func (PySem.W.fnOf "_law_draw" "_law_draw" (defArgs s__law_draw) (defBody s__law_draw) (defScope s__law_draw) .none kV23 dc23 pm23 an23 cd23 ct23), sl23⟩) (c23 : PySem.W.codeIn K cd23 "_law_draw" = true) (k23 : PySem.W.keepIn K (.ref f23) = true)
    (a24 : PySem.W.nsIn K mainGlobals "_law_number" = some (some (.ref f24))) (l24 : K.lookup f24 = some ⟨oc24, od24, .func (PySem.W.fnOf "_law_number" "_law_number" (defArgs s__law_number) (defBody s__law_number) (defScope s__law_number) .none kV24 dc24 pm24 an24 cd24 ct24), sl24⟩) (c24 : PySem.W.codeIn K cd24 "_law_number" = true) (k24 : PySem.W.keepIn K (.ref f24) = true)
    (a25 : PySem.W.nsIn K mainGlobals "_law_held" = some (some (.ref f25))) (l25 : K.lookup f25 = some ⟨oc25, od25, .func (PySem.W.fnOf "_law_held" "_law_held" (defArgs s__law_held) (defBody s__law_held) (defScope s__law_held) .none kV25 dc25 pm25 an25 cd25 ct25), sl25⟩) (c25 : PySem.W.codeIn K cd25 "_law_held" = true) (k25 : PySem.W.keepIn K (.ref f25) = true)
    (a26 : PySem.W.nsIn K mainGlobals "_law_span" = some (some (.ref f26))) (l26 : K.lookup f26 = some ⟨oc26, od26, .func (PySem.W.fnOf "_law_span" "_law_span" (defArgs s__law_span) (defBody s__law_span) (defScope s__law_span) .none kV26 dc26 pm26 an26 cd26 ct26), sl26⟩) (c26 : PySem.W.codeIn K cd26 "_law_span" = true) (k26 : PySem.W.keepIn K (.ref f26) = true)
    (a27 : PySem.W.nsIn K mainGlobals "_law_field" = some (some (.ref f27))) (l27 : K.lookup f27 = some ⟨oc27, od27, .func (PySem.W.fnOf "_law_field" "_law_field" (defArgs s__law_field) (defBody s__law_field) (defScope s__law_field) .none kV27 dc27 pm27 an27 cd27 ct27), sl27⟩) (c27 : PySem.W.codeIn K cd27 "_law_field" = true) (k27 : PySem.W.keepIn K (.ref f27) = true)
    (a28 : PySem.W.nsIn K mainGlobals "_law_fields" = some (some (.ref f28))) (l28 : K.lookup f28 = some ⟨oc28, od28, .func (PySem.W.fnOf "_law_fields" "_law_fields" (defArgs s__law_fields) (defBody s__law_fields) (defScope s__law_fields) .none kV28 dc28 pm28 an28 cd28 ct28), sl28⟩) (c28 : PySem.W.codeIn K cd28 "_law_fields" = true) (k28 : PySem.W.keepIn K (.ref f28) = true)
    (a29 : PySem.W.nsIn K mainGlobals "_law_same" = some (some (.ref f29))) (l29 : K.lookup f29 = some ⟨oc29, od29, .func (PySem.W.fnOf "_law_same" "_law_same" (defArgs s__law_same) (defBody s__law_same) (defScope s__law_same) .none kV29 dc29 pm29 an29 cd29 ct29), sl29⟩) (c29 : PySem.W.codeIn K cd29 "_law_same" = true) (k29 : PySem.W.keepIn K (.ref f29) = true)
    (a30 : PySem.W.nsIn K mainGlobals "_law_made" = some (some (.ref f30))) (l30 : K.lookup f30 = some ⟨oc30, od30, .func (PySem.W.fnOf "_law_made" "_law_made" (defArgs s__law_made) (defBody s__law_made) (defScope s__law_made) .none kV30 dc30 pm30 an30 cd30 ct30), sl30⟩) (c30 : PySem.W.codeIn K cd30 "_law_made" = true) (k30 : PySem.W.keepIn K (.ref f30) = true)
    (a31 : PySem.W.nsIn K mainGlobals "_law_written" = some (some (.ref f31))) (l31 : K.lookup f31 = some ⟨oc31, od31, .func (PySem.W.fnOf "_law_written" "_law_written" (defArgs s__law_written) (defBody s__law_written) (defScope s__law_written) .none kV31 dc31 pm31 an31 cd31 ct31), sl31⟩) (c31 : PySem.W.codeIn K cd31 "_law_written" = true) (k31 : PySem.W.keepIn K (.ref f31) = true)
    (a32 : PySem.W.nsIn K mainGlobals "_law_refused" = some (some (.ref f32))) (l32 : K.lookup f32 = some ⟨oc32, od32, .func (PySem.W.fnOf "_law_refused" "_law_refused" (defArgs s__law_refused) (defBody s__law_refused) (defScope s__law_refused) .none kV32 dc32 pm32 an32 cd32 ct32), sl32⟩) (c32 : PySem.W.codeIn K cd32 "_law_refused" = true) (k32 : PySem.W.keepIn K (.ref f32) = true)
    (a33 : PySem.W.nsIn K mainGlobals "_law_right" = some (some (.ref f33))) (l33 : K.lookup f33 = some ⟨oc33, od33, .func (PySem.W.fnOf "_law_right" "_law_right" (defArgs s__law_right) (defBody s__law_right) (defScope s__law_right) .none kV33 dc33 pm33 an33 cd33 ct33), sl33⟩) (c33 : PySem.W.codeIn K cd33 "_law_right" = true) (k33 : PySem.W.keepIn K (.ref f33) = true)
    (a34 : PySem.W.nsIn K mainGlobals "law" = some (some (.ref f34))) (l34 : K.lookup f34 = some ⟨oc34, od34, .func (PySem.W.fnOf "law" "law" (defArgs s_law) (defBody s_law) (defScope s_law) .none kV34 dc34 pm34 an34 cd34 ct34), sl34⟩) (c34 : PySem.W.codeIn K cd34 "law" = true) (k34 : PySem.W.keepIn K (.ref f34) = true)
    {u_LETTERS : Value} (g_LETTERS : PySem.W.nsIn K mainGlobals "LETTERS" = some (some u_LETTERS)) (r_LETTERS : RelV (.str "abcdefghijklmnopqrstuvwxyz") u_LETTERS)
    {u_LONGEST : Value} (g_LONGEST : PySem.W.nsIn K mainGlobals "LONGEST" = some (some u_LONGEST)) (r_LONGEST : RelV (.int 8) u_LONGEST)
    {u_FIGURES : Value} (g_FIGURES : PySem.W.nsIn K mainGlobals "FIGURES" = some (some u_FIGURES)) (r_FIGURES : RelV (.str "0123456789") u_FIGURES)
    {u_MOST : Value} (g_MOST : PySem.W.nsIn K mainGlobals "MOST" = some (some u_MOST)) (r_MOST : RelV (.int 15) u_MOST)
    {u_NONE : Value} (g_NONE : PySem.W.nsIn K mainGlobals "NONE" = some (some u_NONE)) (r_NONE : RelV (.str "-") u_NONE)
    {u_OPEN : Value} (g_OPEN : PySem.W.nsIn K mainGlobals "OPEN" = some (some u_OPEN)) (r_OPEN : RelV (.str "*") u_OPEN)
    (e_NewsError : PySem.W.nsIn K mainGlobals "NewsError" = some (some (.ref C_NewsError))) (x_NewsError : PySem.W.excIn K C_NewsError [.type "ValueError", .type "Exception", .type "BaseException", .type "object"] "ValueError.__new__" = true) (y_NewsError : PySem.W.keepIn K (.ref C_NewsError) = true) (b_NewsError : PySem.W.subIn K (.ref C_NewsError) (.type "BaseException") = some true) (t_NewsError : PySem.W.typeIn K (.ref C_NewsError) = some (.type "type")) (i_NewsError : PySem.W.isClsIn K C_NewsError = true) (s_NewsError : PySem.W.subIn K (.ref C_NewsError) (.ref C_NewsError) = some true)
    (e_NoSpan : PySem.W.nsIn K mainGlobals "NoSpan" = some (some (.ref C_NoSpan))) (x_NoSpan : PySem.W.excIn K C_NoSpan [.type "ValueError", .type "Exception", .type "BaseException", .type "object"] "ValueError.__new__" = true) (y_NoSpan : PySem.W.keepIn K (.ref C_NoSpan) = true) (b_NoSpan : PySem.W.subIn K (.ref C_NoSpan) (.type "BaseException") = some true) (t_NoSpan : PySem.W.typeIn K (.ref C_NoSpan) = some (.type "type")) (i_NoSpan : PySem.W.isClsIn K C_NoSpan = true) (s_NoSpan : PySem.W.subIn K (.ref C_NoSpan) (.ref C_NoSpan) = some true)
    (e_NoWish : PySem.W.nsIn K mainGlobals "NoWish" = some (some (.ref C_NoWish))) (x_NoWish : PySem.W.excIn K C_NoWish [.type "ValueError", .type "Exception", .type "BaseException", .type "object"] "ValueError.__new__" = true) (y_NoWish : PySem.W.keepIn K (.ref C_NoWish) = true) (b_NoWish : PySem.W.subIn K (.ref C_NoWish) (.type "BaseException") = some true) (t_NoWish : PySem.W.typeIn K (.ref C_NoWish) = some (.type "type")) (i_NoWish : PySem.W.isClsIn K C_NoWish = true) (s_NoWish : PySem.W.subIn K (.ref C_NoWish) (.ref C_NoWish) = some true)
    (e_NoPiece : PySem.W.nsIn K mainGlobals "NoPiece" = some (some (.ref C_NoPiece))) (x_NoPiece : PySem.W.excIn K C_NoPiece [.type "ValueError", .type "Exception", .type "BaseException", .type "object"] "ValueError.__new__" = true) (y_NoPiece : PySem.W.keepIn K (.ref C_NoPiece) = true) (b_NoPiece : PySem.W.subIn K (.ref C_NoPiece) (.type "BaseException") = some true) (t_NoPiece : PySem.W.typeIn K (.ref C_NoPiece) = some (.type "type")) (i_NoPiece : PySem.W.isClsIn K C_NoPiece = true) (s_NoPiece : PySem.W.subIn K (.ref C_NoPiece) (.ref C_NoPiece) = some true)
    (e_NoText : PySem.W.nsIn K mainGlobals "NoText" = some (some (.ref C_NoText))) (x_NoText : PySem.W.excIn K C_NoText [.type "ValueError", .type "Exception", .type "BaseException", .type "object"] "ValueError.__new__" = true) (y_NoText : PySem.W.keepIn K (.ref C_NoText) = true) (b_NoText : PySem.W.subIn K (.ref C_NoText) (.type "BaseException") = some true) (t_NoText : PySem.W.typeIn K (.ref C_NoText) = some (.type "type")) (i_NoText : PySem.W.isClsIn K C_NoText = true) (s_NoText : PySem.W.subIn K (.ref C_NoText) (.ref C_NoText) = some true)
    (n_len : PySem.W.nsIn K mainGlobals "len" = some none)
    (n_isinstance : PySem.W.nsIn K mainGlobals "isinstance" = some none)
    (n_int : PySem.W.nsIn K mainGlobals "int" = some none)
    (n_str : PySem.W.nsIn K mainGlobals "str" = some none)
    (n_bool : PySem.W.nsIn K mainGlobals "bool" = some none)
    (n_list : PySem.W.nsIn K mainGlobals "list" = some none)
    (n_tuple : PySem.W.nsIn K mainGlobals "tuple" = some none)
    (n_all : PySem.W.nsIn K mainGlobals "all" = some none)
    (n_sorted : PySem.W.nsIn K mainGlobals "sorted" = some none)
    (n_set : PySem.W.nsIn K mainGlobals "set" = some none)
    (n_max : PySem.W.nsIn K mainGlobals "max" = some none)
    (n_min : PySem.W.nsIn K mainGlobals "min" = some none)
    (n_abs : PySem.W.nsIn K mainGlobals "abs" = some none)
    (n_range : PySem.W.nsIn K mainGlobals "range" = some none)
    (n_ValueError : PySem.W.nsIn K mainGlobals "ValueError" = some none)
    : Txt K mg ⟨C_NewsError, C_NoSpan, C_NoWish, C_NoPiece, C_NoText⟩ := by
  constructor
  · exact Def.mk' X G a0 l0 c0 k0 fun _ _ _ _ _ _ us hl => match us, hl with | [_], _ => rfl
  · exact Def.mk' X G a1 l1 c1 k1 fun _ _ _ _ _ _ us hl => match us, hl with | [_], _ => rfl
  · exact Def.mk' X G a2 l2 c2 k2 fun _ _ _ _ _ _ us hl => match us, hl with | [_], _ => rfl
  · exact Def.mk' X G a3 l3 c3 k3 fun _ _ _ _ _ _ us hl => match us, hl with | [_, _], _ => rfl
  · exact Def.mk' X G a4 l4 c4 k4 fun _ _ _ _ _ _ us hl => match us, hl with | [_], _ => rfl
  · exact Def.mk' X G a5 l5 c5 k5 fun _ _ _ _ _ _ us hl => match us, hl with | [_, _], _ => rfl
  · exact Def.mk' X G a6 l6 c6 k6 fun _ _ _ _ _ _ us hl => match us, hl with | [_], _ => rfl
  · exact Def.mk' X G a7 l7 c7 k7 fun _ _ _ _ _ _ us hl => match us, hl with | [_], _ => rfl
  · exact Def.mk' X G a8 l8 c8 k8 fun _ _ _ _ _ _ us hl => match us, hl with | [_], _ => rfl
  · exact Def.mk' X G a9 l9 c9 k9 fun _ _ _ _ _ _ us hl => match us, hl with | [_], _ => rfl
  · exact Def.mk' X G a10 l10 c10 k10 fun _ _ _ _ _ _ us hl => match us, hl with | [_, _], _ => rfl
  · exact Def.mk' X G a11 l11 c11 k11 fun _ _ _ _ _ _ us hl => match us, hl with | [_, _], _ => rfl
  · exact Def.mk' X G a12 l12 c12 k12 fun _ _ _ _ _ _ us hl => match us, hl with | [_], _ => rfl
  · exact Def.mk' X G a13 l13 c13 k13 fun _ _ _ _ _ _ us hl => match us, hl with | [_], _ => rfl
  · exact Def.mk' X G a14 l14 c14 k14 fun _ _ _ _ _ _ us hl => match us, hl with | [_], _ => rfl
  · exact Def.mk' X G a15 l15 c15 k15 fun _ _ _ _ _ _ us hl => match us, hl with | [_], _ => rfl
  · exact Def.mk' X G a16 l16 c16 k16 fun _ _ _ _ _ _ us hl => match us, hl with | [_, _], _ => rfl
  · exact Def.mk' X G a17 l17 c17 k17 fun _ _ _ _ _ _ us hl => match us, hl with | [_], _ => rfl
  · exact Def.mk' X G a18 l18 c18 k18 fun _ _ _ _ _ _ us hl => match us, hl with | [_], _ => rfl
  · exact Def.mk' X G a19 l19 c19 k19 fun _ _ _ _ _ _ us hl => match us, hl with | [_, _], _ => rfl
  · exact Def.mk' X G a20 l20 c20 k20 fun _ _ _ _ _ _ us hl => match us, hl with | [_], _ => rfl
  · exact Def.mk' X G a21 l21 c21 k21 fun _ _ _ _ _ _ us hl => match us, hl with | [_], _ => rfl
  · exact Def.mk' X G a22 l22 c22 k22 fun _ _ _ _ _ _ us hl => match us, hl with | [_], _ => rfl
  · exact Def.mk' X G a23 l23 c23 k23 fun _ _ _ _ _ _ us hl => match us, hl with | [_, _], _ => rfl
  · exact Def.mk' X G a24 l24 c24 k24 fun _ _ _ _ _ _ us hl => match us, hl with | [_], _ => rfl
  · exact Def.mk' X G a25 l25 c25 k25 fun _ _ _ _ _ _ us hl => match us, hl with | [_], _ => rfl
  · exact Def.mk' X G a26 l26 c26 k26 fun _ _ _ _ _ _ us hl => match us, hl with | [_], _ => rfl
  · exact Def.mk' X G a27 l27 c27 k27 fun _ _ _ _ _ _ us hl => match us, hl with | [_], _ => rfl
  · exact Def.mk' X G a28 l28 c28 k28 fun _ _ _ _ _ _ us hl => match us, hl with | [_, _], _ => rfl
  · exact Def.mk' X G a29 l29 c29 k29 fun _ _ _ _ _ _ us hl => match us, hl with | [_, _], _ => rfl
  · exact Def.mk' X G a30 l30 c30 k30 fun _ _ _ _ _ _ us hl => match us, hl with | [_, _, _], _ => rfl
  · exact Def.mk' X G a31 l31 c31 k31 fun _ _ _ _ _ _ us hl => match us, hl with | [_], _ => rfl
  · exact Def.mk' X G a32 l32 c32 k32 fun _ _ _ _ _ _ us hl => match us, hl with | [_], _ => rfl
  · exact Def.mk' X G a33 l33 c33 k33 fun _ _ _ _ _ _ us hl => match us, hl with | [_, _], _ => rfl
  · exact Def.mk' X G a34 l34 c34 k34 fun _ _ _ _ _ _ us hl => match us, hl with | [_], _ => rfl
  · exact ⟨_, PySem.W.mg_of X G g_LETTERS, r_LETTERS⟩
  · exact ⟨_, PySem.W.mg_of X G g_LONGEST, r_LONGEST⟩
  · exact ⟨_, PySem.W.mg_of X G g_FIGURES, r_FIGURES⟩
  · exact ⟨_, PySem.W.mg_of X G g_MOST, r_MOST⟩
  · exact ⟨_, PySem.W.mg_of X G g_NONE, r_NONE⟩
  · exact ⟨_, PySem.W.mg_of X G g_OPEN, r_OPEN⟩
  · exact ⟨PySem.W.mg_of X G e_NewsError, x_NewsError, y_NewsError, b_NewsError, t_NewsError, i_NewsError, s_NewsError⟩
  · exact ⟨PySem.W.mg_of X G e_NoSpan, x_NoSpan, y_NoSpan, b_NoSpan, t_NoSpan, i_NoSpan, s_NoSpan⟩
  · exact ⟨PySem.W.mg_of X G e_NoWish, x_NoWish, y_NoWish, b_NoWish, t_NoWish, i_NoWish, s_NoWish⟩
  · exact ⟨PySem.W.mg_of X G e_NoPiece, x_NoPiece, y_NoPiece, b_NoPiece, t_NoPiece, i_NoPiece, s_NoPiece⟩
  · exact ⟨PySem.W.mg_of X G e_NoText, x_NoText, y_NoText, b_NoText, t_NoText, i_NoText, s_NoText⟩
  · exact PySem.W.mg_none_of X G n_len
  · exact PySem.W.mg_none_of X G n_isinstance
  · exact PySem.W.mg_none_of X G n_int
  · exact PySem.W.mg_none_of X G n_str
  · exact PySem.W.mg_none_of X G n_bool
  · exact PySem.W.mg_none_of X G n_list
  · exact PySem.W.mg_none_of X G n_tuple
  · exact PySem.W.mg_none_of X G n_all
  · exact PySem.W.mg_none_of X G n_sorted
  · exact PySem.W.mg_none_of X G n_set
  · exact PySem.W.mg_none_of X G n_max
  · exact PySem.W.mg_none_of X G n_min
  · exact PySem.W.mg_none_of X G n_abs
  · exact PySem.W.mg_none_of X G n_range
  · exact PySem.W.mg_none_of X G n_ValueError
section
variable {P : Program} {w : World} {K : PySem.W.Frag} {mg : Str → Option Value} {base : Heap} {c : Ads}
theorem fin (T : Txt K mg c) : ∀ base, Cal P w K mg base CX0 12 "law" ["script"] (spLaw K) := fun base => c_law T
end
end K
open PySem PySem.W PyProof.Rows
set_option maxHeartbeats 0 in
theorem PySem.Challenge.cw_newsways_k78_wishes_and_pieces_written_holds : PySem.Challenge.rw_newsways_k78_wishes_and_pieces_written.Holds := by
  w_on; o_law; k_head; (case hw => w_witness2)
  k_fill
  refine NB.walk1 (k := 12) (l := PySem.Challenge.rw_newsways_k78_wishes_and_pieces_written) rfl rfl ⟨rfl, by decide, by decide⟩ (fun w h Y => PySem.W.kIn_of Y) ?F
  case F =>
    intro w mg h KX G
    refine' K.fin (K.mk_txt KX G ?a0 ?l0 ?c0 ?k0 ?a1 ?l1 ?c1 ?k1 ?a2 ?l2 ?c2 ?k2 ?a3 ?l3 ?c3 ?k3 ?a4 ?l4 ?c4 ?k4 ?a5 ?l5 ?c5 ?k5 ?a6 ?l6 ?c6 ?k6 ?a7 ?l7 ?c7 ?k7 ?a8 ?l8 ?c8 ?k8 ?a9 ?l9 ?c9 ?k9 ?a10 ?l10 ?c10 ?k10 ?a11 ?l11 ?c11 ?k11 ?a12 ?l12 ?c12 ?k12 ?a13 ?l13 ?c13 ?k13 ?a14 ?l14 ?c14 ?k14 ?a15 ?l15 ?c15 ?k15 ?a16 ?l16 ?c16 ?k16 ?a17 ?l17 ?c17 ?k17 ?a18 ?l18 ?c18 ?k18 ?a19 ?l19 ?c19 ?k19 ?a20 ?l20 ?c20 ?k20 ?a21 ?l21 ?c21 ?k21 ?a22 ?l22 ?c22 ?k22 ?a23 ?l23 ?c23 ?k23 ?a24 ?l24 ?c24 ?k24 ?a25 ?l25 ?c25 ?k25 ?a26 ?l26 ?c26 ?k26 ?a27 ?l27 ?c27 ?k27 ?a28 ?l28 ?c28 ?k28 ?a29 ?l29 ?c29 ?k29 ?a30 ?l30 ?c30 ?k30 ?a31 ?l31 ?c31 ?k31 ?a32 ?l32 ?c32 ?k32 ?a33 ?l33 ?c33 ?k33 ?a34 ?l34 ?c34 ?k34 ?g_LETTERS ?r_LETTERS ?g_LONGEST ?r_LONGEST ?g_FIGURES ?r_FIGURES ?g_MOST ?r_MOST ?g_NONE ?r_NONE ?g_OPEN ?r_OPEN ?e_NewsError ?x_NewsError ?y_NewsError ?b_NewsError ?t_NewsError ?i_NewsError ?s_NewsError ?e_NoSpan ?x_NoSpan ?y_NoSpan ?b_NoSpan ?t_NoSpan ?i_NoSpan ?s_NoSpan ?e_NoWish ?x_NoWish ?y_NoWish ?b_NoWish ?t_NoWish ?i_NoWish ?s_NoWish ?e_NoPiece ?x_NoPiece ?y_NoPiece ?b_NoPiece ?t_NoPiece ?i_NoPiece ?s_NoPiece ?e_NoText ?x_NoText ?y_NoText ?b_NoText ?t_NoText ?i_NoText ?s_NoText ?n_len ?n_isinstance ?n_int ?n_str ?n_bool ?n_list ?n_tuple ?n_all ?n_sorted ?n_set ?n_max ?n_min ?n_abs ?n_range ?n_ValueError)
    (case a0 => k_is)
    (case l0 => k_is)
    (case c0 => k_is)
    (case k0 => k_is)
    (case a1 => k_is)
    (case l1 => k_is)
    (case c1 => k_is)
    (case k1 => k_is)
    (case a2 => k_is)
    (case l2 => k_is)
    (case c2 => k_is)
    (case k2 => k_is)
    (case a3 => k_is)
    (case l3 => k_is)
    (case c3 => k_is)
    (case k3 => k_is)
    (case a4 => k_is)
    (case l4 => k_is)
    (case c4 => k_is)
    (case k4 => k_is)
    (case a5 => k_is)
    (case l5 => k_is)
    (case c5 => k_is)
    (case k5 => k_is)
    (case a6 => k_is)
    (case l6 => k_is)
    (case c6 => k_is)
    (case k6 => k_is)
    (case a7 => k_is)
    (case l7 => k_is)
    (case c7 => k_is)
    (case k7 => k_is)
    (case a8 => k_is)
    (case l8 => k_is)
    (case c8 => k_is)
    (case k8 => k_is)
    (case a9 => k_is)
    (case l9 => k_is)
    (case c9 => k_is)
    (case k9 => k_is)
    (case a10 => k_is)
    (case l10 => k_is)
    (case c10 => k_is)
    (case k10 => k_is)
    (case a11 => k_is)
    (case l11 => k_is)
    (case c11 => k_is)
    (case k11 => k_is)
    (case a12 => k_is)
    (case l12 => k_is)
    (case c12 => k_is)
    (case k12 => k_is)
    (case a13 => k_is)
    (case l13 => k_is)
    (case c13 => k_is)
    (case k13 => k_is)
    (case a14 => k_is)
    (case l14 => k_is)
    (case c14 => k_is)
    (case k14 => k_is)
    (case a15 => k_is)
    (case l15 => k_is)
    (case c15 => k_is)
    (case k15 => k_is)
    (case a16 => k_is)
    (case l16 => k_is)
    (case c16 => k_is)
    (case k16 => k_is)
    (case a17 => k_is)
    (case l17 => k_is)
    (case c17 => k_is)
    (case k17 => k_is)
    (case a18 => k_is)
    (case l18 => k_is)
    (case c18 => k_is)
    (case k18 => k_is)
    (case a19 => k_is)
    (case l19 => k_is)
    (case c19 => k_is)
    (case k19 => k_is)
    (case a20 => k_is)
    (case l20 => k_is)
    (case c20 => k_is)
    (case k20 => k_is)
    (case a21 => k_is)
    (case l21 => k_is)
    (case c21 => k_is)
    (case k21 => k_is)
    (case a22 => k_is)
    (case l22 => k_is)
    (case c22 => k_is)
    (case k22 => k_is)
    (case a23 => k_is)
    (case l23 => k_is)
    (case c23 => k_is)
    (case k23 => k_is)
    (case a24 => k_is)
    (case l24 => k_is)
    (case c24 => k_is)
    (case k24 => k_is)
    (case a25 => k_is)
    (case l25 => k_is)
    (case c25 => k_is)
    (case k25 => k_is)
    (case a26 => k_is)
    (case l26 => k_is)
    (case c26 => k_is)
    (case k26 => k_is)
    (case a27 => k_is)
    (case l27 => k_is)
    (case c27 => k_is)
    (case k27 => k_is)
    (case a28 => k_is)
    (case l28 => k_is)
    (case c28 => k_is)
    (case k28 => k_is)
    (case a29 => k_is)
    (case l29 => k_is)
    (case c29 => k_is)
    (case k29 => k_is)
    (case a30 => k_is)
    (case l30 => k_is)
    (case c30 => k_is)
    (case k30 => k_is)
    (case a31 => k_is)
    (case l31 => k_is)
    (case c31 => k_is)
    (case k31 => k_is)
    (case a32 => k_is)
    (case l32 => k_is)
    (case c32 => k_is)
    (case k32 => k_is)
    (case a33 => k_is)
    (case l33 => k_is)
    (case c33 => k_is)
    (case k33 => k_is)
    (case a34 => k_is)
    (case l34 => k_is)
    (case c34 => k_is)
    (case k34 => k_is)
    (case g_LETTERS => k_is)
    (case r_LETTERS => exact ⟨_, rfl⟩)
    (case g_LONGEST => k_is)
    (case r_LONGEST => exact ⟨_, rfl⟩)
    (case g_FIGURES => k_is)
    (case r_FIGURES => exact ⟨_, rfl⟩)
    (case g_MOST => k_is)
    (case r_MOST => exact ⟨_, rfl⟩)
    (case g_NONE => k_is)
    (case r_NONE => exact ⟨_, rfl⟩)
    (case g_OPEN => k_is)
    (case r_OPEN => exact ⟨_, rfl⟩)
    (case e_NewsError => k_is)
    (case x_NewsError => k_exc)
    (case y_NewsError => k_is)
    (case b_NewsError => k_is)
    (case t_NewsError => k_is)
    (case i_NewsError => k_is)
    (case s_NewsError => k_is)
    (case e_NoSpan => k_is)
    (case x_NoSpan => k_exc)
    (case y_NoSpan => k_is)
    (case b_NoSpan => k_is)
    (case t_NoSpan => k_is)
    (case i_NoSpan => k_is)
    (case s_NoSpan => k_is)
    (case e_NoWish => k_is)
    (case x_NoWish => k_exc)
    (case y_NoWish => k_is)
    (case b_NoWish => k_is)
    (case t_NoWish => k_is)
    (case i_NoWish => k_is)
    (case s_NoWish => k_is)
    (case e_NoPiece => k_is)
    (case x_NoPiece => k_exc)
    (case y_NoPiece => k_is)
    (case b_NoPiece => k_is)
    (case t_NoPiece => k_is)
    (case i_NoPiece => k_is)
    (case s_NoPiece => k_is)
    (case e_NoText => k_is)
    (case x_NoText => k_exc)
    (case y_NoText => k_is)
    (case b_NoText => k_is)
    (case t_NoText => k_is)
    (case i_NoText => k_is)
    (case s_NoText => k_is)
    (case n_len => k_is)
    (case n_isinstance => k_is)
    (case n_int => k_is)
    (case n_str => k_is)
    (case n_bool => k_is)
    (case n_list => k_is)
    (case n_tuple => k_is)
    (case n_all => k_is)
    (case n_sorted => k_is)
    (case n_set => k_is)
    (case n_max => k_is)
    (case n_min => k_is)
    (case n_abs => k_is)
    (case n_range => k_is)
    (case n_ValueError => k_is)

