import PyProof.Rows.All
import Wide.All
import OpenK.AllK
import Wide.FinOn
import HandS.ForMost
import KE.KEqDict
import HandS.ForExc
import HandS.Wide
import HandS.IsInst
import HandS.TupAny
import HandS.FStr
import HandS.Small
import HandS.SetKeys
import PyProof.ReprReads
import HandS.Text
import KE.IntTextText
import KE.IntTextLaws
import HandS.Iter
import HandS.Walk
import HandS.More
import HandS.SetTxt0
import HandS.SetFor
import HandS.Strs
import PyProof.Rows.TmSorted
import PyProof.Rows.StrMeet
import HandS.RaiseMore
import PyProof.ReprRoads
import PyProof.ReprBulk
import PyProof.CallFns
import HandS.ExcIs
import HandS.Deep
import PyProof.Rows.StrNews2
import PySem.Challenge.RW_newsways_k82_whole_texts_of_no_letter
set_option Elab.async false
set_option linter.all false
set_option maxRecDepth 100000
set_option maxHeartbeats 4000000
/-! NC: a list, a tuple, a dict is unlike a text. -/
namespace NB
open PySem PySem.Spec PyProof.Rows L2 PySem.SeqAt
theorem sub_str_dict : isSubtype (Value.type "str") (Value.type "dict") = pure false := by kernel_rfl
theorem str_ne_off_dict (b : Str) (u : Tok) (l : Addr) (es : Array DictEntry) (ep : Nat) :
    Meets (Builtin.«str.__ne__» ⟨[.str b u, .ref l], []⟩) (fun _ R s => s.heap.get? l = some { cls := .type "dict", dict := none, data := .dict es ep, slots := #[] } ∧ R (.ok (.ret .notImplemented)) s) :=
  .of_wp fun prog w A R s h => by
    obtain ⟨hp, g, d, tk, os⟩ := s
    obtain ⟨hl, h⟩ := h
    wp_walk using wpAny_loadPart' hl, wpAny_load hl
    exact ⟨_, rfl, h⟩
section
variable {prog : Program} {w : World} {A : Around} {s : Shared}
theorem rcNe_dict_str {l : Addr} {es : Array DictEntry} {ep : Nat} (b : Str) (u : Tok) (ho : s.heap.get? l = some { cls := .type "dict", dict := none, data := .dict es ep, slots := #[] }) (hu : A.units < cLine) : RcNeAt A s (.ref l) (.str b u) true := fun prog w E Q h => by
  have ti : s.TypeIs (.ref l) "dict" := ⟨_, ho, rfl⟩
  exact rc_ne_decline_or (k := false) ti (typeIs_str s b u) (by decide) sub_str_dict F.slot_dict_ne F.slot_str_ne_refl
    (fun _ hq => by
      refine wpAny_call_entry F.slot_dict_ne ti F.entry_dict_ne ?_ (F.args_dict_ne_2 _ _)
      show wpAny _ _ (Builtin.Dict.dictSlotArgs "__ne__" ⟨[.ref l, .str b u], []⟩ >>= _) _ _ s
      refine wpAny_bind ?_
      unfold Builtin.Dict.dictSlotArgs
      refine wpAny_bind (wpAny_notOrdered_dict ti ?_)
      show wpAny _ _ (pure (Value.ref l, Value.str b u)) _ _ s
      refine wpAny_pure ?_
      refine wpAny_bind (wpAny_isInstance (T := "str") (typeIs_str s b u) sub_str_dict ?_)
      simp only [Bool.not_false, if_true]
      exact wpAny_bind (wpAny_rule (wpAny_pure ⟨_, rfl, hq⟩)))
    (fun _ hq => call_meets F.slot_str_ne_refl (typeIs_str s b u) F.entry_str_ne (F.args_str_ne_2 _ _) (str_ne_off_dict b u l es ep) ⟨ho, hq⟩)
    (fun _ hq => wpAny_of_eq (rfl : isSame (.ref l) (.str b u) = pure false) hq) (.inr hu) h
end
end NB

/-! NB: words for the newsways proofs: a def of the text with its promise (Def, Cal), data that stands (Dat), what is kept (Kp), readings step by step. -/
namespace NB
open PySem PySem.Spec PyProof.Rows L2

/-! ### promises by the number of arguments -/
def sp1 (g : V → Hp → VK → XK → Prop) : Sp := fun vs H Q E => ∃ a, vs = [a] ∧ g a H Q E
def sp2 (g : V → V → Hp → VK → XK → Prop) : Sp := fun vs H Q E => ∃ a b, vs = [a, b] ∧ g a b H Q E
def sp3 (g : V → V → V → Hp → VK → XK → Prop) : Sp := fun vs H Q E => ∃ a b c, vs = [a, b, c] ∧ g a b c H Q E
theorem sp1_len {g : V → Hp → VK → XK → Prop} {x : Str} : ∀ vs H Q E, sp1 g vs H Q E → vs.length = [x].length := by
  rintro vs H Q E ⟨a, rfl, _⟩; rfl
theorem sp2_len {g : V → V → Hp → VK → XK → Prop} {x y : Str} : ∀ vs H Q E, sp2 g vs H Q E → vs.length = [x, y].length := by
  rintro vs H Q E ⟨a, b, rfl, _⟩; rfl
theorem sp3_len {g : V → V → V → Hp → VK → XK → Prop} {x y z : Str} : ∀ vs H Q E, sp3 g vs H Q E → vs.length = [x, y, z].length := by
  rintro vs H Q E ⟨a, b, c, rfl, _⟩; rfl
theorem sp1_in {g : V → Hp → VK → XK → Prop} {a H Q E} (h : g a H Q E) : sp1 g ([a] ++ []) H Q E := ⟨a, rfl, h⟩
theorem sp2_in {g : V → V → Hp → VK → XK → Prop} {a b H Q E} (h : g a b H Q E) : sp2 g ([a, b] ++ []) H Q E := ⟨a, b, rfl, h⟩
theorem sp3_in {g : V → V → V → Hp → VK → XK → Prop} {a b c H Q E} (h : g a b c H Q E) : sp3 g ([a, b, c] ++ []) H Q E := ⟨a, b, c, rfl, h⟩

/-! ### a def of the text, and its promise kept -/
/-- the def st stands at the module's name x -/
structure Def (K : PySem.W.Frag) (mg : Str → Option Value) (x : Str) (st : Stmt) (ps : List Str) : Prop where
  ex : ∃ f fd, Fun K x x st f fd ∧ mg x = some (.ref f) ∧ ∀ us : List Value, us.length = ps.length → bindArgs fd ⟨us, []⟩ = pure (ps.zip us)
/-- the module's name x is a def that keeps the promise sp -/
structure Cal (P : Program) (w : World) (K : PySem.W.Frag) (mg : Str → Option Value) (base : Heap) (CX : CXT) (k : Nat) (x : Str) (ps : List Str) (sp : Sp) : Prop where
  ex : ∃ f fd, FnOk P w K mg base CX k f fd ps sp ∧ mg x = some (.ref f) ∧ PySem.W.keepIn K (.ref f) = true ∧ (∀ us : List Value, us.length = ps.length → bindArgs fd ⟨us, []⟩ = pure (ps.zip us)) ∧ ∃ o, K.lookup f = some o ∧ o.data = .func fd
section
variable {P : Program} {w : World} {K : PySem.W.Frag} {mg : Str → Option Value} {base : Heap} {CX : CXT} {x : Str} {st : Stmt} {N ps : List Str} {k j : Nat} {sp sp' : Sp}
theorem Def.cal (D : Def K mg x st ps) (S : FnScope N ps (defScope st)) (len : ∀ vs H Q E, sp vs H Q E → vs.length = ps.length)
    (hb : ∀ (f : Addr) (cdv : Value) (A : Around) (outer : List Env) (s : Shared) (H : Hp) (vs : List V) (Q : VK) (E : XK), Room k (A.deeper (envOfC x (defScope st) s.heap.objs.size f cdv)) → sp vs H Q E →
      ∃ t, PSs (cxOf CX0 P w K mg base N x (defScope st) f cdv A outer s H E).nox (defBody st) t ∧ t { nx := fun _ H' => Q .non H', rt := Q } (start N vs) H) : Cal P w K mg base CX0 (k + 1) x ps sp := by
  obtain ⟨f, fd, F, hm, b⟩ := D.ex
  obtain ⟨oc, od, kV, doc, pm, an, cdv, ct, osl, e, lk, _⟩ := id F.ex
  exact ⟨f, fd, F.ok S len (hb f), hm, F.kp, b, _, lk, rfl⟩
theorem Def.calX (D : Def K mg x st ps) (S : FnScope N ps (defScope st)) (len : ∀ vs H Q E, sp vs H Q E → vs.length = ps.length)
    (hb : ∀ (f : Addr) (cdv : Value) (A : Around) (outer : List Env) (s : Shared) (H : Hp) (vs : List V) (Q : VK) (E : XK), Room k (A.deeper (envOfC x (defScope st) s.heap.objs.size f cdv)) → sp vs H Q E →
      ∃ t, PSs (cxOf (L2.CX P w) P w K mg base N x (defScope st) f cdv A outer s H E) (defBody st) t ∧ t { nx := fun _ H' => Q .non H', rt := Q } (start N vs) H) : Cal P w K mg base (L2.CX P w) (k + 1) x ps sp := by
  obtain ⟨f, fd, F, hm, b⟩ := D.ex
  obtain ⟨oc, od, kV, doc, pm, an, cdv, ct, osl, e, lk, _⟩ := id F.ex
  exact ⟨f, fd, F.okX S len (hb f), hm, F.kp, b, _, lk, rfl⟩
theorem Def.mk' {h : Heap} {f : Addr} {oc : Value} {od an : Option Addr} {sl : Array (Option Value)} {kV dc pm cd ct : Value} (X : K.In h) (G : h.Ns mainGlobals mg) (a : PySem.W.nsIn K mainGlobals x = some (some (.ref f)))
    (l : K.lookup f = some ⟨oc, od, .func (PySem.W.fnOf x x (defArgs st) (defBody st) (defScope st) .none kV dc pm an cd ct), sl⟩) (c : PySem.W.codeIn K cd x = true) (k : PySem.W.keepIn K (.ref f) = true)
    (b : ∀ (kV doc pm : Value) (an : Option Addr) (cdv ct : Value) (us : List Value), us.length = ps.length → bindArgs (PySem.W.fnOf x x (defArgs st) (defBody st) (defScope st) .none kV doc pm an cdv ct) ⟨us, []⟩ = pure (ps.zip us)) : Def K mg x st ps :=
  ⟨f, _, fun_mk (st := st) l c k, PySem.W.mg_of X G a, b _ _ _ _ _ _⟩
theorem Cal.mono (C : Cal P w K mg base CX j x ps sp) (h : j ≤ k) : Cal P w K mg base CX k x ps sp := by
  obtain ⟨f, fd, F, r⟩ := C.ex
  exact ⟨f, fd, F.mono h, r⟩
theorem Cal.imp (C : Cal P w K mg base CX k x ps sp) (h : ∀ vs H Q E, sp' vs H Q E → sp vs H Q E) : Cal P w K mg base CX k x ps sp' := by
  obtain ⟨f, fd, F, r⟩ := C.ex
  exact ⟨f, fd, F.imp h, r⟩
end
section
variable {X : Cx} {CX : CXT} {x : Str} {ps : List Str} {k : Nat} {sp : Sp} {E : XK} {p pos : Pos} {e : Expr} {es : List Expr} {t : TA}
theorem pe_cal (C : Cal X.prog X.w X.K X.mg X.base CX k x ps sp) (hr : Room k X.A) (hx : Passes CX X E) (ha : PA X (e :: es) t) (hg : Gl X x := by rfl)
    (hdb : (x == ("__debug__" : Str)) = false := by decide) (he : starEach (e :: es) X.env = (false, eval e X.env) :: starEach es X.env := by rfl) (hpl : (backTo pos (starEach es X.env)).any (·.1) = false := by rfl) :
    PE X (.Call (.Name x p) (e :: es) [] pos) (tCall sp [] E t) := by
  obtain ⟨f, fd, F, hm, hk, hb, _⟩ := C.ex
  exact pe_call F hr hg hm hk (Binds.all hb) .nil hx ha hdb he hpl
end

/-- a constant of the module -/
structure Glo (mg : Str → Option Value) (x : Str) (v : V) : Prop where
  ex : ∃ u, mg x = some u ∧ RelV v u
/-- an exception class of the text, over ValueError, without an __init__ -/
structure ExcC (K : PySem.W.Frag) (mg : Str → Option Value) (x : Str) (C : Addr) : Prop where
  gC : mg x = some (.ref C)
  xC : PySem.W.excIn K C [.type "ValueError", .type "Exception", .type "BaseException", .type "object"] "ValueError.__new__" = true
  kC : PySem.W.keepIn K (.ref C) = true
  bC : PySem.W.subIn K (.ref C) (.type "BaseException") = some true
  tC : PySem.W.typeIn K (.ref C) = some (.type "type")
  iC : PySem.W.isClsIn K C = true
  sC : PySem.W.subIn K (.ref C) (.ref C) = some true
section
variable {X : Cx} {x m : Str} {v : V} {p p2 pos : Pos} {j : Nat} {C : Addr} {W : WX}
theorem pe_glo (g : Glo X.mg x v) (hg : Gl X x := by rfl) (hd : (x == ("__debug__" : Str)) = false := by decide) : PE X (.Name x p) (tC v) := by
  obtain ⟨u, h, r⟩ := g.ex
  exact pe_glob hg h r hd
/-- raise X('m') -/
theorem ps_exc {pos2 : Pos} (e : ExcC X.K X.mg x C) (hc : X.calm = true) (tk : Takes X W) (hg : Gl X x := by rfl) (hdb : (x == ("__debug__" : Str)) = false := by decide) :
    PS X (.Raise (some (.Call (.Name x p) [.Constant (.str m) j p2] [] pos)) none pos2) (fun _ σ H => W (.ref C) none σ H) := by
  exact ps_raise hc tk (pmk_own PySem.F.excBase_ValueError e.xC e.gC e.kC (raises_own e.bC e.tC) hg hdb)
end
/-- the law's promise: True, whatever the script -/
def spLaw (K : PySem.W.Frag) : Sp := sp1 fun v H Q _ => ∃ (a : Addr) (ns : List Int), v = .ref a ∧ SqL K H a (ns.map V.int) ∧ ns.length ≤ 63 ∧ ∀ H', Q (.bl true) H'
theorem walk1 {k : Nat} {l : PySem.W.OpenLaw} {q : Program} {loose : List Str} {XP : (Str → Option Value) → Heap → Prop} {YP : World → Heap → Prop} {d : DefRec} {K : Params → PySem.W.Frag} (hn : l.most = some 63) (hdf : d.params.defaults = []) (hr : Room k callerA)
    (hY : ∀ (w : World) (h : Heap), YP w h → (K w.params).In h)
    (F : ∀ (w : World) (mg : Str → Option Value) (h : Heap), (K w.params).In h → h.Ns mainGlobals mg → ∀ base : Heap, Cal l.prog w (K w.params) mg base CX0 k d.name ["script"] (spLaw (K w.params))) :
    PySem.W.WalkO q loose XP YP l.row.toRowW d [] (fun f vs => PySem.call f vs) := by
  refine L2.walk_of (n := 63) (k := k) (x := "script") (CX := fun _ => CX0) (sp := fun w => spLaw (K w.params)) hn (by decide) hdf hr hY ?_ (fun _ _ a ns hl _ hS => ⟨.ref a, rfl, a, ns, rfl, hS, hl, fun _ => rfl⟩) fun _ _ _ _ _ z => z
  intro w mg fa h KX G hmg
  obtain ⟨f, fd, F0, hm, _, hb, o, lo, ho⟩ := (F w mg h KX G h).ex
  have e : f = fa := by
    have q := hm.symm.trans hmg
    injection q with q
    injection q
  subst e
  refine ⟨fd, fun s u => .of_eq (hb [u] rfl), fun base _ _ => ?_⟩
  obtain ⟨f', fd', F', hm', _, _, o', lo', ho'⟩ := (F w mg h KX G base).ex
  have q := hm.symm.trans hm'
  injection q with q
  injection q with q
  subst q
  rw [lo] at lo'
  injection lo' with q
  subst q
  rw [ho] at ho'
  injection ho' with q
  subst q
  exact F'

/-! ### what is kept: all but what stands where ex says, and every tuple -/
def isTup : HO → Bool
  | .tup _ => true
  | _ => false
def Kp (ex : Addr → Prop) (H H' : Hp) : Prop := ∀ a o, H a = some o → (ex a → isTup o = true) → H' a = some o
/-- nothing changes -/
abbrev No : Addr → Prop := fun _ => False
abbrev All : Addr → Prop := fun _ => True
section
variable {ex ex' : Addr → Prop} {H H1 H2 H' : Hp} {p a : Addr} {o : HO}
theorem Kp.refl : Kp ex H H := fun _ _ h _ => h
theorem Kp.trans (a : Kp ex H H1) (b : Kp ex H1 H2) : Kp ex H H2 := fun c o h n => b c o (a c o h n) n
theorem Kp.mono (a : Kp ex H H1) (h : ∀ c, ex c → ex' c) : Kp ex' H H1 := fun c o q n => a c o q fun z => n (h c z)
theorem Kp.no (a : Kp No H H1) : Kp ex H H1 := a.mono fun _ z => z.elim
theorem Kp.new (k : Kp ex H H1) (n : H1 p = none) : Kp ex H (upd H1 p o) := fun c u q z => by
  have e := k c u q z
  rw [upd_ne (ne_of_none e n)]; exact e
theorem Kp.mut (k : Kp ex H H1) (n : ex p) {u : HO} (hu : H1 p = some u) (ht : isTup u = false) : Kp ex H (upd H1 p o) := fun c v q z => by
  have e := k c v q z
  by_cases h : c = p
  · subst h
    rw [hu] at e
    cases e
    rw [ht] at z
    exact absurd (z n) Bool.false_ne_true
  · rw [upd_ne h]; exact e
/-- a thing that was not there ahead is written -/
theorem Kp.fresh (k : Kp ex H H1) (n : H p = none) : Kp ex H (upd H1 p o) := fun c u q z => by
  rw [upd_ne (ne_of_none q n)]; exact k c u q z
/-- what was not there ahead may change -/
theorem Kp.drop (k : Kp (fun c => ex c ∨ c = p) H H1) (n : H p = none) : Kp ex H H1 := fun c u q z =>
  k c u q fun h => h.elim z fun h => by subst h; rw [n] at q; cases q
theorem Kp.at (k : Kp ex H H1) (h : H a = some o) (n : ¬ ex a) : H1 a = some o := k a o h fun z => absurd z n
theorem Kp.free (k : Kp ex H H1) (h : H1 a = none) (n : ¬ ex a) : H a = none := by
  cases q : H a with
  | none => rfl
  | some o => rw [k.at q n] at h; cases h
theorem Kp.tup (k : Kp ex H H1) {xs : List V} (h : H a = some (.tup xs)) : H1 a = some (.tup xs) := k a _ h fun _ => rfl
theorem Kp.sql {K : PySem.W.Frag} (k : Kp No H H1) {xs : List V} (h : SqL K H a xs) : SqL K H1 a xs := Same.seq (fun c u q => k c u q fun z => z.elim) h
theorem Kp.lst (k : Kp No H H1) {xs : List V} (h : H a = some (.lst xs)) : H1 a = some (.lst xs) := k a _ h fun z => z.elim
theorem Kp.same (k : Same H H1) : Kp ex H H1 := fun c u q _ => k c u q
theorem Kp.isSame (k : Kp No H H1) : Same H H1 := fun c u q => k c u q fun z => z.elim
end

def keyD : Key → PyData
  | .inl i => .int i
  | .inr x => .str x
/-! ### data that stands: none, bools, ints, texts, tuples; lists and dicts away from ex -/
mutual
inductive Dat (ex : Addr → Prop) (H : Hp) : V → PyData → Prop
  | non : Dat ex H .non .none
  | bl (b : Bool) : Dat ex H (.bl b) (.bool b)
  | int (i : Int) : Dat ex H (.int i) (.int i)
  | str (x : Str) (h : x.length ≤ 1000000) : Dat ex H (.str x) (.str x)
  | tup {a : Addr} {xs : List V} {ds : List PyData} : H a = some (.tup xs) → Dats ex H xs ds → Dat ex H (.ref a) (.tuple ds)
  | lst {a : Addr} {xs : List V} {ds : List PyData} : ¬ ex a → H a = some (.lst xs) → Dats ex H xs ds → Dat ex H (.ref a) (.list ds)
  | dct {a : Addr} {kvs : List (Key × V)} {ds : List PyData} : ¬ ex a → H a = some (.dK kvs) → Dats ex H (kvs.map Prod.snd) ds → Dat ex H (.ref a) (.dict ((kvs.map fun p => keyD p.1).zip ds))
inductive Dats (ex : Addr → Prop) (H : Hp) : List V → List PyData → Prop
  | nil : Dats ex H [] []
  | cons {v : V} {vs : List V} {d : PyData} {ds : List PyData} : Dat ex H v d → Dats ex H vs ds → Dats ex H (v :: vs) (d :: ds)
end
section
variable {ex ex' : Addr → Prop} {H H1 : Hp}
mutual
theorem Dat.mono (k : Kp ex' H H1) (i : ∀ a, ex' a → ex a) : ∀ {v : V} {d : PyData}, Dat ex H v d → Dat ex H1 v d
  | _, _, .non => .non
  | _, _, .bl b => .bl b
  | _, _, .int i => .int i
  | _, _, .str x h => .str x h
  | _, _, .tup h r => .tup (k.tup h) (Dats.mono k i r)
  | _, _, .lst n h r => .lst n (k.at h fun z => n (i _ z)) (Dats.mono k i r)
  | _, _, .dct n h r => .dct n (k.at h fun z => n (i _ z)) (Dats.mono k i r)
theorem Dats.mono (k : Kp ex' H H1) (i : ∀ a, ex' a → ex a) : ∀ {vs : List V} {ds : List PyData}, Dats ex H vs ds → Dats ex H1 vs ds
  | _, _, .nil => .nil
  | _, _, .cons h r => .cons (Dat.mono k i h) (Dats.mono k i r)
end
theorem Dat.kp {v : V} {d : PyData} (h : Dat ex H v d) (k : Kp ex H H1) : Dat ex H1 v d := h.mono k fun _ z => z
theorem Dats.kp {vs : List V} {ds : List PyData} (h : Dats ex H vs ds) (k : Kp ex H H1) : Dats ex H1 vs ds := h.mono k fun _ z => z
mutual
theorem Dat.weak (i : ∀ a, ex' a → ex a) : ∀ {v : V} {d : PyData}, Dat ex H v d → Dat ex' H v d
  | _, _, .non => .non
  | _, _, .bl b => .bl b
  | _, _, .int i => .int i
  | _, _, .str x h => .str x h
  | _, _, .tup h r => .tup h (Dats.weak i r)
  | _, _, .lst n h r => .lst (fun z => n (i _ z)) h (Dats.weak i r)
  | _, _, .dct n h r => .dct (fun z => n (i _ z)) h (Dats.weak i r)
theorem Dats.weak (i : ∀ a, ex' a → ex a) : ∀ {vs : List V} {ds : List PyData}, Dats ex H vs ds → Dats ex' H vs ds
  | _, _, .nil => .nil
  | _, _, .cons h r => .cons (Dat.weak i h) (Dats.weak i r)
end
mutual
theorem Dat.dp {K : PySem.W.Frag} : ∀ {v : V} {d : PyData}, Dat ex H v d → d.hasDict = false → Dp K H v d
  | _, _, .non, _ => .non
  | _, _, .bl b, _ => .bl b
  | _, _, .int i, _ => .int i
  | _, _, .str x _, _ => .str x
  | _, _, .tup h r, e => .tup (SqT.of h) (Dats.dp r (by simpa [PyData.hasDict] using e))
  | _, _, .lst n h r, e => .lst (SqL.of h) (Dats.dp r (by simpa [PyData.hasDict] using e))
  | _, _, .dct n h r, e => absurd e (by simp [PyData.hasDict])
theorem Dats.dp {K : PySem.W.Frag} : ∀ {vs : List V} {ds : List PyData}, Dats ex H vs ds → PyData.hasDictAll ds = false → DpAll K H vs ds
  | _, _, .nil, _ => .nil
  | _, _, .cons h r, e => by
    simp only [PyData.hasDictAll, Bool.or_eq_false_iff] at e
    exact .cons (Dat.dp h e.1) (Dats.dp r e.2)
end
theorem noDict {d : PyData} (h : SeqAt.shaped d = true) : d.hasDict = false := PyData.hasDict_of_canLay d (SeqAt.canLay_of_shaped h)
theorem Dats.len : ∀ {vs : List V} {ds : List PyData}, Dats ex H vs ds → vs.length = ds.length
  | _, _, .nil => rfl
  | _, _, .cons _ r => congrArg Nat.succ (Dats.len r)
theorem Dats.get : ∀ {vs : List V} {ds : List PyData} {i : Nat} {v : V}, Dats ex H vs ds → vs[i]? = some v → ∃ d, ds[i]? = some d ∧ Dat ex H v d
  | _, _, i, _, .nil, e => by simp at e
  | _, _, 0, _, .cons h _, e => by simp at e; subst e; exact ⟨_, rfl, h⟩
  | _ :: vs, _ :: ds, i + 1, v, .cons _ r, e => by
    have e' : vs[i]? = some v := by simpa using e
    obtain ⟨d, h1, h2⟩ := Dats.get (vs := vs) (i := i) (v := v) r e'
    exact ⟨d, by simpa using h1, h2⟩
theorem Dats.append : ∀ {vs us : List V} {ds es : List PyData}, Dats ex H vs ds → Dats ex H us es → Dats ex H (vs ++ us) (ds ++ es)
  | _, _, _, _, .nil, r => r
  | _, _, _, _, .cons h t, r => .cons h (Dats.append t r)
theorem Dats.strs : ∀ xs : List Str, (∀ x ∈ xs, x.length ≤ 1000000) → Dats ex H (xs.map V.str) (xs.map PyData.str)
  | [], _ => .nil
  | x :: xs, h => .cons (.str x (h x List.mem_cons_self)) (Dats.strs xs fun y hy => h y (List.mem_cons_of_mem _ hy))
theorem Dats.ints : ∀ xs : List Int, Dats ex H (xs.map V.int) (xs.map PyData.int)
  | [] => .nil
  | x :: xs => .cons (.int x) (Dats.ints xs)
theorem Dats.one {v : V} {d : PyData} (h : Dat ex H v d) : Dats ex H [v] [d] := .cons h .nil
end

/-! ### readings step by step -/
section
variable {K : PySem.W.Frag} {σ : L2.St} {H : Hp} {D : Ends} {Q : VK} {te ta tb tc : TE} {t u : TS} {x y z : V} {QA : List V → Hp → Prop} {QB : Bool → Hp → Prop} {tt uu : TT} {g : TG} {tr : TA} {i : Nat}
theorem r_seq (h : t { D with nx := u D } σ H) : tSeq t u D σ H := h
theorem r_nx (h : D.nx σ H) : tNext D σ H := h
theorem r_asg (h : te σ H fun x H1 => g x σ H1 D.nx) : tAsg te g D σ H := h
theorem r_name {QS : L2.St → Hp → Prop} (h : QS (σ.set i (some x)) H) : gName i x σ H QS := h
theorem r_ret (h : te σ H D.rt) : tRet te D σ H := h
theorem r_retN (h : D.rt .non H) : tRetN D σ H := h
theorem r_if (h : tt σ H fun b H1 => if b = true then t D σ H1 else u D σ H1) : tIfS tt t u D σ H := h
theorem r_drop (h : te σ H fun _ H1 => D.nx σ H1) : tDrop te D σ H := h
theorem r_brk (h : D.bk σ H) : tBreak D σ H := h
theorem r_cnt (h : D.ct σ H) : tCont D σ H := h
theorem r_var (e : σ[i]? = some (some x)) (h : Q x H) : tVar i σ H Q := ⟨x, e, h⟩
theorem r_c (h : Q x H) : tC x σ H Q := h
theorem r_op {r : R2} (h : ta σ H fun x H1 => tb σ H1 fun y H2 => r x y H2 Q) : tOp r ta tb σ H Q := h
theorem r_un {r : V → Hp → VK → Prop} (h : ta σ H fun x H1 => r x H1 Q) : tUn r ta σ H Q := h
theorem r_test (h : te σ H fun x H' => ∃ k, x = .bl k ∧ QB k H') : tTest te σ H QB := h
theorem r_tB (h : te σ H fun x H' => ∃ k, x = .bl k ∧ QB k H') : tB te σ H QB := h
theorem r_bl {b : Bool} {P : Bool → Prop} (h : P b) : ∃ k, V.bl b = .bl k ∧ P k := ⟨b, rfl, h⟩
theorem r_and (h : tt σ H fun c H1 => if c = true then uu σ H1 QB else QB false H1) : tAnd tt uu σ H QB := h
theorem r_or (h : tt σ H fun c H1 => if c = true then QB true H1 else uu σ H1 QB) : tOr tt uu σ H QB := h
theorem r_not (h : tt σ H fun c H1 => QB (!c) H1) : tNot tt σ H QB := h
theorem r_andV (h : ta σ H fun x H1 => ∃ c, x = .bl c ∧ if c = true then tb σ H1 Q else Q (.bl false) H1) : tAndV ta tb σ H Q := h
theorem r_orV (h : ta σ H fun x H1 => ∃ c, x = .bl c ∧ if c = true then Q (.bl true) H1 else tb σ H1 Q) : tOrV ta tb σ H Q := h
theorem r_notV (h : ta σ H fun x H1 => ∃ c, x = .bl c ∧ Q (.bl (!c)) H1) : tNotV ta σ H Q := h
theorem r_ife (h : tt σ H fun c H1 => if c = true then ta σ H1 Q else tb σ H1 Q) : tIf tt ta tb σ H Q := h
theorem r_chain {r r' : R2} (h : ta σ H fun x H1 => tb σ H1 fun y H2 => r x y H2 fun z H3 => ∃ k, z = .bl k ∧ (if k = true then tc σ H3 fun w' H4 => r' y w' H4 Q else Q (.bl false) H3)) : tChain r r' ta tb tc σ H Q := h
theorem r_nil (h : QA [] H) : tNil σ H QA := h
theorem r_cons (h : ta σ H fun x H1 => tr σ H1 fun xs H2 => QA (x :: xs) H2) : tCons ta tr σ H QA := h
theorem r_call {sp : Sp} {dvs : List V} {E : XK} (h : tr σ H fun vs H1 => sp (vs ++ dvs) H1 Q E) : tCall sp dvs E tr σ H Q := h
theorem r_cb {r : List V → Hp → VK → Prop} (h : tr σ H fun vs H1 => r vs H1 Q) : tCB r tr σ H Q := h
/-- a new tuple, a new list -/
def NewT (xs : List V) (H : Hp) (Q : VK) : Prop := xs.length ≤ sizeLine ∧ ∀ p, H p = none → Q (.ref p) (upd H p (.tup xs))
def NewL (xs : List V) (H : Hp) (Q : VK) : Prop := xs.length ≤ sizeLine ∧ ∀ p, H p = none → Q (.ref p) (upd H p (.lst xs))
theorem r_tup (h : tr σ H fun xs H1 => NewT xs H1 Q) : tTup tr σ H Q := h
theorem r_lst (h : tr σ H fun xs H1 => NewL xs H1 Q) : tLst tr σ H Q := h
theorem r_newT {xs : List V} (hl : xs.length ≤ 100000) (k : ∀ p H', H p = none → Kp No H H' → H' p = some (.tup xs) → Q (.ref p) H') : NewT xs H Q :=
  ⟨Nat.le_trans hl (by decide), fun p np => k p _ np (Kp.new Kp.refl np) upd_same⟩
theorem r_newL {xs : List V} (hl : xs.length ≤ 100000) (k : ∀ p H', H p = none → Kp No H H' → H' p = some (.lst xs) → Q (.ref p) H') : NewL xs H Q :=
  ⟨Nat.le_trans hl (by decide), fun p np => k p _ np (Kp.new Kp.refl np) upd_same⟩
theorem r_isN (h : ta σ H fun x H1 => Q (.bl (decide (x = .non))) H1) : tIsN ta σ H Q := h
theorem r_notN (h : ta σ H fun x H1 => Q (.bl (!decide (x = .non))) H1) : tNotN ta σ H Q := h
theorem r_part0 {QO : Option Int → Hp → Prop} (h : QO none H) : tNoPart σ H QO := h
theorem r_part {QO : Option Int → Hp → Prop} (h : te σ H fun x H1 => ∃ i, x = .int i ∧ QO (some i) H1) : tPart te σ H QO := h
theorem r_int {j : Int} {P : Int → Prop} (h : P j) : ∃ i, V.int j = .int i ∧ P i := ⟨j, rfl, h⟩
theorem r_sl {r : V → Option Int → Option Int → Hp → VK → Prop} {tl th : TO} (h : te σ H fun x H1 => tl σ H1 fun l H2 => th σ H2 fun u H3 => r x l u H3 Q) : tSl r te tl th σ H Q := h
/-! operations on values that are seen -/
theorem r_I0 {f : Int → Int → V} {a b : Int} (h : Q (f a b) H) : rI0 f (.int a) (.int b) H Q := ⟨a, b, rfl, rfl, h⟩
theorem r_I {C : Int → Int → Prop} {f : Int → Int → V} {a b : Int} (hc : C a b) (h : Q (f a b) H) : rI C f (.int a) (.int b) H Q := ⟨a, b, rfl, rfl, hc, h⟩
theorem r_U {f : Int → V} {a : Int} (h : Q (f a) H) : rU f (.int a) H Q := ⟨a, rfl, h⟩
theorem small2 {n : Nat} (h : n ≤ 1000) : n ≤ sizeLine := Nat.le_of_lt (small1000 h)
end

/-! ### operations of any kind, by what the values are -/
/-- x + y: ints, texts, lists, tuples -/
def rAdd2 (K : PySem.W.Frag) : R2 := fun x y H Q => match x, y with
  | .int i, .int j => Q (.int (i + j)) H
  | .str a, .str b => a.length + b.length ≤ sizeLine ∧ Q (.str (a ++ b)) H
  | .ref a, .ref b => rCat (.ref a) (.ref b) H Q ∨ rCatA K (.ref a) (.ref b) H Q
  | _, _ => False
section
variable {X : Cx}
theorem op_add2 {K : PySem.W.Frag} (hK : X.K = K := by rfl) : OpR X (binaryOp .Add) (rAdd2 K) := by
  subst hK
  intro pins s σ H x y v u Q I rx ry h
  cases x <;> cases y <;> first
    | exact h.elim
    | exact op_add pins s σ H _ _ v u Q I rx ry ⟨_, _, rfl, rfl, h⟩
    | exact op_add_str pins s σ H _ _ v u Q I rx ry ⟨_, _, rfl, rfl, h⟩
    | exact h.elim (fun h => op_cat pins s σ H _ _ v u Q I rx ry h) (fun h => op_catA pins s σ H _ _ v u Q I rx ry h)
/-- two lists, one of them empty -/
def rEqE (K : PySem.W.Frag) (neg : Bool) : R2 := fun x y H Q => ∃ (p q : Addr) (xs ys : List V), x = .ref p ∧ y = .ref q ∧ SqL K H p xs ∧ SqL K H q ys ∧ (xs = [] ∨ ys = []) ∧ Q (.bl (if neg then !(xs.isEmpty && ys.isEmpty) else xs.isEmpty && ys.isEmpty)) H
theorem op_eqE (hu : X.A.units + 64 < cLine) : OpR X (compareOp .Eq) (rEqE X.K false) := by
  intro pins s σ H x y v u Q I rx ry h
  obtain ⟨p, q, xs, ys, rfl, rfl, hp, hq, hz, k⟩ := h
  cases rx
  cases ry
  obtain ⟨its, r1, pl1, _⟩ := I.list hp
  obtain ⟨jts, r2, pl2, _⟩ := I.list hq
  have l1 := r1.length
  have l2 := r2.length
  by_cases hl : xs.length = ys.length
  · have h0 : xs = [] ∧ ys = [] := by
      rcases hz with rfl | rfl
      · exact ⟨rfl, List.eq_nil_of_length_eq_zero hl.symm⟩
      · exact ⟨List.eq_nil_of_length_eq_zero hl, rfl⟩
    obtain ⟨rfl, rfl⟩ := h0
    have e1 : its = [] := List.eq_nil_of_length_eq_zero l1.symm
    have e2 : jts = [] := List.eq_nil_of_length_eq_zero l2.symm
    subst e1 e2
    exact SeqAt.eq_listAt (e := fun _ => true) pl1.isList pl2.isList rfl (by omega) (fun j h1 _ => absurd h1 (Nat.not_lt_zero _)) ⟨.bl true, H, I, rfl, k⟩
  · have e : (xs.isEmpty && ys.isEmpty) = false := by
      cases xs <;> cases ys <;> first | rfl | exact absurd rfl hl
    refine SeqAt.eq_list_lengthsAt pl1.isList pl2.isList (by simp; omega) (by omega) ⟨.bl false, H, I, rfl, ?_⟩
    have k' : Q (.bl (xs.isEmpty && ys.isEmpty)) H := k
    rw [e] at k'
    exact k'
theorem op_neE (hu : X.A.units + 64 < cLine) : OpR X (compareOp .NotEq) (rEqE X.K true) := by
  intro pins s σ H x y v u Q I rx ry h
  obtain ⟨p, q, xs, ys, rfl, rfl, hp, hq, hz, k⟩ := h
  cases rx
  cases ry
  obtain ⟨its, r1, pl1, _⟩ := I.list hp
  obtain ⟨jts, r2, pl2, _⟩ := I.list hq
  have l1 := r1.length
  have l2 := r2.length
  by_cases hl : xs.length = ys.length
  · have h0 : xs = [] ∧ ys = [] := by
      rcases hz with rfl | rfl
      · exact ⟨rfl, List.eq_nil_of_length_eq_zero hl.symm⟩
      · exact ⟨List.eq_nil_of_length_eq_zero hl, rfl⟩
    obtain ⟨rfl, rfl⟩ := h0
    have e1 : its = [] := List.eq_nil_of_length_eq_zero l1.symm
    have e2 : jts = [] := List.eq_nil_of_length_eq_zero l2.symm
    subst e1 e2
    exact SeqAt.RcNeAt.lists (e := fun _ => true) pl1.isList pl2.isList rfl (by omega) (fun j h1 _ => absurd h1 (Nat.not_lt_zero _)) _ _ _ _ ⟨.bl false, H, I, rfl, k⟩
  · have e : (xs.isEmpty && ys.isEmpty) = false := by
      cases xs <;> cases ys <;> first | rfl | exact absurd rfl hl
    refine SeqAt.RcNeAt.lists_lengths pl1.isList pl2.isList (by simp; omega) (by omega) _ _ _ _ ⟨.bl true, H, I, rfl, ?_⟩
    have k' : Q (.bl (!(xs.isEmpty && ys.isEmpty))) H := k
    rw [e] at k'
    exact k'
/-- a list, a tuple, a dict against a text -/
def rNeR (K : PySem.W.Frag) : R2 := fun x y H Q => ∃ (p : Addr) (z : Str), x = .ref p ∧ y = .str z ∧ ((∃ xs, SqL K H p xs) ∨ (∃ xs, SqT K H p xs) ∨ ∃ kvs, H p = some (.dK kvs)) ∧ Q (.bl true) H
theorem op_neR (hu : X.A.units + 64 < cLine) : OpR X (compareOp .NotEq) (rNeR X.K) := by
  intro pins s σ H x y v u Q I rx ry h
  obtain ⟨p, z, rfl, rfl, hp, k⟩ := h
  cases rx
  obtain ⟨t, rfl⟩ := (show ∃ t, u = Value.str z t from ry)
  have fin : EP X pins σ Q (.bool true) s := ⟨.bl true, H, I, rfl, k⟩
  rcases hp with ⟨xs, hp⟩ | ⟨xs, hp⟩ | ⟨kvs, hp⟩
  · obtain ⟨its, _, pl, _⟩ := I.list hp
    exact SeqAt.RcNeAt.list_str z t pl.isList (by omega) _ _ _ _ fin
  · obtain ⟨its, _, pl, _⟩ := I.tuple hp
    exact SeqAt.RcNeAt.tuple_str z t pl (by omega) _ _ _ _ fin
  · obtain ⟨_, _, vs, _, o, es, ep, e, ⟨d1, d2, d3⟩, d4, _⟩ := dk_of I.hok hp
    obtain ⟨oc, od, odt, osl⟩ := o
    simp only at d1 d2 d3 d4
    subst d1 d2 d3 d4
    exact rcNe_dict_str z t e (by omega) _ _ _ _ fin
/-- x == y, x != y: scalars, data of any depth, two lists one of which is empty -/
def rEq2 (K : PySem.W.Frag) : R2 := fun x y H Q => rEq x y H Q ∨ rEqD K x y H Q ∨ rEqE K false x y H Q
def rNe2 (K : PySem.W.Frag) : R2 := fun x y H Q => rNe x y H Q ∨ rNeD K x y H Q ∨ rEqE K true x y H Q ∨ rNeR K x y H Q
theorem op_eq2 {K : PySem.W.Frag} (hu : X.A.units + 64 < cLine) (hK : X.K = K := by rfl) : OpR X (compareOp .Eq) (rEq2 K) := by subst hK; exact OpR.or op_eq (OpR.or (op_eqD hu) (op_eqE hu))
theorem op_ne2 {K : PySem.W.Frag} (hu : X.A.units + 64 < cLine) (hK : X.K = K := by rfl) : OpR X (compareOp .NotEq) (rNe2 K) := by subst hK; exact OpR.or op_ne (OpR.or (op_neD hu) (OpR.or (op_neE hu) (op_neR hu)))
/-- x in y: a sign in a text; a flat thing in a list or tuple -/
def rIn2 (K : PySem.W.Frag) (neg : Bool) : R2 := fun x y H Q => (∃ (c : Nat) (z : Str), x = .str ⟨#[c]⟩ ∧ y = .str z ∧ Q (.bl (if neg then !decide (c ∈ z.cps.toList) else decide (c ∈ z.cps.toList))) H) ∨ rIn K neg x y H Q
theorem op_in2 {K : PySem.W.Frag} (hK : X.K = K := by rfl) : OpR X (compareOp .In) (rIn2 K false) := by subst hK; exact OpR.or op_in_sign op_in_seq
theorem op_nin2 {K : PySem.W.Frag} (hK : X.K = K := by rfl) : OpR X (compareOp .NotIn) (rIn2 K true) := by subst hK; exact OpR.or op_notIn_sign op_notIn_seq
/-- orders of ints, of texts -/
def rLt2 : R2 := fun x y H Q => match x, y with
  | .int i, .int j => Q (.bl (decide (i < j))) H
  | .str a, .str b => Q (.bl (decide (a.cps.toList < b.cps.toList))) H
  | _, _ => False
def rLe2 : R2 := fun x y H Q => match x, y with
  | .int i, .int j => Q (.bl (decide (i ≤ j))) H
  | .str a, .str b => Q (.bl (!decide (b.cps.toList < a.cps.toList))) H
  | _, _ => False
theorem op_lt2 : OpR X (compareOp .Lt) rLt2 := by
  intro pins s σ H x y v u Q I rx ry h
  cases x <;> cases y <;> first
    | exact h.elim
    | exact op_lt pins s σ H _ _ v u Q I rx ry ⟨_, _, rfl, rfl, h⟩
    | exact op_lt_str pins s σ H _ _ v u Q I rx ry ⟨_, _, rfl, rfl, h⟩
theorem op_le2 : OpR X (compareOp .LtE) rLe2 := by
  intro pins s σ H x y v u Q I rx ry h
  cases x <;> cases y <;> first
    | exact h.elim
    | exact op_le pins s σ H _ _ v u Q I rx ry ⟨_, _, rfl, rfl, h⟩
    | exact op_le_str pins s σ H _ _ v u Q I rx ry ⟨_, _, rfl, rfl, h⟩
def rGt2 : R2 := fun x y H Q => match x, y with
  | .int i, .int j => Q (.bl (decide (j < i))) H
  | .str a, .str b => Q (.bl (decide (b.cps.toList < a.cps.toList))) H
  | _, _ => False
def rGe2 : R2 := fun x y H Q => match x, y with
  | .int i, .int j => Q (.bl (decide (j ≤ i))) H
  | .str a, .str b => Q (.bl (!decide (a.cps.toList < b.cps.toList))) H
  | _, _ => False
theorem op_gt2 : OpR X (compareOp .Gt) rGt2 := by
  intro pins s σ H x y v u Q I rx ry h
  cases x <;> cases y <;> first
    | exact h.elim
    | exact op_gt pins s σ H _ _ v u Q I rx ry ⟨_, _, rfl, rfl, h⟩
    | exact op_gt_str pins s σ H _ _ v u Q I rx ry ⟨_, _, rfl, rfl, h⟩
theorem op_ge2 : OpR X (compareOp .GtE) rGe2 := by
  intro pins s σ H x y v u Q I rx ry h
  cases x <;> cases y <;> first
    | exact h.elim
    | exact op_ge pins s σ H _ _ v u Q I rx ry ⟨_, _, rfl, rfl, h⟩
    | exact op_ge_str pins s σ H _ _ v u Q I rx ry ⟨_, _, rfl, rfl, h⟩
/-- x ** n of any base below 2 ^ 100000 -/
def CPow7 (i j : Int) : Prop := 0 ≤ j ∧ j ≤ 100 ∧ i.natAbs < 2 ^ 100000
theorem op_pow2 : OpR X (binaryOp .Pow) (rI CPow7 fun i j => .int (i ^ j.toNat)) := opI fun i j _ _ _ _ _ hc q => pow_int hc.1 (by
    obtain ⟨h0, h1, h2⟩ := hc
    have b : Builtin.Int.intBits i ≤ i.natAbs.log2 + 1 := by
      unfold Builtin.Int.intBits
      split <;> omega
    have l := PySem.Flt.log2_lt_of (by decide : 0 < 100000) h2
    have e : (2 : Int) ^ 27 = 134217728 := by decide
    rw [e]
    have m : (Builtin.Int.intBits i : Int) ≤ 100000 := by omega
    calc (Builtin.Int.intBits i : Int) * j ≤ 100000 * j := Int.mul_le_mul_of_nonneg_right m h0
      _ ≤ 134217728 := by omega) q
/-- a[lo:hi]: a list, a tuple, a text -/
def rSl2 (K : PySem.W.Frag) : V → Option Int → Option Int → Hp → VK → Prop := fun x lo hi H Q => rSlL K x lo hi H Q ∨ rSlA K x lo hi H Q ∨ rSlS x lo hi H Q
theorem sl_any {K : PySem.W.Frag} (hK : X.K = K := by rfl) : SlR X (rSl2 K) := by subst hK; exact SlR.or sl_list (SlR.or sl_tupA sl_str)
end
section
variable {K : PySem.W.Frag} {H : Hp} {Q : VK} {x y : V}
theorem r_add_ii {a b : Int} (h : Q (.int (a + b)) H) : rAdd2 K (.int a) (.int b) H Q := h
theorem r_add_ss {a b : Str} (hl : a.length + b.length ≤ sizeLine) (h : Q (.str (a ++ b)) H) : rAdd2 K (.str a) (.str b) H Q := ⟨hl, h⟩
theorem r_eq_s (hs : scal x y = true) (h : Q (.bl (decide (x = y))) H) : rEq2 K x y H Q := .inl ⟨hs, h⟩
theorem r_ne_s (hs : scal x y = true) (h : Q (.bl (!decide (x = y))) H) : rNe2 K x y H Q := .inl ⟨hs, h⟩
/-- a list against a new empty one -/
theorem r_eq_nil {p q : Addr} {xs : List V} (h : SqL K H p xs) (h0 : H q = some (.lst [])) (k : Q (.bl xs.isEmpty) H) : rEq2 K (.ref p) (.ref q) H Q :=
  .inr (.inr ⟨p, q, xs, [], rfl, rfl, h, SqL.of h0, .inr rfl, by show Q (.bl (xs.isEmpty && true)) H; rw [Bool.and_true]; exact k⟩)
theorem r_ne_nil {p q : Addr} {xs : List V} (h : SqL K H p xs) (h0 : H q = some (.lst [])) (k : Q (.bl (!xs.isEmpty)) H) : rNe2 K (.ref p) (.ref q) H Q :=
  .inr (.inr (.inl ⟨p, q, xs, [], rfl, rfl, h, SqL.of h0, .inr rfl, by show Q (.bl (!(xs.isEmpty && true))) H; rw [Bool.and_true]; exact k⟩))
theorem r_lt_ii {a b : Int} (h : Q (.bl (decide (a < b))) H) : rLt2 (.int a) (.int b) H Q := h
theorem r_lt_ss {a b : Str} (h : Q (.bl (decide (a.cps.toList < b.cps.toList))) H) : rLt2 (.str a) (.str b) H Q := h
theorem r_le_ii {a b : Int} (h : Q (.bl (decide (a ≤ b))) H) : rLe2 (.int a) (.int b) H Q := h
theorem r_le_ss {a b : Str} (h : Q (.bl (!decide (b.cps.toList < a.cps.toList))) H) : rLe2 (.str a) (.str b) H Q := h
theorem r_gt_ii {a b : Int} (h : Q (.bl (decide (b < a))) H) : rGt2 (.int a) (.int b) H Q := h
theorem r_ge_ii {a b : Int} (h : Q (.bl (decide (b ≤ a))) H) : rGe2 (.int a) (.int b) H Q := h
theorem r_ix_t {p : Addr} {xs : List V} {n : Nat} {v : V} (e : H p = some (.tup xs)) (hv : xs[n]? = some v) (h : Q v H) : rIx K (.ref p) (.int (n : Int)) H Q :=
  .inr (.inl ⟨p, xs, _, v, rfl, rfl, SqT.of e, atI_nat hv, h⟩)
theorem r_ix_l {p : Addr} {xs : List V} {n : Nat} {v : V} (e : H p = some (.lst xs)) (hv : xs[n]? = some v) (h : Q v H) : rIx K (.ref p) (.int (n : Int)) H Q :=
  .inl ⟨p, xs, _, v, rfl, rfl, SqL.of e, atI_nat hv, h⟩
end

/-! ### what is walked: a list, a tuple, a text -/
section
variable {X : Cx} {tg e : Expr} {te : TE} {w1 w2 : TI}
theorem pi_or (h1 : PI X tg e w1) (h2 : PI X tg e w2) : PI X tg e (fun σ H R => w1 σ H R ∨ w2 σ H R) := ⟨fun pins s σ H R I h => h.elim (fun h => h1.run pins s σ H R I h) fun h => h2.run pins s σ H R I h⟩
def iAny (K : PySem.W.Frag) (te : TE) : TI := fun σ H R => iList K te σ H R ∨ iTup K te σ H R ∨ iStr te σ H R
theorem pi_any {K : PySem.W.Frag} (he : PE X e te) (hK : X.K = K := by rfl) : PI X tg e (iAny K te) := by subst hK; exact pi_or (pi_list he) (pi_or (pi_tup he) (pi_str he))
end
section
variable {X : Cx} {K : PySem.W.Frag} {pos : Pos}
theorem ix_any (hK : X.K = K := by rfl) : IxR X (rIx K) := by subst hK; exact ix_seq
theorem call_isi2 (hK : X.K = K := by rfl) : CallR X (.builtin "isinstance") (rIsi K) := by subst hK; exact call_isi
theorem call_isiT2 (hK : X.K = K := by rfl) : CallR X (.builtin "isinstance") (rIsiT K) := by subst hK; exact call_isiT
def rListOf (K : PySem.W.Frag) : List V → Hp → VK → Prop := fun xs H Q => ∃ p ys, xs = [.ref p] ∧ (SqL K H p ys ∨ SqT K H p ys) ∧ ∀ l, H l = none → Q (.ref l) (upd H l (.lst ys))
def rTupOf (K : PySem.W.Frag) : List V → Hp → VK → Prop := fun xs H Q => ∃ p ys, xs = [.ref p] ∧ ((SqL K H p ys ∧ ∀ l, H l = none → Q (.ref l) (upd H l (.tup ys))) ∨ (SqT K H p ys ∧ Q (.ref p) H))
theorem call_list2 (hK : X.K = K := by rfl) : CallR X (.type "list") (rListOf K) := by subst hK; exact call_list_of
theorem call_tuple2 (hK : X.K = K := by rfl) : CallR X (.type "tuple") (rTupOf K) := by subst hK; exact call_tuple_of
theorem pg_tup2 {es : List Expr} {k : Nat} {t : TGs} {n : Nat} (hc : X.calm = true) (h : PGs X es t) (hn : (assignEach es X.env).length = n := by rfl) (hst : (assignEach es X.env).findIdx? (·.1) = none := by rfl) (hK : X.K = K := by rfl) :
    PG X (.Tuple es k pos) (gTup K n t) := by subst hK; exact pg_tup hc h hn hst
theorem cr_all2 (hc : X.calm = true) (hK : X.K = K := by rfl) : CallR X (.builtin "all") (rAll K) := by subst hK; exact cr_all hc
end
/-! ### name += e of ints and of texts -/
def tip2 : TIp := fun x y H Q => match x, y with
  | .int i, .int j => Q (.int (i + j)) H
  | .str a, .str b => a.length + b.length ≤ sizeLine ∧ Q (.str (a ++ b)) H
  | _, _ => False
section
variable {X : Cx}
theorem ip_add2 : PIp X .Add tip2 := by
  intro pins s σ H x y v u Q I rx ry h
  cases x <;> cases y <;> first
    | exact h.elim
    | exact ip_add pins s σ H _ _ v u Q I rx ry ⟨_, _, rfl, rfl, h⟩
    | exact iop_add_str pins s σ H _ _ v u Q I rx ry ⟨_, _, rfl, rfl, h⟩
/-- int(x): an int, a truth, a text -/
def rInt2 : List V → Hp → VK → Prop := fun xs H Q => ((∃ i, xs = [.int i] ∧ Q (.int i) H) ∨ ∃ k, xs = [.bl k] ∧ Q (.int (if k then 1 else 0)) H) ∨ ∃ a n, xs = [.str a] ∧ PySem.intText? a = some n ∧ a.length ≤ 640 ∧ Q (.int n) H
theorem call_int2 : CallR X (.type "int") rInt2 := CallR.or call_int1 call_int_str
theorem call_str2 : CallR X (.type "str") (fun xs H Q => ∃ i : Int, xs = [.int i] ∧ i.natAbs.log2 < 1920 ∧ Q (.str (toString i)) H) := call_str_int
/-- x * y: ints -/
theorem op_mul2 : OpR X (binaryOp .Mult) (rI CMulW fun i j => .int (i * j)) := op_mulW
end
/-! ### a call within a try's body -/
section
variable {X : Cx} {CX : CXT} {x : Str} {ps : List Str} {k : Nat} {sp : Sp} {E : L2.St → XK} {p pos : Pos} {e : Expr} {es : List Expr} {t : TA}
theorem pe_calS (C : Cal X.prog X.w X.K X.mg X.base CX k x ps sp) (hr : Room k X.A) (hx : ∀ σ, PassesAt CX X σ (E σ)) (ha : PA X (e :: es) t) (hg : Gl X x := by rfl)
    (hdb : (x == ("__debug__" : Str)) = false := by decide) (he : starEach (e :: es) X.env = (false, eval e X.env) :: starEach es X.env := by rfl) (hpl : (backTo pos (starEach es X.env)).any (·.1) = false := by rfl) :
    PE X (.Call (.Name x p) (e :: es) [] pos) (tCallS sp E t) := by
  obtain ⟨f, fd, F, hm, hk, hb, _⟩ := C.ex
  exact pe_callS F hr hg hm hk (Binds.all hb) hx ha hdb he hpl
end
end NB

/-! NE: readings of values that are known as data; the steps that a reading takes by itself. -/
namespace NB
open PySem PySem.Spec PyProof.Rows L2

/-! ### kinds of data -/
def tyN : PyData → String
  | .none => "NoneType" | .bool _ => "bool" | .int _ => "int" | .str _ => "str" | .list _ => "list" | .tuple _ => "tuple" | .dict _ => "dict"
def isIntD : PyData → Bool | .int _ => true | .bool _ => true | _ => false
def isBoolD : PyData → Bool | .bool _ => true | _ => false
def isStrD : PyData → Bool | .str _ => true | _ => false
def isTupD : PyData → Bool | .tuple _ => true | _ => false
def isListD : PyData → Bool | .list _ => true | _ => false
/-- a whole number -/
def wholeD : PyData → Bool | .int _ => true | _ => false
theorem wholeD_eq (d : PyData) : wholeD d = (isIntD d && !isBoolD d) := by cases d <;> rfl
section
variable {ex : Addr → Prop} {K : PySem.W.Frag} {H : Hp} {v : V} {d : PyData} {Q : VK}
theorem Dat.ty : ∀ {v : V} {d : PyData}, Dat ex H v d → TyX K H v (.type (tyN d))
  | _, _, .non => .base .non
  | _, _, .bl b => .base (.bl b)
  | _, _, .int i => .base (.int i)
  | _, _, .str x _ => .base (.str x)
  | _, _, .tup h _ => .base (.tup h)
  | _, _, .lst _ h _ => .base (.lst h)
  | _, _, .dct _ h _ => .base (.dK h)
theorem r_isi {n t : String} {r : Bool} (ty : TyX K H v (.type t)) (h : kitB t n = some r) (q : Q (.bl r) H) : rIsi K [v, .ty n] H Q := ⟨v, .ty n, _, _, r, rfl, .ty n, ty, kit_ty h, q⟩
theorem r_isi_int (h : Dat ex H v d) (q : Q (.bl (isIntD d)) H) : rIsi K [v, .ty "int"] H Q := r_isi h.ty (by
    cases d with
    | none => exact (by decide +kernel : kitB "NoneType" "int" = some false)
    | bool b => exact (by decide +kernel : kitB "bool" "int" = some true)
    | int i => exact (by decide +kernel : kitB "int" "int" = some true)
    | str x => exact (by decide +kernel : kitB "str" "int" = some false)
    | list xs => exact (by decide +kernel : kitB "list" "int" = some false)
    | tuple xs => exact (by decide +kernel : kitB "tuple" "int" = some false)
    | dict kvs => exact (by decide +kernel : kitB "dict" "int" = some false)) q
theorem r_isi_bool (h : Dat ex H v d) (q : Q (.bl (isBoolD d)) H) : rIsi K [v, .ty "bool"] H Q := r_isi h.ty (by
    cases d with
    | none => exact (by decide +kernel : kitB "NoneType" "bool" = some false)
    | bool b => exact (by decide +kernel : kitB "bool" "bool" = some true)
    | int i => exact (by decide +kernel : kitB "int" "bool" = some false)
    | str x => exact (by decide +kernel : kitB "str" "bool" = some false)
    | list xs => exact (by decide +kernel : kitB "list" "bool" = some false)
    | tuple xs => exact (by decide +kernel : kitB "tuple" "bool" = some false)
    | dict kvs => exact (by decide +kernel : kitB "dict" "bool" = some false)) q
theorem r_isi_str (h : Dat ex H v d) (q : Q (.bl (isStrD d)) H) : rIsi K [v, .ty "str"] H Q := r_isi h.ty (by
    cases d with
    | none => exact (by decide +kernel : kitB "NoneType" "str" = some false)
    | bool b => exact (by decide +kernel : kitB "bool" "str" = some false)
    | int i => exact (by decide +kernel : kitB "int" "str" = some false)
    | str x => exact (by decide +kernel : kitB "str" "str" = some true)
    | list xs => exact (by decide +kernel : kitB "list" "str" = some false)
    | tuple xs => exact (by decide +kernel : kitB "tuple" "str" = some false)
    | dict kvs => exact (by decide +kernel : kitB "dict" "str" = some false)) q
theorem r_isi_tup (h : Dat ex H v d) (q : Q (.bl (isTupD d)) H) : rIsi K [v, .ty "tuple"] H Q := r_isi h.ty (by
    cases d with
    | none => exact (by decide +kernel : kitB "NoneType" "tuple" = some false)
    | bool b => exact (by decide +kernel : kitB "bool" "tuple" = some false)
    | int i => exact (by decide +kernel : kitB "int" "tuple" = some false)
    | str x => exact (by decide +kernel : kitB "str" "tuple" = some false)
    | list xs => exact (by decide +kernel : kitB "list" "tuple" = some false)
    | tuple xs => exact (by decide +kernel : kitB "tuple" "tuple" = some true)
    | dict kvs => exact (by decide +kernel : kitB "dict" "tuple" = some false)) q
theorem r_isi_list (h : Dat ex H v d) (q : Q (.bl (isListD d)) H) : rIsi K [v, .ty "list"] H Q := r_isi h.ty (by
    cases d with
    | none => exact (by decide +kernel : kitB "NoneType" "list" = some false)
    | bool b => exact (by decide +kernel : kitB "bool" "list" = some false)
    | int i => exact (by decide +kernel : kitB "int" "list" = some false)
    | str x => exact (by decide +kernel : kitB "str" "list" = some false)
    | list xs => exact (by decide +kernel : kitB "list" "list" = some true)
    | tuple xs => exact (by decide +kernel : kitB "tuple" "list" = some false)
    | dict kvs => exact (by decide +kernel : kitB "dict" "list" = some false)) q
/-! len -/
def rLen (K : PySem.W.Frag) : List V → Hp → VK → Prop := fun xs H Q => ∃ x n, xs = [x] ∧ LenV K x H n ∧ Q (.int n) H
theorem call_len2 {X : Cx} {K : PySem.W.Frag} (hK : X.K = K := by rfl) : CallR X (.builtin "len") (rLen K) := by subst hK; exact call_len
theorem Dat.slen {y : Str} {d : PyData} (h : Dat ex H (.str y) d) : y.length ≤ 1000000 := by
  cases h with
  | str _ h => exact h
theorem million {n : Nat} (h : n ≤ 1000000) : n ≤ sizeLine := Nat.le_trans h (by decide)
theorem r_len_s {y : Str} {d : PyData} (h : Dat ex H (.str y) d) (q : Q (.int y.length) H) : rLen K [.str y] H Q := ⟨_, _, rfl, ⟨million h.slen, rfl⟩, q⟩
theorem r_len_t {p : Addr} {xs : List V} (h : H p = some (.tup xs)) (q : Q (.int xs.length) H) : rLen K [.ref p] H Q := ⟨_, _, rfl, .inr ⟨xs, SqT.of h, rfl⟩, q⟩
theorem r_len_l {p : Addr} {xs : List V} (h : H p = some (.lst xs)) (q : Q (.int xs.length) H) : rLen K [.ref p] H Q := ⟨_, _, rfl, .inl ⟨xs, SqL.of h, rfl⟩, q⟩
/-! numbers -/
theorem r_mod {a b : Int} (h : 0 < b) (q : Q (.int (a % b)) H) : rI (fun _ j => 0 < j) (fun i j => .int (i % j)) (.int a) (.int b) H Q := ⟨a, b, rfl, rfl, h, q⟩
theorem r_fdiv {a b : Int} (h : 0 < b) (h2 : b < 2 ^ 200) (q : Q (.int (a / b)) H) : rI CDivW (fun i j => .int (i / j)) (.int a) (.int b) H Q :=
  ⟨a, b, rfl, rfl, wide_div h (b := 200) (by omega) (by decide) (by decide), q⟩
theorem r_mul {a b : Int} (h : a.natAbs < 2 ^ 200) (h2 : b.natAbs < 2 ^ 200) (q : Q (.int (a * b)) H) : rI CMulW (fun i j => .int (i * j)) (.int a) (.int b) H Q :=
  ⟨a, b, rfl, rfl, wide_mul h h2 (by decide) (by decide) (by decide), q⟩
theorem r_pow {a : Int} {n : Nat} (h : n ≤ 100) (h2 : a.natAbs < 2 ^ 200) (q : Q (.int (a ^ n)) H) : rI CPow7 (fun i j => .int (i ^ j.toNat)) (.int a) (.int (n : Int)) H Q :=
  ⟨a, n, rfl, rfl, ⟨Int.natCast_nonneg n, by omega, Nat.lt_of_lt_of_le h2 (Nat.pow_le_pow_right (by decide) (by decide))⟩, by show Q (.int (a ^ ((n : Int)).toNat)) H; rw [Int.toNat_natCast]; exact q⟩
/-! a branch -/
theorem r_ite {b : Bool} {A B : Prop} (h1 : b = true → A) (h2 : b = false → B) : if b = true then A else B := by
  cases b
  · exact iteF (h2 rfl)
  · exact iteT (h1 rfl)
theorem r_iteT {b : Bool} {A B : Prop} (e : b = true) (h : A) : if b = true then A else B := by rw [e]; exact iteT h
theorem r_iteF {b : Bool} {A B : Prop} (e : b = false) (h : B) : if b = true then A else B := by rw [e]; exact iteF h
end
/-! ### what data is, by its kind -/
section
variable {ex : Addr → Prop} {K : PySem.W.Frag} {H H' : Hp} {v : V} {d : PyData} {Q : VK}
theorem Dat.tupI (h : Dat ex H v d) (t : isTupD d = true) : ∃ a xs ds, v = .ref a ∧ d = .tuple ds ∧ H a = some (.tup xs) ∧ Dats ex H xs ds := by
  cases h with
  | tup e r => exact ⟨_, _, _, rfl, rfl, e, r⟩
  | _ => cases t
theorem Dat.tupE {ds : List PyData} (h : Dat ex H v (.tuple ds)) : ∃ a xs, v = .ref a ∧ H a = some (.tup xs) ∧ Dats ex H xs ds := by
  cases h with
  | tup e r => exact ⟨_, _, rfl, e, r⟩
theorem Dats.inv1 {xs : List V} {d : PyData} (h : Dats ex H xs [d]) : ∃ x, xs = [x] ∧ Dat ex H x d := by
  cases h with
  | cons h1 r => cases r; exact ⟨_, rfl, h1⟩
theorem Dats.inv2 {xs : List V} {d e : PyData} (h : Dats ex H xs [d, e]) : ∃ x y, xs = [x, y] ∧ Dat ex H x d ∧ Dat ex H y e := by
  cases h with
  | cons h1 r => obtain ⟨y, rfl, h2⟩ := Dats.inv1 r; exact ⟨_, _, rfl, h1, h2⟩
theorem Dats.inv3 {xs : List V} {d e f : PyData} (h : Dats ex H xs [d, e, f]) : ∃ x y z, xs = [x, y, z] ∧ Dat ex H x d ∧ Dat ex H y e ∧ Dat ex H z f := by
  cases h with
  | cons h1 r => obtain ⟨y, z, rfl, h2, h3⟩ := Dats.inv2 r; exact ⟨_, _, _, rfl, h1, h2, h3⟩
theorem Dat.listI (h : Dat ex H v d) (t : isListD d = true) : ∃ a xs ds, v = .ref a ∧ d = .list ds ∧ ¬ ex a ∧ H a = some (.lst xs) ∧ Dats ex H xs ds := by
  cases h with
  | lst n e r => exact ⟨_, _, _, rfl, rfl, n, e, r⟩
  | _ => cases t
theorem Dat.strI (h : Dat ex H v d) (t : isStrD d = true) : ∃ x, v = .str x ∧ d = .str x ∧ x.length ≤ 1000000 := by
  cases h with
  | str x h => exact ⟨_, rfl, rfl, h⟩
  | _ => cases t
theorem Dat.wholeI (h : Dat ex H v d) (t : wholeD d = true) : ∃ i, v = .int i ∧ d = .int i := by
  cases h with
  | int i => exact ⟨_, rfl, rfl⟩
  | _ => cases t
theorem Dat.nonI (h : Dat ex H v d) (t : decide (v = .non) = true) : v = .non ∧ d = .none := by
  have e : v = .non := of_decide_eq_true t
  subst e
  cases h
  exact ⟨rfl, rfl⟩
theorem Dat.notNon (h : Dat ex H v d) (t : decide (v = .non) = false) : d ≠ .none := fun e => by
  subst e
  cases h
  exact absurd t (by decide)
theorem fin_b {a b : Bool} (k : ∀ H', Kp ex H H' → Q (.bl a) H') (e : a = b) (h : Kp ex H H') : Q (.bl b) H' := by
  rw [← e]; exact k _ h
theorem r_eq_ii {a b : Int} (h : Q (.bl (decide (a = b))) H) : rEq2 K (.int a) (.int b) H Q := .inl ⟨rfl, by
  have e : decide (V.int a = V.int b) = decide (a = b) := by rw [dec_int]; rfl
  rw [e]; exact h⟩
theorem r_ne_ii {a b : Int} (h : Q (.bl (!decide (a = b))) H) : rNe2 K (.int a) (.int b) H Q := .inl ⟨rfl, by
  have e : decide (V.int a = V.int b) = decide (a = b) := by rw [dec_int]; rfl
  rw [e]; exact h⟩
theorem r_eq_ss {a b : Str} (h : Q (.bl (decide (a = b))) H) : rEq2 K (.str a) (.str b) H Q := .inl ⟨rfl, by
  have e : decide (V.str a = V.str b) = decide (a = b) := by simp
  rw [e]; exact h⟩
theorem r_ne_ss {a b : Str} (h : Q (.bl (!decide (a = b))) H) : rNe2 K (.str a) (.str b) H Q := .inl ⟨rfl, by
  have e : decide (V.str a = V.str b) = decide (a = b) := by simp
  rw [e]; exact h⟩
end
/-! ### loops: what is walked has been reckoned (x in H1), then the word -/
section
variable {K : PySem.W.Frag} {σ : L2.St} {H H1 : Hp} {D : Ends} {te : TE} {tb : TS} {g : TG} {ta : TA} {a : Addr} {xs : List V} {z : Str} {n : Nat}
def LpW (J : It) (g : TG) (tb : TS) (D : Ends) (σ : L2.St) (H1 : Hp) : Prop := ∃ W : Nat → Nat → L2.St → Hp → Prop, (∃ m, W 0 m σ H1) ∧ ∀ i m σ H, W i m σ H →
  (J.stop i H ∧ D.nx σ H) ∨ (J.go i H ∧ ∃ N : L2.St → Hp → Prop, (∀ σ' H', N σ' H' → ∃ m', m' < m ∧ W (i + 1) m' σ' H') ∧ ∀ x H', J.yld i H x H' → g x σ H' fun σ2 H2 => tb { D with nx := N, ct := N, bk := D.nx } σ2 H2)
def LpT (K : PySem.W.Frag) (g : TG) (tb : TS) (D : Ends) (σ : L2.St) (x : V) (H1 : Hp) : Prop := ∃ a, x = .ref a ∧ (∃ xs, SqT K H1 a xs) ∧ LpW (Itt K a) g tb D σ H1
def LpL (K : PySem.W.Frag) (g : TG) (tb : TS) (D : Ends) (σ : L2.St) (x : V) (H1 : Hp) : Prop := ∃ a, x = .ref a ∧ (∃ xs, SqL K H1 a xs) ∧ LpW (Itl K a) g tb D σ H1
def LpS (g : TG) (tb : TS) (D : Ends) (σ : L2.St) (x : V) (H1 : Hp) : Prop := ∃ z, x = .str z ∧ LpW (Its z) g tb D σ H1
def LpR (g : TG) (tb : TS) (D : Ends) (σ : L2.St) (vs : List V) (H1 : Hp) : Prop := ∃ j : Int, vs = [.int j] ∧ -(2 ^ 62) ≤ j ∧ j < 2 ^ 62 ∧ LpW (Itr 0 j.toNat) g tb D σ H1
theorem r_forT (h : te σ H (LpT K g tb D σ)) : tFor (iAny K te) g tb D σ H := Or.inr (Or.inl h)
theorem r_forL (h : te σ H (LpL K g tb D σ)) : tFor (iAny K te) g tb D σ H := Or.inl h
theorem r_forS (h : te σ H (LpS g tb D σ)) : tFor (iAny K te) g tb D σ H := Or.inr (Or.inr h)
theorem r_forR (h : ta σ H (LpR g tb D σ)) : tFor (iRng1 ta) g tb D σ H := h
/-- over a tuple -/
theorem lpT (ex : Addr → Prop) (Pv : Nat → L2.St → Hp → Prop) (ha : H1 a = some (.tup xs)) (h0 : Pv 0 σ H1)
    (hs : ∀ i y σ' H', xs[i]? = some y → Kp ex H1 H' → Pv i σ' H' → g y σ' H' fun σ2 H2 => tb { D with nx := fun s3 H3 => Kp ex H1 H3 ∧ Pv (i + 1) s3 H3, ct := fun s3 H3 => Kp ex H1 H3 ∧ Pv (i + 1) s3 H3, bk := D.nx } σ2 H2)
    (hd : ∀ σ' H', Kp ex H1 H' → Pv xs.length σ' H' → D.nx σ' H') : LpT K g tb D σ (.ref a) H1 :=
  ⟨a, rfl, ⟨xs, SqT.of ha⟩, for_tup (K := K) (a := a) (xs := xs) (fun i s3 H3 => Kp ex H1 H3 ∧ Pv i s3 H3) ⟨Kp.refl, h0⟩ (fun i s3 H3 _ hp => SqT.of (hp.1.tup ha)) (fun i y σ' H' hi hp => hs i y σ' H' hi hp.1 hp.2) fun σ' H' hp => hd σ' H' hp.1 hp.2⟩
/-- over a list -/
theorem lpL (Pv : Nat → L2.St → Hp → Prop) (ha : SqL K H1 a xs) (h0 : Pv 0 σ H1) (hl : ∀ i σ' H', Pv i σ' H' → SqL K H' a xs)
    (hs : ∀ i y σ' H', xs[i]? = some y → Pv i σ' H' → g y σ' H' fun σ2 H2 => tb { D with nx := Pv (i + 1), ct := Pv (i + 1), bk := D.nx } σ2 H2)
    (hd : ∀ σ' H', Pv xs.length σ' H' → D.nx σ' H') : LpL K g tb D σ (.ref a) H1 :=
  ⟨a, rfl, ⟨xs, ha⟩, for_list (K := K) (a := a) (xs := xs) Pv h0 (fun i s3 H3 _ hp => hl i s3 H3 hp) hs hd⟩
/-- over a text's signs -/
theorem lpS (Pv : Nat → L2.St → Hp → Prop) (h0 : Pv 0 σ H1)
    (hs : ∀ i c σ' H', z.cps.toList[i]? = some c → Pv i σ' H' → g (.str ⟨#[c]⟩) σ' H' fun σ2 H2 => tb { D with nx := Pv (i + 1), ct := Pv (i + 1), bk := D.nx } σ2 H2)
    (hd : ∀ σ' H', Pv z.cps.toList.length σ' H' → D.nx σ' H') : LpS g tb D σ (.str z) H1 := by
  refine ⟨z, rfl, fun i m s3 H3 => Pv i s3 H3 ∧ i + m = z.cps.toList.length, ⟨z.cps.toList.length, h0, by omega⟩, ?_⟩
  rintro i m s3 H3 ⟨hp, hm⟩
  by_cases hi : i < z.cps.size
  · refine .inr ⟨hi, fun s4 H4 => Pv (i + 1) s4 H4, fun s4 H4 q => ⟨m - 1, ?_, q, ?_⟩, ?_⟩
    · rw [Array.length_toList] at hm; omega
    · rw [Array.length_toList] at hm ⊢; omega
    · rintro y H' ⟨rfl, c, hc, rfl⟩
      exact hs i c s3 H' (by rw [Array.getElem?_toList]; exact hc) hp
  · have e : i = z.cps.toList.length := by rw [Array.length_toList] at hm ⊢; omega
    refine .inl ⟨by show z.cps.size ≤ i; omega, hd s3 H3 ?_⟩
    rw [← e]; exact hp
/-- over range(n) -/
theorem lpR (Pv : Nat → L2.St → Hp → Prop) (hn : n < 2 ^ 62) (h0 : Pv 0 σ H1)
    (hs : ∀ (i : Nat) σ' H', i < n → Pv i σ' H' → g (.int (i : Int)) σ' H' fun σ2 H2 => tb { D with nx := Pv (i + 1), ct := Pv (i + 1), bk := D.nx } σ2 H2)
    (hd : ∀ σ' H', Pv n σ' H' → D.nx σ' H') : LpR g tb D σ [.int (n : Int)] H1 := by
  refine ⟨(n : Int), rfl, by omega, by omega, ?_⟩
  rw [Int.toNat_natCast]
  refine for_range (lo := 0) (n := n) Pv h0 (fun i σ' H' hi hp => ?_) hd
  have e : (0 : Int) + (i : Int) = (i : Int) := by omega
  rw [e]
  exact hs i σ' H' hi hp
end
/-! ### comprehensions -/
section
variable {K : PySem.W.Frag} {σ : L2.St} {H H1 : Hp} {Q : VK} {te tl : TE} {tt : TT} {g : TG} {ta : TA} {a : Addr} {xs : List V} {z : Str} {n : Nat} {vs : List Nat}
def LcW (J : It) (g : TG) (tt : TT) (te : TE) (vs : List Nat) (σ : L2.St) (Q : VK) (H1 : Hp) : Prop := ∀ D, H1 D = none → ∃ W : Nat → Nat → Hp → Prop, (∃ m, W 0 m (upd H1 D (.lst []))) ∧ ∀ i m H, W i m H →
  (J.stop i H ∧ Q (.ref D) H) ∨ (J.go i H ∧ ∃ Nx : Hp → Prop, (∀ H', Nx H' → ∃ m', m' < m ∧ W (i + 1) m' H') ∧ ∀ x H', J.yld i H x H' → g x (wipe σ vs) H' fun σ2 H2 => wipe σ2 vs = wipe σ vs ∧ tt σ2 H2 fun b H3 =>
    if b = true then te σ2 H3 fun y H4 => ∃ acc, H4 D = some (.lst acc) ∧ acc.length < sizeLine ∧ Nx (upd H4 D (.lst (acc ++ [y]))) else Nx H3)
def LcT (K : PySem.W.Frag) (g : TG) (tt : TT) (te : TE) (vs : List Nat) (σ : L2.St) (Q : VK) (x : V) (H1 : Hp) : Prop := ∃ a, x = .ref a ∧ (∃ xs, SqT K H1 a xs) ∧ LcW (Itt K a) g tt te vs σ Q H1
def LcL (K : PySem.W.Frag) (g : TG) (tt : TT) (te : TE) (vs : List Nat) (σ : L2.St) (Q : VK) (x : V) (H1 : Hp) : Prop := ∃ a, x = .ref a ∧ (∃ xs, SqL K H1 a xs) ∧ LcW (Itl K a) g tt te vs σ Q H1
def LcS (g : TG) (tt : TT) (te : TE) (vs : List Nat) (σ : L2.St) (Q : VK) (x : V) (H1 : Hp) : Prop := ∃ z, x = .str z ∧ LcW (Its z) g tt te vs σ Q H1
def LcR (g : TG) (tt : TT) (te : TE) (vs : List Nat) (σ : L2.St) (Q : VK) (us : List V) (H1 : Hp) : Prop := ∃ j : Int, us = [.int j] ∧ -(2 ^ 62) ≤ j ∧ j < 2 ^ 62 ∧ LcW (Itr 0 j.toNat) g tt te vs σ Q H1
theorem r_lcT (h : tl σ H (LcT K g tt te vs σ Q)) : tLc (iAny K tl) g tt te vs σ H Q := Or.inr (Or.inl h)
theorem r_lcL (h : tl σ H (LcL K g tt te vs σ Q)) : tLc (iAny K tl) g tt te vs σ H Q := Or.inl h
theorem r_lcS (h : tl σ H (LcS g tt te vs σ Q)) : tLc (iAny K tl) g tt te vs σ H Q := Or.inr (Or.inr h)
theorem r_lcR (h : ta σ H (LcR g tt te vs σ Q)) : tLc (iRng1 ta) g tt te vs σ H Q := h
/-- between two turns: what the new list at D holds, and the word -/
def LcAll (D : Addr) (Pv : Nat → List V → Hp → Prop) (i : Nat) (H' : Hp) : Prop := ∃ acc, H' D = some (.lst acc) ∧ acc.length ≤ i ∧ Pv i acc H'
theorem lc_yes {D : Addr} {Pv : Nat → List V → Hp → Prop} {i : Nat} {acc : List V} {y : V} {H' : Hp} (e : H' D = some (.lst acc)) (hl : acc.length ≤ i) (hi : i < 100000) (p : Pv (i + 1) (acc ++ [y]) (upd H' D (.lst (acc ++ [y])))) :
    ∃ acc, H' D = some (.lst acc) ∧ acc.length < sizeLine ∧ LcAll D Pv (i + 1) (upd H' D (.lst (acc ++ [y]))) :=
  ⟨acc, e, Nat.lt_of_le_of_lt hl (Nat.lt_trans hi (by decide)), acc ++ [y], upd_same, by rw [List.length_append]; exact Nat.add_le_add_right hl 1, p⟩
theorem lc_no {D : Addr} {Pv : Nat → List V → Hp → Prop} {i : Nat} {acc : List V} {H' : Hp} (e : H' D = some (.lst acc)) (hl : acc.length ≤ i) (p : Pv (i + 1) acc H') : LcAll D Pv (i + 1) H' := ⟨acc, e, Nat.le_succ_of_le hl, p⟩
theorem r_yes {QB : Bool → Hp → Prop} (h : QB true H) : tYes σ H QB := h
theorem r_wipe {σ2 : L2.St} {R : Prop} (e : wipe σ2 vs = wipe σ vs) (h : R) : wipe σ2 vs = wipe σ vs ∧ R := ⟨e, h⟩
/-- a turn -/
abbrev LcTurn (g : TG) (tt : TT) (te : TE) (vs : List Nat) (σ : L2.St) (D : Addr) (Pv : Nat → List V → Hp → Prop) (i : Nat) (y : V) (H' : Hp) : Prop :=
  g y (wipe σ vs) H' fun σ2 H2 => wipe σ2 vs = wipe σ vs ∧ tt σ2 H2 fun b H3 => if b = true then te σ2 H3 fun y H4 => ∃ acc, H4 D = some (.lst acc) ∧ acc.length < sizeLine ∧ LcAll D Pv (i + 1) (upd H4 D (.lst (acc ++ [y]))) else LcAll D Pv (i + 1) H3
theorem lcT (Pv : Addr → Nat → List V → Hp → Prop) (ha : H1 a = some (.tup xs)) (h0 : ∀ D, H1 D = none → Pv D 0 [] (upd H1 D (.lst [])))
    (hk : ∀ D i acc H', Pv D i acc H' → H' a = some (.tup xs))
    (hs : ∀ D i acc y H', H1 D = none → xs[i]? = some y → H' D = some (.lst acc) → acc.length ≤ i → Pv D i acc H' → LcTurn g tt te vs σ D (Pv D) i y H')
    (hd : ∀ D acc H', H1 D = none → H' D = some (.lst acc) → acc.length ≤ xs.length → Pv D xs.length acc H' → Q (.ref D) H') : LcT K g tt te vs σ Q (.ref a) H1 :=
  ⟨a, rfl, ⟨xs, SqT.of ha⟩, fun D hD => lc_tup (K := K) (a := a) (xs := xs) (LcAll D (Pv D)) ⟨[], upd_same, Nat.le_refl _, h0 D hD⟩ (fun i H' _ ⟨acc, _, _, p⟩ => SqT.of (hk D i acc H' p))
    (fun i y H' hi ⟨acc, e, hl, p⟩ => hs D i acc y H' hD hi e hl p) fun H' ⟨acc, e, hl, p⟩ => hd D acc H' hD e hl p⟩
theorem lcL (Pv : Addr → Nat → List V → Hp → Prop) (ha : SqL K H1 a xs) (h0 : ∀ D, H1 D = none → Pv D 0 [] (upd H1 D (.lst [])))
    (hk : ∀ D i acc H', H1 D = none → Pv D i acc H' → SqL K H' a xs)
    (hs : ∀ D i acc y H', H1 D = none → xs[i]? = some y → H' D = some (.lst acc) → acc.length ≤ i → Pv D i acc H' → LcTurn g tt te vs σ D (Pv D) i y H')
    (hd : ∀ D acc H', H1 D = none → H' D = some (.lst acc) → acc.length ≤ xs.length → Pv D xs.length acc H' → Q (.ref D) H') : LcL K g tt te vs σ Q (.ref a) H1 :=
  ⟨a, rfl, ⟨xs, ha⟩, fun D hD => lc_list (K := K) (a := a) (xs := xs) (LcAll D (Pv D)) ⟨[], upd_same, Nat.le_refl _, h0 D hD⟩ (fun i H' _ ⟨acc, _, _, p⟩ => hk D i acc H' hD p)
    (fun i y H' hi ⟨acc, e, hl, p⟩ => hs D i acc y H' hD hi e hl p) fun H' ⟨acc, e, hl, p⟩ => hd D acc H' hD e hl p⟩
theorem lcR (Pv : Addr → Nat → List V → Hp → Prop) (hn : n < 2 ^ 62) (h0 : ∀ D, H1 D = none → Pv D 0 [] (upd H1 D (.lst [])))
    (hs : ∀ D (i : Nat) acc H', H1 D = none → i < n → H' D = some (.lst acc) → acc.length ≤ i → Pv D i acc H' → LcTurn g tt te vs σ D (Pv D) i (.int (i : Int)) H')
    (hd : ∀ D acc H', H1 D = none → H' D = some (.lst acc) → acc.length ≤ n → Pv D n acc H' → Q (.ref D) H') : LcR g tt te vs σ Q [.int (n : Int)] H1 := by
  refine ⟨(n : Int), rfl, by omega, by omega, fun D hD => ?_⟩
  rw [Int.toNat_natCast]
  refine lc_range (lo := 0) (n := n) (LcAll D (Pv D)) ⟨[], upd_same, Nat.le_refl _, h0 D hD⟩ (fun i H' hi ⟨acc, e, hl, p⟩ => ?_) fun H' ⟨acc, e, hl, p⟩ => hd D acc H' hD e hl p
  have e0 : (0 : Int) + (i : Int) = (i : Int) := by omega
  rw [e0]
  exact hs D i acc H' hD hi e hl p
theorem lcS (Pv : Addr → Nat → List V → Hp → Prop) (h0 : ∀ D, H1 D = none → Pv D 0 [] (upd H1 D (.lst [])))
    (hs : ∀ D i acc c H', H1 D = none → z.cps.toList[i]? = some c → H' D = some (.lst acc) → acc.length ≤ i → Pv D i acc H' → LcTurn g tt te vs σ D (Pv D) i (.str ⟨#[c]⟩) H')
    (hd : ∀ D acc H', H1 D = none → H' D = some (.lst acc) → acc.length ≤ z.cps.toList.length → Pv D z.cps.toList.length acc H' → Q (.ref D) H') : LcS g tt te vs σ Q (.str z) H1 := by
  refine ⟨z, rfl, fun D hD => ⟨fun i m H3 => LcAll D (Pv D) i H3 ∧ i + m = z.cps.toList.length, ⟨z.cps.toList.length, ⟨[], upd_same, Nat.le_refl _, h0 D hD⟩, by omega⟩, ?_⟩⟩
  rintro i m H3 ⟨⟨acc, e, hl, p⟩, hm⟩
  by_cases hi : i < z.cps.size
  · refine .inr ⟨hi, LcAll D (Pv D) (i + 1), fun H4 q => ⟨m - 1, ?_, q, ?_⟩, ?_⟩
    · rw [Array.length_toList] at hm; omega
    · rw [Array.length_toList] at hm ⊢; omega
    · rintro y H' ⟨rfl, c, hc, rfl⟩
      exact hs D i acc c H' hD (by rw [Array.getElem?_toList]; exact hc) e hl p
  · have e2 : i = z.cps.toList.length := by rw [Array.length_toList] at hm ⊢; omega
    refine .inl ⟨by show z.cps.size ≤ i; omega, ?_⟩
    subst e2
    exact hd D acc H3 hD e hl p
end
/-! ### targets, branches, calls of looks -/
section
variable {ex : Addr → Prop} {K : PySem.W.Frag} {σ : L2.St} {H : Hp} {Q : VK} {QS : L2.St → Hp → Prop} {t : TG} {u : TGs} {tu : TGs} {a : Addr} {xs r : List V} {x v : V} {n : Nat} {d : PyData} {E : XK}
theorem r_gtup (h : H a = some (.tup xs)) (hl : xs.length = n) (q : tu xs σ H QS) : gTup K n tu (.ref a) σ H QS := ⟨a, xs, rfl, SqT.of h, hl, q⟩
theorem r_gcons (h : t x σ H fun σ' H' => u r σ' H' QS) : gCons t u (x :: r) σ H QS := ⟨x, r, rfl, h⟩
theorem r_gnil (h : QS σ H) : gNil [] σ H QS := ⟨rfl, h⟩
theorem br_nd {p : Prop} [Decidable p] {A B : Prop} (h1 : ¬ p → A) (h2 : p → B) : if (!decide p) = true then A else B := r_ite (fun h => h1 (by simpa using h)) fun h => h2 (by simpa using h)
theorem br_d {p : Prop} [Decidable p] {A B : Prop} (h1 : p → A) (h2 : ¬ p → B) : if decide p = true then A else B := r_ite (fun h => h1 (by simpa using h)) fun h => h2 (by simpa using h)
theorem br_n {b : Bool} {A B : Prop} (h1 : b = false → A) (h2 : b = true → B) : if (!b) = true then A else B := r_ite (fun h => h1 (by simpa using h)) fun h => h2 (by simpa using h)
theorem r_in_c {c : Nat} {z : Str} (h : Q (.bl (decide (c ∈ z.cps.toList))) H) : rIn2 K false (.str ⟨#[c]⟩) (.str z) H Q := .inl ⟨c, z, rfl, rfl, h⟩
theorem r_nin_c {c : Nat} {z : Str} (h : Q (.bl (!decide (c ∈ z.cps.toList))) H) : rIn2 K true (.str ⟨#[c]⟩) (.str z) H Q := .inl ⟨c, z, rfl, rfl, h⟩
theorem r_at_t {i : Nat} {j : Int} (h : H a = some (.tup xs)) (e : j = (i : Int)) (hv : xs[i]? = some v) (q : Q v H) : rIx K (.ref a) (.int j) H Q := by
  subst e; exact r_ix_t h hv q
/-- the promise of a look at data: a value in, a truth out, nothing changed -/
def spBool1 (f : PyData → Bool) : Sp := sp1 fun v H Q _ => ∃ ex d, Dat ex H v d ∧ ∀ H', Kp No H H' → Q (.bl (f d)) H'
theorem r_bool1 {f : PyData → Bool} (h : Dat ex H v d) (k : ∀ H', Kp No H H' → Q (.bl (f d)) H') : spBool1 f ([v] ++ []) H Q E := ⟨v, rfl, ex, d, h, k⟩
end
end NB

/-! NM: what the program's own looks tell of data, in plain Lean (mirrors). -/
namespace NB
open PySem PySem.Spec PyProof.Rows L2

def endD : PyData → Bool
  | .none => true
  | .int _ => true
  | _ => false
def leD : PyData → PyData → Bool
  | .int a, .int b => decide (a ≤ b)
  | _, _ => true
def spanD : PyData → Bool
  | .tuple [a, b] => endD a && endD b && leD a b
  | _ => false
def lettersL : List Nat := ("abcdefghijklmnopqrstuvwxyz" : Str).cps.toList
/-- a field's signs -/
def fieldL (l : List Nat) : Bool := !l.isEmpty && decide (l.length ≤ 8) && l.all fun c => decide (c ∈ lettersL)
def fieldS (x : Str) : Bool := fieldL x.cps.toList
def fieldD : PyData → Bool
  | .str x => fieldS x
  | _ => false
def ltS (a b : Str) : Bool := decide (a.cps.toList < b.cps.toList)
/-- tuples of n parts, each with a field first, rising from last -/
def partsGo (n : Nat) : Str → List PyData → Bool
  | _, [] => true
  | last, .tuple (.str f :: r) :: t => decide ((r.length + 1 = n)) && (fieldS f && (ltS last f && partsGo n f t))
  | _, _ :: _ => false
def partsD (n : Nat) : PyData → Bool
  | .tuple ds => partsGo n Str.empty ds
  | _ => false
def spanOf : PyData → Bool
  | .tuple [_, lo, hi] => spanD (.tuple [lo, hi])
  | _ => false
def numOf : PyData → Bool
  | .tuple [_, n] => wholeD n
  | _ => false
def wishD : PyData → Bool
  | .tuple ds => partsGo 3 Str.empty ds && ds.all spanOf
  | _ => false
def pieceD : PyData → Bool
  | .tuple ds => partsGo 2 Str.empty ds && ds.all numOf
  | _ => false
theorem letters_iff {c : Nat} : c ∈ lettersL ↔ 97 ≤ c ∧ c ≤ 122 := by
  have e : lettersL = (List.range 26).map (· + 97) := by decide +kernel
  rw [e]
  simp only [List.mem_map, List.mem_range]
  constructor
  · rintro ⟨k, hk, rfl⟩; omega
  · rintro ⟨h1, h2⟩; exact ⟨c - 97, by omega, by omega⟩
theorem fieldL_iff {l : List Nat} : fieldL l = true ↔ l ≠ [] ∧ l.length ≤ 8 ∧ ∀ c ∈ l, 97 ≤ c ∧ c ≤ 122 := by
  unfold fieldL
  rw [Bool.and_eq_true, Bool.and_eq_true, decide_eq_true_eq, List.all_eq_true]
  constructor
  · rintro ⟨⟨h1, h2⟩, h3⟩
    refine ⟨(fun e => by subst e; cases h1), h2, fun c hc => letters_iff.mp (of_decide_eq_true (h3 c hc))⟩
  · rintro ⟨h1, h2, h3⟩
    have e : (!l.isEmpty) = true := by
      cases l with
      | nil => exact absurd rfl h1
      | cons _ _ => rfl
    exact ⟨⟨e, h2⟩, fun c hc => decide_eq_true (letters_iff.mpr (h3 c hc))⟩
theorem partsGo_len {n : Nat} {last : Str} {es t : List PyData} (h : es.length ≠ n) : partsGo n last (.tuple es :: t) = false := by
  match es, h with
  | [], _ => rfl
  | .str f :: r, h =>
    unfold partsGo
    rw [decide_eq_false (by simpa using h), Bool.false_and]
  | .none :: r, _ => rfl
  | .bool _ :: r, _ => rfl
  | .int _ :: r, _ => rfl
  | .list _ :: r, _ => rfl
  | .tuple _ :: r, _ => rfl
  | .dict _ :: r, _ => rfl
theorem partsGo_fld {n : Nat} {last : Str} {e : PyData} {es t : List PyData} (h : fieldD e = false) : partsGo n last (.tuple (e :: es) :: t) = false := by
  cases e with
  | str f =>
    unfold partsGo
    have h' : fieldS f = false := h
    rw [h', Bool.false_and, Bool.and_false]
  | _ => rfl
theorem partsGo_le {n : Nat} {last f : Str} {es t : List PyData} (h : ltS last f = false) : partsGo n last (.tuple (.str f :: es) :: t) = false := by
  unfold partsGo
  rw [h, Bool.false_and, Bool.and_false, Bool.and_false]
theorem partsGo_ok {n : Nat} {last f : Str} {es t : List PyData} (h1 : es.length + 1 = n) (h2 : fieldS f = true) (h3 : ltS last f = true) : partsGo n last (.tuple (.str f :: es) :: t) = partsGo n f t := by
  conv => lhs; unfold partsGo
  rw [decide_eq_true h1, h2, h3]
  simp
theorem partsGo_mem {n : Nat} : ∀ {last : Str} {ds : List PyData}, partsGo n last ds = true → ∀ d ∈ ds, ∃ f r, d = .tuple (.str f :: r) ∧ r.length + 1 = n ∧ fieldS f = true
  | _, [], _, d, hd => by cases hd
  | last, e :: t, h, d, hd => by
    unfold partsGo at h
    split at h
    · next he => cases he
    · next l f r t' he =>
      injection he with h1 h2
      subst h1 h2
      simp only [Bool.and_eq_true, decide_eq_true_eq] at h
      rcases List.mem_cons.mp hd with rfl | hm
      · exact ⟨f, r, rfl, h.1, h.2.1⟩
      · exact partsGo_mem h.2.2.2 d hm
    · cases h
end NB

/-! NT: numbers, wishes, pieces as signs, written and read, in plain Lean. -/
namespace NB
open PySem PySem.Spec PyProof.Rows L2 TL
open PySem.NumText

theorem snoc_ind {α : Type} {p : List α → Prop} (h0 : p []) (h1 : ∀ l c, p l → p (l ++ [c])) (l : List α) : p l := by
  have q : ∀ r : List α, p r.reverse := fun r => by
    induction r with
    | nil => exact h0
    | cons c r ih => rw [List.reverse_cons]; exact h1 _ _ ih
  have e := q l.reverse
  rw [List.reverse_reverse] at e
  exact e
/-! ### numbers -/
def numLI (i : Int) : List Nat := if i < 0 then 45 :: numL i.natAbs else numL i.natAbs
theorem tl_numI (i : Int) : tl (Str.ofString (toString i)) = numLI i := by
  cases i with
  | ofNat n =>
    have e : numLI (Int.ofNat n) = numL n := by
      unfold numLI
      rw [if_neg (by simp)]
      rfl
    rw [e]
    exact tl_num n
  | negSucc n =>
    have e : numLI (Int.negSucc n) = 45 :: numL (n + 1) := by
      unfold numLI
      rw [if_pos (Int.negSucc_lt_zero n)]
      rfl
    rw [e, ← tl_num (n + 1), tl_ofString, tl_ofString]
    show (("-" ++ toString (n + 1)).toList.map Char.toNat) = _
    rw [String.toList_append, List.map_append]
    rfl
theorem numL_head {n : Nat} : (numL n).head? = some 48 → n = 0 := by
  induction n using Nat.strongRecOn with
  | _ n ih =>
    intro h
    by_cases hn : n < 10
    · rw [numL_lt hn] at h
      simp at h
      exact h
    · have hn' : 10 ≤ n := Nat.le_of_not_lt hn
      rw [numL_step hn', List.head?_append] at h
      have hne := numL_ne (n / 10)
      obtain ⟨c, r, e⟩ := List.exists_cons_of_ne_nil hne
      have : (numL (n / 10)).head? = some 48 := by
        rw [e] at h ⊢
        simpa using h
      have := ih (n / 10) (by omega) this
      omega
theorem numL_zero : numL 0 = [48] := numL_lt (by decide)
theorem canon : ∀ (l : List Nat), l ≠ [] → AllDigits l → (l.head? = some 48 → l = [48]) → l = numL (digitsVal l) := by
  intro l
  refine snoc_ind (p := fun l => l ≠ [] → AllDigits l → (l.head? = some 48 → l = [48]) → l = numL (digitsVal l)) (fun h => absurd rfl h) (fun l c ih => ?_) l
  · intro _ hd hh
    have hc := hd c (by simp)
    by_cases hl : l = []
    · subst hl
      have e : digitsVal ([] ++ [c]) = c - 48 := by simp [digitsVal]
      rw [e, numL_lt (by omega)]
      have : 48 + (c - 48) = c := by omega
      rw [this]; rfl
    · have hd' : AllDigits l := fun x hx => hd x (by simp [hx])
      have hne : l.head? ≠ some 48 := fun h => by
        have : (l ++ [c]).head? = some 48 := by
          obtain ⟨a, r, rfl⟩ := List.exists_cons_of_ne_nil hl
          simpa using h
        have := congrArg List.length (hh this)
        obtain ⟨a, r, rfl⟩ := List.exists_cons_of_ne_nil hl
        simp at this
      have e := ih hl hd' fun h => absurd h hne
      have hv : digitsVal (l ++ [c]) = digitsVal l * 10 + (c - 48) := digitsVal_snoc l c
      have hpos : 0 < digitsVal l := by
        rcases Nat.eq_zero_or_pos (digitsVal l) with h0 | h0
        · rw [h0, numL_zero] at e
          rw [e] at hne
          exact absurd rfl hne
        · exact h0
      rw [hv, numL_step (by omega)]
      have h1 : (digitsVal l * 10 + (c - 48)) / 10 = digitsVal l := by omega
      have h2 : 48 + (digitsVal l * 10 + (c - 48)) % 10 = c := by omega
      rw [h1, h2, ← e]
def isFig (c : Nat) : Bool := decide (48 ≤ c ∧ c ≤ 57)
def figsOf (l : List Nat) : List Nat := if l.head? = some 45 then l.tail else l
def valOf (l : List Nat) : Int := if l.head? = some 45 then -((digitsVal l.tail : Nat) : Int) else ((digitsVal l : Nat) : Int)
/-- the number that signs write, of at most fifteen figures -/
def rdNum (l : List Nat) : Option Int :=
  if figsOf l = [] ∨ 15 < (figsOf l).length ∨ ((figsOf l).head? = some 48 ∧ l ≠ [48]) then none
  else if (figsOf l).all isFig = true then some (valOf l) else none
theorem allDigits_iff {l : List Nat} : l.all isFig = true ↔ AllDigits l := by
  rw [List.all_eq_true]
  exact ⟨fun h c hc => of_decide_eq_true (h c hc), fun h c hc => decide_eq_true (h c hc)⟩
theorem head_digit {n : Nat} : (numL n).head? ≠ some 45 := fun h => by
  have hd := numL_digits n 45 (List.mem_of_head? h)
  omega
theorem digits_bound {l : List Nat} (hd : AllDigits l) : digitsVal l < 10 ^ l.length := by
  revert hd
  refine snoc_ind (p := fun l => AllDigits l → digitsVal l < 10 ^ l.length) (fun _ => by simp [digitsVal]) (fun l c ih => ?_) l
  · intro hd
    rw [digitsVal_snoc, List.length_append, List.length_singleton, Nat.pow_succ]
    have := ih fun x hx => hd x (by simp [hx])
    have hc := hd c (by simp)
    omega
theorem rdNum_iff {l : List Nat} {i : Int} : rdNum l = some i ↔ l = numLI i ∧ i.natAbs < 10 ^ 15 := by
  constructor
  · intro h
    unfold rdNum at h
    split at h
    · cases h
    · next hn =>
      split at h
      · next ha =>
        injection h with h
        have hd := allDigits_iff.mp ha
        have h1 : figsOf l ≠ [] := fun e => hn (.inl e)
        have h2 : (figsOf l).length ≤ 15 := Nat.le_of_not_lt fun e => hn (.inr (.inl e))
        have h3 : (figsOf l).head? = some 48 → l = [48] := fun e => by
          rcases Classical.em (l = [48]) with q | q
          · exact q
          · exact absurd (.inr (.inr ⟨e, q⟩)) hn
        have hb : digitsVal (figsOf l) < 10 ^ 15 := Nat.lt_of_lt_of_le (digits_bound hd) (Nat.pow_le_pow_right (by decide) h2)
        by_cases h45 : l.head? = some 45
        · have ef : figsOf l = l.tail := if_pos h45
          have ev : valOf l = -((digitsVal l.tail : Nat) : Int) := if_pos h45
          have el : l = 45 :: l.tail := by
            cases l with
            | nil => cases h45
            | cons a r => simp at h45; subst h45; rfl
          rw [ef] at h1 h2 h3 hd hb
          have h48 : l.tail.head? ≠ some 48 := fun e => by
            have q := h3 e
            rw [q] at h45
            cases h45
          have ec := canon l.tail h1 hd fun e => absurd e h48
          have hp : 0 < digitsVal l.tail := by
            rcases Nat.eq_zero_or_pos (digitsVal l.tail) with h0 | h0
            · rw [h0, numL_zero] at ec
              rw [ec] at h48
              exact absurd rfl h48
            · exact h0
          rw [ev] at h
          subst h
          refine ⟨?_, by omega⟩
          unfold numLI
          rw [if_pos (by omega)]
          have : (-((digitsVal l.tail : Nat) : Int)).natAbs = digitsVal l.tail := by omega
          rw [this, ← ec]
          exact el
        · have ef : figsOf l = l := if_neg h45
          have ev : valOf l = ((digitsVal l : Nat) : Int) := if_neg h45
          rw [ef] at h1 h2 h3 hd hb
          have ec := canon l h1 hd h3
          rw [ev] at h
          subst h
          refine ⟨?_, by omega⟩
          unfold numLI
          rw [if_neg (by omega)]
          have : (((digitsVal l : Nat) : Int)).natAbs = digitsVal l := by omega
          rw [this, ← ec]
      · cases h
  · rintro ⟨rfl, hb⟩
    by_cases hi : i < 0
    · have e : numLI i = 45 :: numL i.natAbs := if_pos hi
      rw [e]
      have hf : figsOf (45 :: numL i.natAbs) = numL i.natAbs := rfl
      have hv : valOf (45 :: numL i.natAbs) = -((digitsVal (numL i.natAbs) : Nat) : Int) := rfl
      unfold rdNum
      rw [hf, hv, numL_val, if_neg, if_pos (allDigits_iff.mpr (numL_digits _))]
      · congr 1; omega
      · rintro (h | h | ⟨h, _⟩)
        · exact numL_ne _ h
        · have := numL_len (n := i.natAbs) (k := 15) (by decide) hb; omega
        · have := numL_head h; omega
    · have e : numLI i = numL i.natAbs := if_neg hi
      rw [e]
      have hf : figsOf (numL i.natAbs) = numL i.natAbs := if_neg head_digit
      have hv : valOf (numL i.natAbs) = ((digitsVal (numL i.natAbs) : Nat) : Int) := if_neg head_digit
      unfold rdNum
      rw [hf, hv, numL_val, if_neg, if_pos (allDigits_iff.mpr (numL_digits _))]
      · congr 1; omega
      · rintro (h | h | ⟨h, h2⟩)
        · exact numL_ne _ h
        · have := numL_len (n := i.natAbs) (k := 15) (by decide) hb; omega
        · have := numL_head h
          rw [this, numL_zero] at h2
          exact h2 rfl
theorem numLI_len {i : Int} {k : Nat} (hk : 0 < k) (h : i.natAbs < 10 ^ k) : (numLI i).length ≤ k + 1 := by
  have := numL_len hk h
  unfold numLI
  split
  · rw [List.length_cons]; omega
  · omega
theorem numLI_free {i : Int} {s : Nat} (h : s < 45 ∨ s = 46 ∨ 57 < s) : s ∉ numLI i := by
  unfold numLI
  split
  · intro hm
    rcases List.mem_cons.mp hm with e | hm
    · omega
    · have := numL_digits _ s hm; omega
  · intro hm
    have := numL_digits _ s hm; omega
theorem valOf_num (i : Int) : valOf (numLI i) = i := by
  by_cases hi : i < 0
  · have e : numLI i = 45 :: numL i.natAbs := if_pos hi
    rw [e]
    have hv : valOf (45 :: numL i.natAbs) = -((digitsVal (numL i.natAbs) : Nat) : Int) := rfl
    rw [hv, numL_val]; omega
  · have e : numLI i = numL i.natAbs := if_neg hi
    rw [e]
    have hv : valOf (numL i.natAbs) = ((digitsVal (numL i.natAbs) : Nat) : Int) := if_neg head_digit
    rw [hv, numL_val]; omega
theorem numLI_inj {i j : Int} (h : numLI i = numLI j) : i = j := by
  have := congrArg valOf h
  rwa [valOf_num, valOf_num] at this
theorem rdNum_num {i : Int} (h : i.natAbs < 10 ^ 15) : rdNum (numLI i) = some i := rdNum_iff.mpr ⟨rfl, h⟩
theorem rdNum_great {i : Int} (h : ¬ i.natAbs < 10 ^ 15) : rdNum (numLI i) = none := by
  cases e : rdNum (numLI i) with
  | none => rfl
  | some j =>
    obtain ⟨h1, h2⟩ := rdNum_iff.mp e
    have := numLI_inj h1
    subst this
    exact absurd h2 h
/-! ### lists of words -/
def mapO {α β : Type} (f : α → Option β) : List α → Option (List β)
  | [] => some []
  | a :: r => match f a, mapO f r with
    | some b, some bs => some (b :: bs)
    | _, _ => none
theorem mapO_map {α β : Type} {f : β → Option α} {g : α → β} : ∀ {l : List α}, (∀ a ∈ l, f (g a) = some a) → mapO f (l.map g) = some l
  | [], _ => rfl
  | a :: r, h => by
    have h1 := h a List.mem_cons_self
    have h2 := mapO_map (f := f) (g := g) (l := r) fun b hb => h b (List.mem_cons_of_mem _ hb)
    show (match f (g a), mapO f (r.map g) with | some b, some bs => some (b :: bs) | _, _ => none) = _
    rw [h1, h2]
theorem mapO_none {α β : Type} {f : α → Option β} : ∀ {l : List α}, (∃ a ∈ l, f a = none) → mapO f l = none
  | [], h => by obtain ⟨_, h, _⟩ := h; cases h
  | a :: r, h => by
    show (match f a, mapO f r with | some b, some bs => some (b :: bs) | _, _ => none) = none
    obtain ⟨b, hb, e⟩ := h
    rcases List.mem_cons.mp hb with rfl | hm
    · rw [e]
    · rw [mapO_none ⟨b, hm, e⟩]
      cases f a <;> rfl
/-- two parts between the signs S -/
def two (S w : List Nat) : Option (List Nat × List Nat) := match spl S 0 [] w with
  | [a, b] => some (a, b)
  | _ => none
theorem two_at {s : Nat} {S a b : List Nat} (ha : s ∉ a) (hb : s ∉ b) : two (s :: S) (a ++ (s :: S ++ b)) = some (a, b) := by
  unfold two
  rw [spl_part1 ha, spl_last1 hb]
  rfl
/-! ### wishes and pieces written, read -/
def shEnd : PyData → List Nat
  | .int i => numLI i
  | _ => [42]
def rdEnd (l : List Nat) : Option PyData := if l = [42] then some .none else (rdNum l).map .int
def ofL (l : List Nat) : Str := ⟨l.toArray⟩
theorem tl_ofL (l : List Nat) : tl (ofL l) = l := tl_mk l
theorem ofL_tl (x : Str) : ofL (tl x) = x := mk_tl x
def shWishPart : PyData → List Nat
  | .tuple [.str f, lo, hi] => tl f ++ ([58] ++ (shEnd lo ++ ([46, 46] ++ shEnd hi)))
  | _ => []
def shPiecePart : PyData → List Nat
  | .tuple [.str f, .int n] => tl f ++ ([58] ++ numLI n)
  | _ => []
def shWish (ds : List PyData) : List Nat := if ds = [] then [45] else joinL [32] (ds.map shWishPart)
def shPiece (ds : List PyData) : List Nat := if ds = [] then [45] else joinL [32] (ds.map shPiecePart)
def rdWishPart (w : List Nat) : Option PyData := match two [58] w with
  | some (f, e) => (match two [46, 46] e with
    | some (lo, hi) => (match rdEnd lo, rdEnd hi with
      | some a, some b => some (.tuple [.str (ofL f), a, b])
      | _, _ => none)
    | none => none)
  | none => none
def rdPiecePart (w : List Nat) : Option PyData := match two [58] w with
  | some (f, n) => (rdNum n).map fun i => .tuple [.str (ofL f), .int i]
  | none => none
def rdWish (l : List Nat) : Option (List PyData) := if l = [45] then some [] else match mapO rdWishPart (spl [32] 0 [] l) with
  | some ds => if wishD (.tuple ds) = true then some ds else none
  | none => none
def rdPiece (l : List Nat) : Option (List PyData) := if l = [45] then some [] else match mapO rdPiecePart (spl [32] 0 [] l) with
  | some ds => if pieceD (.tuple ds) = true then some ds else none
  | none => none
/-- numbers of at most k figures -/
def okNum (k : Nat) : PyData → Bool
  | .int i => decide (i.natAbs < 10 ^ k)
  | _ => true
def okPart (k : Nat) : PyData → Bool
  | .tuple ps => ps.all (okNum k)
  | _ => true
theorem field_free {f : Str} (h : fieldS f = true) {s : Nat} (hs : s < 97 ∨ 122 < s) : s ∉ tl f := fun hm => by
  have := (fieldL_iff.mp h).2.2 s hm
  omega
theorem shEnd_free {d : PyData} {s : Nat} (h : s < 42 ∨ s = 46 ∨ s = 43 ∨ s = 44 ∨ 57 < s) : s ∉ shEnd d := by
  cases d with
  | int i => exact numLI_free (by omega)
  | _ => exact fun hm => by have := List.mem_singleton.mp hm; omega
theorem rdEnd_end {d : PyData} (h : endD d = true) (hk : okNum 15 d = true) : rdEnd (shEnd d) = some d := by
  cases d with
  | none => rfl
  | int i =>
    have hne : shEnd (.int i) ≠ [42] := fun e => by
      have : (42 : Nat) ∈ numLI i := by rw [show numLI i = [42] from e]; simp
      exact numLI_free (by omega) this
    unfold rdEnd
    rw [if_neg hne, show shEnd (.int i) = numLI i from rfl, rdNum_num (of_decide_eq_true hk)]
    rfl
  | _ => cases h
theorem wish_part {ds : List PyData} (h : wishD (.tuple ds) = true) {d : PyData} (hd : d ∈ ds) : ∃ f lo hi, d = .tuple [.str f, lo, hi] ∧ fieldS f = true ∧ endD lo = true ∧ endD hi = true ∧ spanD (.tuple [lo, hi]) = true := by
  have h' : (partsGo 3 Str.empty ds && ds.all spanOf) = true := h
  rw [Bool.and_eq_true, List.all_eq_true] at h'
  obtain ⟨f, r, rfl, hr, hf⟩ := partsGo_mem h'.1 d hd
  obtain ⟨lo, hi, rfl⟩ : ∃ lo hi, r = [lo, hi] := by
    match r, hr with
    | [lo, hi], _ => exact ⟨lo, hi, rfl⟩
  have hs := h'.2 _ hd
  have hs' : (endD lo && endD hi && leD lo hi) = true := hs
  rw [Bool.and_eq_true, Bool.and_eq_true] at hs'
  exact ⟨f, lo, hi, rfl, hf, hs'.1.1, hs'.1.2, hs⟩
theorem piece_part {ds : List PyData} (h : pieceD (.tuple ds) = true) {d : PyData} (hd : d ∈ ds) : ∃ f i, d = .tuple [.str f, .int i] ∧ fieldS f = true := by
  have h' : (partsGo 2 Str.empty ds && ds.all numOf) = true := h
  rw [Bool.and_eq_true, List.all_eq_true] at h'
  obtain ⟨f, r, rfl, hr, hf⟩ := partsGo_mem h'.1 d hd
  obtain ⟨n, rfl⟩ : ∃ n, r = [n] := by
    match r, hr with
    | [n], _ => exact ⟨n, rfl⟩
  have hs := h'.2 _ hd
  have hs' : wholeD n = true := hs
  cases n with
  | int i => exact ⟨f, i, rfl, hf⟩
  | _ => cases hs'
theorem part_free {f : Str} {lo hi : PyData} (hf : fieldS f = true) : 32 ∉ shWishPart (.tuple [.str f, lo, hi]) := by
  show 32 ∉ tl f ++ ([58] ++ (shEnd lo ++ ([46, 46] ++ shEnd hi)))
  simp only [List.mem_append, List.mem_cons, List.not_mem_nil, or_false, not_or]
  exact ⟨field_free hf (by omega), by decide, shEnd_free (by omega), ⟨by decide, by decide⟩, shEnd_free (by omega)⟩
theorem ppart_free {f : Str} {i : Int} (hf : fieldS f = true) : 32 ∉ shPiecePart (.tuple [.str f, .int i]) := by
  show 32 ∉ tl f ++ ([58] ++ numLI i)
  simp only [List.mem_append, List.mem_cons, List.not_mem_nil, or_false, not_or]
  exact ⟨field_free hf (by omega), by decide, numLI_free (by omega)⟩
theorem rdWishPart_sh {f : Str} {lo hi : PyData} (hf : fieldS f = true) (h1 : endD lo = true) (h2 : endD hi = true) (k1 : okNum 15 lo = true) (k2 : okNum 15 hi = true) :
    rdWishPart (shWishPart (.tuple [.str f, lo, hi])) = some (.tuple [.str f, lo, hi]) := by
  show rdWishPart (tl f ++ ([58] ++ (shEnd lo ++ ([46, 46] ++ shEnd hi)))) = _
  have e1 : two [58] (tl f ++ ([58] ++ (shEnd lo ++ ([46, 46] ++ shEnd hi)))) = some (tl f, shEnd lo ++ ([46, 46] ++ shEnd hi)) := two_at (field_free hf (by omega)) (by
    simp only [List.mem_append, List.mem_cons, List.not_mem_nil, or_false, not_or]
    exact ⟨shEnd_free (by omega), ⟨by decide, by decide⟩, shEnd_free (by omega)⟩)
  have e2 : two [46, 46] (shEnd lo ++ ([46, 46] ++ shEnd hi)) = some (shEnd lo, shEnd hi) := two_at (shEnd_free (by omega)) (shEnd_free (by omega))
  unfold rdWishPart
  rw [e1]
  simp only
  rw [e2]
  simp only
  rw [rdEnd_end h1 k1, rdEnd_end h2 k2, ofL_tl]
theorem rdPiecePart_sh {f : Str} {i : Int} (hf : fieldS f = true) : rdPiecePart (shPiecePart (.tuple [.str f, .int i])) = (rdNum (numLI i)).map fun i => .tuple [.str f, .int i] := by
  show rdPiecePart (tl f ++ ([58] ++ numLI i)) = _
  have e1 : two [58] (tl f ++ ([58] ++ numLI i)) = some (tl f, numLI i) := two_at (field_free hf (by omega)) (numLI_free (by omega))
  unfold rdPiecePart
  rw [e1]
  simp only
  rw [ofL_tl]
theorem sh_ne_dash {ps : List (List Nat)} (h : ∀ p ∈ ps, 58 ∈ p) (hne : ps ≠ []) : joinL [32] ps ≠ [45] := fun e => by
  cases ps with
  | nil => exact hne rfl
  | cons p r =>
    have hp := h p List.mem_cons_self
    have : 58 ∈ joinL [32] (p :: r) := by
      cases r with
      | nil => exact hp
      | cons q r => show 58 ∈ p ++ _; exact List.mem_append_left _ hp
    rw [e] at this
    have := List.mem_singleton.mp this
    omega
/-- a wish that is written is read -/
theorem rdWish_sh {ds : List PyData} (h : wishD (.tuple ds) = true) (hk : ds.all (okPart 15) = true) : rdWish (shWish ds) = some ds := by
  cases hd : ds with
  | nil => rfl
  | cons d0 r =>
    rw [← hd]
    have hne : ds ≠ [] := by rw [hd]; simp
    have hne' : ds.map shWishPart ≠ [] := by simpa using hne
    rw [List.all_eq_true] at hk
    have e : shWish ds = joinL [32] (ds.map shWishPart) := if_neg hne
    have hfree : ∀ p ∈ ds.map shWishPart, (32 : Nat) ∉ p := fun p hp => by
      obtain ⟨d, hdm, rfl⟩ := List.mem_map.mp hp
      obtain ⟨f, lo, hi, rfl, hf, _⟩ := wish_part h hdm
      exact part_free hf
    have h58 : ∀ p ∈ ds.map shWishPart, (58 : Nat) ∈ p := fun p hp => by
      obtain ⟨d, hdm, rfl⟩ := List.mem_map.mp hp
      obtain ⟨f, lo, hi, rfl, hf, _⟩ := wish_part h hdm
      show 58 ∈ tl f ++ ([58] ++ _)
      simp
    unfold rdWish
    rw [e, if_neg (sh_ne_dash h58 hne'), spl_join hne' hfree, mapO_map fun d hdm => ?_]
    · simp only
      rw [if_pos h]
    · obtain ⟨f, lo, hi, rfl, hf, h1, h2, _⟩ := wish_part h hdm
      have hk' := hk _ hdm
      have hk2 : (okNum 15 (.str f) && (okNum 15 lo && (okNum 15 hi && true))) = true := hk'
      simp only [Bool.and_eq_true] at hk2
      exact rdWishPart_sh hf h1 h2 hk2.2.1 hk2.2.2.1
theorem rdPiece_go {ds : List PyData} (h : pieceD (.tuple ds) = true) (hne : ds ≠ []) : rdPiece (shPiece ds) = match mapO rdPiecePart (ds.map shPiecePart) with
    | some ds => if pieceD (.tuple ds) = true then some ds else none
    | none => none := by
  have hne' : ds.map shPiecePart ≠ [] := by simpa using hne
  have e : shPiece ds = joinL [32] (ds.map shPiecePart) := if_neg hne
  have hfree : ∀ p ∈ ds.map shPiecePart, (32 : Nat) ∉ p := fun p hp => by
    obtain ⟨d, hdm, rfl⟩ := List.mem_map.mp hp
    obtain ⟨f, i, rfl, hf⟩ := piece_part h hdm
    exact ppart_free hf
  have h58 : ∀ p ∈ ds.map shPiecePart, (58 : Nat) ∈ p := fun p hp => by
    obtain ⟨d, hdm, rfl⟩ := List.mem_map.mp hp
    obtain ⟨f, i, rfl, hf⟩ := piece_part h hdm
    show 58 ∈ tl f ++ ([58] ++ _)
    simp
  unfold rdPiece
  rw [e, if_neg (sh_ne_dash h58 hne'), spl_join hne' hfree]
theorem rdPiece_sh {ds : List PyData} (h : pieceD (.tuple ds) = true) (hk : ds.all (okPart 15) = true) : rdPiece (shPiece ds) = some ds := by
  by_cases hne : ds = []
  · subst hne; rfl
  rw [rdPiece_go h hne, mapO_map fun d hdm => ?_]
  · simp only
    rw [if_pos h]
  · obtain ⟨f, i, rfl, hf⟩ := piece_part h hdm
    rw [List.all_eq_true] at hk
    have hk2 : (okNum 15 (.str f) && (okNum 15 (.int i) && true)) = true := hk _ hdm
    simp only [Bool.and_eq_true] at hk2
    rw [rdPiecePart_sh hf, rdNum_num (of_decide_eq_true hk2.2.1)]
    rfl
theorem rdPiece_great {ds : List PyData} (h : pieceD (.tuple ds) = true) (hk : ds.all (okPart 15) = false) : rdPiece (shPiece ds) = none := by
  by_cases hne : ds = []
  · subst hne; cases hk
  obtain ⟨d, hdm, hd⟩ := List.all_eq_false.mp hk
  obtain ⟨f, i, rfl, hf⟩ := piece_part h hdm
  have hi : ¬ i.natAbs < 10 ^ 15 := fun hi => hd (by
    show (okNum 15 (.str f) && (decide (i.natAbs < 10 ^ 15) && true)) = true
    rw [decide_eq_true hi]; rfl)
  rw [rdPiece_go h hne, mapO_none ⟨_, List.mem_map.mpr ⟨_, hdm, rfl⟩, by rw [rdPiecePart_sh hf, rdNum_great hi]; rfl⟩]
end NB

/-! NF: readings over texts: str(n), +, join, split, f-strings; what is refused. -/
namespace NB
open PySem PySem.Spec PyProof.Rows L2 TL

def numS (i : Int) : Str := Str.ofString (toString i)
theorem tl_numS (i : Int) : tl (numS i) = numLI i := tl_numI i
theorem len_tl' (x : Str) : x.length = (tl x).length := len_tl x
theorem len_app (a b : Str) : (a ++ b).length = a.length + b.length := Str.length_append a b
theorem numS_len {i : Int} {k : Nat} (hk : 0 < k) (h : i.natAbs < 10 ^ k) : (numS i).length ≤ k + 1 := by
  rw [len_tl', tl_numS]; exact numLI_len hk h
theorem l_colon : (Str.ofString ":").length = 1 := by decide +kernel
theorem l_dots : (Str.ofString "..").length = 2 := by decide +kernel
theorem l_blank : (Str.ofString " ").length = 1 := by decide +kernel
theorem l_empty : (Str.ofString "").length = 0 := by decide +kernel
theorem l_bar : (Str.ofString " | ").length = 3 := by decide +kernel
theorem l_dash : (Str.ofString "-").length = 1 := by decide +kernel
theorem l_star : (Str.ofString "*").length = 1 := by decide +kernel
theorem l_comma : (Str.ofString ",").length = 1 := by decide +kernel
theorem l_emp : Str.empty.length = 0 := rfl
def rStrI : List V → Hp → VK → Prop := fun xs H Q => ∃ i : Int, xs = [.int i] ∧ i.natAbs.log2 < 1920 ∧ Q (.str (toString i)) H
theorem call_strI {X : Cx} : CallR X (.type "str") rStrI := call_str_int
def rJoin (K : PySem.W.Frag) : V → List V → Hp → VK → Prop := fun x xs H Q => ∃ a p, ∃ ys : List Str, x = .str a ∧ xs = [.ref p] ∧ (SqL K H p (ys.map V.str) ∨ SqT K H p (ys.map V.str)) ∧ (ys.map (·.length)).sum + ys.length * a.length ≤ 16777216 ∧ Q (.str (Txt.join a ys)) H
def rSplit : V → List V → Hp → VK → Prop := fun x xs H Q => ∃ a b, x = .str a ∧ xs = [.str b] ∧ (b.length == 0) = false ∧ a.length + 2 ≤ sizeLine ∧ rNewStrs (Txt.split a b) H Q
def rStarts : V → List V → Hp → VK → Prop := fun x xs H Q => ∃ a b, x = .str a ∧ xs = [.str b] ∧ Q (.bl (Txt.startswith a b)) H
section
variable {X : Cx} {o e : Expr} {to te : TE} {apos pos : Pos}
theorem pe_join2 {K : PySem.W.Frag} (ho : PE X o to) (he : PE X e te) (hs : starEach [e] X.env = [(false, eval e X.env)] := by rfl) (hbase : attributeBase o "join" X.env (eval o X.env) = eval o X.env := by rfl) (hline : (apos.endLine == pos.line) = true := by rfl) (hK : X.K = K := by rfl) :
    PE X (.Call (.Attribute o "join" apos) [e] [] pos) (tM1 (rJoin K) to te) := by subst hK; exact pe_join ho he hs hbase hline
theorem pe_split2 (ho : PE X o to) (he : PE X e te) (hs : starEach [e] X.env = [(false, eval e X.env)] := by rfl) (hbase : attributeBase o "split" X.env (eval o X.env) = eval o X.env := by rfl) (hline : (apos.endLine == pos.line) = true := by rfl) :
    PE X (.Call (.Attribute o "split" apos) [e] [] pos) (tM1 rSplit to te) := pe_split ho he hs hbase hline
theorem pe_starts2 (ho : PE X o to) (he : PE X e te) (hs : starEach [e] X.env = [(false, eval e X.env)] := by rfl) (hbase : attributeBase o "startswith" X.env (eval o X.env) = eval o X.env := by rfl) (hline : (apos.endLine == pos.line) = true := by rfl) :
    PE X (.Call (.Attribute o "startswith" apos) [e] [] pos) (tM1 rStarts to te) := pe_m1 PySem.F.slot_str_startswith PySem.F.type_str_startswith mt_startswith ho he hs hbase hline
def tJoined (ts : List TE) : TE := fun σ H Q => tJs ts Str.empty σ H fun out H1 => Q (.str out) H1
theorem pe_joined2 {v1 v2 : Expr} {rest : List Expr} {ts : List TE} {pos : Pos} (h : PJ X (v1 :: v2 :: rest) ts) : PE X (.JoinedStr (v1 :: v2 :: rest) pos) (tJoined ts) := pe_joined h
/-- a refusal -/
def tExc (W : WX) (C : Addr) : TS := fun _ σ H => W (.ref C) none σ H
theorem ps_exc2 {x m : Str} {p p2 pos pos2 : Pos} {j : Nat} {C : Addr} {W : WX} (e : ExcC X.K X.mg x C) (hc : X.calm = true) (tk : Takes X W) (hg : Gl X x := by rfl) (hdb : (x == ("__debug__" : Str)) = false := by decide) :
    PS X (.Raise (some (.Call (.Name x p) [.Constant (.str m) j p2] [] pos)) none pos2) (tExc W C) := ps_exc e hc tk hg hdb
end
section
variable {ex : Addr → Prop} {K : PySem.W.Frag} {σ : L2.St} {H : Hp} {D : Ends} {Q : VK} {te to : TE} {v : V} {d : PyData} {x y a b : Str} {i : Int} {p : Addr} {ys : List Str} {QT : Str → Hp → Prop} {ts : List TE} {acc : Str}
theorem r_exc {W : WX} {C : Addr} (h : W (.ref C) none σ H) : tExc W C D σ H := h
theorem r_m1 {r : V → List V → Hp → VK → Prop} (h : to σ H fun x H1 => (∃ a, x = .str a) ∧ te σ H1 fun y H2 => r x [y] H2 Q) : tM1 r to te σ H Q := h
theorem r_isS {R : Prop} (h : R) : (∃ a, V.str x = .str a) ∧ R := ⟨⟨x, rfl⟩, h⟩
theorem r_strI (h : i.natAbs < 10 ^ 40) (q : Q (.str (numS i)) H) : rStrI [.int i] H Q := ⟨i, rfl, Nat.lt_of_lt_of_le (PySem.Flt.log2_lt_of (k := 200) (by decide) (Nat.lt_trans h (by decide))) (by decide), q⟩
theorem r_join (h : SqL K H p (ys.map V.str)) (hl : (ys.map (·.length)).sum + ys.length * a.length ≤ 16777216) (q : Q (.str (Txt.join a ys)) H) : rJoin K (.str a) [.ref p] H Q := ⟨a, p, ys, rfl, rfl, .inl h, hl, q⟩
theorem r_split (hb : (b.length == 0) = false) (ha : a.length ≤ 1000000) (q : ∀ p H', H p = none → Kp No H H' → H' p = some (.lst ((Txt.split a b).map V.str)) → Q (.ref p) H') : rSplit (.str a) [.str b] H Q :=
  ⟨a, b, rfl, rfl, hb, Nat.le_trans (Nat.add_le_add_right ha 2) (by decide), fun p np => q p _ np (Kp.new Kp.refl np) upd_same⟩
theorem r_starts (q : Q (.bl (Txt.startswith a b)) H) : rStarts (.str a) [.str b] H Q := ⟨a, b, rfl, rfl, q⟩
theorem r_joined (h : tJs ts Str.empty σ H fun out H1 => Q (.str out) H1) : tJoined ts σ H Q := h
theorem r_js0 (h : QT acc H) : tJs [] acc σ H QT := h
theorem r_js (h : te σ H fun x H1 => ∃ y : Str, x = .str y ∧ (acc ++ y).length ≤ sizeLine ∧ tJs ts (acc ++ y) σ H1 QT) : tJs (te :: ts) acc σ H QT := h
theorem r_js1 (hl : (acc ++ y).length ≤ 1000000) (h : tJs ts (acc ++ y) σ H QT) : ∃ z : Str, V.str y = .str z ∧ (acc ++ z).length ≤ sizeLine ∧ tJs ts (acc ++ z) σ H QT := ⟨y, rfl, million hl, h⟩
/-- {x} of a text, of an int -/
def FmtV (Q : VK) (x : V) (H1 : Hp) : Prop := (∃ y : Str, x = .str y ∧ y.length ≤ sizeLine ∧ Q (.str y) H1) ∨ ∃ i : Int, x = .int i ∧ i.natAbs.log2 < 1920 ∧ Q (.str (toString i)) H1
theorem r_fmt (h : te σ H (FmtV Q)) : tFmt te σ H Q := h
theorem r_fmt_s (h : y.length ≤ 1000000) (q : Q (.str y) H) : FmtV Q (.str y) H := .inl ⟨y, rfl, million h, q⟩
theorem r_fmt_i (h : i.natAbs < 10 ^ 40) (q : Q (.str (numS i)) H) : FmtV Q (.int i) H := .inr ⟨i, rfl, Nat.lt_of_lt_of_le (PySem.Flt.log2_lt_of (k := 200) (by decide) (Nat.lt_trans h (by decide))) (by decide), q⟩
theorem r_add_s (hl : a.length + b.length ≤ 1000000) (h : Q (.str (a ++ b)) H) : rAdd2 K (.str a) (.str b) H Q := ⟨million hl, h⟩
end
end NB

/-! NG: texts cut, taken apart, read as numbers; lists that grow. -/
namespace NB
open PySem PySem.Spec PyProof.Rows L2 TL
open PySem.NumText

theorem tl_cut1 (z : Str) : tl (cutS z (some 1) none) = (tl z).tail := by
  have hz := len_tl z
  show ((tl z).drop (HT.sIx z.length 0 (some 1))).take (HT.sIx z.length z.length none - HT.sIx z.length 0 (some 1)) = _
  have e : HT.sIx z.length 0 (some 1) = min 1 z.length := HT.sIx_nat z.length 0 1
  rw [e, HT.sIx_none, hz]
  cases h : tl z with
  | nil => rfl
  | cons c r =>
    have e2 : min 1 (c :: r).length = 1 := by rw [List.length_cons]; omega
    rw [e2]
    show (r.take (r.length + 1 - 1)) = r
    rw [Nat.add_sub_cancel, List.take_length]
theorem starts_one (z : Str) {y : Str} {c : Nat} (hy : tl y = [c]) : Txt.startswith z y = decide ((tl z).head? = some c) := by
  have h1 : y.length = 1 := by rw [len_tl, hy]; rfl
  have h2 : y.cps.toList = [c] := hy
  unfold Txt.startswith
  rw [StrLaws.subAt_eq, h2, h1, len_tl z, List.drop_zero]
  show (_ && ((tl z).take 1 == [c])) = _
  cases h : tl z with
  | nil => rfl
  | cons d r =>
    show (decide (0 + 1 ≤ r.length + 1) && ([d] == [c])) = decide (some d = some c)
    have e : decide (0 + 1 ≤ r.length + 1) = true := decide_eq_true (by omega)
    rw [e, Bool.true_and]
    by_cases q : d = c
    · subst q; simp
    · have : ¬ some d = some c := fun z => q (Option.some.inj z)
      rw [decide_eq_false this]
      simp [q]
theorem tl_eq_iff {x y : Str} : x = y ↔ tl x = tl y := ⟨fun e => by rw [e], TL.ext_tl⟩
theorem dec_tl {x y : Str} : decide (x = y) = decide (tl x = tl y) := by
  by_cases h : x = y
  · rw [decide_eq_true h, decide_eq_true (tl_eq_iff.mp h)]
  · rw [decide_eq_false h, decide_eq_false fun e => h (TL.ext_tl e)]
theorem split_tl (x : Str) {y : Str} (hy : tl y ≠ []) (h : y.cps.all (· < 256) = true) : (Txt.split x y).map tl = spl (tl y) 0 [] (tl x) := split_spl x y hy (kind_ok h)
theorem spl_le (S : List Nat) : ∀ (L : List Nat) (k : Nat) (acc : List Nat), ∀ w ∈ spl S k acc L, w.length ≤ acc.length + L.length
  | [], k, acc, w, h => by
    rw [spl_nil] at h
    rw [List.mem_singleton.mp h]; exact Nat.le_add_right _ _
  | c :: r, 0, acc, w, h => by
    cases hp : pre S (c :: r) with
    | true =>
      rw [spl_hit hp] at h
      rcases List.mem_cons.mp h with rfl | h
      · exact Nat.le_add_right _ _
      · have := spl_le S r _ [] w h
        simp only [List.length_nil, List.length_cons] at this ⊢
        omega
    | false =>
      rw [spl_miss hp] at h
      have := spl_le S r 0 _ w h
      simp only [List.length_append, List.length_cons, List.length_nil] at this ⊢
      omega
  | c :: r, k + 1, acc, w, h => by
    have := spl_le S r k acc w h
    simp only [List.length_cons] at this ⊢
    omega
theorem spl_count (S : List Nat) : ∀ (L : List Nat) (k : Nat) (acc : List Nat), (spl S k acc L).length ≤ L.length + 1
  | [], k, acc => by rw [spl_nil]; exact Nat.le_refl _
  | c :: r, 0, acc => by
    cases hp : pre S (c :: r) with
    | true =>
      rw [spl_hit hp]
      have := spl_count S r (S.length - 1) []
      simp only [List.length_cons] at this ⊢
      omega
    | false =>
      rw [spl_miss hp]
      have := spl_count S r 0 (acc ++ [c])
      simp only [List.length_cons] at this ⊢
      omega
  | c :: r, k + 1, acc => by
    have := spl_count S r k acc
    simp only [List.length_cons] at this ⊢
    show (spl S k acc r).length ≤ _
    omega
theorem split_count (x : Str) {y : Str} (hy : tl y ≠ []) (h : y.cps.all (· < 256) = true) : (Txt.split x y).length ≤ x.length + 1 := by
  have e := congrArg List.length (split_tl x hy h)
  rw [List.length_map] at e
  rw [e, len_tl]
  exact spl_count _ _ _ _
theorem split_le (x : Str) {y : Str} (hy : tl y ≠ []) (h : y.cps.all (· < 256) = true) {w : Str} (hw : w ∈ Txt.split x y) : w.length ≤ x.length := by
  have e := split_tl x hy h
  have m : tl w ∈ spl (tl y) 0 [] (tl x) := by rw [← e]; exact List.mem_map_of_mem hw
  have := spl_le _ _ _ _ _ m
  rw [len_tl w, len_tl x]
  simpa using this
/-- two parts -/
theorem two_split (x : Str) {y : Str} (hy : tl y ≠ []) (h : y.cps.all (· < 256) = true) :
    (∀ a b, two (tl y) (tl x) = some (a, b) → Txt.split x y = [ofL a, ofL b]) ∧ (two (tl y) (tl x) = none → (Txt.split x y).length ≠ 2) := by
  have e := split_tl x hy h
  constructor
  · intro a b hab
    unfold two at hab
    rw [← e] at hab
    generalize Txt.split x y = ws at *
    match ws, hab with
    | [u, v], hab =>
      simp only [List.map_cons, List.map_nil, Option.some.injEq, Prod.mk.injEq] at hab
      rw [← hab.1, ← hab.2, ofL_tl, ofL_tl]
    | [], hab => cases hab
    | [_], hab => cases hab
    | _ :: _ :: _ :: _, hab => cases hab
  · intro hn hl
    unfold two at hn
    rw [← e] at hn
    match hw : Txt.split x y, hl with
    | [u, v], _ => rw [hw] at hn; cases hn
theorem two_le {S x a b : List Nat} (h : two S x = some (a, b)) : a.length ≤ x.length ∧ b.length ≤ x.length := by
  unfold two at h
  have q := spl_le S x 0 []
  generalize spl S 0 [] x = ws at *
  match ws, h with
  | [u, v], h =>
    cases h
    have h1 := q a (by simp)
    have h2 := q b (by simp)
    simp at h1 h2
    exact ⟨h1, h2⟩
/-- the text that a number's signs are, read by int -/
theorem int_read {z : Str} {i : Int} (h : rdNum (tl z) = some i) : PySem.intText? z = some i ∧ z.length ≤ 16 := by
  unfold rdNum at h
  by_cases h1 : figsOf (tl z) = [] ∨ 15 < (figsOf (tl z)).length ∨ ((figsOf (tl z)).head? = some 48 ∧ tl z ≠ [48])
  · rw [if_pos h1] at h; cases h
  · rw [if_neg h1] at h
    by_cases h2 : (figsOf (tl z)).all isFig = true
    · rw [if_pos h2] at h
      have hv := Option.some.inj h
      have hd := allDigits_iff.mp h2
      have hne : figsOf (tl z) ≠ [] := fun e => h1 (.inl e)
      have hlen : (figsOf (tl z)).length ≤ 15 := by
        rcases Nat.lt_or_ge 15 (figsOf (tl z)).length with q | q
        · exact absurd (.inr (.inl q)) h1
        · exact q
      unfold valOf at hv
      unfold figsOf at hd hne hlen
      by_cases hm : (tl z).head? = some 45
      · rw [if_pos hm] at hv hd hne hlen
        cases hz : tl z with
        | nil => rw [hz] at hm; cases hm
        | cons c r =>
          rw [hz] at hm hv hd hne hlen
          have hc : c = 45 := by simpa using hm
          subst hc
          have hl16 : z.length ≤ 16 := by rw [len_tl, hz, List.length_cons]; simpa using hlen
          exact ⟨by rw [← hv]; exact intText_neg hz hd hne (by omega), hl16⟩
      · rw [if_neg hm] at hv hd hne hlen
        have hl15 : z.length ≤ 15 := by rw [len_tl]; exact hlen
        exact ⟨by rw [← hv]; exact intText_digits hd hne (by omega), by omega⟩
    · rw [if_neg h2] at h; cases h
theorem rdNum_no {l : List Nat} (h : figsOf l = [] ∨ 15 < (figsOf l).length ∨ ((figsOf l).head? = some 48 ∧ l ≠ [48])) : rdNum l = none := if_pos h
theorem rdNum_bad {l : List Nat} {c : Nat} (h : c ∈ figsOf l) (hc : isFig c = false) : rdNum l = none := by
  unfold rdNum
  split
  · rfl
  · rw [if_neg]
    intro q
    rw [List.all_eq_true.mp q c h] at hc
    cases hc
theorem rdNum_yes {l : List Nat} (h1 : ¬ figsOf l = []) (h2 : ¬ 15 < (figsOf l).length) (h3 : ¬ ((figsOf l).head? = some 48 ∧ l ≠ [48])) (h : (figsOf l).all isFig = true) : rdNum l = some (valOf l) := by
  unfold rdNum
  rw [if_neg (fun z => z.elim h1 fun z => z.elim h2 h3), if_pos h]
theorem figs_le (l : List Nat) : (figsOf l).length ≤ l.length := by
  unfold figsOf
  split
  · rw [List.length_tail]; omega
  · exact Nat.le_refl _
/-! ### what has been read so far -/
theorem mapO_app {α β : Type} {f : α → Option β} {a : α} {b : β} : ∀ {l : List α} {bs : List β}, mapO f l = some bs → f a = some b → mapO f (l ++ [a]) = some (bs ++ [b])
  | [], bs, h, ha => by
    cases h
    show (match f a, some [] with | some b, some bs => some (b :: bs) | _, _ => none) = _
    rw [ha]; rfl
  | c :: r, bs, h, ha => by
    show (match f c, mapO f (r ++ [a]) with | some b, some bs => some (b :: bs) | _, _ => none) = _
    have h' : (match f c, mapO f r with | some b, some bs => some (b :: bs) | _, _ => none) = some bs := h
    cases hc : f c with
    | none => rw [hc] at h'; cases h'
    | some d =>
      cases hr : mapO f r with
      | none => rw [hc, hr] at h'; cases h'
      | some ds =>
        rw [hc, hr] at h'
        cases h'
        rw [mapO_app hr ha]
        rfl
theorem mapO_take {α β : Type} {f : α → Option β} {a : α} {b : β} {l : List α} {bs : List β} {i : Nat} (h : mapO f (l.take i) = some bs) (hi : l[i]? = some a) (ha : f a = some b) : mapO f (l.take (i + 1)) = some (bs ++ [b]) := by
  rw [List.take_add_one, hi]; exact mapO_app h ha
theorem mapO_len {α β : Type} {f : α → Option β} : ∀ {l : List α} {bs : List β}, mapO f l = some bs → bs.length = l.length
  | [], bs, h => by cases h; rfl
  | c :: r, bs, h => by
    have h' : (match f c, mapO f r with | some b, some bs => some (b :: bs) | _, _ => none) = some bs := h
    cases hc : f c with
    | none => rw [hc] at h'; cases h'
    | some d =>
      cases hr : mapO f r with
      | none => rw [hc, hr] at h'; cases h'
      | some ds =>
        rw [hc, hr] at h'
        cases h'
        rw [List.length_cons, List.length_cons, mapO_len hr]
section
variable {ex : Addr → Prop} {K : PySem.W.Frag} {H : Hp} {Q : VK} {z : Str} {p : Addr} {xs : List V} {y : V} {i : Int} {c : Nat} {lo hi : Option Int}
theorem r_sl_s (h : z.length ≤ 1000000) (q : Q (.str (cutS z lo hi)) H) : rSl2 K (.str z) lo hi H Q := .inr (.inr ⟨z, rfl, million h, q⟩)
theorem r_ix_s {n : Nat} {j : Int} (h : z.length ≤ 1000000) (e : j = (n : Int)) (hc : z.cps.toList[n]? = some c) (q : Q (.str ⟨#[c]⟩) H) : rIx K (.str z) (.int j) H Q := by
  subst e
  exact .inr (.inr ⟨z, _, c, rfl, rfl, million h, atI_nat hc, q⟩)
theorem r_int_s (h : rdNum (tl z) = some i) (q : Q (.int i) H) : rInt2 [.str z] H Q := .inr ⟨z, i, rfl, (int_read h).1, Nat.le_trans (int_read h).2 (by decide), q⟩
theorem r_append (h : H p = some (.lst xs)) (hl : xs.length ≤ 10000000) (q : Q .non (upd H p (.lst (xs ++ [y])))) : rAppend (.ref p) [y] H Q := ⟨p, xs, y, rfl, rfl, h, Nat.lt_of_le_of_lt hl (by decide), q⟩
theorem r_tupL (h : H p = some (.lst xs)) (q : ∀ l H', H l = none → Kp No H H' → H' l = some (.tup xs) → Q (.ref l) H') : rTupOf K [.ref p] H Q :=
  ⟨p, xs, rfl, .inl ⟨SqL.of h, fun l hn => q l _ hn (Kp.new Kp.refl hn) upd_same⟩⟩
end
/-! ### data against a text; methods of lists -/
def isSD (z : Str) : PyData → Bool | .str x => decide (x = z) | _ => false
/-- data that == takes -/
def cmpD : PyData → Bool := fun _ => true
section
variable {ex : Addr → Prop} {K : PySem.W.Frag} {σ : L2.St} {H : Hp} {Q : VK} {z : Str} {p : Addr} {xs : List V} {v y : V} {d : PyData} {to : TE} {t : TA} {r : V → List V → Hp → VK → Prop}
theorem r_ne_ds (h : Dat ex H v d) (hc : cmpD d = true) (hz : SeqAt.shaped (.str z) = true) (q : Q (.bl (!isSD z d)) H) : rNe2 K v (.str z) H Q := by
  cases h with
  | non => exact .inl ⟨rfl, by have e : decide (V.non = V.str z) = false := decide_eq_false (by simp); rw [e]; exact q⟩
  | bl b => exact .inl ⟨rfl, by have e : decide (V.bl b = V.str z) = false := decide_eq_false (by simp); rw [e]; exact q⟩
  | int i => exact .inl ⟨rfl, by have e : decide (V.int i = V.str z) = false := decide_eq_false (by simp); rw [e]; exact q⟩
  | str x hx => exact r_ne_ss q
  | tup e r => exact .inr (.inr (.inr ⟨_, z, rfl, rfl, .inr (.inl ⟨_, SqT.of e⟩), q⟩))
  | lst n e r => exact .inr (.inr (.inr ⟨_, z, rfl, rfl, .inl ⟨_, SqL.of e⟩, q⟩))
  | dct n e r => exact .inr (.inr (.inr ⟨_, z, rfl, rfl, .inr (.inr ⟨_, e⟩), q⟩))
theorem r_bm (h : to σ H fun x H1 => tyV K "list" x H1 ∧ t σ H1 fun xs H2 => r x xs H2 Q) : tBM K "list" r to t σ H Q := h
theorem r_bm0 (h : to σ H fun x H1 => tyV K "list" x H1 ∧ r x [] H1 Q) : tBM0 K "list" r to σ H Q := h
theorem r_tyL {R : Prop} (e : H p = some (.lst xs)) (h : R) : tyV K "list" (.ref p) H ∧ R := ⟨.inl ⟨rfl, xs, SqL.of e⟩, h⟩
end
theorem Kp.app {H : Hp} {p : Addr} {xs ys : List V} (h : H p = some (.lst xs)) : Kp All H (upd H p (.lst ys)) := Kp.mut Kp.refl trivial h rfl
theorem Kp.all {ex : Addr → Prop} {H H' : Hp} (k : Kp ex H H') : Kp All H H' := k.mono fun _ _ => trivial
theorem Dat.all {ex : Addr → Prop} {H H' : Hp} {v : V} {d : PyData} (h : Dat All H v d) (k : Kp ex H H') : Dat All H' v d := h.kp k.all
theorem Dats.all {ex : Addr → Prop} {H H' : Hp} {v : List V} {d : List PyData} (h : Dats All H v d) (k : Kp ex H H') : Dats All H' v d := h.kp k.all
theorem isFig_iff {d : Nat} : d ∈ (Str.ofString "0123456789").cps.toList ↔ isFig d = true := by
  have e : (Str.ofString "0123456789").cps.toList = [48, 49, 50, 51, 52, 53, 54, 55, 56, 57] := by decide +kernel
  rw [e]
  unfold isFig
  simp only [List.mem_cons, List.not_mem_nil, or_false, decide_eq_true_eq]
  omega
/-- a text compared with one that is known -/
theorem eq_lit {x y : Str} {l : List Nat} (e : tl y = l) : decide (x = y) = decide (tl x = l) := by rw [dec_tl, e]
theorem r_len_ss {K : PySem.W.Frag} {H : Hp} {Q : VK} {y : Str} (h : y.length ≤ 1000000) (q : Q (.int y.length) H) : rLen K [.str y] H Q := ⟨_, _, rfl, ⟨million h, rfl⟩, q⟩
/-- what comes of a term is known first, then used -/
theorem via {te : TE} {σ : L2.St} {H : Hp} {Z : VK} (S : VK) (h1 : ∀ Z' : VK, (∀ v H1, S v H1 → Z' v H1) → te σ H Z') (h2 : ∀ v H1, S v H1 → Z v H1) : te σ H Z := h1 Z h2
theorem viaI {Z S : VK} {R : VK → Prop} (h1 : ∀ Z' : VK, (∀ v H1, S v H1 → Z' v H1) → R Z') (h2 : ∀ v H1, S v H1 → Z v H1) : R Z := h1 Z h2
/-! ### ends of spans: None or an int -/
def EV : Option Int → V
  | none => .non
  | some i => .int i
def ED : Option Int → PyData
  | none => .none
  | some i => .int i
theorem Dat.edI {ex : Addr → Prop} {H : Hp} {y : V} {c : Option Int} (h : Dat ex H y (ED c)) : y = EV c := by
  cases c with
  | none => cases h; rfl
  | some i => cases h; rfl
theorem Dat.ed {ex : Addr → Prop} {H : Hp} (c : Option Int) : Dat ex H (EV c) (ED c) := by
  cases c with
  | none => exact .non
  | some i => exact .int i
theorem br_iN {i : Int} {A B : Prop} [Decidable (V.int i = V.non)] (h : B) : if decide (V.int i = V.non) = true then A else B := iteF' (by simp) h
where iteF' {b : Bool} {A B : Prop} (e : b = false) (h : B) : if b = true then A else B := by rw [e]; exact iteF h
theorem br_nN {i : Int} {A B : Prop} [Decidable (V.int i = V.non)] (h : A) : if (!decide (V.int i = V.non)) = true then A else B := r_iteT (by simp) h
theorem br_iNN {A B : Prop} [Decidable (V.non = V.non)] (h : A) : if decide (V.non = V.non) = true then A else B := r_iteT (by simp) h
theorem br_nNN {A B : Prop} [Decidable (V.non = V.non)] (h : B) : if (!decide (V.non = V.non)) = true then A else B := r_iteF (by simp) h
/-! min, max, abs -/
def rMin2 : List V → Hp → VK → Prop := fun xs H Q => ∃ i j, xs = [.int i, .int j] ∧ Q (.int (if j < i then j else i)) H
def rMax2 : List V → Hp → VK → Prop := fun xs H Q => ∃ i j, xs = [.int i, .int j] ∧ Q (.int (if j > i then j else i)) H
def rAbs : List V → Hp → VK → Prop := fun xs H Q => ∃ i : Int, xs = [.int i] ∧ Q (.int (if i < 0 then -i else i)) H
theorem cr_min2 {X : Cx} (hc : X.calm = true) : CallR X (.builtin "min") rMin2 := call_min2 hc
theorem cr_max2 {X : Cx} (hc : X.calm = true) : CallR X (.builtin "max") rMax2 := call_max2 hc
theorem cr_abs {X : Cx} : CallR X (.builtin "abs") rAbs := call_abs
section
variable {H : Hp} {Q : VK} {i j : Int}
theorem r_min2 (h : Q (.int (min i j)) H) : rMin2 [.int i, .int j] H Q := ⟨i, j, rfl, by
  have e : (if j < i then j else i) = min i j := by rw [Int.min_def]; split <;> split <;> omega
  rw [e]; exact h⟩
theorem r_max2 (h : Q (.int (max i j)) H) : rMax2 [.int i, .int j] H Q := ⟨i, j, rfl, by
  have e : (if j > i then j else i) = max i j := by rw [Int.max_def]; split <;> split <;> omega
  rw [e]; exact h⟩
theorem r_abs (h : Q (.int (i.natAbs : Int)) H) : rAbs [.int i] H Q := ⟨i, rfl, by
  have e : (if i < 0 then -i else i) = (i.natAbs : Int) := by split <;> omega
  rw [e]; exact h⟩
end
theorem fin_i {ex : Addr → Prop} {Q : VK} {H H' : Hp} {a b : Int} (k : ∀ H', Kp ex H H' → Q (.int a) H') (e : a = b) (h : Kp ex H H') : Q (.int b) H' := by
  rw [← e]; exact k _ h
theorem exm_own {K : PySem.W.Frag} {mg : Str → Option Value} {x : Str} {C : Addr} (e : ExcC K mg x C) : PySem.W.exmOne K (.ref C) (.ref C) = some true := by
  unfold PySem.W.exmOne
  rw [e.bC, if_pos (by rfl)]
  have i := e.iC
  have t := e.tC
  unfold PySem.W.isClsIn at i
  unfold PySem.W.kitCls
  simp [i, t, e.sC]
end NB

/-! ND: dicts: written, read, walked while locked. -/
namespace NB
open PySem PySem.Spec PyProof.Rows L2 TL
section
variable {ex : Addr → Prop} {K : PySem.W.Frag} {σ : L2.St} {H H' H1 : Hp} {D : Ends} {Q : VK} {te td ty tv : TE} {tb : TS} {g : TG} {a d q : Addr} {o : Obj} {kvs : List (Key × V)} {k : Key} {v x y : V} {u : HO}
def kS (f : Str) : Key := Sum.inr f
theorem r_dnewK (h : ∀ p H', H p = none → Kp No H H' → H' p = some (.dK []) → Q (.ref p) H') : tDNewK σ H Q := fun p hp => h p _ hp (Kp.new Kp.refl hp) upd_same
def RDGet (Q : VK) (x y : V) (H : Hp) : Prop := ∃ a v, x = .ref a ∧ DGet H a y (some v) ∧ Q v H
def RDNin (Q : VK) (x y : V) (H : Hp) : Prop := ∃ a o, x = .ref a ∧ DGet H a y o ∧ Q (.bl (!o.isSome)) H
def RDIn (Q : VK) (x y : V) (H : Hp) : Prop := ∃ a o, x = .ref a ∧ DGet H a y o ∧ Q (.bl o.isSome) H
theorem r_dget (h : td σ H fun x H1 => ty σ H1 fun y H2 => RDGet Q x y H2) : tDGet td ty σ H Q := h
theorem r_dgetS {f : Str} (h : Rd H a (.dK kvs)) (e : valV kvs (kS f) = some v) (q : Q v H) : RDGet Q (.ref a) (.str f) H := ⟨a, v, rfl, .inl ⟨kvs, kS f, h, rfl, e.symm⟩, q⟩
theorem r_dnin (h : ty σ H fun y H1 => td σ H1 fun x H2 => RDNin Q x y H2) : tDNotIn ty td σ H Q := h
theorem r_din (h : ty σ H fun y H1 => td σ H1 fun x H2 => RDIn Q x y H2) : tDIn ty td σ H Q := h
theorem r_dninS {f : Str} (h : Rd H a (.dK kvs)) (q : Q (.bl (!(valV kvs (kS f)).isSome)) H) : RDNin Q (.ref a) (.str f) H := ⟨a, _, rfl, .inl ⟨kvs, kS f, h, rfl, rfl⟩, q⟩
theorem r_dinS {f : Str} (h : Rd H a (.dK kvs)) (q : Q (.bl (valV kvs (kS f)).isSome) H) : RDIn Q (.ref a) (.str f) H := ⟨a, _, rfl, .inl ⟨kvs, kS f, h, rfl, rfl⟩, q⟩
theorem r_dput (h : tv σ H fun v H1 => td σ H1 fun x H2 => ty σ H2 fun y H3 => ∃ a H4, x = .ref a ∧ DPut H3 a y v H4 ∧ D.nx σ H4) : sDPut td ty tv D σ H := h
theorem r_dputS {f : Str} (h : H a = some (.dK kvs)) (hl : kvs.length ≤ 100000) (q : D.nx σ (upd H a (.dK (putK kvs (kS f) v)))) : ∃ b H4, V.ref a = .ref b ∧ DPut H b (.str f) v H4 ∧ D.nx σ H4 :=
  ⟨a, _, rfl, DPut.k (k := kS f) h (Nat.lt_of_le_of_lt hl (by decide)), q⟩
/-- what a lock asks -/
theorem r_lock {t : TS} (h : H d = some u) (m : Mut (some u)) (k : ∀ od, t ⟨fun σ' H' => H' d = some (.frz od u) ∧ D.nx σ' (upd H' d u), fun v H' => H' d = some (.frz od u) ∧ D.rt v (upd H' d u), fun σ' H' => H' d = some (.frz od u) ∧ D.bk σ' (upd H' d u), fun σ' H' => H' d = some (.frz od u) ∧ D.ct σ' (upd H' d u)⟩ σ (upd H d (.frz od u))) : tLock t D σ H := ⟨d, u, h, m, k⟩
theorem Kp.unlock (h : H d = some u) (k : Kp ex (upd H d (.frz o u)) H') : Kp ex H (upd H' d u) := fun a w e z => by
  by_cases q : a = d
  · subst q
    rw [h] at e
    cases e
    exact upd_same
  · rw [upd_ne q]
    exact k a w (by rw [upd_ne q]; exact e) z
theorem Kp.lock (h : H d = some u) (k : Kp ex H H1) (n : ¬ ex d ∨ isTup u = true) : Kp ex (upd H d (.frz o u)) (upd H1 d (.frz o u)) := fun a w e z => by
  by_cases q : a = d
  · subst q
    rw [upd_same] at e ⊢
    exact e
  · rw [upd_ne q] at e ⊢
    exact k a w e z
def LpI (g : TG) (tb : TS) (D : Ends) (σ : L2.St) (x : V) (H1 : Hp) : Prop := ∃ d o kvs, x = .ref d ∧ H1 d = some (.frz o (.dK kvs)) ∧ LpW (Iti d o kvs) g tb D σ H1
theorem r_forI (h : te σ H (LpI g tb D σ)) : tFor (iItems te) g tb D σ H := h
theorem lpI (Pv : Nat → L2.St → Hp → Prop) (hd0 : H1 d = some (.frz o (.dK kvs))) (h0 : Pv 0 σ H1) (hG : ∀ i σ' H', Pv i σ' H' → H' d = some (.frz o (.dK kvs)))
    (hs : ∀ i k v q σ' H', kvs[i]? = some (k, v) → Pv i σ' H' → H' q = none → g (.ref q) σ' (upd H' q (.tup [kV k, v])) fun σ2 H2 => tb { D with nx := Pv (i + 1), ct := Pv (i + 1), bk := D.nx } σ2 H2)
    (hd : ∀ σ' H', Pv kvs.length σ' H' → D.nx σ' H') : LpI g tb D σ (.ref d) H1 :=
  ⟨d, o, kvs, rfl, hd0, for_it (walk_items (d := d) (o := o) (kvs := kvs)) Pv h0 (fun i σ' H' _ p => hG i σ' H' p) (fun i x σ' H' H'' hi p y => by
    obtain ⟨q, a, b, rfl, hq, rfl, e1, e2⟩ := y
    have e1 : kvs[i]?.map (fun kv => kV kv.1) = some a := e1
    have e2 : kvs[i]?.map Prod.snd = some b := e2
    cases e : kvs[i]? with
    | none => rw [e] at e1; cases e1
    | some kv =>
      rw [e] at e1 e2
      have e1' := Option.some.inj e1
      have e2' := Option.some.inj e2
      subst e1' e2'
      exact hs i kv.1 kv.2 q σ' H' e p hq) hd⟩
/-- sorted(d), its keys texts -/
def rSortD : List V → Hp → VK → Prop := fun xs H Q => ∃ (a : Addr) (kvs : List (Key × V)) (ks : List Str), xs = [.ref a] ∧ Rd H a (.dK kvs) ∧ kvs.map (·.1) = ks.map Sum.inr ∧ ks.length < 64 ∧
    ∀ ys p, ys.Perm ks → sortedS ys = true → H p = none → Q (.ref p) (upd H p (.lst (ys.map V.str)))
theorem cr_sortD {X : Cx} (hc : X.calm = true) : CallR X (.builtin "sorted") rSortD := call_sortedD hc
end
theorem ne_of_tup {H : Hp} {a b : Addr} {xs : List V} {kvs : List (Key × V)} (h : H a = some (.tup xs)) (h2 : H b = some (.dK kvs)) : a ≠ b := fun z => by
  subst z; rw [h] at h2; cases h2
theorem r_sortD1 {H : Hp} {Q : VK} {a : Addr} {f : Str} {v : V} (h : Rd H a (.dK [(kS f, v)])) (q : ∀ l H', H l = none → Kp No H H' → H' l = some (.lst [.str f]) → Q (.ref l) H') : rSortD [.ref a] H Q :=
  ⟨a, _, [f], rfl, h, rfl, Nat.lt_of_sub_pos (by simp), fun ys p hp _ hn => by
    obtain rfl := List.perm_singleton.mp hp
    exact q p _ hn (Kp.new Kp.refl hn) upd_same⟩
end NB

/-! NS: set(list of texts), sorted(set of texts). -/
namespace NB
open PySem PySem.Spec PyProof.Rows L2 PySem.Froz

/-- a set's payload: the texts l, each once; its table can be walked -/
structure TxSet (P : Program) (w : World) (D : SD) (l : List Str) : Prop where
  ok : TxOk P w D l
  ris : Ris D.2.2.place.toList
  led : w.params.followText "set-order" = true ∨ D.2.2.led = true
  nd : l.Nodup
section
variable {P : Program} {w : World} {A : Around} {E : Value → Shared → Prop} {s : Shared}
theorem tail_ris {ep : Nat} {es1 : Array (Int × Value)} {t2 : SetTable} {b : Bool} (hr : Ris t2.place.toList) : Ris (tailTx ep es1 t2 b).2.2.place.toList := by
  unfold tailTx
  split
  · exact relayAll_ris _ _ _
  · exact hr
theorem tail_led {ep : Nat} {es1 : Array (Int × Value)} {t2 : SetTable} {b : Bool} : (tailTx ep es1 t2 b).2.2.led = t2.led := by
  unfold tailTx
  split
  · exact relayAll_led _ _ _
  · rfl
theorem TxSet.add {D : SD} {l : List Str} {k : Str} (u : Tok) (F : TxSet P w D l) (hk : k ∉ l) : TxSet P w (addTx (hashStr w k) (.str k u) D) (k :: l) where
  ok := add_ok u F.ok
  ris := by
    have q := layNew_ris D.2.2 D.1 (hashStr w k) (.str k u) F.ris
    unfold addTx
    refine tail_ris ?_
    split <;> exact q
  led := by
    have q := layNew_led D.2.2 D.1 (hashStr w k) (.str k u)
    refine F.led.imp id fun z => ?_
    unfold addTx
    rw [tail_led]
    split <;> (show (layNew D.2.2 D.1 (hashStr w k) (.str k u)).2.1.led = true; rw [q]; exact z)
  nd := List.nodup_cons.mpr ⟨hk, F.nd⟩
/-- a member is added again -/
theorem same_x {a : Addr} {D : SD} {l : List Str} {k : Str} {u : Tok} {Q : Bool → Shared → Prop} (at_a : s.heap.get? a = some (sObj "set" D)) (F : TxOk P w D l) (mem : k ∈ l) (few : l.length < scanBound)
    (post : Q false s) : wpAny (model P w) A (setAddHashed a (.str k u) (hashStr w k)) Q E s := by
  obtain ⟨rows, era, tab⟩ := D
  have dt : (sObj "set" (rows, era, tab)).data = .set rows era tab := rfl
  have ft : tab.fits rows.size = true := F.fit
  have els : ElemsOf (strKind P w) rows.toList := F.el
  have cnt : rows.size = l.length := F.sz
  have is : (strKind P w).is k (.str k u) = true := is_str k u
  unfold setAddHashed setAddHashedIn
  refine wpAny_holding (wpAny_bind (wpAny_setState_of at_a dt ft ?_))
  dsimp only
  rw [byScan_of rfl (by omega) els]
  simp only [↓reduceIte]
  unfold setAddByScan
  refine wpAny_bind (wpAny_bind (wpAny_rule (wpAny_bind (wpAny_setScan_of (knd := strKind P w) (k := k) is at_a dt ft els ?_))))
  cases where_ : List.findIdx? (fun e => (strKind P w).is k e.2) rows.toList with
  | some j =>
    dsimp only
    exact wpAny_pure (wpAny_pure post)
  | none =>
    obtain ⟨e, he, q⟩ := (F.mem k).mp mem
    have z := List.findIdx?_eq_none_iff.mp where_ e he
    rw [q] at z
    cases z
/-- behind i of the texts xs -/
def TxGot (P : Program) (w : World) (h : Heap) (a : Addr) (xs : List Str) : Prop := ∃ D l, h.get? a = some (sObj "set" D) ∧ TxSet P w D l ∧ (∀ k, k ∈ l ↔ k ∈ xs) ∧ l.length ≤ xs.length
theorem TxGot.at {h h' : Heap} {a : Addr} {xs : List Str} (g : TxGot P w h a xs) (k : ∀ o, h.get? a = some o → h'.get? a = some o) : TxGot P w h' a xs := by
  obtain ⟨D, l, e, r⟩ := g
  exact ⟨D, l, k _ e, r⟩
theorem TxGot.step {a : Addr} {xs : List Str} {z : Str} {u : Tok} {Q : Bool → Shared → Prop} (g : TxGot P w s.heap a xs) (few : xs.length + 1 < scanBound)
    (post : ∀ b h', Heap.SameBut a s.heap h' → TxGot P w h' a (xs ++ [z]) → Q b { s with heap := h' }) : wpAny (model P w) A (setAddHashed a (.str z u) (hashStr w z)) Q E s := by
  obtain ⟨D, l, e, F, m, le⟩ := g
  by_cases hz : z ∈ l
  · refine same_x e F.ok hz (by omega) ?_
    have q := post false s.heap (Heap.SameBut.refl a s.heap) ⟨D, l, e, F, fun k => ?_, by rw [List.length_append]; omega⟩
    · exact q
    · rw [m k, List.mem_append, List.mem_singleton]
      exact ⟨.inl, fun o => o.elim id fun o => by rw [o]; exact (m z).mp hz⟩
  · refine add_x e F.ok hz (by omega) (post true _ (Heap.SameBut.update s.heap a _) ⟨_, z :: l, get_upd _ e rfl, F.add u hz, fun k => ?_, by simp only [List.length_cons, List.length_append, List.length_nil]; omega⟩)
    rw [List.mem_cons, m k, List.mem_append, List.mem_singleton]
    exact Or.comm
theorem setLoopTx {it : Addr} {fp wr : List Addr} {G : Array GenState → Array GenState → Prop} {n : Nat} {Pv : Nat → Value → Prop} {St : Nat → Shared → Prop} {R : Result → Shared → Prop}
    (W : WalksS P w A.in1 it fp wr G n Pv St) (a : Addr) (off : a ∉ fp) (xs : List Str) (hn : n = xs.length) (few : xs.length + 1 < scanBound) (val : ∀ i v, Pv i v → ∃ z t, xs[i]? = some z ∧ v = .str z t) :
    ∀ (left i : Nat) (s : Shared), n - i = left → i ≤ n → St i s → TxGot P w s.heap a (xs.take i) →
      (∀ s', Moved (a :: wr) G s s' → TxGot P w s'.heap a xs → R (.ok (.ret .none)) s') → codeAny (model P w) A (.builtin "set.update.loop" ⟨[.ref a, .ref it], []⟩) R s := by
  have offw : a ∉ wr := fun m => off (W.sub _ m)
  have more : ∀ b ∈ wr, b ∈ a :: wr := fun b m => List.mem_cons_of_mem _ m
  intro left
  induction left with
  | zero =>
    intro i s hl hi st g post
    obtain rfl : i = n := by omega
    rw [List.take_of_length_le (by omega)] at g
    refine codeAny_builtin F.entry_set_update_loop ?_
    rw [Around.under_plainId F.plain_set_update_loop _]
    show wpAny _ A.in1 (pyNext (.ref it) >>= _) _ _ s
    refine wpAny_bind (W.done s _ _ st fun s' mv => ?_)
    show wpAny _ A.in1 (ret Value.none) _ _ s'
    exact wpAny_pure (post s' (mv.mono more) (g.at fun o e => mv.heap a o offw e))
  | succ left ih =>
    intro i s hl hi st g post
    have lt : i < n := by omega
    refine codeAny_builtin F.entry_set_update_loop ?_
    rw [Around.under_plainId F.plain_set_update_loop _]
    show wpAny _ A.in1 (pyNext (.ref it) >>= _) _ _ s
    refine wpAny_bind (W.item i s _ _ lt st fun v s' pv st' mv => ?_)
    obtain ⟨z, t, hz, rfl⟩ := val i v pv
    have g' := g.at fun o e => mv.heap a o offw e
    show wpAny _ A.in1 (holding [Value.str z t] (setAdd a (.str z t)) >>= _) _ _ s'
    refine wpAny_bind (wpAny_holding ?_)
    unfold setAdd
    refine wpAny_holding (wpAny_bind ((strKind P w).pyHash (k := z) (is_str _ _) ?_))
    refine TxGot.step (s := { s' with toks := s'.toks + 1 }) g' (by rw [List.length_take]; omega) fun b h' sb g2 => ?_
    have g3 : TxGot P w h' a (xs.take (i + 1)) := by rw [List.take_add_one, hz]; exact g2
    refine wpAny_pure ⟨plainId_quiet F.plain_set_update_loop _, ih (i + 1) _ (by omega) lt (W.frame _ s' _ _ st' (Nat.le_succ _) fun b hb o e => ?_) g3 fun s'' mv2 g4 => post s'' (Moved.trans W.gtrans ((mv.mono more).then_heap (Nat.le_succ _) fun b o hb e => ?_) mv2) g4⟩
    · rw [sb.2 b fun q => off (q ▸ hb)]; exact e
    · rw [sb.2 b fun q => hb (by rw [q]; exact List.mem_cons_self)]; exact e
/-- what set() lays -/
abbrev set0 (w : World) : Obj := { cls := .type "set", dict := none, data := .set #[] 0 (.fresh 0 0 (!w.params.followText "set-order")) }
theorem got0 {h : Heap} {a : Addr} {xs : List Str} (e : h.get? a = some (set0 w)) : TxGot P w h a (xs.take 0) := by
  refine ⟨(#[], 0, .fresh 0 0 (!w.params.followText "set-order")), [], e, ⟨TxOk.nil (by rfl), List.Pairwise.nil, ?_, List.nodup_nil⟩, fun k => by simp, by simp⟩
  show _ ∨ (!w.params.followText "set-order") = true
  cases w.params.followText "set-order"
  · exact .inr rfl
  · exact .inl rfl
end
section
variable {P : Program} {w : World} {A : Around} {E : Value → Shared → Prop} {s : Shared}
set_option maxHeartbeats 8000000 in
/-- set(l), l a list of texts -/
theorem callSetTx {l : Addr} {items : Array Value} (xs : List Str) {Q : Value → Shared → Prop} (calm : A.handled = none) (li : s.heap.IsList l items) (tx : StrsAre items.toList xs) (few : xs.length + 1 < scanBound)
    (post : ∀ h' tk, TxGot P w h' s.heap.objs.size xs → (∀ b o, s.heap.get? b = some o → h'.get? b = some o) → Q (.ref s.heap.objs.size) { s with heap := h', toks := tk }) :
    wpAny (model P w) A (call (.type "set") [.ref l]) Q E s := by
  have sz : items.size = xs.length := by rw [← Array.length_toList]; exact StrsAre.length tx
  obtain ⟨cc, tl, hmro⟩ := F.called_set.mro
  have hmade := F.called_set.made
  have hsub := F.called_set.sub
  refine wpAny_call (codeAny_of_tree ?_)
  show wpAny _ _ (callAny (.type "set") _) _ _ _
  refine wpAny_pure ⟨Code.quiet_builtin _ (by decide +kernel), codeAny_builtin F.entry_type_call ?_⟩
  rw [Around.under_plain (weight_type_call_type "set" [.ref l] []) rfl]
  have f1 := F.called_set.notType
  have f2 := F.called_set.canCreate
  have f3 := F.typeCall_set_1 (.ref l)
  repeat (any_goals (first | assumption | wp_step))
  refine codeAny_mono (code_set_led1 (.ref l) (E := E) (Q₁ := fun v t => v = .ref s.heap.objs.size ∧ t = { s with heap := s.heap.push (set0 w) }) ⟨rfl, rfl⟩) fun r t hr => ?_
  match r, hr with
  | .error _, hr => exact hr
  | .ok (.ret _), hr =>
    obtain ⟨rfl, rfl⟩ := hr
    have new : (s.heap.push (set0 w)).get? s.heap.objs.size = some (set0 w) := Heap.get?_push_size _ rfl
    have ty : Shared.TypeIs { s with heap := s.heap.push (set0 w) } (.ref s.heap.objs.size) "set" := ⟨_, new, rfl⟩
    have f4 := F.called_set.init.lookup
    have f5 := F.called_set.init.bind (.ref s.heap.objs.size)
    repeat (any_goals (first | assumption | wp_step))
    refine codeAny_mono (codeAny_call_builtin (R := wants (fun v t => v = .none ∧ ∃ h' tk, t = { s with heap := h', toks := tk } ∧ TxGot P w h' s.heap.objs.size xs ∧ (∀ b o, s.heap.get? b = some o → h'.get? b = some o)) E) F.called_set.init.plain F.entry_set_init (check_set_init_1 ty ?_)) fun r2 t2 hr2 => ?_
    · obtain ⟨ob, at_l, hcl, nl, hdl⟩ := li
      obtain ⟨oc, od, dta, osl⟩ := ob
      simp only at hcl hdl
      subst hcl hdl
      have at_l2 : (s.heap.push (set0 w)).get? l = some { cls := .type "list", dict := od, data := .seq items nl, slots := osl } := Heap.get?_push_of_some _ at_l
      have f6 := F.sub_list_set
      have f7 := F.sub_list_frozenset
      have f8 : (Value.type "list" == Value.type "dict") = false := by decide
      have li2 : (s.heap.push (set0 w)).IsList l items := ⟨_, at_l2, rfl, nl, rfl⟩
      unfold Builtin.«set.__init__» noKeywords Builtin.Frozenset.updateFrom
      generalize hPI : pyIter = PI
      wp_walk
      subst hPI
      refine wpAny_pyIter_list li2 (wpAny_bind (wpAny_runValue ?_))
      have lt_l : l < s.heap.objs.size := Heap.lt_size at_l
      have calm3 : A.in1.in1.in1.handled = none := by simp [calm]
      have ne1 : l ≠ (s.heap.push (set0 w)).objs.size := by rw [Heap.size_push]; exact Nat.ne_of_lt (Nat.lt_succ_of_lt lt_l)
      have off : s.heap.objs.size ∉ [(s.heap.push (set0 w)).objs.size, l] := by
        rw [Heap.size_push]
        intro m
        rcases List.mem_cons.mp m with e | m
        · exact absurd e (Nat.ne_of_lt (Nat.lt_succ_self _))
        · exact absurd (List.mem_singleton.mp m) (Nat.ne_of_gt lt_l)
      refine setLoopTx ((Walks.list calm3 _ l ne1 items).toS) s.heap.objs.size off xs sz few (fun i v hv => ?_) (items.size - 0) 0 _ (by omega) (Nat.zero_le _)
        ⟨⟨_, Heap.get?_push_size _ rfl, rfl, rfl⟩, li2.push _⟩ (got0 (Heap.get?_push_of_some _ new)) fun s' mv g => ?_
      · have hi : i < xs.length := by rw [← sz]; exact (Array.getElem?_eq_some_iff.mp hv).1
        obtain ⟨t, e⟩ := SS.strs_at tx i v (by rw [Array.getElem?_toList]; exact hv)
        refine ⟨xs[i], t, List.getElem?_eq_getElem hi, ?_⟩
        rw [e, List.getD_eq_getElem?_getD, List.getElem?_eq_getElem hi]
        rfl
      · obtain ⟨h', g1, d1, tk', os1⟩ := s'
        obtain rfl : g1 = s.gens := mv.gens
        obtain rfl : d1 = s.drawn := mv.drawn
        obtain rfl : os1 = s.os := mv.os
        show wpAny _ _ _ _ _ _
        refine wpAny_pure ?_
        show wpAny _ _ (ret Value.none) _ _ _
        refine wpAny_pure ⟨rfl, h', tk', rfl, g, fun b o e => ?_⟩
        have lt_b : b < s.heap.objs.size := Heap.lt_size e
        refine mv.heap b o (fun m => ?_) (Heap.get?_push_of_some _ (Heap.get?_push_of_some _ e))
        rcases List.mem_cons.mp m with q | m
        · exact Nat.ne_of_lt lt_b q
        · have q := List.mem_singleton.mp m
          rw [Heap.size_push] at q
          exact Nat.ne_of_lt (Nat.lt_succ_of_lt lt_b) q
    · match r2, hr2 with
      | .error _, hr2 => exact hr2
      | .ok (.ret _), hr2 =>
        obtain ⟨rfl, h', tk, rfl, g, kp⟩ := hr2
        repeat (any_goals (first | assumption | wp_step))
        exact post _ _ g kp
end
/-- the set of the texts xs at a -/
def TxO (P : Program) (w : World) (a : Addr) (xs : List Str) : HO := .ext fun h => TxGot P w h a xs
theorem txO_new {P : Program} {w : World} {H : Hp} {h : Heap} {a : Addr} {xs : List Str} (g : TxGot P w h a xs) : ObjOk P w H h a (TxO P w a xs) := by
  obtain ⟨D, l, e, r⟩ := id g
  exact ⟨g, ⟨_, e⟩, fun h1 h2 p k => TxGot.at p k⟩
def rSetOfS (K : PySem.W.Frag) (P : Program) (w : World) : List V → Hp → VK → Prop := fun vs H Q => ∃ (l : Addr) (xs : List Str), vs = [.ref l] ∧ SqL K H l (xs.map V.str) ∧ xs.length < 64 ∧ ∀ a, H a = none → Q (.ref a) (upd H a (TxO P w a xs))
def rSortedOfS (P : Program) (w : World) : List V → Hp → VK → Prop := fun vs H Q => ∃ (a : Addr) (xs : List Str), vs = [.ref a] ∧ H a = some (TxO P w a xs) ∧ xs.length < 64 ∧
  ∀ (l ys : List Str) (p : Addr), l.Nodup → (∀ k, k ∈ l ↔ k ∈ xs) → ys.Perm l → sortedS ys = true → H p = none → Q (.ref p) (upd H p (.lst (ys.map V.str)))
section
variable {X : Cx}
theorem cr_setOfS {K : PySem.W.Frag} {P : Program} {w : World} (hc : X.calm = true) (hK : X.K = K := by rfl) (hP : X.prog = P := by rfl) (hw : X.w = w := by rfl) : CallR X (.type "set") (rSetOfS K P w) := by
  subst hK hP hw
  intro pins s σ H vs us Q I r h
  obtain ⟨l, xs, rfl, hl, few, q⟩ := h
  rw [Vals.ref1 r]
  obtain ⟨its, rv, pl, hz⟩ := I.list hl
  have hn : H s.heap.objs.size = none := I.hok.fresh (Nat.le_refl _)
  refine callSetTx xs (I.ok.hd hc) pl.isList (by simpa using strsAre_of rv) (Nat.lt_trans (Nat.succ_lt_succ few) (by decide)) fun h' tk g k => ?_
  exact ⟨.ref s.heap.objs.size, upd H s.heap.objs.size (TxO X.prog X.w s.heap.objs.size xs), I.laid (t' := tk) k (Nat.le_refl _) (txO_new g), rfl, q _ hn⟩
def strV : Value → Str
  | .str k _ => k
  | _ => Str.empty
theorem strs_self : ∀ (vs : List Value), (∀ v ∈ vs, ∃ k t, v = Value.str k t) → StrsAre vs (vs.map strV)
  | [], _ => .nil
  | v :: vs, h => by
    obtain ⟨k, t, rfl⟩ := h v List.mem_cons_self
    exact .cons k t (strs_self vs fun u hu => h u (List.mem_cons_of_mem _ hu))
theorem nodup_of_more : ∀ (r l : List Str), l.Nodup → (∀ k ∈ l, k ∈ r) → r.length ≤ l.length → r.Nodup
  | [], _, _, _, _ => List.nodup_nil
  | a :: r, l, nd, sub, le => by
    by_cases h : a ∈ r
    · have q : l.length ≤ r.length := List.Nodup.length_le_of_subset nd fun k hk => (List.mem_cons.mp (sub k hk)).elim (fun e => e ▸ h) id
      rw [List.length_cons] at le
      omega
    · refine List.nodup_cons.mpr ⟨h, nodup_of_more r (l.erase a) (nd.erase a) (fun k hk => ?_) ?_⟩
      · obtain ⟨q1, q2⟩ := (List.Nodup.mem_erase_iff nd).mp hk
        exact (List.mem_cons.mp (sub k q2)).elim (fun e => absurd e q1) id
      · have q := List.length_erase (a := a) (l := l)
        rw [List.length_cons] at le
        rw [q]
        split <;> omega
theorem cr_sortedOfS {P : Program} {w : World} (hc : X.calm = true) (hP : X.prog = P := by rfl) (hw : X.w = w := by rfl) : CallR X (.builtin "sorted") (rSortedOfS P w) := by
  subst hP hw
  intro pins s σ H vs us Q I r h
  obtain ⟨a, xs, rfl, ha, few, q⟩ := h
  rw [Vals.ref1 r]
  obtain ⟨⟨rows, era, tab⟩, l, e, S, mem, le⟩ := (show TxGot X.prog X.w s.heap a xs from (I.hok a _ ha).1)
  have cnt : rows.size = l.length := S.ok.sz
  have sa : SetAt s.heap a rows era tab := ⟨_, e, rfl, rfl⟩
  refine Calls.call_function_entry PyProof.Rows.kind_sorted PyProof.Rows.plain_sorted PyProof.Rows.entry_sorted (PyProof.Rows.args_sorted1 _) ?_
  unfold Builtin.«sorted»
  refine wpAny_bind (m := checkCount "sorted" 1 1 _) (wpAny_pure ?_)
  refine wpAny_bind (collect_set (A := X.A.in1) (I.ok.hd hc) sa S.ok.fit (by rw [cnt]; exact Nat.lt_of_le_of_lt le (Nat.lt_trans few (by decide))) S.ris S.led fun s1 out k1 z1 g1 o1 pm => ?_)
  have els : ElemsOf (PySem.strKind X.prog X.w) rows.toList := S.ok.el
  have outS : StrsAre out (out.map strV) := strs_self out fun v hv => by
    obtain ⟨row, hr, rfl⟩ := List.mem_map.mp (pm.mem_iff.mp hv)
    obtain ⟨⟨k, hk, _⟩, _⟩ := els row hr
    obtain ⟨t, ev⟩ := Value.isStrOf_shape (x := k) (v := row.2) hk
    exact ⟨k, t, ev⟩
  have olen : out.length = l.length := by rw [pm.length_eq, List.length_map, Array.length_toList, cnt]
  have pk : (out.map strV).Perm ((rows.toList.map (·.2)).map strV) := pm.map strV
  have sub : ∀ k ∈ l, k ∈ (rows.toList.map (·.2)).map strV := fun k hk => by
    obtain ⟨row, hr, is⟩ := (S.ok.mem k).mp hk
    obtain ⟨t, ev⟩ := Value.isStrOf_shape (x := k) (v := row.2) is
    exact List.mem_map.mpr ⟨row.2, List.mem_map_of_mem hr, by rw [ev]; rfl⟩
  have back : ∀ k ∈ (rows.toList.map (·.2)).map strV, k ∈ l := fun k hk => by
    obtain ⟨v, hv, rfl⟩ := List.mem_map.mp hk
    obtain ⟨row, hr, rfl⟩ := List.mem_map.mp hv
    obtain ⟨⟨k, hk2, _⟩, _⟩ := els row hr
    obtain ⟨t, ev⟩ := Value.isStrOf_shape (x := k) (v := row.2) hk2
    refine (S.ok.mem _).mpr ⟨row, hr, ?_⟩
    rw [ev]
    exact is_str k t
  have nd : ((rows.toList.map (·.2)).map strV).Nodup := nodup_of_more _ l S.nd sub (by rw [List.length_map, List.length_map, Array.length_toList, cnt]; exact Nat.le_refl _)
  refine wpAny_bind (wpAny_newList ?_ (by rw [olen, sizeLine_eq]; omega))
  have hoL : (s1.heap.push (seqObj "list" out.toArray 0)).get? s1.heap.objs.size = some (seqObj "list" out.toArray 0) := Heap.get?_push_size _ rfl
  show wpAny _ _ _ _ _ { s1 with heap := s1.heap.push (seqObj "list" out.toArray 0) }
  refine wpAny_bind (wpAny_holding (wpAny_call_entry PyProof.Rows.slot_list_sort ⟨_, hoL, rfl⟩ PyProof.Rows.entry_list_sort
    (list_sort_treeK strKind_oneLt (s := { s1 with heap := s1.heap.push (seqObj "list" out.toArray 0) }) hoL outS.keysOf (fun v₁ v₂ rest e2 => keyKind_strs (by rw [← e2]; exact outS)) (by omega) fun st' hp hs => ⟨_, rfl, ?_⟩)
    (PyProof.Rows.args_list_sort _)))
  obtain ⟨ys, y1, y2, y3⟩ := sorted_out_str outS hp hs
  obtain ⟨c, hc2⟩ := PyProof.Rows.sortedHeap_at (vs := out) (out := (arrOf st').map (·.2)) hoL
  have ylen : (ys.map V.str).length ≤ sizeLine := by rw [List.length_map, y2.length_eq, List.length_map, olen, sizeLine_eq]; omega
  have hn : H s1.heap.objs.size = none := I.hok.fresh z1
  have k2 : ∀ b o, s.heap.get? b = some o → (sortedHeap (s1.heap.push (seqObj "list" out.toArray 0)) s1.heap.objs.size out ((arrOf st').map (·.2))).get? b = some o := fun b u e3 => by
    have q3 := k1 b u e3
    have lt := Heap.lt_size q3
    rw [PyProof.Rows.sortedHeap_old (Nat.ne_of_lt lt) (by rw [size_push']; exact Nat.lt_succ_of_lt lt)]
    exact Heap.get?_push_of_some _ q3
  obtain ⟨hp1, ge1, dr1, tk1, os1⟩ := s1
  obtain rfl : ge1 = s.gens := g1
  obtain rfl : os1 = s.os := o1
  refine wpAny_pure ⟨_, rfl, .ref hp1.objs.size, upd H hp1.objs.size (.lst (ys.map V.str)), ?_, rfl, q _ ys _ nd (fun k => ⟨fun z => (mem k).mp (back k z), fun z => sub k ((mem k).mpr z)⟩) (y2.trans pk) y3 hn⟩
  show Inv X pins σ _ { s with heap := sortedHeap (hp1.push (seqObj "list" out.toArray 0)) hp1.objs.size out ((arrOf st').map (·.2)), gens := s.gens, drawn := dr1, toks := tk1 }
  exact I.call (ch := []) (Un.laid k2 z1 hn) (I.hok.laid k2 z1 (show ObjOk X.prog X.w _ _ _ (.lst (ys.map V.str)) from ⟨ylen, _, c, vals_of_strs y1, by rw [Array.toArray_toList]; exact hc2⟩)) I.bare (fun _ z => nomatch z)
end
end NB

/-! NW: what the laws draw: the bag; lists changed in place; while. -/
namespace NB
open PySem PySem.Spec PyProof.Rows L2 TL
section
variable {ex : Addr → Prop} {K : PySem.W.Frag} {σ : L2.St} {H H' H1 : Hp} {D : Ends} {Q : VK} {QH : Hp → Prop} {QS : L2.St → Hp → Prop} {te to ti : TE} {tb : TS} {c : TT} {p a b : Addr} {xs ys : List V} {v y : V}
/-- a turn of a while: on with a lesser measure -/
def WhB (Pv : Nat → L2.St → Hp → Prop) (m : Nat) (tb : TS) (D : Ends) (σ : L2.St) (b : Bool) (H1 : Hp) : Prop :=
  if b = true then ∃ N : L2.St → Hp → Prop, (∀ σ' H', N σ' H' → ∃ m', m' < m ∧ Pv m' σ' H') ∧ tb { D with nx := N, ct := N, bk := D.nx } σ H1 else D.nx σ H1
theorem r_while (Pv : Nat → L2.St → Hp → Prop) (m : Nat) (h0 : Pv m σ H) (hs : ∀ m σ H, Pv m σ H → c σ H (WhB Pv m tb D σ)) : tWhile c tb D σ H := ⟨Pv, ⟨m, h0⟩, fun m σ H p => hs m σ H p⟩
def WhN (Pv : Nat → L2.St → Hp → Prop) (m : Nat) : L2.St → Hp → Prop := fun s h => ∃ m', m' < m ∧ Pv m' s h
theorem r_whT {Pv : Nat → L2.St → Hp → Prop} {m : Nat} (h : tb { D with nx := WhN Pv m, ct := WhN Pv m, bk := D.nx } σ H) : WhB Pv m tb D σ true H := ⟨WhN Pv m, fun _ _ h => h, h⟩
theorem r_whF {Pv : Nat → L2.St → Hp → Prop} {m : Nat} (h : D.nx σ H) : WhB Pv m tb D σ false H := h
theorem r_wh {Pv : Nat → L2.St → Hp → Prop} {m : Nat} {b : Bool} (h1 : b = true → tb { D with nx := WhN Pv m, ct := WhN Pv m, bk := D.nx } σ H) (h2 : b = false → D.nx σ H) : WhB Pv m tb D σ b H := by
  cases b
  · exact r_whF (h2 rfl)
  · exact r_whT (h1 rfl)
theorem r_gsub {t : TSet} (h : to σ H fun o H1 => ti σ H1 fun i H2 => t o i v H2 fun H3 => QS σ H3) : gSub to ti t v σ H QS := h
theorem r_setL {n : Nat} {j : Int} (h : H p = some (.lst xs)) (e : j = (n : Int)) (hn : n < xs.length) (q : QH (upd H p (.lst (xs.set n v)))) : rSetL (.ref p) (.int j) v H QH := by
  subst e
  refine ⟨p, xs, (n : Int), n, rfl, rfl, h, ?_, q⟩
  unfold ixN
  rw [if_pos (by omega), if_pos (by omega)]; simp
theorem r_pop0 (h : H p = some (.lst (y :: xs))) (q : Q y (upd H p (.lst xs))) : rPopAt (.ref p) [.int 0] H Q := by
  refine ⟨p, y :: xs, 0, 0, y, rfl, rfl, h, by decide, by decide, ?_, rfl, q⟩
  unfold seqIndex?
  simp
theorem r_ixl {n : Nat} {j : Int} (h : H p = some (.lst xs)) (e : j = (n : Int)) (hv : xs[n]? = some v) (q : Q v H) : rIx K (.ref p) (.int j) H Q := by
  subst e; exact r_ix_l h hv q
theorem r_cat (h1 : H a = some (.lst xs)) (h2 : H b = some (.lst ys)) (hl : xs.length + ys.length ≤ 100000) (q : ∀ p H', H p = none → Kp No H H' → H' p = some (.lst (xs ++ ys)) → Q (.ref p) H') : rAdd2 K (.ref a) (.ref b) H Q :=
  .inl ⟨a, b, xs, ys, rfl, rfl, h1, h2, Nat.le_trans hl (by decide), fun p hp => q p _ hp (Kp.new Kp.refl hp) upd_same⟩
theorem r_slL {lo hi : Option Int} (h : SqL K H a xs) (q : ∀ p H', H p = none → Kp No H H' → H' p = some (.lst (cutV xs lo hi)) → Q (.ref p) H') : rSl2 K (.ref a) lo hi H Q :=
  .inl ⟨a, xs, rfl, h, fun p hp => q p _ hp (Kp.new Kp.refl hp) upd_same⟩
end
/-! ### the bag -/
abbrev MM : Int := 618970019642690137449562111
/-- the bag at b: great numbers at g, lesser ones at l -/
structure BagAt (H : Hp) (b g l : Addr) (gs ls : List Int) (n st : Int) : Prop where
  hb : H b = some (.lst [.ref g, .ref l, .int n, .int st])
  hg : H g = some (.lst (gs.map V.int))
  hl : H l = some (.lst (ls.map V.int))
  lp : ∀ x ∈ ls, 0 ≤ x ∧ x < 10 ^ 18
  ln : ls ≠ []
  sp : 0 ≤ st ∧ st < MM
  np : 0 ≤ n
  d1 : b ≠ g
  d2 : b ≠ l
  d3 : g ≠ l
/-- a bag from which B more may be drawn -/
def Bag (H : Hp) (b g : Addr) (B : Nat) : Prop := ∃ l gs ls n st, BagAt H b g l gs ls n st ∧ n + B ≤ 1000000
/-- what drawing changes -/
def bx (b g : Addr) : Addr → Prop := fun c => c = b ∨ c = g
section
variable {H H' : Hp} {b g l : Addr} {gs ls : List Int} {n st : Int} {B B' : Nat}
theorem BagAt.kp (h : BagAt H b g l gs ls n st) (k : Kp No H H') : BagAt H' b g l gs ls n st :=
  { h with hb := k.lst h.hb, hg := k.lst h.hg, hl := k.lst h.hl }
theorem Bag.kp (h : Bag H b g B) (k : Kp No H H') : Bag H' b g B := by
  obtain ⟨l, gs, ls, n, st, h, e⟩ := h
  exact ⟨l, gs, ls, n, st, h.kp k, e⟩
theorem Bag.less (h : Bag H b g B) (k : B' ≤ B) : Bag H b g B' := by
  obtain ⟨l, gs, ls, n, st, h, e⟩ := h
  exact ⟨l, gs, ls, n, st, h, by omega⟩
theorem Bag.old (h : Bag H b g B) {p : Addr} (hp : H p = none) : ¬ bx b g p := by
  obtain ⟨l, gs, ls, n, st, h, e⟩ := h
  rintro (z | z)
  · subst z; rw [h.hb] at hp; cases hp
  · subst z; rw [h.hg] at hp; cases hp
theorem BagAt.popG {x : Int} (h : BagAt H b g l (x :: gs) ls n st) : BagAt (upd H g (.lst (gs.map V.int))) b g l gs ls n st :=
  { h with hb := by rw [upd_ne h.d1]; exact h.hb, hg := upd_same, hl := by rw [upd_ne h.d3.symm]; exact h.hl }
theorem BagAt.setG {gs' : List Int} (h : BagAt H b g l gs ls n st) : BagAt (upd H g (.lst (gs'.map V.int))) b g l gs' ls n st :=
  { h with hb := by rw [upd_ne h.d1]; exact h.hb, hg := upd_same, hl := by rw [upd_ne h.d3.symm]; exact h.hl }
theorem BagAt.setB {n' st' : Int} (h : BagAt H b g l gs ls n st) (hn : 0 ≤ n') (hs : 0 ≤ st' ∧ st' < MM) : BagAt (upd H b (.lst [.ref g, .ref l, .int n', .int st'])) b g l gs ls n' st' :=
  { h with hb := upd_same, hg := by rw [upd_ne h.d1.symm]; exact h.hg, hl := by rw [upd_ne h.d2.symm]; exact h.hl, np := hn, sp := hs }
theorem BagAt.kG {gs' : List V} (h : BagAt H b g l gs ls n st) : Kp (bx b g) H (upd H g (.lst gs')) := Kp.mut Kp.refl (.inr rfl) h.hg rfl
theorem BagAt.kB {xs' : List V} (h : BagAt H b g l gs ls n st) : Kp (bx b g) H (upd H b (.lst xs')) := Kp.mut Kp.refl (.inl rfl) h.hb rfl
end
abbrev spDraw : Sp := sp2 fun v m H Q _ => ∃ b g B, ∃ k : Int, v = .ref b ∧ m = .int k ∧ 1 ≤ k ∧ k ≤ 10 ^ 15 ∧ Bag H b g (B + 1) ∧ ∀ r H', 0 ≤ r → r < k → Kp (bx b g) H H' → Bag H' b g B → Q (.int r) H'
end NB

/-! NV: plain facts of what the laws draw: rising texts, parts, signs joined. -/
namespace NB
open PySem PySem.Spec PyProof.Rows L2 TL
theorem cps_other : ∀ a b : List Nat, ltCps b a = false → a ≠ b → ltCps a b = true
  | [], [], _, h => absurd rfl h
  | [], _ :: _, _, _ => rfl
  | _ :: _, [], h, _ => by cases h
  | a :: r, b :: t, h, ne => by
    simp only [ltCps, Bool.or_eq_false_iff, Bool.and_eq_false_iff, decide_eq_false_iff_not, beq_eq_false_iff_ne] at h
    simp only [ltCps, Bool.or_eq_true, Bool.and_eq_true, decide_eq_true_eq, beq_iff_eq]
    obtain ⟨h1, h2⟩ := h
    rcases Nat.lt_trichotomy a b with q | q | q
    · exact .inl q
    · subst q
      refine .inr ⟨rfl, cps_other r t (h2.resolve_left fun z => z rfl) fun z => ne (by rw [z])⟩
    · exact absurd q h1
/-- rising -/
def ascS : Str → List Str → Bool
  | _, [] => true
  | last, f :: r => ltS last f && ascS f r
theorem ascS_of : ∀ (r : List Str) (p : Str), risingS p r = true → (p :: r).Nodup → ascS p r = true
  | [], _, _, _ => rfl
  | x :: r, p, h, nd => by
    have h' : (!ltCps x.cps.toList p.cps.toList && risingS x r) = true := h
    rw [Bool.and_eq_true] at h'
    obtain ⟨h1, h2⟩ := h'
    obtain ⟨n1, n2⟩ := List.nodup_cons.mp nd
    have e : ltS p x = true := by
      unfold ltS
      rw [← ltCps_eq]
      refine cps_other _ _ (by simpa using h1) fun z => n1 ?_
      have : p = x := TL.ext_tl z
      rw [this]; exact List.mem_cons_self
    show (ltS p x && ascS x r) = true
    rw [e, ascS_of r x h2 n2]; rfl
theorem field_pos {f : Str} (h : fieldS f = true) : ltS Str.empty f = true := by
  have q := (fieldL_iff.mp h).1
  unfold ltS
  refine decide_eq_true ?_
  show ([] : List Nat) < f.cps.toList
  obtain ⟨a, r, e⟩ := List.exists_cons_of_ne_nil q
  rw [e]
  exact List.nil_lt_cons _ _
theorem ascS_sorted {ys : List Str} (h : sortedS ys = true) (nd : ys.Nodup) (hf : ∀ f ∈ ys, fieldS f = true) : ascS Str.empty ys = true := by
  cases ys with
  | nil => rfl
  | cons x r =>
    show (ltS Str.empty x && ascS x r) = true
    rw [field_pos (hf x List.mem_cons_self), ascS_of r x h nd]; rfl
/-- a part: a field and what stands behind it -/
def mk1 (p : Str × List PyData) : PyData := .tuple (.str p.1 :: p.2)
theorem partsGo_mk {n : Nat} : ∀ (ps : List (Str × List PyData)) (last : Str), ascS last (ps.map (·.1)) = true → (∀ p ∈ ps, fieldS p.1 = true ∧ p.2.length + 1 = n) → partsGo n last (ps.map mk1) = true
  | [], _, _, _ => rfl
  | p :: r, last, h, hp => by
    have h' : (ltS last p.1 && ascS p.1 (r.map (·.1))) = true := h
    rw [Bool.and_eq_true] at h'
    obtain ⟨q1, q2⟩ := hp p List.mem_cons_self
    show partsGo n last (.tuple (.str p.1 :: p.2) :: r.map mk1) = true
    rw [partsGo_ok q2 q1 h'.1]
    exact partsGo_mk r p.1 h'.2 fun x hx => hp x (List.mem_cons_of_mem _ hx)
/-- numbers of at most fifteen figures -/
def okO (o : Option Int) : Prop := ∀ i, o = some i → i.natAbs < 10 ^ 15
def goodR (size : Int) (r : List PyData) : Prop :=
  (size = 3 ∧ ∃ lo hi : Option Int, r = [ED lo, ED hi] ∧ spanD (.tuple [ED lo, ED hi]) = true ∧ okO lo ∧ okO hi) ∨ (size = 2 ∧ ∃ i : Int, r = [.int i] ∧ i.natAbs < 10 ^ 15)
theorem okO_num {o : Option Int} (h : okO o) : okNum 15 (ED o) = true := by
  cases o with
  | none => rfl
  | some i => exact decide_eq_true (h i rfl)
theorem made_wish {ps : List (Str × List PyData)} (ha : ascS Str.empty (ps.map (·.1)) = true) (h : ∀ p ∈ ps, fieldS p.1 = true ∧ goodR 3 p.2) : wishD (.tuple (ps.map mk1)) = true ∧ (ps.map mk1).all (okPart 15) = true := by
  have g : ∀ p ∈ ps, ∃ lo hi : Option Int, p.2 = [ED lo, ED hi] ∧ spanD (.tuple [ED lo, ED hi]) = true ∧ okO lo ∧ okO hi := fun p hp => by
    rcases (h p hp).2 with ⟨_, q⟩ | ⟨z, _⟩
    · exact q
    · cases z
  constructor
  · show (partsGo 3 Str.empty (ps.map mk1) && (ps.map mk1).all spanOf) = true
    rw [partsGo_mk ps _ ha fun p hp => ⟨(h p hp).1, by obtain ⟨lo, hi, e, _⟩ := g p hp; rw [e]; rfl⟩, Bool.true_and, List.all_eq_true]
    intro d hd
    obtain ⟨p, hp, rfl⟩ := List.mem_map.mp hd
    obtain ⟨lo, hi, e, s, _⟩ := g p hp
    unfold mk1
    rw [e]
    exact s
  · rw [List.all_eq_true]
    intro d hd
    obtain ⟨p, hp, rfl⟩ := List.mem_map.mp hd
    obtain ⟨lo, hi, e, s, o1, o2⟩ := g p hp
    unfold mk1
    rw [e]
    show (okNum 15 (.str p.1) && (okNum 15 (ED lo) && (okNum 15 (ED hi) && true))) = true
    rw [okO_num o1, okO_num o2]; rfl
theorem made_piece {ps : List (Str × List PyData)} (ha : ascS Str.empty (ps.map (·.1)) = true) (h : ∀ p ∈ ps, fieldS p.1 = true ∧ goodR 2 p.2) : pieceD (.tuple (ps.map mk1)) = true ∧ (ps.map mk1).all (okPart 15) = true := by
  have g : ∀ p ∈ ps, ∃ i : Int, p.2 = [.int i] ∧ i.natAbs < 10 ^ 15 := fun p hp => by
    rcases (h p hp).2 with ⟨z, _⟩ | ⟨_, q⟩
    · cases z
    · exact q
  constructor
  · show (partsGo 2 Str.empty (ps.map mk1) && (ps.map mk1).all numOf) = true
    rw [partsGo_mk ps _ ha fun p hp => ⟨(h p hp).1, by obtain ⟨i, e, _⟩ := g p hp; rw [e]; rfl⟩, Bool.true_and, List.all_eq_true]
    intro d hd
    obtain ⟨p, hp, rfl⟩ := List.mem_map.mp hd
    obtain ⟨i, e, _⟩ := g p hp
    unfold mk1
    rw [e]
    rfl
  · rw [List.all_eq_true]
    intro d hd
    obtain ⟨p, hp, rfl⟩ := List.mem_map.mp hd
    obtain ⟨i, e, hi⟩ := g p hp
    unfold mk1
    rw [e]
    show (okNum 15 (.str p.1) && (decide (i.natAbs < 10 ^ 15) && true)) = true
    rw [decide_eq_true hi]; rfl
/-- signs joined -/
def sg (c : Nat) : Str := ⟨#[c]⟩
theorem joinL_signs : ∀ cs : List Nat, joinL [] (cs.map fun c => [c]) = cs
  | [] => rfl
  | [c] => rfl
  | c :: d :: r => by
    show [c] ++ ([] ++ joinL [] ((d :: r).map fun c => [c])) = _
    rw [joinL_signs (d :: r)]
    rfl
theorem tl_signs (cs : List Nat) : tl (Txt.join (Str.ofString "") (cs.map sg)) = cs := by
  rw [TL.join_eq, TL.tl_join]
  have e : tl (Str.ofString "") = [] := by decide +kernel
  have e2 : (cs.map sg).map tl = cs.map fun c => [c] := by rw [List.map_map]; rfl
  rw [e, e2, joinL_signs]
theorem field_signs {cs : List Nat} (h1 : cs ≠ []) (h2 : cs.length ≤ 8) (h3 : ∀ c ∈ cs, c ∈ lettersL) : fieldS (Txt.join (Str.ofString "") (cs.map sg)) = true := by
  refine fieldL_iff.mpr ?_
  have e : (Txt.join (Str.ofString "") (cs.map sg)).cps.toList = cs := tl_signs cs
  rw [e]
  exact ⟨h1, h2, fun c hc => letters_iff.mp (h3 c hc)⟩
theorem letters_len : lettersL.length = 26 := by decide +kernel
theorem sum_ones (cs : List Nat) : ((cs.map sg).map (·.length)).sum = cs.length := by
  rw [List.map_map]
  have e : ((fun x : Str => x.length) ∘ sg) = fun _ => 1 := by funext c; rfl
  rw [e]
  induction cs with
  | nil => rfl
  | cons c r ih => rw [List.map_cons, List.sum_cons, ih, List.length_cons]; omega
section
variable {K : PySem.W.Frag} {P : Program} {w : World} {H : Hp} {Q : VK} {l a : Addr} {xs : List Str}
theorem r_setOfS (h : SqL K H l (xs.map V.str)) (few : xs.length < 64) (q : ∀ a H', H a = none → Kp No H H' → H' a = some (TxO P w a xs) → Q (.ref a) H') : rSetOfS K P w [.ref l] H Q :=
  ⟨l, xs, rfl, h, few, fun a hn => q a _ hn (Kp.new Kp.refl hn) upd_same⟩
theorem r_sortedOfS (h : H a = some (TxO P w a xs)) (few : xs.length < 64) (q : ∀ ys p H', ys.Nodup → sortedS ys = true → (∀ k, k ∈ ys ↔ k ∈ xs) → H p = none → Kp No H H' → H' p = some (.lst (ys.map V.str)) → Q (.ref p) H') : rSortedOfS P w [.ref a] H Q :=
  ⟨a, xs, rfl, h, few, fun l ys p nd m pm so hn => q ys p _ (pm.nodup_iff.mpr nd) so (fun k => pm.mem_iff.trans (m k)) hn (Kp.new Kp.refl hn) upd_same⟩
end
/-- a list of no ints is written: the bag stands -/
theorem Bag.wr {H : Hp} {b g D : Addr} {B : Nat} {xs ys : List V} (h : Bag H b g B) (hD : H D = some (.lst xs)) (nb : ¬ bx b g D) (ni : ∀ i : Int, xs.head? ≠ some (.int i)) : Bag (upd H D (.lst ys)) b g B := by
  obtain ⟨l, gs, ls, n, st, hb, hn⟩ := h
  have n1 : b ≠ D := fun z => nb (.inl z.symm)
  have n2 : g ≠ D := fun z => nb (.inr z.symm)
  have n3 : l ≠ D := fun z => by
    subst z
    have e := hb.hl
    rw [hD] at e
    cases e
    obtain ⟨a, r, e2⟩ := List.exists_cons_of_ne_nil hb.ln
    exact ni a (by rw [e2]; rfl)
  exact ⟨l, gs, ls, n, st, { hb with hb := by rw [upd_ne n1]; exact hb.hb, hg := by rw [upd_ne n2]; exact hb.hg, hl := by rw [upd_ne n3]; exact hb.hl }, hn⟩
theorem head_str {ys : List Str} : ∀ i : Int, (ys.map V.str).head? ≠ some (.int i) := fun i e => by
  cases ys with
  | nil => cases e
  | cons y r => cases e
end NB

/-! NY: the same data twice; isinstance of two classes. -/
namespace NB
open PySem PySem.Spec PyProof.Rows L2 TL
theorem any_lt (K : PySem.W.Frag) (d : PyData) : PySem.W.kitAny K (.type (tyN d)) [.type "list", .type "tuple"] = some (isListD d || isTupD d) := by
  have two : ∀ {t : String} {a b : Bool}, kitB t "list" = some a → kitB t "tuple" = some b → PySem.W.kitAny K (.type t) [.type "list", .type "tuple"] = some (a || b) := by
    intro t a b h1 h2
    refine kitAny_cons (kit_ty h1) (fun e => ?_) (fun e => by rw [e]; rfl)
    subst e
    refine kitAny_cons (kit_ty h2) (fun e => by rw [e]; exact kitAny_nil) (fun e => by rw [e]; rfl)
  cases d with
  | none => exact two (by decide +kernel : kitB "NoneType" "list" = some false) (by decide +kernel : kitB "NoneType" "tuple" = some false)
  | bool b => exact two (by decide +kernel : kitB "bool" "list" = some false) (by decide +kernel : kitB "bool" "tuple" = some false)
  | int i => exact two (by decide +kernel : kitB "int" "list" = some false) (by decide +kernel : kitB "int" "tuple" = some false)
  | str x => exact two (by decide +kernel : kitB "str" "list" = some false) (by decide +kernel : kitB "str" "tuple" = some false)
  | list xs => exact two (by decide +kernel : kitB "list" "list" = some true) (by decide +kernel : kitB "list" "tuple" = some false)
  | tuple xs => exact two (by decide +kernel : kitB "tuple" "list" = some false) (by decide +kernel : kitB "tuple" "tuple" = some true)
  | dict kvs => exact two (by decide +kernel : kitB "dict" "list" = some false) (by decide +kernel : kitB "dict" "tuple" = some false)
section
variable {ex : Addr → Prop} {K : PySem.W.Frag} {H : Hp} {Q : VK} {v : V} {d : PyData} {tp p : Addr}
theorem r_isiLT (h : Dat ex H v d) (ht : H tp = some (.tup [.ty "list", .ty "tuple"])) (q : Q (.bl (isListD d || isTupD d)) H) : rIsiT K [v, .ref tp] H Q :=
  ⟨v, tp, _, .type (tyN d), [.type "list", .type "tuple"], _, rfl, ht, .cons (.ty _) (.cons (.ty _) .nil), h.ty, any_lt K d, q⟩
theorem r_all {bs : List Bool} (h : SqL K H p (bs.map V.bl)) (q : Q (.bl (bs.all id)) H) : rAll K [.ref p] H Q := ⟨p, bs, rfl, h, q⟩
end
theorem br_bN {b : Bool} {A B : Prop} [Decidable (V.bl b = V.non)] (h : B) : if decide (V.bl b = V.non) = true then A else B := r_iteF (by simp) h
theorem br_sN {x : Str} {A B : Prop} [Decidable (V.str x = V.non)] (h : B) : if decide (V.str x = V.non) = true then A else B := r_iteF (by simp) h
theorem br_rN {a : Addr} {A B : Prop} [Decidable (V.ref a = V.non)] (h : B) : if decide (V.ref a = V.non) = true then A else B := r_iteF (by simp) h
/-- data of depth at most n -/
def upTo : Nat → PyData → Bool
  | 0, _ => false
  | n + 1, .list ds => decide (ds.length ≤ 10000) && ds.all (upTo n)
  | n + 1, .tuple ds => decide (ds.length ≤ 10000) && ds.all (upTo n)
  | _ + 1, .dict _ => false
  | _ + 1, _ => true
abbrev spSame (n : Nat) : Sp := sp2 fun v u H Q _ => ∃ ex ex2 d, Dat ex H v d ∧ Dat ex2 H u d ∧ upTo n d = true ∧ ∀ H', Kp No H H' → Q (.bl true) H'
theorem bools_true (i : Nat) : (List.replicate i true).all id = true := by
  rw [List.all_eq_true]
  intro x hx
  rw [List.eq_of_mem_replicate hx]; rfl
theorem r_slT1 {K : PySem.W.Frag} {H : Hp} {Q : VK} {p : Addr} {x : V} {xs : List V} (h : H p = some (.tup (x :: xs))) (q : ∀ l H', H l = none → Kp No H H' → H' l = some (.tup xs) → Q (.ref l) H') : rSl2 K (.ref p) (some 1) none H Q := by
  have e1 : HT.sIx (x :: xs).length 0 (some 1) = 1 := by
    have e := HT.sIx_nat (x :: xs).length 0 1
    rw [show ((1 : Nat) : Int) = 1 from rfl] at e
    rw [e, List.length_cons]; omega
  refine .inr (.inl ⟨p, x :: xs, rfl, SqT.of h, fun z => ?_, fun _ l hl => q l _ hl (Kp.new Kp.refl hl) ?_⟩)
  · rw [e1] at z
    exact absurd z.1 (by decide)
  · have e : cutV (x :: xs) (some 1) none = xs := by
      unfold cutV
      rw [e1, HT.sIx_none, List.length_cons, Nat.add_sub_cancel, List.drop_succ_cons, List.drop_zero, List.take_length]
    rw [e]; exact upd_same
/-! ### what is written -/
def wrP (p : Str × List PyData) : List Nat := tl p.1 ++ ([58] ++ joinL [46, 46] (p.2.map shEnd))
def wrL (ps : List (Str × List PyData)) : List Nat := if ps = [] then [45] else joinL [32] (ps.map wrP)
theorem wr_wish {ps : List (Str × List PyData)} (h : ∀ p ∈ ps, ∃ lo hi, p.2 = [lo, hi]) : wrL ps = shWish (ps.map mk1) := by
  have e : ps.map wrP = (ps.map mk1).map shWishPart := by
    rw [List.map_map]
    refine List.map_congr_left fun p hp => ?_
    obtain ⟨lo, hi, e⟩ := h p hp
    show tl p.1 ++ ([58] ++ joinL [46, 46] (p.2.map shEnd)) = shWishPart (.tuple (.str p.1 :: p.2))
    rw [e]
    rfl
  unfold wrL shWish
  by_cases hn : ps = []
  · subst hn; rfl
  · rw [if_neg hn, if_neg (by simpa using hn), e]
theorem wr_piece {ps : List (Str × List PyData)} (h : ∀ p ∈ ps, ∃ i : Int, p.2 = [.int i]) : wrL ps = shPiece (ps.map mk1) := by
  have e : ps.map wrP = (ps.map mk1).map shPiecePart := by
    rw [List.map_map]
    refine List.map_congr_left fun p hp => ?_
    obtain ⟨i, e⟩ := h p hp
    show tl p.1 ++ ([58] ++ joinL [46, 46] (p.2.map shEnd)) = shPiecePart (.tuple (.str p.1 :: p.2))
    rw [e]
    rfl
  unfold wrL shPiece
  by_cases hn : ps = []
  · subst hn; rfl
  · rw [if_neg hn, if_neg (by simpa using hn), e]
/-- a part that can be written -/
def okW (p : Str × List PyData) : Prop := fieldS p.1 = true ∧ p.2.length ≤ 2 ∧ ∀ e ∈ p.2, endD e = true ∧ okNum 40 e = true
theorem shEnd_len' {d : PyData} (h : okNum 40 d = true) : (shEnd d).length ≤ 41 := by
  cases d with
  | int i => exact numLI_len (by decide) (of_decide_eq_true h)
  | _ => exact (by decide : (1 : Nat) ≤ 41)
theorem end_num {e : PyData} (h : endD e = true) : e = .none ∨ ∃ i, e = .int i := by
  cases e with
  | none => exact .inl rfl
  | int i => exact .inr ⟨i, rfl⟩
  | _ => cases h
theorem sum_le' {α : Type} {f : α → Nat} {n : Nat} : ∀ (l : List α), (∀ a ∈ l, f a ≤ n) → (l.map f).sum ≤ n * l.length
  | [], _ => by simp
  | a :: r, h => by
    have h1 := h a List.mem_cons_self
    have h2 := sum_le' r fun b hb => h b (List.mem_cons_of_mem _ hb)
    rw [List.map_cons, List.sum_cons, List.length_cons, Nat.mul_succ]
    omega
theorem joinL_len {S : List Nat} : ∀ ps : List (List Nat), (joinL S ps).length ≤ (ps.map List.length).sum + ps.length * S.length
  | [] => by simp [joinL]
  | [p] => by simp [joinL]
  | p :: q :: r => by
    have ih := joinL_len (S := S) (q :: r)
    show (p ++ (S ++ joinL S (q :: r))).length ≤ _
    rw [List.length_append, List.length_append, List.map_cons, List.sum_cons, List.length_cons, Nat.succ_mul]
    omega
theorem wrP_len {p : Str × List PyData} (h : okW p) : (wrP p).length ≤ 100 := by
  obtain ⟨h1, h2, h3⟩ := h
  have e1 : (tl p.1).length ≤ 8 := (fieldL_iff.mp h1).2.1
  have e2 := joinL_len (S := [46, 46]) (p.2.map shEnd)
  have e3 : ((p.2.map shEnd).map List.length).sum ≤ 41 * p.2.length := by
    rw [List.map_map]
    exact sum_le' p.2 fun e he => shEnd_len' (h3 e he).2
  rw [List.length_map] at e2
  simp only [List.length_cons, List.length_nil] at e2
  unfold wrP
  rw [List.length_append, List.length_append]
  simp only [List.length_cons, List.length_nil]
  omega
theorem r_callS {sp : Sp} {E : L2.St → XK} {t : TA} {σ : L2.St} {H : Hp} {Q : VK} (h : t σ H fun vs H1 => sp vs H1 Q (E σ)) : tCallS sp E t σ H Q := h
theorem sp1_in1 {g : V → Hp → VK → XK → Prop} {a : V} {H : Hp} {Q : VK} {E : XK} (h : g a H Q E) : sp1 g [a] H Q E := ⟨a, rfl, h⟩
theorem wrL_len {ps : List (Str × List PyData)} (h : ∀ p ∈ ps, okW p) (hl : ps.length ≤ 1000) : (ofL (wrL ps)).length ≤ 1000000 := by
  rw [TL.len_tl, tl_ofL]
  unfold wrL
  split
  · exact (by decide : (1 : Nat) ≤ 1000000)
  · have e := joinL_len (S := [32]) (ps.map wrP)
    have e2 : ((ps.map wrP).map List.length).sum ≤ 100 * ps.length := by
      rw [List.map_map]
      exact sum_le' ps fun p hp => wrP_len (h p hp)
    rw [List.length_map] at e
    simp only [List.length_cons, List.length_nil] at e
    omega
theorem ed_end (o : Option Int) : endD (ED o) = true := by cases o <;> rfl
theorem ed_num {o : Option Int} (h : okO o) : okNum 40 (ED o) = true := by
  cases o with
  | none => rfl
  | some i => exact decide_eq_true (Nat.lt_trans (h i rfl) (by decide))
theorem okPart_more {d : PyData} (h : okPart 15 d = true) : okPart 40 d = true := by
  cases d with
  | tuple ps =>
    refine List.all_eq_true.mpr fun e he => ?_
    have q := List.all_eq_true.mp h e he
    cases e with
    | int i => exact decide_eq_true (Nat.lt_trans (of_decide_eq_true q) (by decide))
    | _ => rfl
  | _ => rfl
theorem flat_up {ps : List (Str × List PyData)} (hl : ps.length ≤ 1000) (h : ∀ p ∈ ps, okW p) : upTo 4 (.tuple (ps.map mk1)) = true := by
  show (decide ((ps.map mk1).length ≤ 10000) && (ps.map mk1).all (upTo 3)) = true
  rw [decide_eq_true (by rw [List.length_map]; omega), Bool.true_and, List.all_eq_true]
  intro d hd
  obtain ⟨p, hp, rfl⟩ := List.mem_map.mp hd
  obtain ⟨h1, h2, h3⟩ := h p hp
  show (decide ((PyData.str p.1 :: p.2).length ≤ 10000) && (PyData.str p.1 :: p.2).all (upTo 2)) = true
  rw [decide_eq_true (by rw [List.length_cons]; omega), Bool.true_and, List.all_eq_true]
  intro e he
  rcases List.mem_cons.mp he with rfl | he
  · rfl
  · rcases end_num (h3 e he).1 with rfl | ⟨i, rfl⟩ <;> rfl
/-- a list against a new empty one -/
theorem r_ne_nil2 {K : PySem.W.Frag} {H : Hp} {Q : VK} {p q : Addr} {xs : List V} (h : H p = some (.lst xs)) (h0 : H q = some (.lst [])) (k : Q (.bl (!xs.isEmpty)) H) : rNe2 K (.ref p) (.ref q) H Q := r_ne_nil (SqL.of h) h0 k
/-! ### below, above -/
def bel (x1 x2 : Option Int) : Bool := match x2 with | none => false | some l => match x1 with | none => true | some m => decide (m < l)
def abv (y1 y2 : Option Int) : Bool := match y2 with | none => false | some h => match y1 with | none => true | some m => decide (h < m)
theorem one_wish {f : Str} {x y : Option Int} (hf : fieldS f = true) (hs : spanD (.tuple [ED x, ED y]) = true) : wishD (.tuple [.tuple [.str f, ED x, ED y]]) = true := by
  show (partsGo 3 Str.empty (.tuple (.str f :: [ED x, ED y]) :: []) && (spanD (.tuple [ED x, ED y]) && true)) = true
  have e : partsGo 3 Str.empty (.tuple (.str f :: [ED x, ED y]) :: []) = partsGo 3 f [] := partsGo_ok (n := 3) (es := [ED x, ED y]) rfl hf (field_pos hf)
  have e2 : partsGo 3 Str.empty [.tuple [.str f, ED x, ED y]] = true := e
  rw [e2, hs]
  rfl
theorem asc_one {f : Str} (hf : fieldS f = true) (r : List PyData) : ascS Str.empty ([(f, r)].map (·.1)) = true := by
  show (ltS Str.empty f && true) = true
  rw [field_pos hf]; rfl
end NB

/-! NL: len(set(t)), t a tuple of ints. -/
namespace NB
open PySem PySem.Spec PyProof.Rows L2 TL
theorem nodup_of_more_int : ∀ (r l : List Int), l.Nodup → (∀ k ∈ l, k ∈ r) → r.length ≤ l.length → r.Nodup
  | [], _, _, _, _ => List.nodup_nil
  | a :: r, l, nd, sub, le => by
    by_cases h : a ∈ r
    · have q : l.length ≤ r.length := List.Nodup.length_le_of_subset nd fun k hk => (List.mem_cons.mp (sub k hk)).elim (fun e => e ▸ h) id
      rw [List.length_cons] at le
      omega
    · refine List.nodup_cons.mpr ⟨h, nodup_of_more_int r (l.erase a) (nd.erase a) (fun k hk => ?_) ?_⟩
      · obtain ⟨q1, q2⟩ := (List.Nodup.mem_erase_iff nd).mp hk
        exact (List.mem_cons.mp (sub k q2)).elim (fun e => absurd e q1) id
      · have q := List.length_erase (a := a) (l := l)
        rw [List.length_cons] at le
        rw [q]
        split <;> omega
/-- len(set(t)), t a tuple of ints -/
def tLenSetI (K : PySem.W.Frag) (ta : TE) : TE := fun σ H Q => ta σ H fun x H1 => ∃ (l : Addr) (ns : List Int), x = .ref l ∧ SqT K H1 l (ns.map V.int) ∧ ns.length + 1 < scanBound ∧ ∀ c : Nat, (c = ns.length ↔ ns.Nodup) → Q (.int (c : Int)) H1
section
variable {X : Cx}
theorem pe_lenSetI {K : PySem.W.Frag} {a : Expr} {ta : TE} {p p2 q pos : Pos} (hc : X.calm = true) (hg : Gl X "len") (hm : X.mg "len" = none) (hg2 : Gl X "set") (hm2 : X.mg "set" = none) (ha : PE X a ta)
    (na : starEach [a] X.env = (false, eval a X.env) :: starEach [] X.env := by rfl) (hK : X.K = K := by rfl) : PE X (.Call (.Name "len" p) [.Call (.Name "set" p2) [a] [] q] [] pos) (tLenSetI K ta) := by
  subst hK
  refine ⟨fun pins s σ H Q I h => Call_ (ld_blt I hg hm boot_len (PyProof.Rows.callWith_builtin1 (PyProof.Rows.args_cons ?_ rfl) rfl rfl))⟩
  refine Call_ (ld_blt I hg2 hm2 boot_set (PyProof.Rows.callWith_type1 (PyProof.Rows.args_cons (thn (ha.run pins s σ H _ I h) fun v s1 q1 => PyProof.Rows.args_nil ?_) na) na rfl))
  obtain ⟨x, H1, I1, r1, l, ns, rfl, ht, few, k⟩ := q1
  cases r1
  obtain ⟨its, rv, pl, hz⟩ := I1.tuple ht
  refine call_set_tupI (P := X.prog) (w := X.w) ns (I1.ok.hd hc) pl (by simpa using ints_of_vals rv) few fun h' tk c R le keep => PyProof.Rows.args_nil ?_
  obtain ⟨o, rows, era, tab, at_o, exact_, dt, good, nd, mem, _, ft, cnt, _⟩ := R
  have I2 : Inv X pins σ H1 { s1 with heap := h', toks := tk } := I1.kept keep
  have e : c = ns.length ↔ ns.Nodup := by
    have hl : (rows.toList.map keyOf).length = c := by rw [List.length_map, Array.length_toList]; exact cnt
    have m1 : ∀ j, j ∈ rows.toList.map keyOf ↔ j ∈ ns := fun j => (mem j).symm.trans decide_eq_true_iff
    constructor
    · intro h
      exact nodup_of_more_int ns _ nd (fun j hj => (m1 j).mp hj) (by rw [hl, h]; exact Nat.le_refl _)
    · intro h
      have q1 : ns.length ≤ (rows.toList.map keyOf).length := List.Nodup.length_le_of_subset h fun j hj => (m1 j).mpr hj
      omega
  exact call_len_set at_o exact_ dt ft (by rw [cnt]; have := few; unfold scanBound at this; omega) ⟨.int c, H1, I2.tok _, ⟨_, by rw [cnt]⟩, k c e⟩
end
def RLenSet (K : PySem.W.Frag) (Q : VK) (x : V) (H1 : Hp) : Prop := ∃ (l : Addr) (ns : List Int), x = .ref l ∧ SqT K H1 l (ns.map V.int) ∧ ns.length + 1 < scanBound ∧ ∀ c : Nat, (c = ns.length ↔ ns.Nodup) → Q (.int (c : Int)) H1
theorem r_lenSet {K : PySem.W.Frag} {ta : TE} {σ : L2.St} {H : Hp} {Q : VK} (h : ta σ H fun x H1 => RLenSet K Q x H1) : tLenSetI K ta σ H Q := h
theorem r_lenSetI {K : PySem.W.Frag} {H : Hp} {Q : VK} {l : Addr} {ns : List Int} (h : H l = some (.tup (ns.map V.int))) (few : ns.length ≤ 4000) (k : ∀ c : Nat, (c = ns.length ↔ ns.Nodup) → Q (.int (c : Int)) H) : RLenSet K Q (.ref l) H :=
  ⟨l, ns, rfl, SqT.of h, Nat.lt_of_le_of_lt (Nat.succ_le_succ few) (by decide), k⟩
end NB

/-! NQ: mirrors of what a letter is, on data. -/
namespace NB
open PySem PySem.Spec PyProof.Rows L2 TL
def countD : PyData → Bool
  | .int i => decide (0 ≤ i)
  | _ => false
def iv : PyData → Int
  | .int i => i
  | _ => 0
def wayD : PyData → Bool
  | .tuple ds => decide (2 ≤ ds.length) && (ds.all countD && decide ((ds.map iv).Nodup))
  | _ => false
def newsD : PyData → Bool
  | .tuple [a, b, p] => countD a && (countD b && pieceD p)
  | _ => false
def marksGo : Int → List PyData → Bool
  | _, [] => true
  | least, .tuple [a, b] :: t => countD a && (countD b && (decide (least ≤ iv a) && marksGo (iv a + 1) t))
  | _, _ :: _ => false
def marksD : PyData → Bool
  | .tuple ds => marksGo 0 ds
  | _ => false
def newsAll : PyData → Bool
  | .tuple ds => ds.all newsD
  | _ => false
def keptD : List PyData → Bool
  | [n, w, m, ps] => fieldD n && (wayD w && (marksD m && newsAll ps))
  | _ => false
def sWant : Str := Str.ofString "want"
def sUnwant : Str := Str.ofString "unwant"
def sNews : Str := Str.ofString "news"
def sHere : Str := Str.ofString "here"
def sKept : Str := Str.ofString "kept"
def letterGo (w : Str) (r : List PyData) : Bool :=
  if w = sWant ∨ w = sUnwant then (match r with | [x] => wishD x | _ => false)
  else if w = sNews then newsD (.tuple r)
  else if w = sHere then (match r with | [n, c] => fieldD n && wayD c | _ => false)
  else if w = sKept then keptD r
  else false
def letterD : PyData → Bool
  | .tuple (.str w :: r) => decide (1 ≤ r.length) && letterGo w r
  | _ => false
end NB

/-! NR: a list comprehension whose element may let an exception out. -/
namespace NB
open PySem PySem.Spec PyProof.Rows L2
/-- the block's context, its exceptions going to xe -/
abbrev blkX (X : Cx) (s : Shared) (H : Hp) (scope : Scope) (cenv : Env) (fp : List Addr) (xe : Value → Shared → Prop) : Cx := (X.blk s H scope cenv fp).tr [] xe
theorem frames_off {B B' h h' : Heap} {C : Addr} {o : Obj} (hC : B.get? C = some o) (k : ∀ b, b ≠ C → h'.get? b = h.get? b) (kB : ∀ b, B.get? b = none → B'.get? b = none) : ∀ {l : List Env}, h.FunFrames B l → h'.FunFrames B' l
  | [], _ => trivial
  | env :: l, ff => by
    obtain ⟨kd, ⟨L, ob, f1, f2, f3, f4⟩, r⟩ := ff
    have ne : L ≠ C := fun z => by rw [z, hC] at f2; cases f2
    exact ⟨kd, ⟨L, ob, f1, kB L f2, (k L ne).trans f3, f4⟩, frames_off hC k kB r⟩
theorem held_off {B h h' : Heap} {l : List Env} {a C L : Addr} {o : Obj} {Z : Obj → Prop} (hC : B.get? C = some o) (k : ∀ b, b ≠ C → h'.get? b = h.get? b) (x : HandSPX.HeldZ B l a Z L h) : HandSPX.HeldZ (PySem.W.hideAll B [C]) l a Z L h' := by
  obtain ⟨x1, x2, x3, oe, vs, T, oT, ts, t1, t2, t3, t4, t5, t6, t7, t8, t9⟩ := x
  have hid : ∀ b, B.get? b = none → (PySem.W.hideAll B [C]).get? b = none := fun b e => by
    cases q : (PySem.W.hideAll B [C]).get? b with
    | none => rfl
    | some u => have z := PySem.W.of_hideAll _ q; rw [e] at z; cases z
  have off : ∀ b u, (PySem.W.hideAll B [C]).get? b = some u → b ≠ C := fun b u e z => by
    rw [z, PySem.W.hideAll_none _ (List.mem_singleton.mpr rfl)] at e; cases e
  have na : a ≠ C := fun z => by rw [z, hC] at x2; cases x2
  have nT : T ≠ C := fun z => by rw [z, hC] at t5; cases t5
  exact ⟨fun b u e => (k b (off b u e)).trans (x1 b u (PySem.W.of_hideAll _ e)), hid a x2, frames_off hC k hid x3, oe, vs, T, oT, ts, (k a na).trans t1, t2, t3, t4, hid T t5, t6, (k T nT).trans t7, t8, t9⟩
theorem note_same {e1 e2 : Env} (h : e1.frame = e2.frame) (u : Value) : noteFrame u e1 = noteFrame u e2 := by
  unfold noteFrame PySem.frameOf
  rw [h]
/-- what the block's end is to bring -/
def endX (M : Model) (A : Around) (E : Value → Shared → Prop) (Q : Value → Shared → Prop) (acc : Value) (ce : Env) : Result → Shared → Prop
  | .ok _, t => ∃ m, t.heap.Ns ce.locals m ∧ ∀ g, Heap.SameBut ce.locals t.heap g → Q acc { t with heap := g }
  | .error x, t => ∃ m, t.heap.Ns ce.locals m ∧ ∀ g, Heap.SameBut ce.locals t.heap g → wpAny M A (passOn "comprehension.variables-let-go" x ce : Sem Value) (fun _ _ => False) E { t with heap := g }
section
variable {M : Model} {A : Around} {E : Value → Shared → Prop} {s : Shared} {env : Env}
theorem comp_endX {e : Expr} {scope : Scope} {pos : Pos} {mk it0 : Sem Value} {c : Comprehension} {cs : List Comprehension} {cl : List (Str × Addr)} {Q : Value → Shared → Prop}
    (h1 : clausesOf e = c :: cs) (h2 : ∀ x, foldedSetIterable c.iter env x = pure x) (h3 : closureFor scope env = pure cl) (h4 : scope.kind = .function) (h5 : ∀ x ∈ scope.names, x.2 = .local → scope.names.lookup x.1 = some .local)
    (h : wpAny M A it0 (fun x t1 => wpAny M A (pyIter x) (fun it t2 => wpAny M A mk (fun acc t3 => wpAny M A (newFunctionEnv scope env.globals cl [] env.qual none .none (some env)) (fun ce t4 =>
        codeAny M A (.compStart e 0 it acc { ce with scope := relabel scope env }) (endX M A E Q acc { ce with scope := relabel scope env }) t4) E t3) E t2) E t1) E s) :
    wpAny M A (comprehension e scope env pos mk false it0 none) Q E s := by
  have id2 : ∀ (u : Value) (t : Shared), E u t → E u t := fun _ _ z => z
  unfold comprehension
  rw [h3, h1]
  refine wpAny_bind (wpAny_mono h (fun x t1 q1 => ?_) id2)
  refine wpAny_bind (wpAny_standAt (wpAny_bind (wpAny_of_eq (h2 x) (wpAny_bind (wpAny_holding (wpAny_mono q1 (fun it t2 q2 => ?_) id2))))))
  refine wpAny_standIf (wpAny_bind (wpAny_mono q2 (fun acc t3 q3 => wpAny_bind (wpAny_pure (wpAny_bind (wpAny_mono q3 (fun ce t4 q4 => ?_) id2)))) id2))
  dsimp only
  have loc : ∀ y ∈ (scope.names.filter fun y => (y.2 == .local || y.2 == .cell) && y.1 != (".0" : Str)).reverse, y.2 = .local → Env.kindOf { ce with scope := relabel scope env } y.1 = some .local := fun y hy hl =>
    lookup_relabel_local (h5 y (List.mem_filter.mp (List.mem_reverse.mp hy)).1 hl)
  refine wpAny_holding (wpAny_bind (wpAny_attempt (wpAny_holding (wpAny_run (codeAny_mono q4 fun r t' hr => ?_)))))
  cases r with
  | ok f =>
    obtain ⟨m, hm, hr⟩ := hr
    exact wpAny_bind (wpAny_holding (wpAny_comp_letGo (cenv := { ce with scope := relabel scope env }) h4 _ t' m loc hm fun g m' _ sb => wpAny_pure (hr g sb)))
  | error x =>
    obtain ⟨m, hm, hr⟩ := hr
    exact wpAny_bind (wpAny_holding (wpAny_comp_letGo (cenv := { ce with scope := relabel scope env }) h4 _ t' m loc hm fun g m' _ sb => wpAny_mono (hr g sb) (fun _ _ z => z.elim) id2))
end
section
variable {X : Cx}
/-- an exception of a call in the block, taken by the def -/
theorem blk_out {pins ps : List (Addr × Obj)} {σ σ' : L2.St} {H H3 : Hp} {s3 s s' : Shared} {scope : Scope} {ce : Env} {fp : List Addr} {xe : Value → Shared → Prop} {E : XK} {Q : Value → Shared → Prop} {acc u : Value}
    (tk : Takes X fun cls d _ H => E cls d H) (hst : X.stack = X.env :: X.outer) (hf : X.env.frame = some X.env.locals) (hcf : ce.frame = X.env.frame) (I3 : Inv X pins σ H3 s3) (hC : s3.heap.objs.size ≤ ce.locals) (hfp : ∀ b ∈ fp, FpOk X pins H3 b)
    (J : Inv (blkX X s3 H3 scope ce fp xe) ps σ' H s) (cx : L2.CX X.prog X.w X.stack H s E u s') :
    notedBy (model X.prog X.w) X.A ce (fun x t => endX (model X.prog X.w) X.A X.xe Q acc ce (.error x) t) u s' := by
  obtain ⟨a, B, H5, cls, d, rfl, fl, hok, ub, na, os, ag, hE⟩ := cx
  obtain ⟨G, g1, g2⟩ := L2.restrict s'.heap fun b => (B.get? b).isSome || decide (b ∈ frs X.stack)
  have st := fl.1
  have inB : ∀ b o, B.get? b = some o → G.get? b = some o := fun b o e => (g1 b (by simp [e])).trans (st b o e)
  have inF : ∀ b, b ∈ frs X.stack → G.get? b = s'.heap.get? b := fun b hb => g1 b (by simp [hb])
  have ofG : ∀ b o, G.get? b = some o → s'.heap.get? b = some o ∧ ((B.get? b).isSome = true ∨ b ∈ frs X.stack) := fun b o e => by
    cases q : ((B.get? b).isSome || decide (b ∈ frs X.stack)) with
    | false => rw [g2 b q] at e; cases e
    | true => exact ⟨by rw [g1 b q] at e; exact e, by simpa [Bool.or_eq_true] using q⟩
  -- the block's state without the exception
  have JG : Inv (blkX X s3 H3 scope ce fp xe) ps σ' H5 { s with heap := G, gens := s'.gens, drawn := s'.drawn, toks := s'.toks } := by
    refine J.call (ch := []) ⟨fun b o e n hb _ => inB b o (ub.keep b o e n hb), fun b o e n hb _ => ?_, fun b o e n _ => ub.free b o e n, fun b o e _ => ?_, ub.tups, ub.frzs, ub.tbls⟩ (hok.kept inB) ag (fun _ z => nomatch z)
    · obtain ⟨sl, q⟩ := ub.slot b o e hb
      exact ⟨sl, (inF b hb).trans q⟩
    · by_cases hb : b ∈ frs X.stack
      · obtain ⟨sl, q⟩ := ub.slot b o e hb
        exact ⟨_, (inF b hb).trans q⟩
      · obtain ⟨o', q⟩ := ub.there b o e hb
        exact ⟨o', inB b o' q⟩
  have GB : ∀ b o, G.get? b = some o → b ∉ frs X.stack → B.get? b = some o := fun b o e hb => by
    obtain ⟨e', q⟩ := ofG b o e
    rcases q with q | q
    · obtain ⟨o', q⟩ := Option.isSome_iff_exists.mp q
      have z := st b o' q
      rw [e'] at z; cases z
      exact q
    · exact absurd q hb
  have nC : H5 ce.locals = none := JG.free
  have fC := I3.fpOk hC nC
  have frC : ce.locals ∉ frs X.stack := fun hm => by
    rw [hst] at hm
    rcases List.mem_cons.mp (I3.stkSub _ (by rw [hst]; exact hm)) with z | z
    · exact fC.2.1 z
    · exact fC.2.2.1 z
  -- the def's state without it
  have I5 : Inv X pins σ H5 { s with heap := G, gens := s'.gens, drawn := s'.drawn, toks := s'.toks } := I3.call' (ch := fp) JG.os JG.base JG.hok JG.bare fun b hb =>
    ⟨(hfp b hb).2.2.2.1, (hfp b hb).2.1, (hfp b hb).2.2.2.2.1, (hfp b hb).2.2.2.2.2⟩
  obtain ⟨m, hm, _⟩ := JG.loc
  have hm : G.Ns ce.locals m := hm
  obtain ⟨oC, es, ep, c1, c2⟩ := id hm
  have hCB := GB _ _ c1 frC
  have fr : X.A.frames = some (X.env :: X.outer) := by rw [I3.ok.frames, hst]
  unfold notedBy
  rw [note_same hcf]
  rw [hst] at fl
  refine HandSPX.looks_onZ Zc.steady fr hf fl fun h1 hh up1 => ?_
  have upG : G.UpToSlots h1 := (Heap.UpToSlots.of_keeps fun b o e => (ofG b o e).1).trans up1
  refine ⟨m, ⟨oC, es, ep, hh.1 _ _ hCB, c2⟩, fun g sb => ?_⟩
  have hh2 := held_off hCB (fun b hb => sb.2 b hb) hh
  unfold PySem.passOn
  obtain ⟨y1, y2, y3, oe, vs, T, oT, ts, t1, t2, t3, t4, t5, t6, t7, t8, t9⟩ := id hh2
  refine wpAny_bind (wpAny_field t1 t3 t4 ?_)
  rw [if_neg (show ¬ ((Value.ref T == Value.none) = true) from by simp)]
  rw [hcf, hf]
  refine wpAny_bind (HandSPX.setFlight_onZ hh2 fun h2 hh3 up2 => wpAny_throw ?_)
  have off : ∀ b u, (PySem.W.hideAll G [ce.locals]).get? b = some u → b ≠ ce.locals ∧ G.get? b = some u := fun b u e => by
    refine ⟨fun z => ?_, PySem.W.of_hideAll _ e⟩
    rw [z, PySem.W.hideAll_none _ (List.mem_singleton.mpr rfl)] at e
    cases e
  obtain ⟨f0, f1, f2, f3, f4, f5⟩ := fC
  have I6 : Inv X pins σ H5 { s with heap := PySem.W.hideAll G [ce.locals], gens := s'.gens, drawn := s'.drawn, toks := s'.toks } :=
    I5.turned (it := ce.locals) (h' := PySem.W.hideAll G [ce.locals]) (t' := s'.toks) (fun b o hb e => PySem.W.hideAll_get _ e (fun z => hb (List.mem_singleton.mp z))) f0 f1 f3 f4 f5
  refine tk _ _ ⟨a, _, _, pins, σ, H5, cls, d, rfl, I6, fun b o e hb => ?_, fun b o e nf => ?_, .inr (.inr (by rw [hst]; exact hh3)), na, os, ag, hE⟩
  · obtain ⟨q1, q2⟩ := off b o e
    exact PySem.W.hideAll_get _ (GB b o q2 hb) (fun z => q1 (List.mem_singleton.mp z))
  · obtain ⟨q1, q2⟩ := off b o e
    obtain ⟨sl, q3⟩ := upG b o q2 nf
    obtain ⟨sl2, q4⟩ := up2 b _ ((sb.2 b q1).trans q3) nf
    exact ⟨sl2, q4⟩
end
section
variable {X : Cx}
theorem pe_lcX {elt tg iter : Expr} {ifs : List Expr} {scope : Scope} {own : List (Str × Nat)} {pos : Pos} {wi : TI} {g : TG} {tt : TT} {te : TE} {E : XK} (hc : X.calm = true) (nd : X.N.Nodup) (tk : Takes X fun cls d _ H => E cls d H) (hst : X.stack = X.env :: X.outer)
    (hf : X.env.frame = some X.env.locals) (hi : PI X tg iter wi) (ok : BlkOk X.N X.env.scope scope own)
    (hg : ∀ (s : Shared) (H : Hp) (C : Addr) (cl : List (Str × Addr)) (fp : List Addr) (xe : Value → Shared → Prop), PG (blkX X s H scope (compEnvC scope cl C X.env) fp xe) tg g)
    (ht : ∀ (s : Shared) (H : Hp) (C : Addr) (cl : List (Str × Addr)) (fp : List Addr) (xe : Value → Shared → Prop), PTs (blkX X s H scope (compEnvC scope cl C X.env) fp xe) ifs tt)
    (he : ∀ (s : Shared) (H : Hp) (C : Addr) (cl : List (Str × Addr)) (fp : List Addr) (xe : Value → Shared → Prop), Passes (L2.CX X.prog X.w) (blkX X s H scope (compEnvC scope cl C X.env) fp xe) E → PE (blkX X s H scope (compEnvC scope cl C X.env) fp xe) elt te)
    (hs : ∀ x, foldedSetIterable iter X.env x = pure x := by intro _; rfl) : PE X (.ListComp elt [⟨tg, iter, ifs, 0⟩] scope pos) (tLc wi g tt te (own.map (·.2))) := by
  refine ⟨fun pins s σ H Q I h => ?_⟩
  rw [eval_ListComp]
  have free : ∀ y ∈ scope.names, y.2 = .free → ∃ c, X.env.cells.lookup y.1 = some c := fun y hy e => (ok.free y hy e).elim (fun z => I.ok.has _ (.inl z)) fun z => I.ok.has _ (.inr z)
  refine comp_endX rfl hs (closure_ok free) ok.kind (fun y hy e => by rw [ok.uniq y hy, e]) (L2.thn (hi.run pins s σ H _ I h) fun v0 t1 q1 => L2.thn q1 fun itv t2 q2 => ?_)
  obtain ⟨it, fp, tn, J, H2, rfl, I2, T, st2, f2, q⟩ := q2
  refine wpAny_newObj_type (newEnv_comp ?_) (Nat.zero_le _)
  obtain ⟨D, hD⟩ : ∃ D, D = t2.heap.objs.size := ⟨_, rfl⟩
  rw [← hD]
  obtain ⟨W, ⟨m0, w0⟩, turn⟩ := q D (I2.hok.fresh (Nat.le_of_eq hD.symm))
  obtain ⟨s3, hs3⟩ : ∃ s3 : Shared, s3 = { t2 with heap := t2.heap.push { cls := .type "list", data := .seq ([] : List Value).toArray } } := ⟨_, rfl⟩
  have h3 : s3.heap = t2.heap.push { cls := .type "list", data := .seq ([] : List Value).toArray } := by rw [hs3]
  have I3 : Inv X pins σ (upd H2 D (.lst [])) s3 := by
    rw [hs3]
    refine I2.laid (t' := t2.toks) (fun b o e => Heap.get?_push_of_some _ e) (Nat.le_of_eq hD.symm) ⟨Nat.zero_le _, [], 0, .nil, ?_⟩
    rw [hD]
    exact Heap.get?_push_size _ rfl
  have f3 : ∀ b ∈ fp, FpOk X pins (upd H2 D (.lst [])) b ∧ b < s3.heap.objs.size := fun b hb => by
    obtain ⟨o, e, _⟩ := T.obj _ _ st2 b hb
    have lt := Heap.lt_size e
    refine ⟨⟨?_, (f2 b hb).2⟩, by rw [h3, Heap.size_push]; exact Nat.lt_succ_of_lt lt⟩
    rw [upd_ne (by rw [hD]; exact Nat.ne_of_lt lt)]
    exact (f2 b hb).1
  have st3 : tn 0 s3.heap := T.keep _ _ _ st2 fun b _ o e => by rw [h3]; exact Heap.get?_push_of_some _ e
  have I4 := block_start I3 ok nd f3
  rw [← hs3]
  obtain ⟨H3, hH3⟩ : ∃ H3, H3 = upd H2 D (.lst []) := ⟨_, rfl⟩
  rw [← hH3] at I3 I4 w0 f3
  obtain ⟨ce, hce⟩ : ∃ ce, ce = compEnvC scope (cellsFrom (s3.heap.objs.size + 1) scope.names (cloFrom X.env.cells scope.names [])) s3.heap.objs.size X.env := ⟨_, rfl⟩
  obtain ⟨s4, hs4⟩ : ∃ s4 : Shared, s4 = { s3 with heap := pushCells (s3.heap.push { cls := .type "dict", data := .dict #[] }) scope.names } := ⟨_, rfl⟩
  have cL : ce.locals = s3.heap.objs.size := by rw [hce]; rfl
  have cF : ce.frame = X.env.frame := by rw [hce]; rfl
  rw [← hce, ← hs4] at I4
  show codeAny _ _ (.compStart (.ListComp elt [⟨tg, iter, ifs, 0⟩] scope pos) 0 (.ref it) (.ref D) (compEnvC scope (cellsFrom (s3.heap.objs.size + 1) scope.names (cloFrom X.env.cells scope.names [])) s3.heap.objs.size X.env))
    (endX (model X.prog X.w) X.A X.xe (EP X pins σ Q) (.ref D) (compEnvC scope (cellsFrom (s3.heap.objs.size + 1) scope.names (cloFrom X.env.cells scope.names [])) s3.heap.objs.size X.env)) { s3 with heap := pushCells (s3.heap.push { cls := .type "dict", data := .dict #[] }) scope.names }
  rw [← hce, ← hs4]
  obtain ⟨R, hR⟩ : ∃ R, R = endX (model X.prog X.w) X.A X.xe (EP X pins σ Q) (.ref D) ce := ⟨_, rfl⟩
  obtain ⟨xe, hxe⟩ : ∃ xe, xe = notedBy (model X.prog X.w) X.A ce fun x t => R (.error x) t := ⟨_, rfl⟩
  rw [← hR]
  have pg := hg s3 H3 s3.heap.objs.size (cellsFrom (s3.heap.objs.size + 1) scope.names (cloFrom X.env.cells scope.names [])) fp xe
  have pt := ht s3 H3 s3.heap.objs.size (cellsFrom (s3.heap.objs.size + 1) scope.names (cloFrom X.env.cells scope.names [])) fp xe
  have pe := he s3 H3 s3.heap.objs.size (cellsFrom (s3.heap.objs.size + 1) scope.names (cloFrom X.env.cells scope.names [])) fp xe
  rw [← hce] at pg pt pe
  have pe := pe fun pins' σ' H' s' u s'' J' cx => by
    show xe u s''
    rw [hxe, hR]
    exact blk_out tk hst hf cF I3 (Nat.le_of_eq cL.symm) (fun b hb => (f3 b hb).1) J' cx
  have st4 : tn 0 s4.heap := T.keep _ _ _ st3 fun b _ o e => by rw [hs4]; exact pushCells_keeps _ _ _ _ (Heap.get?_push_of_some _ e)
  have still : ∀ {σ' : L2.St} {H' : Hp} {s' : Shared}, Inv (blkX X s3 H3 scope ce fp xe) [] σ' H' s' → (∀ b ∈ fp, H' b = none) → ∀ b ∈ fp, FpOk (blkX X s3 H3 scope ce fp xe) [] H' b := fun {σ' H' s'} J' hn b hb =>
    ⟨hn b hb, (J'.ok.exf b hb).1, J'.ok.exfs b hb, .inl hb, (fun x c e => (J'.ok.exf b hb).2 x c e), fun p hp => absurd (show p ∈ ([] : List (Addr × Obj)) ++ [] from hp) (by simp)⟩
  generalize hvs : own.map (·.2) = vs at I4 turn
  have loop : codeAny (model X.prog X.w) X.A (.compLoop (.ListComp elt [⟨tg, iter, ifs, 0⟩] scope pos) 0 (.ref it) (.ref D) ce) R s4 := by
    refine compLoop_any (fun n t => ∃ i H', Inv (blkX X s3 H3 scope ce fp xe) [] (wipe σ vs) H' t ∧ tn i t.heap ∧ (∀ b ∈ fp, H' b = none) ∧ W i n H') ?_ m0 ⟨0, H3, I4.toTry xe, st4, fun b hb => (f3 b hb).1.1, w0⟩
    rw [← hxe]
    rintro n s5 ⟨i, H5, I5, st5, n5, w5⟩
    rcases turn i n H5 w5 with ⟨stop, fin⟩ | ⟨go, Nx, hNx, step⟩
    · refine L2.thnF (T.done (blkX X s3 H3 scope ce fp xe) rfl rfl rfl hc i [] s5 _ H5 (fun _ _ => False) I5 (still I5 n5) st5 stop) fun r s6 ⟨hr, I6⟩ => ?_
      subst hr
      have I7 : Inv X pins σ H5 s6 := I3.call' (ch := fp) I6.os I6.base I6.hok I6.bare fun b hb => ⟨(f3 b hb).1.2.2.2.1, (f3 b hb).1.2.1, (f3 b hb).1.2.2.2.2.1, (f3 b hb).1.2.2.2.2.2⟩
      have nC : H5 ce.locals = none := I6.free
      obtain ⟨m, hn, _⟩ := I6.loc
      obtain ⟨k0, k1, k2, k3, k4, k5⟩ := I3.fpOk (Nat.le_of_eq cL.symm) nC
      rw [hR]
      exact ⟨m, hn, fun h'' sb => ⟨.ref D, H5, I7.turned (t' := s6.toks) (fun b o hb e => (sb.2 b hb).trans e) k0 k1 k3 k4 k5, rfl, fin⟩⟩
    · refine L2.thnF (T.item (blkX X s3 H3 scope ce fp xe) rfl rfl rfl hc i [] s5 _ H5 (fun _ _ => False) I5 (still I5 n5) st5 go) fun r s6 ⟨u, hr, h6⟩ => ?_
      subst hr
      refine L2.thnF h6 fun _ s7 ⟨x, H7, I7, r7, y7, st7, n7⟩ => ?_
      have I7' := I7.pinned (still I7 n7) (T.obj _ _ st7)
      refine L2.thn (pg.run _ s7 _ H7 x u _ I7' r7 (step x H7 y7)) fun _ s8 ⟨σ8, H8, I8, hw8, q8⟩ => ?_
      refine L2.thn (pt.run _ s8 σ8 H8 _ I8 q8) fun b s9 ⟨H9, I9, q9⟩ => ?_
      have next : ∀ {t : Shared} {H' : Hp}, Inv (blkX X s3 H3 scope ce fp xe) ([] ++ pinsAt fp s7.heap) σ8 H' t → Nx H' → ∃ m, m < n ∧ ∃ i H', Inv (blkX X s3 H3 scope ce fp xe) [] (wipe σ vs) H' t ∧ tn i t.heap ∧ (∀ b ∈ fp, H' b = none) ∧ W i m H' := fun {t H'} I' nx => by
        obtain ⟨m', hm, w'⟩ := hNx H' nx
        have pin' : ∀ b ∈ fp, ∀ o, s7.heap.get? b = some o → t.heap.get? b = some o ∧ H' b = none := fun b hb o e =>
          have z := I'.pin (b, o) (List.mem_append_right _ (List.mem_append_right _ (mem_pinsAt hb e)))
          ⟨z.1, z.2.1⟩
        refine ⟨m', hm, i + 1, H', (I'.unpinned (pins := [])).weak (by rw [← hw8, wipe_length]) (fun j v e => ?_), T.keep _ _ _ st7 (fun b hb o e => (pin' b hb o e).1), fun b hb => ?_, w'⟩
        · rw [← hw8] at e
          exact (wipe_some e).1
        · obtain ⟨o, e, _⟩ := T.obj _ _ st7 b hb
          exact (pin' b hb o e).2
      cases b with
      | false =>
        simp only [Bool.false_eq_true, if_false] at q9 ⊢
        exact next I9 q9
      | true =>
        simp only [if_true] at q9 ⊢
        refine L2.thn (pe.run _ s9 σ8 H9 _ I9 q9) fun z s10 ⟨yv, H10, I10, r10, acc, hD10, hz10, nx⟩ => ?_
        exact app_ok (X := blkX X s3 H3 scope ce fp xe) I10 hD10 hz10 r10 fun s11 I11 => next I11 nx
  exact codeAny_compStart_list loop (T.self X.A 0 _ _ _ st4 loop)
end
end NB

/-! NU: letters as signs, written and read, in plain Lean. -/
namespace NB
open PySem PySem.Spec PyProof.Rows L2 TL
open PySem.NumText
/-! ### texts joined and cut by signs -/
theorem spl_ne (S : List Nat) : ∀ (L : List Nat) (k : Nat) (acc : List Nat), spl S k acc L ≠ []
  | [], k, acc => by rw [spl_nil]; simp
  | c :: r, 0, acc => by
    cases hp : pre S (c :: r) with
    | true => rw [spl_hit hp]; simp
    | false => rw [spl_miss hp]; exact spl_ne S r 0 _
  | c :: r, k + 1, acc => by show spl S k acc r ≠ []; exact spl_ne S r k _
theorem joinL_cons2 (S a b : List Nat) (r : List (List Nat)) : joinL S (a :: b :: r) = a ++ (S ++ joinL S (b :: r)) := by
  first
    | rfl
    | (conv => lhs; unfold joinL)
      try simp only [List.append_assoc]
/-- joined again -/
theorem join_spl1 {s : Nat} : ∀ (L acc : List Nat), joinL [s] (spl [s] 0 acc L) = acc ++ L
  | [], acc => by rw [spl_nil]; simp [joinL]
  | c :: r, acc => by
    by_cases h : c = s
    · subst h
      have hp : pre [c] (c :: r) = true := by simp [pre]
      rw [spl_hit hp]
      have ih := join_spl1 (s := c) r []
      obtain ⟨a, w, e⟩ := List.exists_cons_of_ne_nil (spl_ne [c] r ([c].length - 1) [])
      rw [e, joinL_cons2, ← e]
      show acc ++ ([c] ++ joinL [c] (spl [c] 0 [] r)) = _
      rw [ih]; simp
    · rw [spl_miss (pre_of_head [] r h), join_spl1 r]
      simp
/-- the words of a text, the first one taken off -/
theorem spl_first {s : Nat} {a rest : List Nat} (h : s ∉ a) : spl [s] 0 [] (a ++ s :: rest) = a :: spl [s] 0 [] rest := by
  have e := spl_part1 (s := s) (S := []) (p := a) (rest := rest) (acc := []) h
  simpa using e
theorem spl_last0 {s : Nat} {a : List Nat} (h : s ∉ a) : spl [s] 0 [] a = [a] := by
  have e := spl_last1 (s := s) (S := []) (p := a) (acc := []) h
  simpa using e
/-- cut by a stroke between blanks: no stroke in the part -/
def bar3 : List Nat := [32, 124, 32]
theorem pre_bar {c : Nat} {r : List Nat} (h : r.head? ≠ some 124) : pre bar3 (c :: r) = false := by
  unfold pre bar3
  cases r with
  | nil => simp
  | cons d r =>
    have hd : d ≠ 124 := fun z => h (by rw [z]; rfl)
    cases r <;> simp [hd]
theorem spl_bar {p rest : List Nat} (h : 124 ∉ p) : spl bar3 0 [] (p ++ (bar3 ++ rest)) = p :: spl bar3 0 [] rest := by
  have e := spl_part (S := bar3) (p := p) (rest := rest) (acc := []) (by decide) fun i hi => by
    have hne : (p.drop i) ≠ [] := by
      intro z
      have := congrArg List.length z
      rw [List.length_drop] at this
      simp at this
      omega
    obtain ⟨c, r, e⟩ := List.exists_cons_of_ne_nil hne
    rw [List.drop_append_of_le_length (by omega), e]
    refine pre_bar ?_
    cases r with
    | nil => show some 32 ≠ some 124; decide
    | cons d r =>
      intro z
      have z : d = 124 := by simpa using z
      subst z
      exact h (List.mem_of_mem_drop (by rw [e]; simp))
  simpa using e
theorem spl_bar0 {p : List Nat} (h : 124 ∉ p) : spl bar3 0 [] p = [p] := by
  have e := spl_last (S := bar3) (p := p) (acc := []) fun i hi => by
    have hne : (p.drop i) ≠ [] := by
      intro z
      have := congrArg List.length z
      rw [List.length_drop] at this
      simp at this
      omega
    obtain ⟨c, r, e⟩ := List.exists_cons_of_ne_nil hne
    rw [e]
    refine pre_bar fun z => ?_
    have hm : 124 ∈ r := List.mem_of_head? z
    exact h (List.mem_of_mem_drop (by rw [e]; exact List.mem_cons_of_mem _ hm))
  simpa using e
theorem spl_bars : ∀ {ps : List (List Nat)}, ps ≠ [] → (∀ p ∈ ps, 124 ∉ p) → spl bar3 0 [] (joinL bar3 ps) = ps
  | [p], _, h => by
    show spl bar3 0 [] p = [p]
    exact spl_bar0 (h p (by simp))
  | p :: q :: r, _, h => by
    rw [joinL_cons2, spl_bar (h p (by simp)), spl_bars (by simp) fun x hx => h x (List.mem_cons_of_mem _ hx)]
/-! ### what is written -/
def numD (d : PyData) : List Nat := numLI (iv d)
def wayLs (ds : List PyData) : List Nat := joinL [45] (ds.map numD)
def shMark : PyData → List Nat
  | .tuple [a, b] => numD a ++ ([58] ++ numD b)
  | _ => []
def shMarks (ds : List PyData) : List Nat := if ds = [] then [45] else joinL [44] (ds.map shMark)
def tupL : PyData → List PyData
  | .tuple ds => ds
  | _ => []
def shNews : PyData → List Nat
  | .tuple [a, b, p] => numD a ++ ([32] ++ (numD b ++ ([32] ++ shPiece (tupL p))))
  | _ => []
/-- marks and pieces kept -/
def shKept (ms ps : List PyData) : List Nat := shMarks ms ++ (ps.map fun p => bar3 ++ shNews p).flatten
def strL : PyData → List Nat
  | .str x => tl x
  | _ => []
def wL (s : String) : List Nat := tl (Str.ofString s)
def shLetter : List PyData → List Nat
  | [w, x] => strL w ++ ([32] ++ shWish (tupL x))
  | [w, h, c] => strL w ++ ([32] ++ (strL h ++ ([32] ++ wayLs (tupL c))))
  | [w, a, b, p] => strL w ++ ([32] ++ (numD a ++ ([32] ++ (numD b ++ ([32] ++ shPiece (tupL p))))))
  | [w, h, c, ms, ps] => strL w ++ ([32] ++ (strL h ++ ([32] ++ (wayLs (tupL c) ++ ([32] ++ shKept (tupL ms) (tupL ps))))))
  | _ => []
/-! ### what is read -/
def rdNews (ws : List (List Nat)) : Option (List PyData) := match ws with
  | a :: b :: c :: r => match rdNum a, rdNum b, rdPiece (joinL [32] (c :: r)) with
    | some i, some j, some p => some [.int i, .int j, .tuple p]
    | _, _, _ => none
  | _ => none
def rdMark (w : List Nat) : Option PyData := match two [58] w with
  | some (a, b) => match rdNum a, rdNum b with
    | some i, some j => some (.tuple [.int i, .int j])
    | _, _ => none
  | none => none
def rdMarks (w : List Nat) : Option (List PyData) := if w = [45] then some [] else mapO rdMark (spl [44] 0 [] w)
def rdInt (w : List Nat) : Option PyData := (rdNum w).map .int
def rdPart (w : List Nat) : Option PyData := (rdNews (spl [32] 0 [] w)).map .tuple
def strD (w : List Nat) : PyData := .str (ofL w)
def rdMoving (x : List Nat) : Option (List PyData) :=
  let parts := spl bar3 0 [] x
  let words := spl [32] 0 [] (parts.headD [])
  match words with
  | [w, h, c] => (mapO rdInt (spl [45] 0 [] c)).map fun ds => [strD w, strD h, .tuple ds] ++ parts.tail.map strD
  | [w, h, c, m] => match mapO rdInt (spl [45] 0 [] c), mapO rdPart parts.tail, rdMarks m with
    | some ds, some ps, some ms => some [strD w, strD h, .tuple ds, .tuple ms, .tuple ps]
    | _, _, _ => none
  | _ => none
def rdLetter0 (x : List Nat) : Option (List PyData) :=
  let words := spl [32] 0 [] x
  if words.headD [] = wL "news" then (rdNews words.tail).map fun r => .str sNews :: r else rdMoving x
def rdLetter (x : List Nat) : Option (List PyData) :=
  let words := spl [32] 0 [] x
  if words.headD [] = wL "want" ∨ words.headD [] = wL "unwant" then (rdWish (joinL [32] words.tail)).map fun ds => [strD (words.headD []), .tuple ds]
  else match rdLetter0 x with
    | some l => if letterD (.tuple l) = true then some l else none
    | none => none

/-! ### numbers that are not too great -/
def okNews (k : Nat) : PyData → Bool
  | .tuple [a, b, .tuple p] => okNum k a && (okNum k b && p.all (okPart k))
  | _ => true
def allT (f : PyData → Bool) : PyData → Bool
  | .tuple ds => ds.all f
  | _ => true
def okLet (k : Nat) : List PyData → Bool
  | [_, x] => allT (okPart k) x
  | [_, _, c] => allT (okNum k) c
  | [_, a, b, p] => okNum k a && (okNum k b && allT (okPart k) p)
  | [_, _, c, ms, ps] => allT (okNum k) c && (allT (okPart k) ms && allT (okNews k) ps)
  | _ => true
theorem countD_int {d : PyData} (h : countD d = true) : ∃ i : Int, d = .int i ∧ 0 ≤ i := by
  cases d with
  | int i => exact ⟨i, rfl, of_decide_eq_true h⟩
  | _ => cases h
theorem numLI_pos {i : Int} (h : 0 ≤ i) : numLI i = numL i.natAbs := if_neg (by omega)
theorem numD_free {d : PyData} {s : Nat} (h : countD d = true) (hs : s < 48 ∨ 57 < s) : s ∉ numD d := by
  obtain ⟨i, rfl, h0⟩ := countD_int h
  show s ∉ numLI i
  rw [numLI_pos h0]
  exact numL_free hs
theorem numD_ne {d : PyData} : numD d ≠ [] := by
  show numLI (iv d) ≠ []
  unfold numLI
  split
  · simp
  · exact numL_ne _
theorem rdNum_numD {d : PyData} (h : countD d = true) (hk : okNum 15 d = true) : ∃ i, d = .int i ∧ rdNum (numD d) = some i := by
  obtain ⟨i, rfl, h0⟩ := countD_int h
  exact ⟨i, rfl, rdNum_num (of_decide_eq_true hk)⟩
theorem joinL_free {s : Nat} {S : List Nat} (hS : s ∉ S) : ∀ {ps : List (List Nat)}, (∀ p ∈ ps, s ∉ p) → s ∉ joinL S ps
  | [], _ => by simp [joinL]
  | [p], h => by show s ∉ p; exact h p (by simp)
  | p :: q :: r, h => by
    rw [joinL_cons2]
    simp only [List.mem_append, not_or]
    exact ⟨h p (by simp), hS, joinL_free hS fun x hx => h x (List.mem_cons_of_mem _ hx)⟩
/-! ways -/
theorem wayD_parts {ds : List PyData} (h : wayD (.tuple ds) = true) : 2 ≤ ds.length ∧ ds.all countD = true ∧ (ds.map iv).Nodup := by
  have h' : (decide (2 ≤ ds.length) && (ds.all countD && decide ((ds.map iv).Nodup))) = true := h
  rw [Bool.and_eq_true, Bool.and_eq_true] at h'
  exact ⟨of_decide_eq_true h'.1, h'.2.1, of_decide_eq_true h'.2.2⟩
theorem wayLs_free {ds : List PyData} {s : Nat} (h : ds.all countD = true) (hs : s < 45 ∨ 57 < s) : s ∉ wayLs ds := joinL_free (by simp; omega) fun p hp => by
  obtain ⟨d, hd, rfl⟩ := List.mem_map.mp hp
  exact numD_free (List.all_eq_true.mp h d hd) (by omega)
theorem rdWay {ds : List PyData} (h : ds.all countD = true) (hn : ds ≠ []) (hk : ds.all (okNum 15) = true) : mapO rdInt (spl [45] 0 [] (wayLs ds)) = some ds := by
  have hne : ds.map numD ≠ [] := by simpa using hn
  unfold wayLs
  rw [spl_join hne fun p hp => by
    obtain ⟨d, hd, rfl⟩ := List.mem_map.mp hp
    exact numD_free (List.all_eq_true.mp h d hd) (by omega)]
  refine mapO_map fun d hd => ?_
  obtain ⟨i, rfl, e⟩ := rdNum_numD (List.all_eq_true.mp h d hd) (List.all_eq_true.mp hk d hd)
  unfold rdInt
  rw [e]; rfl
/-! marks -/
theorem marksGo_mem : ∀ {ds : List PyData} {l : Int}, marksGo l ds = true → ∀ d ∈ ds, ∃ a b, d = .tuple [a, b] ∧ countD a = true ∧ countD b = true
  | [], _, _, d, hd => by cases hd
  | e :: t, l, h, d, hd => by
    unfold marksGo at h
    split at h
    · next q => cases q
    · next l' a b t' q =>
      injection q with q1 q2
      subst q1 q2
      simp only [Bool.and_eq_true] at h
      rcases List.mem_cons.mp hd with rfl | hm
      · exact ⟨a, b, rfl, h.1, h.2.1⟩
      · exact marksGo_mem h.2.2.2 d hm
    · cases h
theorem shMark_free {a b : PyData} {s : Nat} (ha : countD a = true) (hb : countD b = true) (hs : s < 48 ∨ 58 < s) : s ∉ shMark (.tuple [a, b]) := by
  show s ∉ numD a ++ ([58] ++ numD b)
  simp only [List.mem_append, List.mem_cons, List.not_mem_nil, or_false, not_or]
  exact ⟨numD_free ha (by omega), by omega, numD_free hb (by omega)⟩
theorem shMarks_free {ds : List PyData} {s : Nat} (h : marksGo 0 ds = true) (hs : s < 44 ∨ 58 < s) : s ∉ shMarks ds := by
  unfold shMarks
  split
  · simp; omega
  · refine joinL_free (by simp; omega) fun p hp => ?_
    obtain ⟨d, hd, rfl⟩ := List.mem_map.mp hp
    obtain ⟨a, b, rfl, ha, hb⟩ := marksGo_mem h d hd
    exact shMark_free ha hb (by omega)
theorem rdMarks_sh {ds : List PyData} (h : marksGo 0 ds = true) (hk : ds.all (okPart 15) = true) : rdMarks (shMarks ds) = some ds := by
  by_cases hn : ds = []
  · subst hn; rfl
  have e : shMarks ds = joinL [44] (ds.map shMark) := if_neg hn
  have hne : ds.map shMark ≠ [] := by simpa using hn
  have hfree : ∀ p ∈ ds.map shMark, (44 : Nat) ∉ p := fun p hp => by
    obtain ⟨d, hd, rfl⟩ := List.mem_map.mp hp
    obtain ⟨a, b, rfl, ha, hb⟩ := marksGo_mem h d hd
    exact shMark_free ha hb (by omega)
  have h45 : joinL [44] (ds.map shMark) ≠ [45] := fun z => by
    have q := spl_join (S := []) hne hfree
    rw [z, spl_last0 (by decide)] at q
    have : [45] ∈ ds.map shMark := by rw [← q]; simp
    obtain ⟨d, hd, e2⟩ := List.mem_map.mp this
    obtain ⟨a, b, rfl, ha, hb⟩ := marksGo_mem h d hd
    have : (58 : Nat) ∈ shMark (.tuple [a, b]) := by show 58 ∈ numD a ++ ([58] ++ numD b); simp
    rw [e2] at this
    revert this
    decide
  unfold rdMarks
  rw [e, if_neg h45, spl_join hne hfree]
  refine mapO_map fun d hd => ?_
  obtain ⟨a, b, rfl, ha, hb⟩ := marksGo_mem h d hd
  have hk2 : (okNum 15 a && (okNum 15 b && true)) = true := List.all_eq_true.mp hk _ hd
  simp only [Bool.and_eq_true] at hk2
  obtain ⟨i, rfl, ei⟩ := rdNum_numD ha hk2.1
  obtain ⟨j, rfl, ej⟩ := rdNum_numD hb hk2.2.1
  show rdMark (numD (.int i) ++ ([58] ++ numD (.int j))) = _
  have e2 : two [58] (numD (.int i) ++ ([58] ++ numD (.int j))) = some (numD (.int i), numD (.int j)) := two_at (numD_free ha (by omega)) (numD_free hb (by omega))
  unfold rdMark
  rw [e2]
  simp only [ei, ej]
/-! news -/
theorem shPiece_free {ds : List PyData} {s : Nat} (h : pieceD (.tuple ds) = true) (hs : s = 124) : s ∉ shPiece ds := by
  subst hs
  unfold shPiece
  split
  · decide
  · refine joinL_free (by decide) fun p hp => ?_
    obtain ⟨d, hd, rfl⟩ := List.mem_map.mp hp
    obtain ⟨f, i, rfl, hf⟩ := piece_part h hd
    show 124 ∉ tl f ++ ([58] ++ numLI i)
    simp only [List.mem_append, List.mem_cons, List.not_mem_nil, or_false, not_or]
    exact ⟨field_free hf (by omega), by decide, numLI_free (by omega)⟩
theorem newsD_parts {d : PyData} (h : newsD d = true) : ∃ a b p, d = .tuple [a, b, .tuple p] ∧ countD a = true ∧ countD b = true ∧ pieceD (.tuple p) = true := by
  unfold newsD at h
  split at h
  · next a b p =>
    simp only [Bool.and_eq_true] at h
    obtain ⟨q, rfl⟩ : ∃ q, p = .tuple q := by
      have := h.2.2
      cases p <;> first | exact ⟨_, rfl⟩ | cases this
    exact ⟨a, b, q, rfl, h.1, h.2.1, h.2.2⟩
  · cases h
theorem news_words {a b : PyData} {p : List PyData} (ha : countD a = true) (hb : countD b = true) :
    spl [32] 0 [] (numD a ++ ([32] ++ (numD b ++ ([32] ++ shPiece p)))) = numD a :: numD b :: spl [32] 0 [] (shPiece p) := by
  show spl [32] 0 [] (numD a ++ 32 :: (numD b ++ 32 :: shPiece p)) = _
  rw [spl_first (numD_free ha (by omega)), spl_first (numD_free hb (by omega))]
theorem rdNews_go {a b : PyData} {p : List PyData} : rdNews (numD a :: numD b :: spl [32] 0 [] (shPiece p)) = match rdNum (numD a), rdNum (numD b), rdPiece (shPiece p) with
    | some i, some j, some p => some [.int i, .int j, .tuple p]
    | _, _, _ => none := by
  obtain ⟨c, r, e⟩ := List.exists_cons_of_ne_nil (spl_ne [32] (shPiece p) 0 [])
  have j := join_spl1 (s := 32) (shPiece p) []
  rw [e] at j
  rw [e]
  show (match rdNum (numD a), rdNum (numD b), rdPiece (joinL [32] (c :: r)) with
    | some i, some j, some p => some [PyData.int i, .int j, .tuple p]
    | _, _, _ => none) = _
  rw [j]; rfl
theorem rdNews_sh {a b : PyData} {p : List PyData} (ha : countD a = true) (hb : countD b = true) (hp : pieceD (.tuple p) = true) (ka : okNum 15 a = true) (kb : okNum 15 b = true) (kp : p.all (okPart 15) = true) :
    rdNews (numD a :: numD b :: spl [32] 0 [] (shPiece p)) = some [a, b, .tuple p] := by
  obtain ⟨i, rfl, ei⟩ := rdNum_numD ha ka
  obtain ⟨j, rfl, ej⟩ := rdNum_numD hb kb
  rw [rdNews_go, ei, ej, rdPiece_sh hp kp]
theorem rdNews_great {a b : PyData} {p : List PyData} (hp : pieceD (.tuple p) = true) (kp : p.all (okPart 15) = false) : rdNews (numD a :: numD b :: spl [32] 0 [] (shPiece p)) = none := by
  rw [rdNews_go, rdPiece_great hp kp]
  cases rdNum (numD a) <;> cases rdNum (numD b) <;> rfl
theorem rdPart_sh {d : PyData} (h : newsD d = true) (hk : okNews 15 d = true) : rdPart (shNews d) = some d := by
  obtain ⟨a, b, p, rfl, ha, hb, hp⟩ := newsD_parts h
  have hk2 : (okNum 15 a && (okNum 15 b && p.all (okPart 15))) = true := hk
  simp only [Bool.and_eq_true] at hk2
  unfold rdPart
  have e : shNews (.tuple [a, b, .tuple p]) = numD a ++ ([32] ++ (numD b ++ ([32] ++ shPiece p))) := rfl
  rw [e, news_words ha hb, rdNews_sh ha hb hp hk2.1 hk2.2.1 hk2.2.2]
  rfl
theorem rdPart_great {a b : PyData} {p : List PyData} (ha : countD a = true) (hb : countD b = true) (hp : pieceD (.tuple p) = true) (kp : p.all (okPart 15) = false) : rdPart (shNews (.tuple [a, b, .tuple p])) = none := by
  unfold rdPart
  have e : shNews (.tuple [a, b, .tuple p]) = numD a ++ ([32] ++ (numD b ++ ([32] ++ shPiece p))) := rfl
  rw [e, news_words ha hb, rdNews_great hp kp]
  rfl
theorem shNews_free {d : PyData} (h : newsD d = true) : 124 ∉ shNews d := by
  obtain ⟨a, b, p, rfl, ha, hb, hp⟩ := newsD_parts h
  show 124 ∉ numD a ++ ([32] ++ (numD b ++ ([32] ++ shPiece p)))
  simp only [List.mem_append, List.mem_cons, List.not_mem_nil, or_false, not_or]
  exact ⟨numD_free ha (by omega), by decide, numD_free hb (by omega), by decide, shPiece_free hp rfl⟩
/-! letters -/
theorem join_tail (S p : List Nat) : ∀ qs : List (List Nat), joinL S (p :: qs) = p ++ (qs.map fun q => S ++ q).flatten
  | [] => by simp [joinL]
  | q :: r => by
    rw [joinL_cons2, join_tail S q r]
    simp
/-- a kept letter's text ahead of its pieces -/
def keptHead (w h : Str) (c ms : List PyData) : List Nat := tl w ++ ([32] ++ (tl h ++ ([32] ++ (wayLs c ++ ([32] ++ shMarks ms)))))
theorem shLetter_kept (w h : Str) (c ms ps : List PyData) : shLetter [.str w, .str h, .tuple c, .tuple ms, .tuple ps] = joinL bar3 (keptHead w h c ms :: ps.map shNews) := by
  rw [join_tail]
  show tl w ++ ([32] ++ (tl h ++ ([32] ++ (wayLs c ++ ([32] ++ (shMarks ms ++ (ps.map fun p => bar3 ++ shNews p).flatten)))))) = _
  unfold keptHead
  simp only [List.append_assoc, List.map_map, Function.comp_def]
theorem kept_parts {w h : Str} {c ms ps : List PyData} (hw : ∀ s, s = 124 → s ∉ tl w) (hh : fieldS h = true) (hc : c.all countD = true) (hm : marksGo 0 ms = true) (hp : ps.all newsD = true) :
    spl bar3 0 [] (shLetter [.str w, .str h, .tuple c, .tuple ms, .tuple ps]) = keptHead w h c ms :: ps.map shNews := by
  rw [shLetter_kept]
  refine spl_bars (by simp) fun p hpm => ?_
  rcases List.mem_cons.mp hpm with rfl | hpm
  · unfold keptHead
    simp only [List.mem_append, List.mem_cons, List.not_mem_nil, or_false, not_or]
    exact ⟨hw _ rfl, by decide, field_free hh (by omega), by decide, wayLs_free hc (by omega), by decide, shMarks_free hm (by omega)⟩
  · obtain ⟨d, hd, rfl⟩ := List.mem_map.mp hpm
    exact shNews_free (List.all_eq_true.mp hp d hd)
theorem kept_words {w h : Str} {c ms : List PyData} (hw : 32 ∉ tl w) (hh : fieldS h = true) (hc : c.all countD = true) (hm : marksGo 0 ms = true) : spl [32] 0 [] (keptHead w h c ms) = [tl w, tl h, wayLs c, shMarks ms] := by
  show spl [32] 0 [] (tl w ++ 32 :: (tl h ++ 32 :: (wayLs c ++ 32 :: shMarks ms))) = _
  rw [spl_first hw, spl_first (field_free hh (by omega)), spl_first (wayLs_free hc (by omega)), spl_last0 (shMarks_free hm (by omega))]
theorem here_words {w h : Str} {c : List PyData} (hw : 32 ∉ tl w) (hh : fieldS h = true) (hc : c.all countD = true) : spl [32] 0 [] (shLetter [.str w, .str h, .tuple c]) = [tl w, tl h, wayLs c] := by
  show spl [32] 0 [] (tl w ++ 32 :: (tl h ++ 32 :: wayLs c)) = _
  rw [spl_first hw, spl_first (field_free hh (by omega)), spl_last0 (wayLs_free hc (by omega))]
theorem wishD_tup {d : PyData} (h : wishD d = true) : ∃ ds, d = .tuple ds := by cases d <;> first | exact ⟨_, rfl⟩ | cases h
theorem pieceD_tup {d : PyData} (h : pieceD d = true) : ∃ ds, d = .tuple ds := by cases d <;> first | exact ⟨_, rfl⟩ | cases h
theorem fieldD_str {d : PyData} (h : fieldD d = true) : ∃ x, d = .str x := by cases d <;> first | exact ⟨_, rfl⟩ | cases h
theorem wayD_tup {d : PyData} (h : wayD d = true) : ∃ ds, d = .tuple ds := by cases d <;> first | exact ⟨_, rfl⟩ | cases h
theorem marksD_tup {d : PyData} (h : marksD d = true) : ∃ ds, d = .tuple ds := by cases d <;> first | exact ⟨_, rfl⟩ | cases h
theorem newsAll_tup {d : PyData} (h : newsAll d = true) : ∃ ds, d = .tuple ds := by cases d <;> first | exact ⟨_, rfl⟩ | cases h
theorem and_t {a b : Bool} (h : (a && b) = true) : a = true ∧ b = true := Bool.and_eq_true_iff.mp h
theorem letter_forms {l : List PyData} (h : letterD (.tuple l) = true) :
    (∃ w ds, (w = sWant ∨ w = sUnwant) ∧ l = [.str w, .tuple ds] ∧ wishD (.tuple ds) = true) ∨
    (∃ a b p, l = [.str sNews, a, b, .tuple p] ∧ countD a = true ∧ countD b = true ∧ pieceD (.tuple p) = true) ∨
    (∃ n c, l = [.str sHere, .str n, .tuple c] ∧ fieldS n = true ∧ wayD (.tuple c) = true) ∨
    (∃ n c ms ps, l = [.str sKept, .str n, .tuple c, .tuple ms, .tuple ps] ∧ fieldS n = true ∧ wayD (.tuple c) = true ∧ marksGo 0 ms = true ∧ ps.all newsD = true) := by
  match l, h with
  | .str w :: r, h0 =>
    have h : letterGo w r = true := (and_t h0).2
    clear h0
    unfold letterGo at h
    by_cases h1 : w = sWant ∨ w = sUnwant
    · rw [if_pos h1] at h
      match r, h with
      | [x], h =>
        obtain ⟨ds, rfl⟩ := wishD_tup h
        exact .inl ⟨w, ds, h1, rfl, h⟩
    · rw [if_neg h1] at h
      by_cases h2 : w = sNews
      · rw [if_pos h2] at h
        subst h2
        obtain ⟨a, b, p, e, ha, hb, hp⟩ := newsD_parts h
        injection e with e
        subst e
        exact .inr (.inl ⟨a, b, p, rfl, ha, hb, hp⟩)
      · rw [if_neg h2] at h
        by_cases h3 : w = sHere
        · rw [if_pos h3] at h
          subst h3
          match r, h with
          | [n, c], h =>
            obtain ⟨q1, q2⟩ := and_t h
            obtain ⟨n, rfl⟩ := fieldD_str q1
            obtain ⟨c, rfl⟩ := wayD_tup q2
            exact .inr (.inr (.inl ⟨n, c, rfl, q1, q2⟩))
        · rw [if_neg h3] at h
          by_cases h4 : w = sKept
          · rw [if_pos h4] at h
            subst h4
            match r, h with
            | [n, c, m, p], h =>
              obtain ⟨q1, q⟩ := and_t h
              obtain ⟨q2, q⟩ := and_t q
              obtain ⟨q3, q4⟩ := and_t q
              obtain ⟨n, rfl⟩ := fieldD_str q1
              obtain ⟨c, rfl⟩ := wayD_tup q2
              obtain ⟨m, rfl⟩ := marksD_tup q3
              obtain ⟨p, rfl⟩ := newsAll_tup q4
              exact .inr (.inr (.inr ⟨n, c, m, p, rfl, q1, q2, q3, q4⟩))
          · rw [if_neg h4] at h; cases h
theorem strD_tl (w : Str) : strD (tl w) = .str w := by unfold strD; rw [ofL_tl]
theorem w32 : 32 ∉ tl sWant ∧ 32 ∉ tl sUnwant ∧ 32 ∉ tl sNews ∧ 32 ∉ tl sHere ∧ 32 ∉ tl sKept := by decide +kernel
theorem w124 : 124 ∉ tl sWant ∧ 124 ∉ tl sUnwant ∧ 124 ∉ tl sNews ∧ 124 ∉ tl sHere ∧ 124 ∉ tl sKept := by decide +kernel
theorem not_want : ¬ (tl sNews = wL "want" ∨ tl sNews = wL "unwant") ∧ ¬ (tl sHere = wL "want" ∨ tl sHere = wL "unwant") ∧ ¬ (tl sKept = wL "want" ∨ tl sKept = wL "unwant") ∧ tl sHere ≠ wL "news" ∧ tl sKept ≠ wL "news" := by decide +kernel
/-- a letter that is written is read -/
theorem rdLetter_sh {l : List PyData} (h : letterD (.tuple l) = true) (hk : okLet 15 l = true) : rdLetter (shLetter l) = some l := by
  rcases letter_forms h with ⟨w, ds, hw, rfl, hd⟩ | ⟨a, b, p, rfl, ha, hb, hp⟩ | ⟨n, c, rfl, hn, hc⟩ | ⟨n, c, ms, ps, rfl, hn, hc, hm, hp⟩
  · have hw32 : 32 ∉ tl w := hw.elim (fun e => e ▸ w32.1) fun e => e ▸ w32.2.1
    have hw2 : tl w = wL "want" ∨ tl w = wL "unwant" := hw.elim (fun e => .inl (e ▸ rfl)) fun e => .inr (e ▸ rfl)
    have e : spl [32] 0 [] (shLetter [.str w, .tuple ds]) = tl w :: spl [32] 0 [] (shWish ds) := by
      show spl [32] 0 [] (tl w ++ 32 :: shWish ds) = _
      exact spl_first hw32
    unfold rdLetter
    simp only [e, List.headD_cons, List.tail_cons]
    rw [if_pos hw2, join_spl1, List.nil_append, rdWish_sh hd hk, strD_tl]
    rfl
  · have hk2 : (okNum 15 a && (okNum 15 b && p.all (okPart 15))) = true := hk
    simp only [Bool.and_eq_true] at hk2
    have e : spl [32] 0 [] (shLetter [.str sNews, a, b, .tuple p]) = tl sNews :: numD a :: numD b :: spl [32] 0 [] (shPiece p) := by
      show spl [32] 0 [] (tl sNews ++ 32 :: (numD a ++ ([32] ++ (numD b ++ ([32] ++ shPiece p))))) = _
      rw [spl_first w32.2.2.1, news_words ha hb]
    unfold rdLetter rdLetter0
    simp only [e, List.headD_cons, List.tail_cons]
    rw [if_neg not_want.1, if_pos (show tl sNews = wL "news" from rfl), rdNews_sh ha hb hp hk2.1 hk2.2.1 hk2.2.2]
    exact (if_pos h).trans rfl
  · have hk2 : c.all (okNum 15) = true := hk
    obtain ⟨h2, hcc, _⟩ := wayD_parts hc
    have e := here_words w32.2.2.2.1 hn hcc
    have eb : spl bar3 0 [] (shLetter [.str sHere, .str n, .tuple c]) = [shLetter [.str sHere, .str n, .tuple c]] := spl_bar0 (by
      show 124 ∉ tl sHere ++ ([32] ++ (tl n ++ ([32] ++ wayLs c)))
      simp only [List.mem_append, List.mem_cons, List.not_mem_nil, or_false, not_or]
      exact ⟨w124.2.2.2.1, by decide, field_free hn (by omega), by decide, wayLs_free hcc (by omega)⟩)
    unfold rdLetter rdLetter0 rdMoving
    simp only [e, eb, List.headD_cons, List.tail_cons]
    rw [if_neg not_want.2.1, if_neg not_want.2.2.2.1, rdWay hcc (by intro z; subst z; simp at h2) hk2, strD_tl, strD_tl]
    exact (if_pos h).trans rfl
  · have hk2 : (c.all (okNum 15) && (ms.all (okPart 15) && ps.all (okNews 15))) = true := hk
    simp only [Bool.and_eq_true] at hk2
    obtain ⟨h2, hcc, _⟩ := wayD_parts hc
    have eb := kept_parts (w := sKept) (fun s hs => by rw [hs]; exact w124.2.2.2.2) hn hcc hm hp
    have e := kept_words (w := sKept) w32.2.2.2.2 hn hcc hm
    have e0 : (spl [32] 0 [] (shLetter [.str sKept, .str n, .tuple c, .tuple ms, .tuple ps])).headD [] = tl sKept := by
      show (spl [32] 0 [] (tl sKept ++ 32 :: _)).headD [] = _
      rw [spl_first w32.2.2.2.2]; rfl
    have ep : mapO rdPart (ps.map shNews) = some ps := mapO_map fun d hd => rdPart_sh (List.all_eq_true.mp hp d hd) (List.all_eq_true.mp hk2.2.2 d hd)
    unfold rdLetter rdLetter0 rdMoving
    simp only [e0, eb, e, List.headD_cons, List.tail_cons]
    rw [if_neg not_want.2.2.1, if_neg not_want.2.2.2.2, rdWay hcc (by intro z; subst z; simp at h2) hk2.1, ep, rdMarks_sh hm hk2.2.1, strD_tl, strD_tl]
    exact (if_pos h).trans rfl
/-- with a number that is too great in its piece it is not -/
theorem rdLetter_great_news {a b : PyData} {p : List PyData} (ha : countD a = true) (hb : countD b = true) (hp : pieceD (.tuple p) = true) (kp : p.all (okPart 15) = false) : rdLetter (shLetter [.str sNews, a, b, .tuple p]) = none := by
  have e : spl [32] 0 [] (shLetter [.str sNews, a, b, .tuple p]) = tl sNews :: numD a :: numD b :: spl [32] 0 [] (shPiece p) := by
    show spl [32] 0 [] (tl sNews ++ 32 :: (numD a ++ ([32] ++ (numD b ++ ([32] ++ shPiece p))))) = _
    rw [spl_first w32.2.2.1, news_words ha hb]
  unfold rdLetter rdLetter0
  simp only [e, List.headD_cons, List.tail_cons]
  rw [if_neg not_want.1, if_pos (show tl sNews = wL "news" from rfl), rdNews_great hp kp]
  rfl
theorem rdLetter_great_kept {n : Str} {c ms ps : List PyData} (hn : fieldS n = true) (hcc : c.all countD = true) (hm : marksGo 0 ms = true) (hp : ps.all newsD = true) {a b : PyData} {p : List PyData} (hq : (.tuple [a, b, .tuple p]) ∈ ps) (kp : p.all (okPart 15) = false) :
    rdLetter (shLetter [.str sKept, .str n, .tuple c, .tuple ms, .tuple ps]) = none := by
  have eb := kept_parts (w := sKept) (fun s hs => by rw [hs]; exact w124.2.2.2.2) hn hcc hm hp
  have e := kept_words (w := sKept) w32.2.2.2.2 hn hcc hm
  have e0 : (spl [32] 0 [] (shLetter [.str sKept, .str n, .tuple c, .tuple ms, .tuple ps])).headD [] = tl sKept := by
    show (spl [32] 0 [] (tl sKept ++ 32 :: _)).headD [] = _
    rw [spl_first w32.2.2.2.2]; rfl
  have ep : mapO rdPart (ps.map shNews) = none := by
    obtain ⟨a', b', p', e', ha, hb, hp'⟩ := newsD_parts (List.all_eq_true.mp hp _ hq)
    injection e' with e'
    injection e' with e1 e'
    injection e' with e2 e'
    injection e' with e3 _
    injection e3 with e3
    subst e1 e2 e3
    exact mapO_none ⟨_, List.mem_map_of_mem hq, rdPart_great ha hb hp' kp⟩
  unfold rdLetter rdLetter0 rdMoving
  simp only [e0, eb, e, List.headD_cons, List.tail_cons]
  rw [if_neg not_want.2.2.1, if_neg not_want.2.2.2.2, ep]
  cases mapO rdInt (spl [45] 0 [] (wayLs c)) <;> rfl
end NB

/-! NX: how long letters' texts are; what writing a letter asks. -/
namespace NB
open PySem PySem.Spec PyProof.Rows L2 TL
theorem joinL_le {S : List Nat} {n m : Nat} (hS : S.length ≤ m) : ∀ {ps : List (List Nat)}, (∀ p ∈ ps, p.length ≤ n) → (joinL S ps).length ≤ (n + m) * ps.length
  | [], _ => by simp [joinL]
  | [p], h => by
    show p.length ≤ _
    have := h p (by simp)
    simp only [List.length_cons, List.length_nil]
    omega
  | p :: q :: r, h => by
    rw [joinL_cons2]
    have h1 := h p (by simp)
    have h2 := joinL_le hS fun x hx => h x (List.mem_cons_of_mem (a := x) p hx)
    simp only [List.length_append, List.length_cons] at h2 ⊢
    rw [Nat.mul_add _ (r.length + 1) 1, Nat.mul_one]
    omega
theorem numD_len {d : PyData} (h : okNum 40 d = true) : (numD d).length ≤ 41 := by
  show (numLI (iv d)).length ≤ 41
  cases d with
  | int i => exact numLI_len (by decide) (of_decide_eq_true h)
  | _ => exact (by decide +kernel : (numLI 0).length ≤ 41)
theorem wayLs_len {ds : List PyData} (h : ds.all (okNum 40) = true) : (wayLs ds).length ≤ 42 * ds.length := by
  have := joinL_le (S := [45]) (m := 1) (n := 41) (ps := ds.map numD) (Nat.le_refl _) fun p hp => by
    obtain ⟨d, hd, rfl⟩ := List.mem_map.mp hp
    exact numD_len (List.all_eq_true.mp h d hd)
  rwa [List.length_map] at this
theorem okPart2 {k : Nat} {a b : PyData} (h : okPart k (.tuple [a, b]) = true) : okNum k a = true ∧ okNum k b = true := by
  have h : (okNum k a && (okNum k b && true)) = true := h
  rw [Bool.and_eq_true, Bool.and_eq_true] at h
  exact ⟨h.1, h.2.1⟩
theorem shMarks_len {ds : List PyData} (h : ds.all (okPart 40) = true) (hm : marksGo 0 ds = true) : (shMarks ds).length ≤ 84 * ds.length + 1 := by
  unfold shMarks
  split
  · simp
  · have := joinL_le (S := [44]) (m := 1) (n := 83) (ps := ds.map shMark) (Nat.le_refl _) fun p hp => by
      obtain ⟨d, hd, rfl⟩ := List.mem_map.mp hp
      obtain ⟨a, b, rfl, _, _⟩ := marksGo_mem hm d hd
      obtain ⟨h1, h2⟩ := okPart2 (List.all_eq_true.mp h _ hd)
      have h3 := numD_len h1
      have h4 := numD_len h2
      show (numD a ++ ([58] ++ numD b)).length ≤ 83
      simp only [List.length_append, List.length_cons, List.length_nil]
      omega
    rw [List.length_map] at this
    omega
theorem shPiece_len {ds : List PyData} (h : pieceD (.tuple ds) = true) (hk : ds.all (okPart 40) = true) : (shPiece ds).length ≤ 51 * ds.length + 1 := by
  unfold shPiece
  split
  · simp
  · have := joinL_le (S := [32]) (m := 1) (n := 50) (ps := ds.map shPiecePart) (Nat.le_refl _) fun p hp => by
      obtain ⟨d, hd, rfl⟩ := List.mem_map.mp hp
      obtain ⟨f, i, rfl, hf⟩ := piece_part h hd
      obtain ⟨_, h2⟩ := okPart2 (List.all_eq_true.mp hk _ hd)
      have h3 := numLI_len (i := i) (k := 40) (by decide) (of_decide_eq_true h2)
      have h4 := (fieldL_iff.mp hf).2.1
      show (tl f ++ ([58] ++ numLI i)).length ≤ 50
      simp only [List.length_append, List.length_cons, List.length_nil]
      have : (tl f).length ≤ 8 := h4
      omega
    rw [List.length_map] at this
    omega
theorem shWish_len {ds : List PyData} (h : wishD (.tuple ds) = true) (hk : ds.all (okPart 40) = true) : (shWish ds).length ≤ 94 * ds.length + 1 := by
  unfold shWish
  split
  · simp
  · have := joinL_le (S := [32]) (m := 1) (n := 93) (ps := ds.map shWishPart) (Nat.le_refl _) fun p hp => by
      obtain ⟨d, hd, rfl⟩ := List.mem_map.mp hp
      obtain ⟨f, lo, hi, rfl, hf, _⟩ := wish_part h hd
      have hk2 : (okNum 40 (.str f) && (okNum 40 lo && (okNum 40 hi && true))) = true := List.all_eq_true.mp hk _ hd
      simp only [Bool.and_eq_true] at hk2
      have e1 := shEnd_len' hk2.2.1
      have e2 := shEnd_len' hk2.2.2.1
      have h4 : (tl f).length ≤ 8 := (fieldL_iff.mp hf).2.1
      show (tl f ++ ([58] ++ (shEnd lo ++ ([46, 46] ++ shEnd hi)))).length ≤ 93
      simp only [List.length_append, List.length_cons, List.length_nil]
      omega
    rw [List.length_map] at this
    omega
/-- news whose text is short -/
def smallNews (d : PyData) : Prop := ∀ a b p, d = .tuple [a, b, .tuple p] → okNum 40 a = true ∧ okNum 40 b = true ∧ p.all (okPart 40) = true ∧ p.length ≤ 64
theorem shNews_len {d : PyData} (h : newsD d = true) (hs : smallNews d) : (shNews d).length ≤ 3349 := by
  obtain ⟨a, b, p, rfl, _, _, hp⟩ := newsD_parts h
  obtain ⟨h1, h2, h3, h4⟩ := hs a b p rfl
  have e1 := numD_len h1
  have e2 := numD_len h2
  have e3 := shPiece_len hp h3
  show (numD a ++ ([32] ++ (numD b ++ ([32] ++ shPiece p)))).length ≤ 3349
  simp only [List.length_append, List.length_cons, List.length_nil]
  omega
structure KeptSmall (ms ps : List PyData) : Prop where
  mn : ms.all (okPart 40) = true
  ml : ms.length ≤ 1000
  pk : ∀ p ∈ ps, smallNews p
  pl : ps.length ≤ 200
def wayS (c : PyData) : Prop := allT (okNum 40) c = true ∧ (tupL c).length ≤ 1000
def SmallD' (d : PyData) : Prop := allT (okPart 40) d = true ∧ (tupL d).length ≤ 1000
def SmallL : List PyData → Prop
  | [_, x] => SmallD' x
  | [_, _, c] => wayS c
  | [_, a, b, p] => okNum 40 a = true ∧ okNum 40 b = true ∧ SmallD' p
  | [_, _, c, ms, ps] => wayS c ∧ KeptSmall (tupL ms) (tupL ps)
  | _ => True
theorem flat_len {α : Type} {f : α → List Nat} {n : Nat} : ∀ {l : List α}, (∀ a ∈ l, (f a).length ≤ n) → ((l.map f).flatten).length ≤ n * l.length
  | [], _ => by simp
  | a :: r, h => by
    have h1 := h a (by simp)
    have h2 := flat_len (f := f) (n := n) (l := r) fun b hb => h b (List.mem_cons_of_mem _ hb)
    simp only [List.map_cons, List.flatten_cons, List.length_append, List.length_cons]
    rw [Nat.mul_add, Nat.mul_one]
    omega
theorem shKept_len {ms ps : List PyData} (hm : marksGo 0 ms = true) (hp : ps.all newsD = true) (hs : KeptSmall ms ps) : (shKept ms ps).length ≤ 760000 := by
  have h1 := shMarks_len hs.mn hm
  have h2 := flat_len (f := fun p => bar3 ++ shNews p) (n := 3352) (l := ps) fun p hpm => by
    have := shNews_len (List.all_eq_true.mp hp p hpm) (hs.pk p hpm)
    show (bar3 ++ shNews p).length ≤ 3352
    rw [List.length_append]
    show 3 + _ ≤ _
    omega
  have h3 := hs.ml
  have h4 := hs.pl
  unfold shKept
  rw [List.length_append]
  omega
/-- a tuple against the empty one -/
theorem r_eq_emp {ex : Addr → Prop} {K : PySem.W.Frag} {H : Hp} {Q : VK} {p q : Addr} {ds : List PyData} (h : Dat ex H (.ref p) (.tuple ds)) (hs : SeqAt.shaped (.tuple ds) = true) (h0 : H q = some (.tup [])) (k : Q (.bl ds.isEmpty) H) : rEq2 K (.ref p) (.ref q) H Q :=
  .inr (.inl ⟨.tuple ds, .tuple [], h.dp (noDict hs), .tup (SqT.of h0) .nil, hs, by decide +kernel, by
    have e : PyData.eqv (.tuple ds) (.tuple []) = ds.isEmpty := by
      cases ds <;> simp [PyData.eqv, PyData.eqvAll]
    rw [e]; exact k⟩)
/-- data of numbers only, up to a depth -/
def intsD : Nat → PyData → Bool
  | _, .int _ => true
  | n + 1, .tuple ds => ds.all (intsD n)
  | _, _ => false
theorem ints_shaped : ∀ (n : Nat) (d : PyData), intsD n d = true → d.canLay0 = true ∧ d.depth ≤ n + 1
  | 0, .none, h | 0, .bool _, h | 0, .str _, h | 0, .list _, h | 0, .tuple _, h | 0, .dict _, h => by cases h
  | n + 1, .none, h | n + 1, .bool _, h | n + 1, .str _, h | n + 1, .list _, h | n + 1, .dict _, h => by cases h
  | n, .int i, _ => by cases n <;> exact ⟨by simp [PyData.canLay0], by simp [PyData.depth]⟩
  | n + 1, .tuple ds, h => by
    have h : ds.all (intsD n) = true := h
    have go : ∀ l : List PyData, l.all (intsD n) = true → PyData.canLayAll0 l = true ∧ PyData.depthAll l ≤ n + 1 := fun l => by
      induction l with
      | nil => intro _; exact ⟨by simp [PyData.canLayAll0], by simp [PyData.depthAll]⟩
      | cons a r ih =>
        intro hl
        rw [List.all_cons, Bool.and_eq_true] at hl
        obtain ⟨a1, a2⟩ := ints_shaped n a hl.1
        obtain ⟨r1, r2⟩ := ih hl.2
        refine ⟨by simp [PyData.canLayAll0, a1, r1], ?_⟩
        simp only [PyData.depthAll]
        omega
    obtain ⟨g1, g2⟩ := go ds h
    exact ⟨by simp [PyData.canLay0, g1], by simp only [PyData.depth]; omega⟩
theorem marks_shaped {ds : List PyData} (h : marksGo 0 ds = true) : SeqAt.shaped (.tuple ds) = true := by
  have e : intsD 2 (.tuple ds) = true := List.all_eq_true.mpr fun d hd => by
    obtain ⟨a, b, rfl, ha, hb⟩ := marksGo_mem h d hd
    obtain ⟨i, rfl, _⟩ := countD_int ha
    obtain ⟨j, rfl, _⟩ := countD_int hb
    rfl
  obtain ⟨h1, h2⟩ := ints_shaped 2 _ e
  unfold SeqAt.shaped
  rw [h1, Bool.true_and]
  exact decide_eq_true (by omega)
/-- name += e -/
theorem r_aug {i : Nat} {te : TE} {ti : TIp} {D : Ends} {σ : L2.St} {H : Hp} {x : V} (e : σ[i]? = some (some x)) (h : te σ H fun y H1 => ti x y H1 fun z H2 => D.nx (σ.set i (some z)) H2) : tAug i te ti D σ H := ⟨x, e, h⟩
theorem r_ip_ss {a b : Str} {H : Hp} {Q : VK} (hl : a.length + b.length ≤ 1000000) (h : Q (.str (a ++ b)) H) : tip2 (.str a) (.str b) H Q := ⟨million hl, h⟩
theorem r_ip_ii {a b : Int} {H : Hp} {Q : VK} (h : Q (.int (a + b)) H) : tip2 (.int a) (.int b) H Q := h
/-! ### reading -/
theorem joinL_sum {s : Nat} : ∀ {ps : List (List Nat)}, (ps.map List.length).sum + ps.length ≤ (joinL [s] ps).length + 1
  | [] => by simp
  | [p] => by
    show (([p].map List.length).sum) + 1 ≤ p.length + 1
    simp
  | p :: q :: r => by
    have ih := joinL_sum (s := s) (ps := q :: r)
    rw [joinL_cons2, List.length_append, List.length_append, List.map_cons, List.sum_cons, List.length_cons]
    show _ ≤ p.length + (1 + (joinL [s] (q :: r)).length) + 1
    omega
theorem words_sum (x : Str) : ((Txt.split x (Str.ofString " ")).map (·.length)).sum + (Txt.split x (Str.ofString " ")).length ≤ x.length + 1 := by
  have e := split_tl x (y := Str.ofString " ") (by decide +kernel) (by decide +kernel)
  have e1 : tl (Str.ofString " ") = [32] := by decide +kernel
  rw [e1] at e
  have j := join_spl1 (s := 32) (tl x) []
  have q := joinL_sum (s := 32) (ps := spl [32] 0 [] (tl x))
  rw [j, ← e, List.map_map, List.length_map] at q
  have e2 : (Txt.split x (Str.ofString " ")).map (List.length ∘ tl) = (Txt.split x (Str.ofString " ")).map (·.length) := List.map_congr_left fun w _ => (len_tl w).symm
  rw [e2, List.nil_append, ← len_tl] at q
  exact q
theorem sum_drop (l : List Nat) (n : Nat) : (l.drop n).sum ≤ l.sum := by
  induction l generalizing n with
  | nil => simp
  | cons a r ih =>
    cases n with
    | zero => simp
    | succ n => have := ih n; simp only [List.drop_succ_cons, List.sum_cons]; omega
theorem cutV_from (xs : List V) (n : Nat) : cutV xs (some (n : Int)) none = xs.drop n := by
  unfold cutV
  have e := HT.sIx_nat xs.length 0 n
  rw [e, HT.sIx_none]
  by_cases h : n ≤ xs.length
  · rw [Nat.min_eq_left h, List.take_of_length_le (by rw [List.length_drop]; exact Nat.le_refl _)]
  · rw [Nat.min_eq_right (by omega)]
    have : xs.drop n = [] := List.drop_eq_nil_of_le (by omega)
    rw [this]
    simp
/-- what is told of a letter's parts: no tuple of them is long -/
def shortP (ds : List PyData) : Prop := ∀ e ∈ ds, ∀ es, e = .tuple es → es.length ≤ 4000
theorem Dats.ints' {ex : Addr → Prop} {H : Hp} (xs : List Int) : Dats ex H (xs.map V.int) (xs.map PyData.int) := Dats.ints xs
theorem r_catT {K : PySem.W.Frag} {H : Hp} {Q : VK} {a b : Addr} {xs ys : List V} (h1 : H a = some (.tup xs)) (h2 : H b = some (.tup ys)) (hl : xs.length + ys.length ≤ 10000000) (q : ∀ p H', Kp No H H' → H' p = some (.tup (xs ++ ys)) → Q (.ref p) H') : rAdd2 K (.ref a) (.ref b) H Q :=
  .inr ⟨a, b, xs, ys, rfl, rfl, SqT.of h1, SqT.of h2, Nat.le_trans hl (by decide), fun e => q b H Kp.refl (by rw [e]; exact h2), fun _ e => q a H Kp.refl (by rw [e, List.append_nil]; exact h1), fun _ _ p hp => q p _ (Kp.new Kp.refl hp) upd_same⟩
theorem rdMoving_3 {x a w h c : List Nat} {pr : List (List Nat)} (e1 : spl bar3 0 [] x = a :: pr) (e2 : spl [32] 0 [] a = [w, h, c]) : rdMoving x = (mapO rdInt (spl [45] 0 [] c)).map fun ds => [strD w, strD h, .tuple ds] ++ pr.map strD := by
  unfold rdMoving
  simp only [e1, List.headD_cons, e2, List.tail_cons]
theorem rdMoving_4 {x a w h c m : List Nat} {pr : List (List Nat)} (e1 : spl bar3 0 [] x = a :: pr) (e2 : spl [32] 0 [] a = [w, h, c, m]) {ds ps ms : List PyData} (h1 : mapO rdInt (spl [45] 0 [] c) = some ds) (h2 : mapO rdPart pr = some ps) (h3 : rdMarks m = some ms) :
    rdMoving x = some [strD w, strD h, .tuple ds, .tuple ms, .tuple ps] := by
  unfold rdMoving
  simp only [e1, List.headD_cons, e2, List.tail_cons, h1, h2, h3]
theorem rdMoving_4n {x a w h c m : List Nat} {pr : List (List Nat)} (e1 : spl bar3 0 [] x = a :: pr) (e2 : spl [32] 0 [] a = [w, h, c, m]) (hn : mapO rdInt (spl [45] 0 [] c) = none ∨ mapO rdPart pr = none ∨ rdMarks m = none) : rdMoving x = none := by
  unfold rdMoving
  simp only [e1, List.headD_cons, e2, List.tail_cons]
  rcases hn with q | q | q
  · rw [q]
  · rw [q]; cases mapO rdInt (spl [45] 0 [] c) <;> rfl
  · rw [q]; cases mapO rdInt (spl [45] 0 [] c) <;> cases mapO rdPart pr <;> rfl
theorem rdMoving_n {x a : List Nat} {pr ws : List (List Nat)} (e1 : spl bar3 0 [] x = a :: pr) (e2 : spl [32] 0 [] a = ws) (h3 : ws.length ≠ 3) (h4 : ws.length ≠ 4) : rdMoving x = none := by
  unfold rdMoving
  simp only [e1, List.headD_cons, e2]
  match ws, h3, h4 with
  | [], _, _ => rfl
  | [_], _, _ => rfl
  | [_, _], _, _ => rfl
  | [_, _, _], h3, _ => exact absurd rfl h3
  | [_, _, _, _], _, h4 => exact absurd rfl h4
  | _ :: _ :: _ :: _ :: _ :: _, _, _ => rfl
theorem mapO_ints {l : List (List Nat)} {ds : List PyData} (h : mapO rdInt l = some ds) : ∃ is : List Int, ds = is.map .int := by
  induction l generalizing ds with
  | nil => cases h; exact ⟨[], rfl⟩
  | cons w r ih =>
    simp only [mapO] at h
    cases e1 : rdInt w with
    | none => simp [e1] at h
    | some d =>
      cases e2 : mapO rdInt r with
      | none => simp [e1, e2] at h
      | some bs =>
        simp only [e1, e2, Option.some.injEq] at h
        subst h
        obtain ⟨is, rfl⟩ := ih e2
        unfold rdInt at e1
        cases e3 : rdNum w with
        | none => rw [e3] at e1; cases e1
        | some i => rw [e3] at e1; cases e1; exact ⟨i :: is, rfl⟩
end NB

/-! NZ: further readings. -/
namespace NB
open PySem PySem.Spec PyProof.Rows L2 TL
theorem lc_yesB {D : Addr} {Pv : Nat → List V → Hp → Prop} {i : Nat} {acc : List V} {y : V} {H' : Hp} (e : H' D = some (.lst acc)) (hl : acc.length ≤ i) (hi : i < 10000000) (p : Pv (i + 1) (acc ++ [y]) (upd H' D (.lst (acc ++ [y])))) :
    ∃ acc, H' D = some (.lst acc) ∧ acc.length < sizeLine ∧ LcAll D Pv (i + 1) (upd H' D (.lst (acc ++ [y]))) :=
  ⟨acc, e, Nat.lt_of_le_of_lt hl (Nat.lt_trans hi (by decide)), acc ++ [y], upd_same, by rw [List.length_append]; exact Nat.add_le_add_right hl 1, p⟩
section
variable {K : PySem.W.Frag} {H : Hp} {Q : VK} {p : Addr} {j : Int}
theorem nat_of {j : Int} (h : 0 ≤ j) : j = ((j.toNat : Nat) : Int) := (Int.toNat_of_nonneg h).symm
/-- one of a list of numbers, by a drawn place -/
theorem r_pick (ns : List Int) (h : H p = some (.lst (ns.map V.int))) (h0 : 0 ≤ j) (h1 : j < ns.length) (q : ∀ x ∈ ns, Q (.int x) H) : rIx K (.ref p) (.int j) H Q := by
  have hn : j.toNat < ns.length := by omega
  exact r_ixl (n := j.toNat) h (nat_of h0) (by rw [List.getElem?_map, List.getElem?_eq_getElem hn]; rfl) (q _ (List.getElem_mem hn))
theorem r_pickS (ws : List Str) (h : H p = some (.lst (ws.map V.str))) (h0 : 0 ≤ j) (h1 : j < ws.length) (q : ∀ x ∈ ws, Q (.str x) H) : rIx K (.ref p) (.int j) H Q := by
  have hn : j.toNat < ws.length := by omega
  exact r_ixl (n := j.toNat) h (nat_of h0) (by rw [List.getElem?_map, List.getElem?_eq_getElem hn]; rfl) (q _ (List.getElem_mem hn))
def rInsert : V → List V → Hp → VK → Prop := fun x vs H Q => ∃ (l : Addr) (xs : List V) (i : Int) (y : V), x = .ref l ∧ vs = [.int i, y] ∧ H l = some (.lst xs) ∧ xs.length < sizeLine ∧ 0 ≤ i ∧ i < 2 ^ 63 ∧ Q .non (upd H l (.lst (xs.take i.toNat ++ [y] ++ xs.drop i.toNat)))
theorem mt_insert2 {X : Cx} : MtR X "list.insert" rInsert := mt_insert
theorem r_insert {xs : List V} {y : V} (h : H p = some (.lst xs)) (hl : xs.length ≤ 10000000) (h0 : 0 ≤ j) (h1 : j ≤ 10000000) (q : Q .non (upd H p (.lst (xs.take j.toNat ++ [y] ++ xs.drop j.toNat)))) : rInsert (.ref p) [.int j, y] H Q :=
  ⟨p, xs, j, y, rfl, rfl, h, Nat.lt_of_le_of_lt hl (by decide), h0, by omega, q⟩
/-- str(x): an int, a text -/
def rStr2 : List V → Hp → VK → Prop := fun xs H Q => rStrI xs H Q ∨ ∃ a, xs = [.str a] ∧ Q (.str a) H
theorem call_str3 {X : Cx} : CallR X (.type "str") rStr2 := CallR.or call_strI SkE.call_str_str
theorem r_str_i {i : Int} (h : i.natAbs < 10 ^ 40) (q : Q (.str (numS i)) H) : rStr2 [.int i] H Q := .inl (r_strI h q)
theorem r_str_s {a : Str} (q : Q (.str a) H) : rStr2 [.str a] H Q := .inr ⟨a, rfl, q⟩
end
theorem ins_perm {l : List Int} {x : Int} {n : Nat} : (l.take n ++ [x] ++ l.drop n).Perm (x :: l) := by
  have e := List.perm_middle (a := x) (l₁ := l.take n) (l₂ := l.drop n)
  rw [List.take_append_drop] at e
  rw [List.append_assoc]
  exact e
theorem insert_nodup {l : List Int} {x : Int} {n : Nat} (h : l.Nodup) (hx : x ∉ l) : (l.take n ++ [x] ++ l.drop n).Nodup := ins_perm.nodup_iff.mpr (List.nodup_cons.mpr ⟨hx, h⟩)
theorem insert_mem {l : List Int} {x y : Int} {n : Nat} : y ∈ l.take n ++ [x] ++ l.drop n ↔ y = x ∨ y ∈ l := by rw [ins_perm.mem_iff, List.mem_cons]
theorem insert_len {l : List Int} {x : Int} {n : Nat} : (l.take n ++ [x] ++ l.drop n).length = l.length + 1 := ins_perm.length_eq
theorem ins_map {l : List Int} {x : Int} {n : Nat} : (l.map V.int).take n ++ [V.int x] ++ (l.map V.int).drop n = (l.take n ++ [x] ++ l.drop n).map V.int := by
  rw [List.map_append, List.map_append, List.map_take, List.map_drop]; rfl
/-- what stands in range -/
def inR (x : Int) : Prop := 0 ≤ x ∧ x < 10 ^ 15
def markD (p : Int × Int) : PyData := .tuple [.int p.1, .int p.2]
theorem marksGo_of : ∀ {ps : List (Int × Int)} {l : Int}, (ps.map (·.1)).Pairwise (· < ·) → (∀ p ∈ ps, l ≤ p.1 ∧ 0 ≤ p.1 ∧ 0 ≤ p.2) → marksGo l (ps.map markD) = true
  | [], _, _, _ => rfl
  | p :: r, l, h, hp => by
    obtain ⟨h1, h2⟩ := List.pairwise_cons.mp h
    obtain ⟨q1, q2, q3⟩ := hp p (by simp)
    show (decide (0 ≤ p.1) && (decide (0 ≤ p.2) && (decide (l ≤ p.1) && marksGo (p.1 + 1) (r.map markD)))) = true
    rw [decide_eq_true q1, decide_eq_true q2, decide_eq_true q3, marksGo_of h2 fun q hq => ?_]
    · rfl
    · obtain ⟨_, w2, w3⟩ := hp q (List.mem_cons_of_mem _ hq)
      have : p.1 < q.1 := h1 q.1 (List.mem_map_of_mem hq)
      exact ⟨by omega, w2, w3⟩
/-! ### the bag, its list of lesser numbers known -/
def BagL (H : Hp) (b g l : Addr) (B : Nat) : Prop := ∃ gs ls n st, BagAt H b g l gs ls n st ∧ n + B ≤ 1000000
section
variable {H H' : Hp} {b g l : Addr} {B B' : Nat}
theorem Bag.opn (h : Bag H b g B) : ∃ l, BagL H b g l B := h
theorem BagL.bag (h : BagL H b g l B) : Bag H b g B := ⟨l, h⟩
theorem BagL.kp (h : BagL H b g l B) (k : Kp No H H') : BagL H' b g l B := by
  obtain ⟨gs, ls, n, st, h, e⟩ := h
  exact ⟨gs, ls, n, st, h.kp k, e⟩
theorem BagL.less (h : BagL H b g l B) (k : B' ≤ B) : BagL H b g l B' := by
  obtain ⟨gs, ls, n, st, h, e⟩ := h
  exact ⟨gs, ls, n, st, h, by omega⟩
theorem BagL.wr {p : Addr} {o : HO} (h : BagL H b g l B) (nb : ¬ bx b g p) (nl : p ≠ l) : BagL (upd H p o) b g l B := by
  obtain ⟨gs, ls, n, st, h, e⟩ := h
  have h1 : b ≠ p := fun z => nb (.inl z.symm)
  have h2 : g ≠ p := fun z => nb (.inr z.symm)
  exact ⟨gs, ls, n, st, { h with hb := by rw [upd_ne h1]; exact h.hb, hg := by rw [upd_ne h2]; exact h.hg, hl := by rw [upd_ne nl.symm]; exact h.hl }, e⟩
/-- an empty list, or what is not there yet, is not the bag's -/
theorem BagL.ne_nil {p : Addr} (h : BagL H b g l B) (hp : H p = some (.lst [])) : p ≠ l := fun z => by
  obtain ⟨gs, ls, n, st, h, e⟩ := h
  subst z
  have q := h.hl
  rw [hp] at q
  injection q with q
  injection q with q
  exact h.ln (List.map_eq_nil_iff.mp q.symm)
theorem BagL.ne_new {p : Addr} (h : BagL H b g l B) (hp : H p = none) : p ≠ l := fun z => by
  obtain ⟨gs, ls, n, st, h, e⟩ := h
  subst z
  rw [h.hl] at hp; cases hp
end
abbrev spDrawL : Sp := sp2 fun v m H Q _ => ∃ b g l B, ∃ k : Int, v = .ref b ∧ m = .int k ∧ 1 ≤ k ∧ k ≤ 10 ^ 15 ∧ BagL H b g l (B + 1) ∧ ∀ r H', 0 ≤ r → r < k → Kp (bx b g) H H' → BagL H' b g l B → Q (.int r) H'
end NB

/-! NP: letters that the laws make. -/
namespace NB
open PySem PySem.Spec PyProof.Rows L2 TL
theorem upTo_tup {n : Nat} {ds : List PyData} (hl : ds.length ≤ 10000) (h : ∀ d ∈ ds, upTo n d = true) : upTo (n + 1) (.tuple ds) = true := by
  show (decide (ds.length ≤ 10000) && ds.all (upTo n)) = true
  rw [decide_eq_true hl, Bool.true_and]
  exact List.all_eq_true.mpr h
theorem upTo_succ : ∀ {n : Nat} {d : PyData}, upTo n d = true → upTo (n + 1) d = true
  | n + 1, .tuple ds, h => by
    have h : (decide (ds.length ≤ 10000) && ds.all (upTo n)) = true := h
    obtain ⟨h1, h2⟩ := and_t h
    exact upTo_tup (of_decide_eq_true h1) fun d hd => upTo_succ (List.all_eq_true.mp h2 d hd)
  | n + 1, .list ds, h => by
    have h : (decide (ds.length ≤ 10000) && ds.all (upTo n)) = true := h
    obtain ⟨h1, h2⟩ := and_t h
    show (decide (ds.length ≤ 10000) && ds.all (upTo (n + 1))) = true
    rw [h1, Bool.true_and]
    exact List.all_eq_true.mpr fun d hd => upTo_succ (List.all_eq_true.mp h2 d hd)
  | n + 1, .none, _ => rfl
  | n + 1, .bool _, _ => rfl
  | n + 1, .int _, _ => rfl
  | n + 1, .str _, _ => rfl
theorem upTo_le {m n : Nat} {d : PyData} (h : upTo m d = true) (hmn : m ≤ n) : upTo n d = true := by
  induction hmn with
  | refl => exact h
  | step _ ih => exact upTo_succ ih
theorem upTo_int {n : Nat} {d : PyData} (h : countD d = true) : upTo (n + 1) d = true := by
  obtain ⟨i, rfl, _⟩ := countD_int h
  rfl
theorem piece_up {ds : List PyData} (h : pieceD (.tuple ds) = true) (hl : ds.length ≤ 10000) : upTo 3 (.tuple ds) = true := upTo_tup hl fun d hd => by
  obtain ⟨f, i, rfl, _⟩ := piece_part h hd
  exact upTo_tup (Nat.le_of_ble_eq_true rfl) fun e he => by
    rcases List.mem_cons.mp he with rfl | he
    · rfl
    · rw [List.mem_singleton.mp he]; rfl
theorem wish_up {ds : List PyData} (h : wishD (.tuple ds) = true) (hl : ds.length ≤ 10000) : upTo 3 (.tuple ds) = true := upTo_tup hl fun d hd => by
  obtain ⟨f, lo, hi, rfl, _, h1, h2, _⟩ := wish_part h hd
  have key : ∀ {e : PyData}, endD e = true → upTo 1 e = true := fun {e} he => by cases e <;> first | rfl | cases he
  exact upTo_tup (Nat.le_of_ble_eq_true rfl) fun e he => by
    simp only [List.mem_cons, List.not_mem_nil, or_false] at he
    rcases he with rfl | rfl | rfl
    · rfl
    · exact key h1
    · exact key h2
theorem way_up {ds : List PyData} (h : ds.all countD = true) (hl : ds.length ≤ 10000) : upTo 2 (.tuple ds) = true := upTo_tup hl fun d hd => upTo_int (List.all_eq_true.mp h d hd)
theorem marks_up {ds : List PyData} (h : marksGo 0 ds = true) (hl : ds.length ≤ 10000) : upTo 3 (.tuple ds) = true := upTo_tup hl fun d hd => by
  obtain ⟨a, b, rfl, ha, hb⟩ := marksGo_mem h d hd
  exact upTo_tup (Nat.le_of_ble_eq_true rfl) fun e he => by
    simp only [List.mem_cons, List.not_mem_nil, or_false] at he
    rcases he with rfl | rfl
    · exact upTo_int ha
    · exact upTo_int hb
theorem news_up {ds : List PyData} (h : ds.all newsD = true) (hl : ds.length ≤ 10000) (hs : ∀ p ∈ ds, smallNews p) : upTo 5 (.tuple ds) = true := upTo_tup hl fun d hd => by
  obtain ⟨a, b, p, rfl, ha, hb, hp⟩ := newsD_parts (List.all_eq_true.mp h d hd)
  obtain ⟨_, _, _, h4⟩ := hs _ hd a b p rfl
  exact upTo_tup (Nat.le_of_ble_eq_true rfl) fun e he => by
    simp only [List.mem_cons, List.not_mem_nil, or_false] at he
    rcases he with rfl | rfl | rfl
    · exact upTo_int ha
    · exact upTo_int hb
    · exact piece_up hp (by omega)
theorem letter_up {l : List PyData} (h : letterD (.tuple l) = true) (hs : SmallL l) : upTo 6 (.tuple l) = true := by
  rcases letter_forms h with ⟨w, ds, hw, rfl, hd⟩ | ⟨a, b, p, rfl, ha, hb, hp⟩ | ⟨n, c, rfl, hn, hc⟩ | ⟨n, c, ms, ps, rfl, hn, hc, hm, hp⟩
  · have h1 : ds.length ≤ 1000 := hs.2
    exact upTo_tup (Nat.le_of_ble_eq_true rfl) fun e he => by
      simp only [List.mem_cons, List.not_mem_nil, or_false] at he
      rcases he with rfl | rfl
      · rfl
      · exact upTo_le (wish_up hd (by omega)) (by decide)
  · have h1 : p.length ≤ 1000 := hs.2.2.2
    exact upTo_tup (Nat.le_of_ble_eq_true rfl) fun e he => by
      simp only [List.mem_cons, List.not_mem_nil, or_false] at he
      rcases he with rfl | rfl | rfl | rfl
      · rfl
      · exact upTo_int ha
      · exact upTo_int hb
      · exact upTo_le (piece_up hp (by omega)) (by decide)
  · have h1 : c.length ≤ 1000 := hs.2
    exact upTo_tup (Nat.le_of_ble_eq_true rfl) fun e he => by
      simp only [List.mem_cons, List.not_mem_nil, or_false] at he
      rcases he with rfl | rfl | rfl
      · rfl
      · rfl
      · exact upTo_le (way_up (wayD_parts hc).2.1 (by omega)) (by decide)
  · have h1 : c.length ≤ 1000 := hs.1.2
    have h2 : ms.length ≤ 1000 := hs.2.ml
    have h3 : ps.length ≤ 200 := hs.2.pl
    exact upTo_tup (Nat.le_of_ble_eq_true rfl) fun e he => by
      simp only [List.mem_cons, List.not_mem_nil, or_false] at he
      rcases he with rfl | rfl | rfl | rfl | rfl
      · rfl
      · rfl
      · exact upTo_le (way_up (wayD_parts hc).2.1 (by omega)) (by decide)
      · exact upTo_le (marks_up hm (by omega)) (by decide)
      · exact news_up hp (by omega) hs.2.pk
theorem letter_short {l : List PyData} (h : letterD (.tuple l) = true) (hs : SmallL l) : shortP l := by
  rcases letter_forms h with ⟨w, ds, hw, rfl, hd⟩ | ⟨a, b, p, rfl, ha, hb, hp⟩ | ⟨n, c, rfl, hn, hc⟩ | ⟨n, c, ms, ps, rfl, hn, hc, hm, hp⟩
  · have h1 : ds.length ≤ 1000 := hs.2
    intro e he es ee
    simp only [List.mem_cons, List.not_mem_nil, or_false] at he
    rcases he with rfl | rfl
    · cases ee
    · cases ee; omega
  · have h1 : p.length ≤ 1000 := hs.2.2.2
    obtain ⟨i, rfl, _⟩ := countD_int ha
    obtain ⟨j, rfl, _⟩ := countD_int hb
    intro e he es ee
    simp only [List.mem_cons, List.not_mem_nil, or_false] at he
    rcases he with rfl | rfl | rfl | rfl <;> first | cases ee; done | (cases ee; omega)
  · have h1 : c.length ≤ 1000 := hs.2
    intro e he es ee
    simp only [List.mem_cons, List.not_mem_nil, or_false] at he
    rcases he with rfl | rfl | rfl <;> first | cases ee; done | (cases ee; omega)
  · have h1 : c.length ≤ 1000 := hs.1.2
    have h2 : ms.length ≤ 1000 := hs.2.ml
    have h3 : ps.length ≤ 200 := hs.2.pl
    intro e he es ee
    simp only [List.mem_cons, List.not_mem_nil, or_false] at he
    rcases he with rfl | rfl | rfl | rfl | rfl <;> first | cases ee; done | (cases ee; omega)
/-- a letter that the laws make -/
structure GoodL (l : List PyData) : Prop where
  ok : letterD (.tuple l) = true
  n15 : okLet 15 l = true
  sm : SmallL l
theorem ok15 {i : Int} (h : inR i) : okNum 15 (.int i) = true := by
  have h1 := h.1
  have h2 := h.2
  have e : (10 : Int) ^ 15 = 1000000000000000 := by decide
  have e2 : (10 : Nat) ^ 15 = 1000000000000000 := by decide
  exact decide_eq_true (by rw [e2]; rw [e] at h2; omega)
theorem okNum_more {d : PyData} (h : okNum 15 d = true) : okNum 40 d = true := by
  cases d with
  | int i => exact decide_eq_true (Nat.lt_trans (of_decide_eq_true h) (by decide))
  | _ => rfl
theorem count_of {i : Int} (h : inR i) : countD (.int i) = true := decide_eq_true h.1
theorem made_ok {ps : List (Str × List PyData)} (hl : ps.length ≤ 8) (h15 : (ps.map mk1).all (okPart 15) = true) : SmallD' (.tuple (ps.map mk1)) := by
  refine ⟨List.all_eq_true.mpr fun d hd => okPart_more (List.all_eq_true.mp h15 d hd), ?_⟩
  show (ps.map mk1).length ≤ 1000
  rw [List.length_map]; omega
theorem good_want {w : Str} {ps : List (Str × List PyData)} (hw : w = sWant ∨ w = sUnwant) (ha : ascS Str.empty (ps.map (·.1)) = true) (h : ∀ p ∈ ps, fieldS p.1 = true ∧ goodR 3 p.2) (hl : ps.length ≤ 8) : GoodL [.str w, .tuple (ps.map mk1)] := by
  obtain ⟨h1, h2⟩ := made_wish ha h
  refine ⟨?_, h2, made_ok hl h2⟩
  show (decide (1 ≤ 1) && letterGo w [.tuple (ps.map mk1)]) = true
  unfold letterGo
  rw [if_pos hw]
  exact h1
theorem good_news {a b : Int} {ps : List (Str × List PyData)} (ha' : inR a) (hb : inR b) (ha : ascS Str.empty (ps.map (·.1)) = true) (h : ∀ p ∈ ps, fieldS p.1 = true ∧ goodR 2 p.2) (hl : ps.length ≤ 8) : GoodL [.str sNews, .int a, .int b, .tuple (ps.map mk1)] := by
  obtain ⟨h1, h2⟩ := made_piece ha h
  refine ⟨?_, ?_, okNum_more (ok15 ha'), okNum_more (ok15 hb), made_ok hl h2⟩
  · show (countD (.int a) && (countD (.int b) && pieceD (.tuple (ps.map mk1)))) = true
    rw [count_of ha', count_of hb, h1]; rfl
  · show (okNum 15 (.int a) && (okNum 15 (.int b) && (ps.map mk1).all (okPart 15))) = true
    rw [ok15 ha', ok15 hb, h2]; rfl
theorem way_ok {is : List Int} (nd : is.Nodup) (h2 : 2 ≤ is.length) (h : ∀ x ∈ is, inR x) : wayD (.tuple (is.map .int)) = true ∧ (is.map PyData.int).all (okNum 15) = true := by
  refine ⟨?_, List.all_eq_true.mpr fun d hd => ?_⟩
  · show (decide (2 ≤ (is.map PyData.int).length) && ((is.map PyData.int).all countD && decide (((is.map PyData.int).map iv).Nodup))) = true
    have e : (is.map PyData.int).map iv = is := by rw [List.map_map]; exact List.map_id' is
    rw [List.length_map, decide_eq_true h2, e, decide_eq_true nd, List.all_eq_true.mpr fun d hd => by
      obtain ⟨i, hi, rfl⟩ := List.mem_map.mp hd
      exact count_of (h i hi)]
    rfl
  · obtain ⟨i, hi, rfl⟩ := List.mem_map.mp hd
    exact ok15 (h i hi)
theorem way_small {is : List Int} (hl : is.length ≤ 25) (h : (is.map PyData.int).all (okNum 15) = true) : wayS (.tuple (is.map .int)) := by
  refine ⟨List.all_eq_true.mpr fun d hd => okNum_more (List.all_eq_true.mp h d hd), ?_⟩
  show (is.map PyData.int).length ≤ 1000
  rw [List.length_map]; omega
theorem good_here {n : Str} {is : List Int} (hn : fieldS n = true) (nd : is.Nodup) (h2 : 2 ≤ is.length) (hl : is.length ≤ 25) (h : ∀ x ∈ is, inR x) : GoodL [.str sHere, .str n, .tuple (is.map .int)] := by
  obtain ⟨w1, w2⟩ := way_ok nd h2 h
  refine ⟨?_, w2, way_small hl w2⟩
  show (fieldD (.str n) && wayD (.tuple (is.map .int))) = true
  rw [show fieldD (.str n) = true from hn, w1]; rfl
/-- a piece of news kept -/
def newsP (q : Int × Int × List (Str × List PyData)) : PyData := .tuple [.int q.1, .int q.2.1, .tuple (q.2.2.map mk1)]
def goodN (q : Int × Int × List (Str × List PyData)) : Prop := inR q.1 ∧ inR q.2.1 ∧ ascS Str.empty (q.2.2.map (·.1)) = true ∧ (∀ p ∈ q.2.2, fieldS p.1 = true ∧ goodR 2 p.2) ∧ q.2.2.length ≤ 8
theorem good_kept {n : Str} {is : List Int} {ms : List (Int × Int)} {qs : List (Int × Int × List (Str × List PyData))} (hn : fieldS n = true) (nd : is.Nodup) (h2 : 2 ≤ is.length) (hl : is.length ≤ 25) (h : ∀ x ∈ is, inR x)
    (hm : (ms.map (·.1)).Pairwise (· < ·)) (hm2 : ∀ m ∈ ms, inR m.1 ∧ inR m.2) (hml : ms.length ≤ 25) (hq : ∀ q ∈ qs, goodN q) (hql : qs.length ≤ 25) :
    GoodL [.str sKept, .str n, .tuple (is.map .int), .tuple (ms.map markD), .tuple (qs.map newsP)] := by
  obtain ⟨w1, w2⟩ := way_ok nd h2 h
  have m1 : marksGo 0 (ms.map markD) = true := marksGo_of hm fun p hp => by
    obtain ⟨a, b⟩ := hm2 p hp
    exact ⟨a.1, a.1, b.1⟩
  have m2 : (ms.map markD).all (okPart 15) = true := List.all_eq_true.mpr fun d hd => by
    obtain ⟨p, hp, rfl⟩ := List.mem_map.mp hd
    obtain ⟨a, b⟩ := hm2 p hp
    show (okNum 15 (.int p.1) && (okNum 15 (.int p.2) && true)) = true
    rw [ok15 a, ok15 b]; rfl
  have n1 : (qs.map newsP).all newsD = true := List.all_eq_true.mpr fun d hd => by
    obtain ⟨q, hq', rfl⟩ := List.mem_map.mp hd
    obtain ⟨a, b, c, e, _⟩ := hq q hq'
    show (countD (.int q.1) && (countD (.int q.2.1) && pieceD (.tuple (q.2.2.map mk1)))) = true
    rw [count_of a, count_of b, (made_piece c e).1]; rfl
  have n2 : (qs.map newsP).all (okNews 15) = true := List.all_eq_true.mpr fun d hd => by
    obtain ⟨q, hq', rfl⟩ := List.mem_map.mp hd
    obtain ⟨a, b, c, e, _⟩ := hq q hq'
    show (okNum 15 (.int q.1) && (okNum 15 (.int q.2.1) && (q.2.2.map mk1).all (okPart 15))) = true
    rw [ok15 a, ok15 b, (made_piece c e).2]; rfl
  refine ⟨?_, ?_, way_small hl w2, ⟨?_, ?_, fun p hp => ?_, ?_⟩⟩
  · show (fieldD (.str n) && (wayD (.tuple (is.map .int)) && (marksGo 0 (ms.map markD) && (qs.map newsP).all newsD))) = true
    rw [show fieldD (.str n) = true from hn, w1, m1, n1]; rfl
  · show ((is.map PyData.int).all (okNum 15) && ((ms.map markD).all (okPart 15) && (qs.map newsP).all (okNews 15))) = true
    rw [w2, m2, n2]; rfl
  · exact List.all_eq_true.mpr fun d hd => okPart_more (List.all_eq_true.mp m2 d hd)
  · show (ms.map markD).length ≤ 1000
    rw [List.length_map]; omega
  · obtain ⟨q, hq', rfl⟩ := List.mem_map.mp hp
    obtain ⟨a, b, c, e, f⟩ := hq q hq'
    rintro x y z ez
    unfold newsP at ez
    injection ez with ez
    injection ez with e1 ez
    injection ez with e2 ez
    injection ez with e3 _
    injection e3 with e3
    subst e1 e2 e3
    have := made_ok f (made_piece c e).2
    refine ⟨okNum_more (ok15 a), okNum_more (ok15 b), this.1, by rw [List.length_map]; omega⟩
  · show (qs.map newsP).length ≤ 200
    rw [List.length_map]; omega
end NB

/-! NO: readings for the laws' own writing. -/
namespace NB
open PySem PySem.Spec PyProof.Rows L2 TL
theorem r_inS {K : PySem.W.Frag} {H : Hp} {Q : VK} {p : Addr} {x : Str} (ws : List Str) (h : H p = some (.lst (ws.map V.str))) (q : Q (.bl (decide (x ∈ ws))) H) : rIn2 K false (.str x) (.ref p) H Q :=
  .inr ⟨p, ws.map V.str, rfl, .inl (SqL.of h), rfl, by
    rw [List.all_eq_true]
    intro y hy
    obtain ⟨w, _, rfl⟩ := List.mem_map.mp hy
    rfl, by
    have e : inV (.str x) (ws.map V.str) = decide (x ∈ ws) := by
      unfold inV
      rw [List.any_map]
      by_cases hx : x ∈ ws
      · rw [decide_eq_true hx, List.any_eq_true]
        exact ⟨x, hx, by simp [eqV]⟩
      · rw [decide_eq_false hx, List.any_eq_false]
        intro y hy
        have : y ≠ x := fun z => hx (z ▸ hy)
        simp [eqV, this]
    show Q (.bl (inV (.str x) (ws.map V.str))) H
    rw [e]; exact q⟩
theorem r_slT13 {K : PySem.W.Frag} {H : Hp} {Q : VK} {p : Addr} {x : V} {xs : List V} (h : H p = some (.tup (x :: xs))) (q : ∀ l H', Kp No H H' → H' l = some (.tup (xs.take 2)) → Q (.ref l) H') : rSl2 K (.ref p) (some 1) (some 3) H Q := by
  have e1 : HT.sIx (x :: xs).length 0 (some 1) = 1 := by
    have e := HT.sIx_nat (x :: xs).length 0 1
    rw [show ((1 : Nat) : Int) = 1 from rfl] at e
    rw [e, List.length_cons]; omega
  have e3 : HT.sIx (x :: xs).length (x :: xs).length (some 3) = min 3 (xs.length + 1) := by
    have e := HT.sIx_nat (x :: xs).length (x :: xs).length 3
    rw [show ((3 : Nat) : Int) = 3 from rfl] at e
    rw [e, List.length_cons]
  refine .inr (.inl ⟨p, x :: xs, rfl, SqT.of h, fun z => ?_, fun _ l hl => q l _ (Kp.new Kp.refl hl) ?_⟩)
  · rw [e1] at z
    exact absurd z.1 (by decide)
  · have e : cutV (x :: xs) (some 1) (some 3) = xs.take 2 := by
      unfold cutV
      rw [e1, e3, List.drop_succ_cons, List.drop_zero]
      by_cases h2 : xs.length ≤ 2
      · rw [List.take_of_length_le (by omega), List.take_of_length_le h2]
      · have : min 3 (xs.length + 1) - 1 = 2 := by omega
        rw [this]
    rw [e]; exact upd_same
/-- a wish, a piece as the laws' parts -/
theorem wish_ps {ds : List PyData} (h : wishD (.tuple ds) = true) (hk : ds.all (okPart 40) = true) : ∃ ps : List (Str × List PyData), ds = ps.map mk1 ∧ (∀ p ∈ ps, okW p) ∧ wrL ps = shWish ds := by
  have key : ∃ ps : List (Str × List PyData), ds = ps.map mk1 ∧ (∀ p ∈ ps, okW p ∧ ∃ lo hi, p.2 = [lo, hi]) := by
    have go : ∀ l : List PyData, (∀ d ∈ l, d ∈ ds) → ∃ ps : List (Str × List PyData), l = ps.map mk1 ∧ (∀ p ∈ ps, okW p ∧ ∃ lo hi, p.2 = [lo, hi]) := fun l => by
      induction l with
      | nil => exact fun _ => ⟨[], rfl, fun p hp => by cases hp⟩
      | cons d r ih =>
        intro hl
        obtain ⟨ps, e, hps⟩ := ih fun x hx => hl x (List.mem_cons_of_mem _ hx)
        have hd := hl d (by simp)
        obtain ⟨f, lo, hi, rfl, hf, h1, h2, _⟩ := wish_part h hd
        have hk2 : (okNum 40 (.str f) && (okNum 40 lo && (okNum 40 hi && true))) = true := List.all_eq_true.mp hk _ hd
        simp only [Bool.and_eq_true] at hk2
        refine ⟨(f, [lo, hi]) :: ps, by rw [List.map_cons, ← e]; rfl, fun p hp => ?_⟩
        rcases List.mem_cons.mp hp with rfl | hp
        · refine ⟨⟨hf, Nat.le_refl _, fun e he => ?_⟩, lo, hi, rfl⟩
          rcases List.mem_cons.mp he with rfl | he
          · exact ⟨h1, hk2.2.1⟩
          · rw [List.mem_singleton.mp he]; exact ⟨h2, hk2.2.2.1⟩
        · exact hps p hp
    exact go ds fun _ z => z
  obtain ⟨ps, rfl, hps⟩ := key
  exact ⟨ps, rfl, fun p hp => (hps p hp).1, wr_wish fun p hp => (hps p hp).2⟩
theorem piece_ps {ds : List PyData} (h : pieceD (.tuple ds) = true) (hk : ds.all (okPart 40) = true) : ∃ ps : List (Str × List PyData), ds = ps.map mk1 ∧ (∀ p ∈ ps, okW p) ∧ wrL ps = shPiece ds := by
  have key : ∃ ps : List (Str × List PyData), ds = ps.map mk1 ∧ (∀ p ∈ ps, okW p ∧ ∃ i : Int, p.2 = [.int i]) := by
    have go : ∀ l : List PyData, (∀ d ∈ l, d ∈ ds) → ∃ ps : List (Str × List PyData), l = ps.map mk1 ∧ (∀ p ∈ ps, okW p ∧ ∃ i : Int, p.2 = [.int i]) := fun l => by
      induction l with
      | nil => exact fun _ => ⟨[], rfl, fun p hp => by cases hp⟩
      | cons d r ih =>
        intro hl
        obtain ⟨ps, e, hps⟩ := ih fun x hx => hl x (List.mem_cons_of_mem _ hx)
        have hd := hl d (by simp)
        obtain ⟨f, i, rfl, hf⟩ := piece_part h hd
        obtain ⟨_, h2⟩ := okPart2 (List.all_eq_true.mp hk _ hd)
        refine ⟨(f, [.int i]) :: ps, by rw [List.map_cons, ← e]; rfl, fun p hp => ?_⟩
        rcases List.mem_cons.mp hp with rfl | hp
        · refine ⟨⟨hf, by simp, fun e he => ?_⟩, i, rfl⟩
          rw [List.mem_singleton.mp he]; exact ⟨rfl, h2⟩
        · exact hps p hp
    exact go ds fun _ z => z
  obtain ⟨ps, rfl, hps⟩ := key
  exact ⟨ps, rfl, fun p hp => (hps p hp).1, wr_piece fun p hp => (hps p hp).2⟩
/-! ### letters with a number that is too great -/
theorem rdLetter_of0 {x : List Nat} (h : rdLetter0 x = none) (hw : ¬ ((spl [32] 0 [] x).headD [] = wL "want" ∨ (spl [32] 0 [] x).headD [] = wL "unwant")) : rdLetter x = none := by
  unfold rdLetter
  simp only
  rw [if_neg hw, h]
theorem rd0_great_news {a b : PyData} {p : List PyData} (ha : countD a = true) (hb : countD b = true) (hp : pieceD (.tuple p) = true) (kp : p.all (okPart 15) = false) : rdLetter0 (shLetter [.str sNews, a, b, .tuple p]) = none := by
  have e : spl [32] 0 [] (shLetter [.str sNews, a, b, .tuple p]) = tl sNews :: numD a :: numD b :: spl [32] 0 [] (shPiece p) := by
    show spl [32] 0 [] (tl sNews ++ 32 :: (numD a ++ ([32] ++ (numD b ++ ([32] ++ shPiece p))))) = _
    rw [spl_first w32.2.2.1, news_words ha hb]
  unfold rdLetter0
  simp only [e, List.headD_cons, List.tail_cons]
  rw [if_pos (show tl sNews = wL "news" from rfl), rdNews_great hp kp]
  rfl
theorem rd0_great_kept {n : Str} {c ms ps : List PyData} (hn : fieldS n = true) (hcc : c.all countD = true) (hm : marksGo 0 ms = true) (hp : ps.all newsD = true) {a b : PyData} {p : List PyData} (hq : (.tuple [a, b, .tuple p]) ∈ ps) (kp : p.all (okPart 15) = false) :
    rdLetter0 (shLetter [.str sKept, .str n, .tuple c, .tuple ms, .tuple ps]) = none := by
  have eb := kept_parts (w := sKept) (fun s hs => by rw [hs]; exact w124.2.2.2.2) hn hcc hm hp
  have e := kept_words (w := sKept) w32.2.2.2.2 hn hcc hm
  have e0 : (spl [32] 0 [] (shLetter [.str sKept, .str n, .tuple c, .tuple ms, .tuple ps])).headD [] = tl sKept := by
    show (spl [32] 0 [] (tl sKept ++ 32 :: _)).headD [] = _
    rw [spl_first w32.2.2.2.2]; rfl
  have ep : mapO rdPart (ps.map shNews) = none := by
    obtain ⟨a', b', p', e', ha, hb, hp'⟩ := newsD_parts (List.all_eq_true.mp hp _ hq)
    injection e' with e'
    injection e' with e1 e'
    injection e' with e2 e'
    injection e' with e3 _
    injection e3 with e3
    subst e1 e2 e3
    exact mapO_none ⟨_, List.mem_map_of_mem hq, rdPart_great ha hb hp' kp⟩
  unfold rdLetter0 rdMoving
  simp only [e0, eb, e, List.headD_cons, List.tail_cons]
  rw [if_neg not_want.2.2.2.2, ep]
  cases mapO rdInt (spl [45] 0 [] (wayLs c)) <;> rfl
theorem shLetter_len {l : List PyData} (h : letterD (.tuple l) = true) (hs : SmallL l) : (ofL (shLetter l)).length ≤ 900000 := by
  rw [len_tl, tl_ofL]
  rcases letter_forms h with ⟨w, ds, hw, rfl, hd⟩ | ⟨a, b, p, rfl, ha, hb, hp⟩ | ⟨n, c, rfl, hn, hc⟩ | ⟨n, c, ms, ps, rfl, hn, hc, hm, hp⟩
  · have h1 : ds.length ≤ 1000 := hs.2
    have h2 := shWish_len hd hs.1
    have hw4 : (tl w).length ≤ 6 := by rcases hw with rfl | rfl <;> decide +kernel
    show (tl w ++ ([32] ++ shWish ds)).length ≤ _
    simp only [List.length_append, List.length_cons, List.length_nil]
    omega
  · have h1 : p.length ≤ 1000 := hs.2.2.2
    have h2 := shPiece_len hp hs.2.2.1
    have h3 := numD_len hs.1
    have h4 := numD_len hs.2.1
    have hw4 : (tl sNews).length = 4 := by decide +kernel
    show (tl sNews ++ ([32] ++ (numD a ++ ([32] ++ (numD b ++ ([32] ++ shPiece p)))))).length ≤ _
    simp only [List.length_append, List.length_cons, List.length_nil]
    omega
  · have h1 : c.length ≤ 1000 := hs.2
    have h2 := wayLs_len hs.1
    have hw4 : (tl sHere).length = 4 := by decide +kernel
    have h8 : (tl n).length ≤ 8 := (fieldL_iff.mp hn).2.1
    show (tl sHere ++ ([32] ++ (tl n ++ ([32] ++ wayLs c)))).length ≤ _
    simp only [List.length_append, List.length_cons, List.length_nil]
    omega
  · have h1 : c.length ≤ 1000 := hs.1.2
    have h2 := wayLs_len hs.1.1
    have h3 := shKept_len hm hp hs.2
    have hw4 : (tl sKept).length = 4 := by decide +kernel
    have h8 : (tl n).length ≤ 8 := (fieldL_iff.mp hn).2.1
    show (tl sKept ++ ([32] ++ (tl n ++ ([32] ++ (wayLs c ++ ([32] ++ shKept ms ps)))))).length ≤ _
    simp only [List.length_append, List.length_cons, List.length_nil]
    omega
end NB

/-! NGu: the law's own frame has no repr around it: repr(x) of any data there. -/
namespace NB
open PySem PySem.Spec PyProof.Rows L2 TL
/-! ### data is read -/
section
variable {X : Cx} {pins : List (Addr × Obj)} {σ : L2.St} {H : Hp} {s : Shared} {ex : Addr → Prop}
theorem key_at {h : Heap} {k : Key} {v : Value} (q : keyIs k v = true) : Reads h v (keyD k) [] := by
  rcases keyIs_shape q with ⟨i, t, rfl, rfl⟩ | ⟨x, t, rfl, rfl⟩
  · exact .int i t
  · exact .str x t
theorem keys_at {h : Heap} {P : Program} {w : World} : ∀ {es : List DictEntry} {kvs : List (Key × Value)}, Pairs (mixKind P w) es kvs → ReadsAll h (es.map (·.key)) (kvs.map fun p => keyD p.1) []
  | _, _, .nil => .nil
  | _, _, .cons h1 h2 r => ReadsAll.cons (as := []) (bs := []) (key_at h1) (keys_at r)
theorem pairs_vals {P : Program} {w : World} : ∀ {es : List DictEntry} {kvs : List (Key × Value)}, Pairs (mixKind P w) es kvs → es.map (·.val) = kvs.map (·.2)
  | _, _, .nil => rfl
  | _, _, .cons h1 h2 r => by rw [List.map_cons, List.map_cons, h2, pairs_vals r]
theorem kv_two : ∀ {kvs : List (Key × V)} {vs : List (Key × Value)}, KV kvs vs → vs.map (·.1) = kvs.map (·.1) ∧ Vals (kvs.map Prod.snd) (vs.map Prod.snd)
  | _, _, .nil => ⟨rfl, .nil⟩
  | _, _, .cons h r => by
    obtain ⟨q1, q2⟩ := kv_two r
    exact ⟨by rw [List.map_cons, List.map_cons, q1, h.1], .cons h.2 q2⟩
theorem zip_two {α β : Type} : ∀ {l : List α} {m : List β}, l.length = m.length → (l.zip m).map (·.1) = l ∧ (l.zip m).map (·.2) = m
  | [], [], _ => ⟨rfl, rfl⟩
  | a :: l, b :: m, h => by
    obtain ⟨q1, q2⟩ := zip_two (l := l) (m := m) (Nat.succ.inj h)
    exact ⟨by rw [List.zip_cons_cons, List.map_cons, q1], by rw [List.zip_cons_cons, List.map_cons, q2]⟩
/-- a tracked dict, as the library reads it -/
theorem dct_at (I : Inv X pins σ H s) {a : Addr} {kvs : List (Key × V)} {ds : List PyData} (h : H a = some (.dK kvs)) (hl : ds.length = kvs.length) :
    ∃ o es ep, s.heap.get? a = some o ∧ o.cls = .type "dict" ∧ o.data = .dict es ep ∧ (a == sysModules) = false ∧ ReadsAll s.heap (es.toList.map (·.key)) (((kvs.map fun p => keyD p.1).zip ds).map (·.1)) [] ∧
      Vals (kvs.map Prod.snd) (es.toList.map (·.val)) ∧ ((kvs.map fun p => keyD p.1).zip ds).map (·.2) = ds := by
  obtain ⟨_, ns, vs, kv, o, es, ep, e, ⟨c1, _, _⟩, dd, _, pr, _⟩ := dk_of I.hok h
  obtain ⟨k1, k2⟩ := kv_two kv
  obtain ⟨z1, z2⟩ := zip_two (l := kvs.map fun p => keyD p.1) (m := ds) (by rw [List.length_map, hl])
  refine ⟨o, es, ep, e, c1, dd, ns, ?_, ?_, z2⟩
  · rw [z1]
    have q := keys_at (h := s.heap) pr
    have e2 : (vs.map fun p => keyD p.1) = kvs.map fun p => keyD p.1 := by
      have := congrArg (List.map keyD) k1
      rw [List.map_map, List.map_map] at this
      exact this
    rw [e2] at q
    exact q
  · rw [pairs_vals pr]; exact k2
mutual
theorem Dat.reads (I : Inv X pins σ H s) : ∀ {v : V} {d : PyData} {u : Value}, Dat ex H v d → RelV v u → ∃ as, Reads s.heap u d as
  | _, _, _, .non, r => by cases (show _ = Value.none from r); exact ⟨_, .none⟩
  | _, _, _, .bl b, r => by cases (show _ = Value.bool b from r); exact ⟨_, .bool b⟩
  | _, _, _, .int i, r => by obtain ⟨t, rfl⟩ := (show ∃ t, _ = Value.int i t from r); exact ⟨_, .int i t⟩
  | _, _, _, .str x _, r => by obtain ⟨t, rfl⟩ := (show ∃ t, _ = Value.str x t from r); exact ⟨_, .str x t⟩
  | _, _, _, .tup h r0, r => by
    cases (show _ = Value.ref _ from r)
    obtain ⟨its, rv, ⟨o, e, c, n, d⟩, _⟩ := I.tuple (SqT.of h)
    obtain ⟨as, q⟩ := Dats.reads I r0 rv
    exact ⟨_, .tuple e c d (by simpa using q)⟩
  | _, _, _, .lst n h r0, r => by
    cases (show _ = Value.ref _ from r)
    obtain ⟨_, its, n', rv, e⟩ := I.hok _ _ h
    obtain ⟨as, q⟩ := Dats.reads I r0 rv
    exact ⟨_, .list e rfl rfl (by simpa using q)⟩
  | _, _, _, .dct n h r0, r => by
    cases (show _ = Value.ref _ from r)
    have hl := r0.len
    rw [List.length_map] at hl
    obtain ⟨o, es, ep, e, c1, dd, _, q1, k2, z2⟩ := dct_at I h hl.symm
    obtain ⟨bs, q2⟩ := Dats.reads I r0 k2
    exact ⟨_, .dict e c1 dd q1 (by rw [z2]; exact q2)⟩
theorem Dats.reads (I : Inv X pins σ H s) : ∀ {vs : List V} {ds : List PyData} {us : List Value}, Dats ex H vs ds → Vals vs us → ∃ as, ReadsAll s.heap us ds as
  | _, _, _, .nil, .nil => ⟨_, .nil⟩
  | _, _, _, .cons h r, .cons r1 rs => by
    obtain ⟨as, q1⟩ := Dat.reads I h r1
    obtain ⟨bs, q2⟩ := Dats.reads I r rs
    exact ⟨_, .cons q1 q2⟩
end
variable {P : Program} {w : World}
theorem two_most {h : Heap} {m n k : Nat} {bs cs : List Addr} (h1 : ReadAtMost h m bs) (h2 : ReadAtMost h n cs) (k1 : m ≤ k) (k2 : n ≤ k) : ReadAtMost h k (bs ++ cs) := (h1.mono k1).append (h2.mono k2)
mutual
/-- how it is shown -/
theorem Dat.shows (I : Inv X pins σ H s) : ∀ {v : V} {d : PyData} {u : Value}, Dat ex H v d → RelV v u → d.showable = true → d.shown.length ≤ sizeLine → ∃ bs, ReadAtMost s.heap d.depth bs ∧ ReprK P w bs s.heap d.depth u d.shown
  | _, _, _, .non, r, _, _ => by cases (show _ = Value.none from r); exact ⟨[], (fun _ h => nomatch h), by rw [PyData.shown_none]; exact .of_is ReprIs.none _ _ _⟩
  | _, _, _, .bl b, r, _, _ => by cases (show _ = Value.bool b from r); exact ⟨[], (fun _ h => nomatch h), by rw [PyData.shown_bool]; exact .of_is (ReprIs.bool b) _ _ _⟩
  | _, _, _, .int i, r, hs, _ => by
    obtain ⟨t, rfl⟩ := (show ∃ t, _ = Value.int i t from r)
    exact ⟨[], (fun _ h => nomatch h), by rw [PyData.shown_int]; exact .of_is (ReprIs.int t (by simpa [PyData.showable] using hs)) _ _ _⟩
  | _, _, _, .str x _, r, _, hz => by
    obtain ⟨t, rfl⟩ := (show ∃ t, _ = Value.str x t from r)
    exact ⟨[], (fun _ h => nomatch h), by rw [PyData.shown_str] at hz ⊢; exact .of_is (ReprIs.str x t hz) _ _ _⟩
  | _, _, _, .tup (a := a) (ds := ds) h r0, r, hs, hz => by
    cases (show _ = Value.ref _ from r)
    obtain ⟨its, rv, ⟨o, e, c, n, d⟩, _⟩ := I.tuple (SqT.of h)
    have hz' : (tupleText (PyData.shownAll ds)).length ≤ sizeLine := by simpa only [PyData.shown] using hz
    obtain ⟨bs, hb, hk⟩ := Dats.shows I r0 rv (by simpa [PyData.showable] using hs) fun t ht => Nat.le_trans (tupleText_mem_le ht) hz'
    obtain ⟨as, q⟩ := Dats.reads I r0 rv
    have rr : Reads s.heap (.ref a) (.tuple ds) as := .tuple e c d (by simpa using q)
    have up : PyData.depthAll ds < (PyData.tuple ds).depth := by simp only [PyData.depth]; omega
    refine ⟨a :: bs, ReadAtMost.cons rr (Nat.le_refl _) (hb.mono (Nat.le_of_lt up)), ?_⟩
    simp only [PyData.depth, PyData.shown]
    exact ReprK.tuple e c d (not_mem_of_deeper rr up hb) (by simpa using hk)
  | _, _, _, .lst (a := a) (ds := ds) n h r0, r, hs, hz => by
    cases (show _ = Value.ref _ from r)
    obtain ⟨_, its, n', rv, e⟩ := I.hok _ _ h
    have hz' : (listText (PyData.shownAll ds)).length ≤ sizeLine := by simpa only [PyData.shown] using hz
    obtain ⟨bs, hb, hk⟩ := Dats.shows I r0 rv (by simpa [PyData.showable] using hs) fun t ht => Nat.le_trans (listText_mem_le ht) hz'
    obtain ⟨as, q⟩ := Dats.reads I r0 rv
    have rr : Reads s.heap (.ref a) (.list ds) (a :: as) := .list e rfl rfl (by simpa using q)
    have up : PyData.depthAll ds < (PyData.list ds).depth := by simp only [PyData.depth]; omega
    refine ⟨a :: bs, ReadAtMost.cons rr (Nat.le_refl _) (hb.mono (Nat.le_of_lt up)), ?_⟩
    simp only [PyData.depth, PyData.shown]
    cases its with
    | nil =>
      cases q
      simp only [PyData.shownAll, listText_nil]
      exact ReprK.listEmpty e rfl rfl
    | cons y l => exact ReprK.list e rfl rfl (not_mem_of_deeper rr up hb) (by simpa using hk.length_eq) fun i y e => hk.item i y (by simpa using e)
  | _, _, _, .dct (a := a) (kvs := kvs) (ds := ds) n h r0, r, hs, hz => by
    cases (show _ = Value.ref _ from r)
    have hl := r0.len
    rw [List.length_map] at hl
    obtain ⟨o, es, ep, e, c1, dd, nsys, q1, k2, z2⟩ := dct_at I h hl.symm
    generalize ((kvs.map fun p => keyD p.1).zip ds) = kd at *
    have hz' : (dictText (PyData.shownKv kd)).length ≤ sizeLine := by simpa only [PyData.shown] using hz
    obtain ⟨hs1, hs2⟩ := PyData.showableKv_split kd (by simpa [PyData.showable] using hs)
    rw [z2] at hs2
    obtain ⟨b1, hb1, kk1⟩ := ReprAllK.of_readsAll (prog := P) (w := w) q1 hs1 (fun _ => by simp) fun t ht => by
      obtain ⟨p, hp, hl⟩ := PyData.shownKv_key_le kd t ht
      exact Nat.le_trans hl (Nat.le_trans (dictText_mem_le hp) hz')
    obtain ⟨b2, hb2, kk2⟩ := Dats.shows I r0 k2 hs2 fun t ht => by
      obtain ⟨p, hp, hl⟩ := PyData.shownKv_val_le kd t (by rw [z2]; exact ht)
      exact Nat.le_trans hl (Nat.le_trans (dictText_mem_le hp) hz')
    rw [← z2] at hb2 kk2
    obtain ⟨bs, q2⟩ := Dats.reads I r0 k2
    have rr : Reads s.heap (.ref a) (.dict kd) (a :: [] ++ bs) := .dict e c1 dd q1 (by rw [z2]; exact q2)
    have hb := two_most hb1 hb2 (PyData.depthAll_keys_le kd) (PyData.depthAll_vals_le kd)
    have up : PyData.depthKv kd < (PyData.dict kd).depth := by simp only [PyData.depth]; omega
    refine ⟨a :: (b1 ++ b2), ReadAtMost.cons rr (Nat.le_refl _) (hb.mono (Nat.le_of_lt up)), ?_⟩
    simp only [PyData.depth, PyData.shown, PyData.shownKv_eq]
    exact ReprK.dict e c1 dd nsys (not_mem_of_deeper rr up hb) (ReprEntriesK.of_two es.toList _ _ (kk1.more_le (fun b hb => List.mem_append_left _ hb) (PyData.depthAll_keys_le kd)) (kk2.more_le (fun b hb => List.mem_append_right _ hb) (PyData.depthAll_vals_le kd)))
theorem Dats.shows (I : Inv X pins σ H s) : ∀ {vs : List V} {ds : List PyData} {us : List Value}, Dats ex H vs ds → Vals vs us → PyData.showableAll ds = true → (∀ t ∈ PyData.shownAll ds, t.length ≤ sizeLine) →
    ∃ bs, ReadAtMost s.heap (PyData.depthAll ds) bs ∧ ReprAllK P w bs s.heap (PyData.depthAll ds) us (PyData.shownAll ds)
  | _, _, _, .nil, .nil, _, _ => ⟨[], (fun _ h => nomatch h), by simp only [PyData.shownAll]; exact .nil⟩
  | _, _, _, .cons (d := d) (ds := ds) h r, .cons r1 rs, hs, hz => by
    have hs' : d.showable = true ∧ PyData.showableAll ds = true := by simpa [PyData.showableAll] using hs
    obtain ⟨b1, hb1, k1⟩ := Dat.shows I h r1 hs'.1 (hz _ (by simp only [PyData.shownAll]; exact List.mem_cons_self))
    obtain ⟨b2, hb2, k2⟩ := Dats.shows I r rs hs'.2 fun t ht => hz t (by simp only [PyData.shownAll]; exact List.mem_cons_of_mem _ ht)
    have u1 : d.depth ≤ PyData.depthAll (d :: ds) := by simp only [PyData.depthAll]; exact Nat.le_max_left _ _
    have u2 : PyData.depthAll ds ≤ PyData.depthAll (d :: ds) := by simp only [PyData.depthAll]; exact Nat.le_max_right _ _
    refine ⟨b1 ++ b2, two_most hb1 hb2 u1 u2, ?_⟩
    have g1 := (k1.more fun b hb => List.mem_append_left b2 hb).level_le u1
    have g2 := k2.more_le (fun b hb => List.mem_append_right b1 hb) u2
    simp only [PyData.shownAll]
    exact .cons g1 g2
end
end
end NB

/-! NRp: repr(x), x data of any kind, where no repr is around. -/
namespace NB
open PySem PySem.Spec PyProof.Rows L2 TL
section
variable {X : Cx} {pins : List (Addr × Obj)} {σ : L2.St} {H : Hp} {s : Shared} {ex : Addr → Prop}
theorem repr_ref (I : Inv X pins σ H s) {a : Addr} {d : PyData} {Q : Value → Shared → Prop} {E : Value → Shared → Prop} (hd : Dat ex H (.ref a) d) (hs : d.showable = true) (hsz : d.shown.length ≤ sizeLine) (hg : X.A.guards = some []) (hu : X.A.units + (d.depth + 1) < cLine)
    (hQ : ∀ h' u tk, (∀ b o, s.heap.get? b = some o → h'.get? b = some o) → Q (.str d.shown u) { s with heap := h', toks := tk }) : wpAny (model X.prog X.w) X.A (call (.builtin "repr") [.ref a]) Q E s := by
  have hu1 : X.A.units + 1 < cLine := by omega
  have hu2 : X.A.in1.units + d.depth < cLine := by show X.A.units + 1 + d.depth < cLine; omega
  have hg2 : X.A.in1.guards = some [] := hg
  cases hd with
  | tup h r0 =>
    rename_i xs ds
    obtain ⟨its, rv, ⟨o, e, c, n, dd⟩, _⟩ := I.tuple (SqT.of h)
    have hz' : (tupleText (PyData.shownAll ds)).length ≤ sizeLine := by simpa only [PyData.shown] using hsz
    obtain ⟨bs, hb, hk⟩ := Dats.shows (P := X.prog) (w := X.w) I r0 rv (by simpa [PyData.showable] using hs) fun t ht => Nat.le_trans (tupleText_mem_le ht) hz'
    obtain ⟨as, q⟩ := Dats.reads I r0 rv
    have rr : Reads s.heap (.ref a) (.tuple ds) as := .tuple e c dd (by simpa using q)
    have up : PyData.depthAll ds < (PyData.tuple ds).depth := by simp only [PyData.depth]; omega
    refine call_repr_slot hu1 ⟨o, e, c⟩ F.slot_tuple_repr ?_
    simp only [PyData.shown] at hQ
    simp only [PyData.depth] at hu2
    exact call_tuple_reprK e c dd (not_mem_of_deeper rr up hb) (by simpa using hk) hg2 (fun b _ => Clear.nil b) hu2 (fun _ _ z => z) (fun h' u tk k => ⟨_, _, rfl, hQ h' u tk k⟩) hz'
  | lst n h r0 =>
    rename_i xs ds
    obtain ⟨_, its, n', rv, e⟩ := I.hok _ _ h
    have hz' : (listText (PyData.shownAll ds)).length ≤ sizeLine := by simpa only [PyData.shown] using hsz
    obtain ⟨bs, hb, hk⟩ := Dats.shows (P := X.prog) (w := X.w) I r0 rv (by simpa [PyData.showable] using hs) fun t ht => Nat.le_trans (listText_mem_le ht) hz'
    obtain ⟨as, q⟩ := Dats.reads I r0 rv
    have rr : Reads s.heap (.ref a) (.list ds) (a :: as) := .list e rfl rfl (by simpa using q)
    have up : PyData.depthAll ds < (PyData.list ds).depth := by simp only [PyData.depth]; omega
    refine call_repr_slot hu1 ⟨_, e, rfl⟩ F.slot_list_repr.toG ?_
    simp only [PyData.shown] at hQ
    simp only [PyData.depth] at hu2
    cases its with
    | nil =>
      cases q
      simp only [PyData.shownAll, listText_nil] at hQ
      exact call_list_repr_empty ⟨_, e, rfl⟩ e rfl ⟨_, _, rfl, hQ s.heap _ _ fun _ _ z => z⟩
    | cons y l => exact call_list_reprK e rfl rfl (not_mem_of_deeper rr up hb) (by simpa using hk.length_eq) (fun i y e => hk.item i y (by simpa using e)) hg2 (fun b _ => Clear.nil b) hu2 (fun _ _ z => z) (fun h' u tk k => ⟨_, _, rfl, hQ h' u tk k⟩) hz'
  | dct n h r0 =>
    rename_i kvs ds
    have hl := r0.len
    rw [List.length_map] at hl
    obtain ⟨o, es, ep, e, c1, dd, nsys, q1, k2, z2⟩ := dct_at I h hl.symm
    generalize ((kvs.map fun p => keyD p.1).zip ds) = kd at *
    have hz' : (dictText (PyData.shownKv kd)).length ≤ sizeLine := by simpa only [PyData.shown] using hsz
    obtain ⟨hs1, hs2⟩ := PyData.showableKv_split kd (by simpa [PyData.showable] using hs)
    rw [z2] at hs2
    obtain ⟨b1, hb1, kk1⟩ := ReprAllK.of_readsAll (prog := X.prog) (w := X.w) q1 hs1 (fun _ => by simp) fun t ht => by
      obtain ⟨p, hp, hl⟩ := PyData.shownKv_key_le kd t ht
      exact Nat.le_trans hl (Nat.le_trans (dictText_mem_le hp) hz')
    obtain ⟨b2, hb2, kk2⟩ := Dats.shows (P := X.prog) (w := X.w) I r0 k2 hs2 fun t ht => by
      obtain ⟨p, hp, hl⟩ := PyData.shownKv_val_le kd t (by rw [z2]; exact ht)
      exact Nat.le_trans hl (Nat.le_trans (dictText_mem_le hp) hz')
    rw [← z2] at hb2 kk2
    obtain ⟨bs, q2⟩ := Dats.reads I r0 k2
    have rr : Reads s.heap (.ref a) (.dict kd) (a :: [] ++ bs) := .dict e c1 dd q1 (by rw [z2]; exact q2)
    have hb := two_most hb1 hb2 (PyData.depthAll_keys_le kd) (PyData.depthAll_vals_le kd)
    have up : PyData.depthKv kd < (PyData.dict kd).depth := by simp only [PyData.depth]; omega
    refine call_repr_slot hu1 ⟨o, e, c1⟩ F.slot_dict_repr ?_
    simp only [PyData.shown, PyData.shownKv_eq] at hQ
    simp only [PyData.depth] at hu2
    exact call_dict_reprK e c1 dd nsys (not_mem_of_deeper rr up hb) (ReprEntriesK.of_two es.toList _ _ (kk1.more_le (fun b hb => List.mem_append_left _ hb) (PyData.depthAll_keys_le kd)) (kk2.more_le (fun b hb => List.mem_append_right _ hb) (PyData.depthAll_vals_le kd)))
      hg2 (fun b _ => Clear.nil b) hu2 (fun _ _ z => z) (fun h' u tk k => ⟨_, _, rfl, hQ h' u tk k⟩) (by rw [← PyData.shownKv_eq]; exact hz')
/-- repr(x) -/
def rRepr : List V → Hp → VK → Prop := fun xs H Q => ∃ (v : V) (ex : Addr → Prop) (d : PyData), xs = [v] ∧ Dat ex H v d ∧ d.showable = true ∧ d.shown.length ≤ sizeLine ∧ d.depth ≤ 60 ∧ Q (.str d.shown) H
theorem call_reprD (hg : X.A.guards = some []) (hu : X.A.units + 64 < cLine) : CallR X (.builtin "repr") rRepr := by
  intro pins s σ H xs us Q I r h
  obtain ⟨v, ex, d, rfl, hd, hs, hz, hdp, q⟩ := h
  obtain ⟨u, rfl, rv⟩ := vals1 r
  have one : ∀ x tk tk2, d.shown = x → EP X pins σ Q (.str x tk) { s with toks := tk2 } := fun x tk tk2 e => ⟨.str x, H, I.tok tk2, ⟨tk, rfl⟩, by rw [← e]; exact q⟩
  cases hd with
  | non => cases (show u = Value.none from rv); exact P.repr_of_none (one _ _ _ (by rw [PyData.shown_none]))
  | bl b => cases (show u = Value.bool b from rv); exact P.repr_of_bool (one _ _ _ (by rw [PyData.shown_bool]))
  | int i => obtain ⟨t, rfl⟩ := (show ∃ t, u = Value.int i t from rv); exact P.repr_of_int (by simpa [PyData.showable] using hs) (one _ _ _ (by rw [PyData.shown_int]))
  | str x hx => obtain ⟨t, rfl⟩ := (show ∃ t, u = Value.str x t from rv); exact P.repr_of_str (one _ _ _ (by rw [PyData.shown_str])) (by rw [PyData.shown_str] at hz; exact hz)
  | tup h0 r0 => cases (show u = Value.ref _ from rv); exact repr_ref I (.tup h0 r0) hs hz hg (by omega) fun h' t tk kk => ⟨.str _, H, I.kept (t' := tk) kk, ⟨t, rfl⟩, q⟩
  | lst n h0 r0 => cases (show u = Value.ref _ from rv); exact repr_ref I (.lst n h0 r0) hs hz hg (by omega) fun h' t tk kk => ⟨.str _, H, I.kept (t' := tk) kk, ⟨t, rfl⟩, q⟩
  | dct n h0 r0 => cases (show u = Value.ref _ from rv); exact repr_ref I (.dct n h0 r0) hs hz hg (by omega) fun h' t tk kk => ⟨.str _, H, I.kept (t' := tk) kk, ⟨t, rfl⟩, q⟩
end
theorem r_repr {H : Hp} {Q : VK} {v : V} {ex : Addr → Prop} {d : PyData} (hd : Dat ex H v d) (hs : d.showable = true) (hz : d.shown.length ≤ 10000000) (hdp : d.depth ≤ 60) (q : Q (.str d.shown) H) : rRepr [v] H Q := ⟨v, ex, d, rfl, hd, hs, Nat.le_trans hz (by decide), hdp, q⟩
end NB

/-! NWk: the law's own call, with what stands around it known. -/
namespace NB
open PySem PySem.Spec PyProof.Rows L2 TL
/-- the caller's call of the def at f -/
def RunC (P : Program) (w : World) (K : PySem.W.Frag) (mg : Str → Option Value) (base : Heap) (f : Addr) (sp : Sp) : Prop :=
  ∀ (s : Shared) (H : Hp) (u : Value) (v : V) (Q : VK) (E : XK), Env0 P w K mg base callerA [] s H → RelV v u → sp [v] H Q E → codeAny (model P w) callerA (.call (.ref f) ⟨[u], []⟩) (CR CX0 [] P w H s Q E) s
theorem Def.runC {P : Program} {w : World} {K : PySem.W.Frag} {mg : Str → Option Value} {base : Heap} {x y : Str} {st : Stmt} {N : List Str} {k : Nat} {sp : Sp} (D : Def K mg x st [y]) (S : FnScope N [y] (defScope st)) (hr : Room (k + 1) callerA)
    (hb : ∀ (f : Addr) (cdv : Value) (A : Around) (outer : List Env) (s : Shared) (H : Hp) (vs : List V) (Q : VK) (E : XK), A.guards = some [] → Room k (A.deeper (envOfC x (defScope st) s.heap.objs.size f cdv)) → sp vs H Q E →
      ∃ t, PSs (cxOf CX0 P w K mg base N x (defScope st) f cdv A outer s H E).nox (defBody st) t ∧ t { nx := fun _ H' => Q .non H', rt := Q } (start N vs) H) : ∃ f, mg x = some (.ref f) ∧ RunC P w K mg base f sp := by
  obtain ⟨f, fd, ⟨⟨oc, od, kV, doc, pm, an, cdv, ct, osl, rfl, lk, hcd⟩, hk⟩, hm, bnd⟩ := D.ex
  refine ⟨f, hm, fun s H u v Q E e0 rv hsp => ?_⟩
  have mine : ∀ b o, base.get? b = some o → s.heap.get? b = some o := fun b o e => (e0.bs b o e).1
  have hkind : ∀ q ∈ [y].zip [u], (defScope st).names.lookup q.1 = some .local ∨ ((defScope st).names.lookup q.1 = some .cell ∧ ((cellsFrom (s.heap.objs.size + 1) (defScope st).names []).lookup q.1).isSome = true) := fun ⟨n, z⟩ hq =>
    (S.par n (List.of_mem_zip hq).1).elim .inl fun h => .inr ⟨h, PySem.W.cellsFrom_some _ _ _ (.inl h)⟩
  refine codeAny_call_function hr.depth (e0.mod.kin.keeps mine _ _ lk) rfl S.co S.gen rfl (PySem.W.codeRec_of (e0.mod.kin.keeps mine) hcd) (BindsTo.of_eq (bnd [u] rfl) _ _ _ _ ?_)
  refine wpAny_newFunctionEnv_cells S.kind hkind fun env he s1 q => ?_
  subst he
  refine ⟨(e0.mod.nolimit.keeps mine).keeps q.toInCall.keep, codeAny_func ?_⟩
  obtain ⟨t, ht, h⟩ := hb f cdv callerA [] s H [v] Q E rfl (hr.deeper _) hsp
  have I := inv_start (CX := CX0) (E := E) S hr.hd e0 (us := [u]) (vs := [v]) rfl (.cons rv .nil) q
  refine wpAny_mono (ht.nox.run [] s1 (start N [v]) H _ I h) (fun fl s' hs => ?_) fun e s' hs => hs
  have back : ∀ {σ' : L2.St} {H' : Hp} {z : V} {z' : Value}, Inv (cxOf CX0 P w K mg base N x (defScope st) f cdv callerA [] s H E) [] σ' H' s' → RelV z z' → Q z H' → CE [] P w H s Q z' s' := fun J r q => ⟨_, _, J.os, J.bare, J.base, J.hok, r, q⟩
  cases fl with
  | ret z =>
    obtain ⟨_, _, _, J, r, q⟩ := hs
    exact back J r q
  | next =>
    obtain ⟨_, _, J, q⟩ := hs
    exact back (z := .non) (z' := .none) J rfl q
  | brk => obtain ⟨_, _, _, q⟩ := hs; exact q.elim
  | cont => obtain ⟨_, _, _, q⟩ := hs; exact q.elim
theorem law_callG {P : Program} {w : World} {K : PySem.W.Frag} {mg mb : Str → Option Value} {fa a : Addr} {sp : Sp} {s1 : Shared} {vs : List Value} {ns : List Int}
    (KX : K.In s1.heap) (hns : s1.heap.Ns mainGlobals mg) (hb : s1.heap.Ns builtinsNs mb) (hbb : ∀ x : Str, x ≠ "__name__" → mb x = bootBuiltins x) (hlim : s1.heap.NoLimit) (hg : s1.gens = #[])
    (ha : s1.heap.get? a = some { cls := .type "list", data := .seq vs.toArray }) (hi : IntsAre vs ns) (hl : ns.length ≤ sizeLine) (F : ∀ base : Heap, RunC P w K mg base fa sp)
    (hsp : ∀ H : Hp, SqL K H a (ns.map V.int) → sp [.ref a] H (fun v _ => v = .bl true) fun _ _ _ => False) :
    codeAny (model P w) callerA (.call (.ref fa) ⟨[.ref a], []⟩) (fun r s' => r = .ok (.ret (.bool true)) ∧ OldK s1.heap s'.heap ∧ s'.os = s1.os ∧ AllBare s'.gens) s1 := by
  have rv := vals_ints hi
  have run : ∀ H : Hp, Only H → SqL K H a (ns.map V.int) → HOk P w H s1.heap → (∀ b, H b ≠ none → b = a ∧ K.lookup a = none) →
      codeAny (model P w) callerA (.call (.ref fa) ⟨[.ref a], []⟩) (fun r s' => r = .ok (.ret (.bool true)) ∧ OldK s1.heap s'.heap ∧ s'.os = s1.os ∧ AllBare s'.gens) s1 := fun H hO hS hok hA => by
    have off : ∀ {b : Addr}, b ≠ a → H b = none := fun {b} n => by
      cases q : H b with
      | none => rfl
      | some z => exact absurd (hA b (by rw [q]; simp)).1 n
    have nsK : ∀ {b : Addr} {m : Str → Option Value}, s1.heap.Ns b m → (hidT s1.heap H).Ns b m := fun {b m} ⟨o, es, ep, e, d, r⟩ => ⟨o, es, ep, hidT_get e (off fun z => by
      rw [z, ha] at e
      cases e
      cases d), d, r⟩
    have kin : K.In (hidT s1.heap H) := fun b o e => hidT_get (KX b o e) (by
      cases q : H b with
      | none => rfl
      | some z =>
        obtain ⟨e1, e2⟩ := hA b (by rw [q]; simp)
        rw [e1, e2] at e; cases e)
    have md : Mod K mg (hidT s1.heap H) := ⟨kin, nsK hns, ⟨mb, nsK hb, hbb⟩, let ⟨mc, h1, h2⟩ := hlim; ⟨mc, nsK h1, h2⟩⟩
    have env : Env0 P w K mg (hidT s1.heap H) callerA [] s1 H := ⟨rfl, md, fun b o e => of_hidT e, Nat.le_of_eq (hidT_size _ _), trivial, fun b z => absurd (show b ∈ ([] : List Addr) from z) (by simp), hok, .of_eq hg⟩
    refine codeAny_mono (F _ s1 H (.ref a) (.ref a) _ _ env rfl (hsp H hS)) fun r s' h => ?_
    match r, h with
    | .error e, h => exact h.elim
    | .ok .next, h => exact h.elim
    | .ok .brk, h => exact h.elim
    | .ok .cont, h => exact h.elim
    | .ok (.ret u), h =>
      obtain ⟨v, H', os, bare, un, hok', r', q⟩ := h
      obtain rfl : v = .bl true := q
      obtain rfl : u = Value.bool true := r'
      refine ⟨rfl, OldK.of_keep fun b o e => ?_, os, bare⟩
      rcases hO b with z | ⟨ob, xs, z⟩
      · exact un.keep b o e z (fun m => absurd (show b ∈ ([] : List Addr) from m) (by simp)) (by simp)
      · obtain ⟨e1, _⟩ := hok b _ z
        obtain ⟨e2, _⟩ := hok' b _ (un.frzs b ob _ z)
        rw [e] at e1; cases e1
        exact e2
  cases hk : K.lookup a with
  | some o =>
    have e := KX a o hk
    rw [ha] at e
    cases e
    exact run (fun _ => none) (fun _ => .inl rfl) (.inr ⟨_, vs.toArray, _, hk, rfl, rfl, rfl, by rw [List.size_toArray, hi.length]; exact hl, by simpa using rv⟩) (fun b u z => absurd (show (none : Option HO) = some u from z) (by simp)) fun b z => absurd rfl z
  | none =>
    have at1 : ∀ b u, (if b = a then some (HO.frz { cls := .type "list", data := .seq vs.toArray } (.lst (ns.map V.int))) else none) = some u → b = a ∧ u = .frz { cls := .type "list", data := .seq vs.toArray } (.lst (ns.map V.int)) := fun b u z => by
      by_cases q : b = a
      · rw [if_pos q] at z; cases z; exact ⟨q, rfl⟩
      · rw [if_neg q] at z; cases z
    refine run (fun b => if b = a then some (.frz { cls := .type "list", data := .seq vs.toArray } (.lst (ns.map V.int))) else none) (fun b => ?_) (.inl (.inr ⟨{ cls := .type "list", data := .seq vs.toArray }, if_pos rfl⟩)) (fun b u z => ?_) fun b z => ?_
    · by_cases q : b = a
      · exact .inr ⟨_, _, if_pos q⟩
      · exact .inl (if_neg q)
    · obtain ⟨rfl, rfl⟩ := at1 b u z
      exact ⟨ha, by rw [List.length_map]; exact hl, vs, _, rv, ha⟩
    · by_cases q : b = a
      · exact ⟨q, hk⟩
      · exact absurd (if_neg q) z
theorem walk1G {k : Nat} {l : PySem.W.OpenLaw} {q : Program} {loose : List Str} {XP : (Str → Option Value) → Heap → Prop} {YP : World → Heap → Prop} {d : DefRec} {K : Params → PySem.W.Frag} (hn : l.most = some 63) (hdf : d.params.defaults = []) (hr : Room k callerA)
    (hY : ∀ (w : World) (h : Heap), YP w h → (K w.params).In h)
    (F : ∀ (w : World) (mg : Str → Option Value) (h : Heap), (K w.params).In h → h.Ns mainGlobals mg → ∀ base : Heap, ∃ f, mg d.name = some (.ref f) ∧ RunC l.prog w (K w.params) mg base f (spLaw (K w.params))) :
    PySem.W.WalkO q loose XP YP l.row.toRowW d [] (fun f vs => PySem.call f vs) := by
  refine Att.attach_call (n := 63) hn hdf fun w s0 s1 mg mb fa o pm cd doc a vs ns G Y ho hd hcd hmg hobj hints hlen hg => ?_
  have KX := hY w _ Y
  have FF : ∀ base, RunC l.prog w (K w.params) mg base fa (spLaw (K w.params)) := fun base => by
    obtain ⟨f, hm, h⟩ := F w mg _ KX G.T.g base
    have e := hm.symm.trans hmg
    cases e
    exact h
  exact law_callG KX G.T.g G.T.b G.T.builtins G.T.nolimit hg hobj hints (Nat.le_trans hlen (by decide)) FF fun H hS => ⟨.ref a, rfl, a, ns, rfl, hS, hlen, fun _ => rfl⟩
end NB

/-! NPa: texts parted, repeated, looked for in texts; whether a caught error is of a class. -/
namespace NB
open PySem PySem.Spec PyProof.Rows L2 TL
/-! ### partition, rpartition -/
def rPart : V → List V → Hp → VK → Prop := fun x xs H Q => ∃ a b, x = .str a ∧ xs = [.str b] ∧ (b.length == 0) = false ∧ a.length ≤ sizeLine ∧
    ∀ p, H p = none → Q (.ref p) (upd H p (.tup [.str (Txt.partition a b).1, .str (Txt.partition a b).2.1, .str (Txt.partition a b).2.2]))
def rRPart : V → List V → Hp → VK → Prop := fun x xs H Q => ∃ a b, x = .str a ∧ xs = [.str b] ∧ (b.length == 0) = false ∧ a.length ≤ sizeLine ∧
    ∀ p, H p = none → Q (.ref p) (upd H p (.tup [.str (Txt.rpartition a b).1, .str (Txt.rpartition a b).2.1, .str (Txt.rpartition a b).2.2]))
theorem mt_rpartition {X : Cx} : MtR X "str.rpartition" rRPart := by
  intro pins s σ H x xs v us Q I rx rs h
  obtain ⟨a, b, rfl, rfl, hb, hz, h⟩ := h
  obtain ⟨t, rfl⟩ := rx
  cases rs with
  | cons r1 rs =>
    cases rs
    obtain ⟨u, rfl⟩ := r1
    refine call_meets PySem.F.slot_str_rpartition (typeIs_str _ _ _) PySem.F.entry_str_rpartition (PySem.F.args_str_rpartition_2 _ _) (PySem.meets_str_rpartition a b t u hb hz) ?_
    unfold Txt.rpartition at h
    revert h
    cases Builtin.Str.lastOccurrence a b 0 a.length with
    | none => intro h; exact laid_parts I h
    | some i => intro h; exact laid_parts I h
section
variable {X : Cx} {o e : Expr} {to te : TE} {apos pos : Pos}
theorem pe_partition2 (ho : PE X o to) (he : PE X e te) (hs : starEach [e] X.env = [(false, eval e X.env)] := by rfl) (hbase : attributeBase o "partition" X.env (eval o X.env) = eval o X.env := by rfl) (hline : (apos.endLine == pos.line) = true := by rfl) :
    PE X (.Call (.Attribute o "partition" apos) [e] [] pos) (tM1 rPart to te) := pe_partition ho he hs hbase hline
theorem pe_rpartition2 (ho : PE X o to) (he : PE X e te) (hs : starEach [e] X.env = [(false, eval e X.env)] := by rfl) (hbase : attributeBase o "rpartition" X.env (eval o X.env) = eval o X.env := by rfl) (hline : (apos.endLine == pos.line) = true := by rfl) :
    PE X (.Call (.Attribute o "rpartition" apos) [e] [] pos) (tM1 rRPart to te) := pe_m1 PySem.F.slot_str_rpartition PySem.F.type_str_rpartition mt_rpartition ho he hs hbase hline
end
def parS (a b : Str) : Str × Str × Str := match par (tl b) [] (tl a) with
  | some (u, v) => (ofL u, b, ofL v)
  | none => (a, Str.empty, Str.empty)
section
variable {H : Hp} {Q : VK} {a b : Str}
theorem r_part_s (hb : (b.length == 0) = false) (hb' : tl b ≠ []) (ha : a.length ≤ 1000000) (q : ∀ p H', H p = none → Kp No H H' → H' p = some (.tup [.str (parS a b).1, .str (parS a b).2.1, .str (parS a b).2.2]) → Q (.ref p) H') : rPart (.str a) [.str b] H Q :=
  ⟨a, b, rfl, rfl, hb, Nat.le_trans ha (by decide), fun p np => by
    have e : Txt.partition a b = parS a b := partition_par a b hb'
    rw [e]
    exact q p _ np (Kp.new Kp.refl np) upd_same⟩
theorem rpart_tail (a b : Str) : ∃ k, tl (Txt.rpartition a b).2.2 = (tl a).drop k := by
  unfold Txt.rpartition
  cases Builtin.Str.lastOccurrence a b 0 a.length with
  | none => exact ⟨0, rfl⟩
  | some i => exact ⟨i + b.length, by show tl (Builtin.Str.strSub a 0 i, b, Builtin.Str.strSub a (i + b.length) a.length).2.2 = _; rw [show (Builtin.Str.strSub a 0 i, b, Builtin.Str.strSub a (i + b.length) a.length).2.2 = Builtin.Str.strSub a (i + b.length) a.length from rfl, tl_strSub_end]⟩
theorem r_rpart_s (hb : (b.length == 0) = false) (ha : a.length ≤ 1000000) (q : ∀ (p : Addr) (x y z : Str) (k : Nat) H', H p = none → Kp No H H' → H' p = some (.tup [.str x, .str y, .str z]) → tl z = (tl a).drop k → Q (.ref p) H') : rRPart (.str a) [.str b] H Q :=
  ⟨a, b, rfl, rfl, hb, Nat.le_trans ha (by decide), fun p np => by
    obtain ⟨k, hk⟩ := rpart_tail a b
    exact q p _ _ _ k _ np (Kp.new Kp.refl np) upd_same hk⟩
end
/-! ### a text within a text -/
def rInS : R2 := fun x y H Q => ∃ i j, x = .str i ∧ y = .str j ∧ ∀ b : Bool, Q (.bl b) H
theorem op_inS {X : Cx} : OpR X (compareOp .In) rInS := by
  intro pins s σ H x y v u Q I rx ry h
  obtain ⟨i, j, rfl, rfl, h⟩ := h
  exact op_in_str pins s σ H _ _ v u Q I rx ry ⟨i, j, rfl, rfl, h _⟩
/-! ### text * int -/
def rMulS : R2 := fun x y H Q => ∃ (a : Str) (n : Int), x = .str a ∧ y = .int n ∧ 0 ≤ n ∧ n ≤ 100 ∧ a.length ≤ 10000 ∧ Q (.str (Txt.mul a n)) H
theorem op_mulS {X : Cx} : OpR X (binaryOp .Mult) rMulS := by
  intro pins s σ H x y v u Q I rx ry h
  obtain ⟨a, n, rfl, rfl, h0, h1, hl, q⟩ := h
  obtain ⟨t, rfl⟩ := rx
  obtain ⟨t', rfl⟩ := ry
  have hm : a.length * n.toNat ≤ 10000 * 100 := Nat.mul_le_mul hl (by omega)
  refine SB.mul ⟨?_, ?_, ?_⟩ fun t2 k => ⟨.str _, H, I.tok k, ⟨t2, rfl⟩, q⟩
  · rw [decide_eq_false (by omega), decide_eq_false (by omega)]; rfl
  · intro h2 h3 h4
    have : (a.length : Int) ≤ (2 ^ 63 - 1) / n := by
      refine (Int.le_ediv_iff_mul_le (by omega)).mpr ?_
      have e : (a.length : Int) * n = ((a.length * n.toNat : Nat) : Int) := by
        rw [Int.natCast_mul, Int.toNat_of_nonneg h0]
      rw [e]
      omega
    omega
  · intro h2 h3
    unfold Builtin.Str.tooLong
    exact decide_eq_false (by have : 10000 * 100 ≤ sizeLine := by decide
                              omega)
theorem mul_0 (a : Str) : Txt.mul a 0 = Str.empty := rfl
theorem mul_1 (a : Str) : Txt.mul a 1 = a := rfl
/-! ### None in a list -/
theorem op_inD2 {X : Cx} {K : PySem.W.Frag} (hu : X.A.units + 65 < cLine) (hK : X.K = K := by rfl) : OpR X (compareOp .In) (rInD K) := by subst hK; exact op_inD hu
theorem eqv_none : ∀ d : PyData, PyData.eqv d .none = (match d with | .none => true | _ => false)
  | .none => by decide +kernel
  | .bool b => by cases b <;> decide +kernel
  | .int i => by rfl
  | .str s => by rfl
  | .list l => by rfl
  | .tuple l => by rfl
  | .dict l => by rfl
/-! ### isinstance(e, c), e a caught error -/
def rIsX (K : PySem.W.Frag) (cls : Value) (d : Option Addr) (a : Addr) : List V → Hp → VK → Prop := fun xs H Q => ∃ D, cls = .ref D ∧ d = none ∧ L2.ExcC K D ∧
  ((∃ (c : V) (cv : Value) (b : Bool), xs = [.ref a, c] ∧ ClsV c cv ∧ PySem.W.kitOne K (.ref D) cv = some b ∧ Q (.bl b) H) ∨
   (∃ (tp : Addr) (cs : List V) (us : List Value) (b : Bool), xs = [.ref a, .ref tp] ∧ H tp = some (.tup cs) ∧ Paired ClsV cs us ∧ PySem.W.kitAny K (.ref D) us = some b ∧ Q (.bl b) H))
theorem call_isX {X : Cx} {K : PySem.W.Frag} {a : Addr} {cls : Value} {d : Option Addr} {oe : Obj} {pn : List (Addr × Obj)} (hz : Zc cls d oe) (hf : ∃ vs, oe.data = .fields vs) (hK : X.K = K := by rfl) : CallR (X.suite a ((a, oe) :: pn)) (.builtin "isinstance") (rIsX K cls d a) := by
  subst hK
  intro pins s σ H xs us Q I r h
  obtain ⟨D, rfl, rfl, C, h⟩ := h
  obtain ⟨hget, _⟩ := I.pin (a, oe) (List.mem_append.mpr (.inl List.mem_cons_self))
  obtain ⟨vs, hv⟩ := hf
  have J : PySem.W.InstAt s.heap a oe D none := by
    obtain ⟨oc, od, oda, osl⟩ := oe
    obtain ⟨h1, h2⟩ := hz
    dsimp only at h1 h2 hv
    subst h1 h2 hv
    exact ⟨hget, rfl, rfl, trivial⟩
  rcases h with ⟨c, cv, b, rfl, k, e, q⟩ | ⟨tp, cs, ws, b, rfl, hT, k, e, q⟩
  · obtain ⟨u1, u2, rfl, r1, r2⟩ := vals2 r
    cases (show u1 = Value.ref a from r1)
    have e2 := k.eq r2
    subst e2
    exact PySem.W.kia_one (PySem.W.handS_kitx_exc C.hg C.hk C.hs C.hd C.ha C.hn C.ht C.hm) I.kIn J e (fun z => nomatch z) fun tk => ⟨.bl b, H, I.kept (t' := tk) fun _ _ z => z, rfl, q⟩
  · obtain ⟨u1, u2, rfl, r1, r2⟩ := vals2 r
    cases (show u1 = Value.ref a from r1)
    cases (show u2 = Value.ref tp from r2)
    obtain ⟨_, its, rv, o, h1, h2, n, h3⟩ := (show ObjOk X.prog X.w H s.heap tp (.tup cs) from I.hok tp _ hT)
    have e3 := ClsV.all k rv
    subst e3
    obtain ⟨oc, od, dt, sl⟩ := o
    simp only at h2 h3
    subst h2 h3
    exact PySem.W.kia_tup (PySem.W.handS_kitx_exc C.hg C.hk C.hs C.hd C.ha C.hn C.ht C.hm) I.kIn J h1 e (fun z => nomatch z) fun tk => ⟨.bl b, H, I.kept (t' := tk) fun _ _ z => z, rfl, q⟩
/-- no class of these -/
theorem kitAny_no {K : PySem.W.Frag} {t : Value} : ∀ {us : List Value}, (∀ u ∈ us, PySem.W.kitOne K t u = some false) → PySem.W.kitAny K t us = some false
  | [], _ => rfl
  | u :: us, h => by
    unfold PySem.W.kitAny
    rw [h u List.mem_cons_self]
    exact kitAny_no fun z hz => h z (List.mem_cons_of_mem _ hz)
end NB

/-! NPb: parts by the first sign, and parts by all of them. -/
namespace NB
open PySem PySem.Spec PyProof.Rows L2 TL
theorem pre_eq {S l : List Nat} (h : pre S l = true) : l = S ++ l.drop S.length := by
  have e : l.take S.length = S := beq_iff_eq.mp h
  have e2 := List.take_append_drop S.length l
  rw [e] at e2
  exact e2.symm
theorem spl_par {S : List Nat} (hS : S ≠ []) : ∀ (L acc : List Nat), spl S 0 acc L = match par S acc L with
    | none => [acc ++ L]
    | some (a, b) => a :: spl S 0 [] b
  | [], acc => by rw [spl_nil, List.append_nil]; rfl
  | c :: r, acc => by
    cases h : pre S (c :: r) with
    | true =>
      rw [spl_hit h, par_hit h, spl_pass]
      obtain ⟨s, S', rfl⟩ := List.exists_cons_of_ne_nil hS
      rfl
    | false =>
      rw [spl_miss h, par_miss h, spl_par hS r (acc ++ [c]), List.append_assoc]
      rfl
theorem two_par {S : List Nat} (hS : S ≠ []) (w : List Nat) : two S w = match par S [] w with
    | none => none
    | some (a, b) => (match par S [] b with
      | none => some (a, b)
      | some _ => none) := by
  unfold two
  rw [spl_par hS w []]
  cases h : par S [] w with
  | none => rfl
  | some p =>
    obtain ⟨a, b⟩ := p
    show (match a :: spl S 0 [] b with | [a, b] => some (a, b) | _ => none) = (match par S [] b with | none => some (a, b) | some _ => none)
    rw [spl_par hS b []]
    cases h2 : par S [] b with
    | none => rfl
    | some q =>
      obtain ⟨a2, b2⟩ := q
      show (match a :: a2 :: spl S 0 [] b2 with | [a, b] => some (a, b) | _ => none) = none
      obtain ⟨y, ys, e⟩ := List.exists_cons_of_ne_nil (spl_ne S b2 0 [])
      rw [e]
theorem par_mem {s : Nat} {S l : List Nat} {p : List Nat × List Nat} (h : par (s :: S) [] l = some p) : s ∈ l := by
  by_cases hm : s ∈ l
  · exact hm
  · rw [par_none1 hm] at h
    cases h
theorem par_eq {S : List Nat} : ∀ (L acc a b : List Nat), par S acc L = some (a, b) → acc ++ L = a ++ (S ++ b)
  | [], acc, a, b, h => by cases h
  | c :: r, acc, a, b, h => by
    cases hp : pre S (c :: r) with
    | true =>
      rw [par_hit hp] at h
      cases h
      exact congrArg (acc ++ ·) (pre_eq hp)
    | false =>
      rw [par_miss hp] at h
      have := par_eq r (acc ++ [c]) a b h
      rwa [List.append_assoc] at this
theorem rdNum_off {l : List Nat} {c : Nat} (h : c ∈ l) (hc : isFig c = false) (h2 : c ≠ 45) : rdNum l = none := by
  refine rdNum_bad (c := c) ?_ hc
  unfold figsOf
  by_cases q : l.head? = some 45
  · rw [if_pos q]
    cases l with
    | nil => cases h
    | cons x r =>
      cases q
      rcases List.mem_cons.mp h with e | e
      · exact absurd e h2
      · exact e
  · rw [if_neg q]; exact h
theorem rdEnd_off {l : List Nat} {c : Nat} (h : c ∈ l) (hc : isFig c = false) (h2 : c ≠ 45) (h3 : c ≠ 42) : rdEnd l = none := by
  unfold rdEnd
  have e : l ≠ [42] := fun z => by
    rw [z] at h
    exact h3 (by simpa using h)
  rw [if_neg e, rdNum_off h hc h2]
  rfl
theorem u65 {n : Nat} {A : Around} (h : Room n A) : A.units + 65 < cLine := by have := h.un; omega
theorem own_pair : ∀ as : List Addr, Paired ClsV (as.map V.ref) (as.map Value.ref)
  | [] => .nil
  | a :: r => .cons (.own a) (own_pair r)
theorem r_isXT {K : PySem.W.Frag} {H : Hp} {Q : VK} {D a tp : Addr} (as : List Addr) (hT : H tp = some (.tup (as.map V.ref))) (C : L2.ExcC K D) (no : ∀ x ∈ as, PySem.W.kitOne K (.ref D) (.ref x) = some false) (q : Q (.bl false) H) : rIsX K (.ref D) none a [.ref a, .ref tp] H Q :=
  ⟨D, rfl, rfl, C, .inr ⟨tp, _, _, false, rfl, hT, own_pair as, kitAny_no fun u hu => by
    obtain ⟨x, hx, rfl⟩ := List.mem_map.mp hu
    exact no x hx, q⟩⟩
theorem r_isX1 {K : PySem.W.Frag} {H : Hp} {Q : VK} {D a C1 : Addr} {b : Bool} (C : L2.ExcC K D) (h : PySem.W.kitOne K (.ref D) (.ref C1) = some b) (q : Q (.bl b) H) : rIsX K (.ref D) none a [.ref a, .ref C1] H Q :=
  ⟨D, rfl, rfl, C, .inl ⟨.ref C1, .ref C1, b, rfl, .own C1, h, q⟩⟩
theorem r_isXB {K : PySem.W.Frag} {H : Hp} {Q : VK} {D a : Addr} {n : String} {b : Bool} (C : L2.ExcC K D) (h : PySem.W.kitOne K (.ref D) (.type n) = some b) (q : Q (.bl b) H) : rIsX K (.ref D) none a [.ref a, .ty n] H Q :=
  ⟨D, rfl, rfl, C, .inl ⟨.ty n, .type n, b, rfl, .ty n, h, q⟩⟩
/-- a part by the first signs -/
def partA (n : Int) (w : List Nat) : Option PyData := match par [58] [] w with
  | none => none
  | some (f, r) => if n = 3 then (match par [46, 46] [] r with
      | none => none
      | some (lo, hi) => (match rdEnd lo, rdEnd hi with
        | some a, some b => some (.tuple [.str (ofL f), a, b])
        | _, _ => none))
    else (rdNum r).map fun i => .tuple [.str (ofL f), .int i]
def partOf (n : Int) (w : List Nat) : Option PyData := if n = 3 then rdWishPart w else rdPiecePart w
theorem partA_eq (n : Int) (w : List Nat) : partA n w = partOf n w := by
  unfold partA partOf rdWishPart rdPiecePart
  rw [two_par (by simp)]
  cases h : par [58] [] w with
  | none => by_cases hn : n = 3 <;> simp [hn]
  | some p =>
    obtain ⟨f, r⟩ := p
    by_cases hn : n = 3
    · rw [if_pos hn]
      dsimp only
      rw [if_pos hn]
      cases h2 : par [58] [] r with
      | none =>
        dsimp only
        rw [two_par (by simp)]
        cases h3 : par [46, 46] [] r with
        | none => rfl
        | some q =>
          obtain ⟨lo, hi⟩ := q
          dsimp only
          cases h4 : par [46, 46] [] hi with
          | none => rfl
          | some z =>
            rw [rdEnd_off (par_mem h4) (by decide) (by decide) (by decide)]
            cases rdEnd lo <;> rfl
      | some q2 =>
        dsimp only
        cases h3 : par [46, 46] [] r with
        | none => rfl
        | some q =>
          obtain ⟨lo, hi⟩ := q
          dsimp only
          have e := par_eq r [] lo hi h3
          have hm := par_mem h2
          rw [List.nil_append] at e
          rw [e] at hm
          rcases List.mem_append.mp hm with hm | hm
          · rw [rdEnd_off hm (by decide) (by decide) (by decide)]
          · rcases List.mem_append.mp hm with hm | hm
            · exact absurd hm (by decide)
            · rw [rdEnd_off hm (by decide) (by decide) (by decide)]
              cases rdEnd lo <;> rfl
    · rw [if_neg hn]
      dsimp only
      rw [if_neg hn]
      cases h2 : par [58] [] r with
      | none => rfl
      | some q2 =>
        dsimp only
        rw [rdNum_off (par_mem h2) (by decide) (by decide)]
        rfl
end NB

/-! NPc: classes of errors, one beside the other. -/
namespace NB
open PySem PySem.Spec PyProof.Rows L2 TL
/-- an own class of errors, as far as asking goes -/
structure ClsC (K : PySem.W.Frag) (mg : Str → Option Value) (x : Str) (C : Addr) : Prop where
  gC : mg x = some (.ref C)
  bC : PySem.W.subIn K (.ref C) (.type "BaseException") = some true
  tC : PySem.W.typeIn K (.ref C) = some (.type "type")
  iC : PySem.W.isClsIn K C = true
  sC : PySem.W.subIn K (.ref C) (.ref C) = some true
theorem ExcC.cls {K : PySem.W.Frag} {mg : Str → Option Value} {x : Str} {C : Addr} (e : NB.ExcC K mg x C) : ClsC K mg x C := ⟨e.gC, e.bC, e.tC, e.iC, e.sC⟩
theorem cls_kit {K : PySem.W.Frag} {mg : Str → Option Value} {t : Value} {y : Str} {D : Addr} (d : ClsC K mg y D) : PySem.W.kitCls K t (.ref D) = PySem.W.subIn K t (.ref D) := by
  have i := d.iC
  have t := d.tC
  unfold PySem.W.isClsIn at i
  unfold PySem.W.kitCls
  simp [i, t]
theorem kit_sub {K : PySem.W.Frag} {mg : Str → Option Value} {x y : Str} {C D : Addr} {b : Bool} (e : ClsC K mg x C) (d : ClsC K mg y D) (h : PySem.W.subIn K (.ref C) (.ref D) = some b) : PySem.W.kitOne K (.ref C) (.ref D) = some b := by
  unfold PySem.W.kitOne
  by_cases q : (Value.ref C == Value.ref D) = true
  · rw [if_pos q]
    have e1 : C = D := Value.ref.inj (eq_of_beq q)
    subst e1
    rw [e.sC] at h
    exact h
  · rw [if_neg q, cls_kit d]
    exact h
theorem kit_val {K : PySem.W.Frag} {C : Addr} (h : PySem.W.subIn K (.ref C) (.type "ValueError") = some true) : PySem.W.kitOne K (.ref C) (.type "ValueError") = some true := by
  unfold PySem.W.kitOne
  rw [if_neg (by simp)]
  unfold PySem.W.kitCls
  have m : PySem.W.kitMeta "ValueError" = true := by decide +kernel
  show (if PySem.W.kitMeta "ValueError" = true then PySem.W.subIn K (.ref C) (.type "ValueError") else none) = _
  rw [if_pos m]
  exact h
theorem exm_sub {K : PySem.W.Frag} {mg : Str → Option Value} {y : Str} {C D : Addr} {b : Bool} (d : ClsC K mg y D) (h : PySem.W.subIn K (.ref C) (.ref D) = some b) : PySem.W.exmOne K (.ref C) (.ref D) = some b := by
  unfold PySem.W.exmOne
  rw [d.bC, if_pos (by rfl), cls_kit d]
  exact h
end NB

/-! NLt: letters read by the first signs, in plain Lean. -/
namespace NB
open PySem PySem.Spec PyProof.Rows L2 TL
theorem mapO_filt {α β : Type} {f : α → Option β} {p : β → Bool} : ∀ l : List α, mapO (fun a => (f a).filter p) l = (mapO f l).filter (fun bs => bs.all p)
  | [] => rfl
  | a :: r => by
    rw [mapO, mapO, mapO_filt r]
    cases f a with
    | none => rfl
    | some b =>
      cases mapO f r with
      | none => cases h : p b <;> simp [Option.filter, h]
      | some bs => cases h : p b <;> cases h2 : bs.all p <;> simp [Option.filter, h, h2]
def lwCourse (w : List Nat) : Option (List PyData) := (mapO rdInt (spl [45] 0 [] w)).filter fun ds => wayD (.tuple ds)
def lwMarks (w : List Nat) : Option (List PyData) := (rdMarks w).filter fun ds => marksD (.tuple ds)
def lwNews (t : List Nat) : Option (List PyData) := (rdNews (spl [32] 0 [] t)).filter fun l => newsD (.tuple l)
def lwPart (t : List Nat) : Option PyData := (lwNews t).map .tuple
/-- the letter behind its first word -/
def lwRest (w : List Nat) (bl : Bool) (rest : List Nat) : Option (List PyData) :=
  if w = wL "want" ∨ w = wL "unwant" then (if bl = true then (rdWish rest).map fun ds => [strD w, .tuple ds] else none)
  else if w = wL "news" then (lwNews rest).map fun r => .str sNews :: r
  else
    let parts := spl bar3 0 [] rest
    let words := spl [32] 0 [] (parts.headD [])
    if w = wL "here" then (match words with
      | [h, c] => if fieldL h = true then (match lwCourse c with
        | some ds => if parts.tail = [] then some [strD w, strD h, .tuple ds] else none
        | none => none) else none
      | _ => none)
    else if w = wL "kept" then (match words with
      | [h, c, m] => if fieldL h = true then (match lwCourse c, lwMarks m, mapO lwPart parts.tail with
        | some ds, some ms, some ps => some [strD w, strD h, .tuple ds, .tuple ms, .tuple ps]
        | _, _, _ => none) else none
      | _ => none)
    else none
def lwLetter (x : List Nat) : Option (List PyData) := match par [32] [] x with
  | none => lwRest x false []
  | some (w, rest) => lwRest w true rest
theorem joinL_spl {s : Nat} : ∀ (L acc : List Nat), joinL [s] (spl [s] 0 acc L) = acc ++ L
  | [], acc => by rw [spl_nil, List.append_nil]; rfl
  | c :: r, acc => by
    by_cases h : c = s
    · subst h
      have hp : pre [c] (c :: r) = true := by simp [pre]
      rw [spl_hit hp]
      show joinL [c] (acc :: spl [c] 0 [] r) = _
      obtain ⟨y, ys, e⟩ := List.exists_cons_of_ne_nil (spl_ne [c] r 0 [])
      have q := joinL_spl (s := c) r []
      rw [e] at q ⊢
      rw [joinL_cons2, q]
      simp
    · have hp : pre [s] (c :: r) = false := pre_of_head [] r h
      rw [spl_miss hp, joinL_spl r (acc ++ [c])]
      simp
theorem spl_first_free {s : Nat} {L u v : List Nat} (h : par [s] [] L = some (u, v)) : s ∉ u ∧ L = u ++ s :: v := by
  have go : ∀ (L acc u v : List Nat), s ∉ acc → par [s] acc L = some (u, v) → s ∉ u := fun L => by
    induction L with
    | nil => intro acc u v _ h; cases h
    | cons c r ih =>
      intro acc u v ha h
      by_cases hc : c = s
      · subst hc
        rw [par_hit (by simp [pre])] at h
        cases h
        exact ha
      · rw [par_miss (pre_of_head [] r hc)] at h
        refine ih (acc ++ [c]) u v ?_ h
        intro hm
        rcases List.mem_append.mp hm with z | z
        · exact ha z
        · exact hc (List.mem_singleton.mp z).symm
  have e := par_eq _ _ _ _ h
  refine ⟨go L [] u v (by simp) h, ?_⟩
  simpa using e
theorem par_no {s : Nat} {L : List Nat} (h : par [s] [] L = none) : s ∉ L := by
  intro hm
  obtain ⟨u, v, e⟩ := List.append_of_mem hm
  have go : ∀ (L acc : List Nat), s ∈ L → par [s] acc L ≠ none := fun L => by
    induction L with
    | nil => intro acc h; cases h
    | cons c r ih =>
      intro acc h
      by_cases hc : c = s
      · subst hc
        rw [par_hit (by simp [pre])]
        exact fun z => nomatch z
      · rw [par_miss (pre_of_head [] r hc)]
        rcases List.mem_cons.mp h with z | z
        · exact absurd z.symm hc
        · exact ih _ z
  exact go L [] hm h
theorem par_acc {S : List Nat} : ∀ (L a b : List Nat), par S (a ++ b) L = (par S b L).map fun q => (a ++ q.1, q.2)
  | [], a, b => rfl
  | c :: r, a, b => by
    cases h : pre S (c :: r) with
    | true => rw [par_hit h, par_hit h]; rfl
    | false => rw [par_miss h, par_miss h, List.append_assoc, par_acc r a (b ++ [c])]
theorem spl_acc {S : List Nat} (hS : S ≠ []) (L acc : List Nat) : ∃ h t, spl S 0 [] L = h :: t ∧ spl S 0 acc L = (acc ++ h) :: t := by
  have q := par_acc (S := S) L acc []
  rw [List.append_nil] at q
  rw [spl_par hS L [], spl_par hS L acc, q]
  cases par S [] L with
  | none => exact ⟨L, [], rfl, rfl⟩
  | some p => exact ⟨p.1, spl S 0 [] p.2, rfl, rfl⟩
/-- what no blank begins in is passed over -/
theorem spl_bar_w : ∀ (w L acc : List Nat), 32 ∉ w → spl bar3 0 acc (w ++ L) = spl bar3 0 (acc ++ w) L
  | [], L, acc, _ => by rw [List.append_nil]; rfl
  | c :: r, L, acc, h => by
    have hc : c ≠ 32 := fun z => h (by rw [z]; exact List.mem_cons_self)
    have hp : pre bar3 (c :: (r ++ L)) = false := pre_of_head [124, 32] _ hc
    show spl bar3 0 acc (c :: (r ++ L)) = _
    rw [spl_miss hp, spl_bar_w r L _ (fun z => h (List.mem_cons_of_mem _ z)), List.append_assoc]
    rfl
theorem strD_w (s : String) : strD (wL s) = .str (Str.ofString s) := by
  unfold strD wL
  rw [ofL_tl]
theorem fieldD_strD (l : List Nat) : fieldD (strD l) = fieldL l := by
  show fieldL (tl (ofL l)) = _
  rw [tl_ofL]
/-- a letter of a hand, by its first word and what stands behind it -/
theorem rdMoving_eq {w rest h : List Nat} {t : List (List Nat)} (hw : 32 ∉ w) (hb : pre bar3 (32 :: rest) = false) (hs : spl bar3 0 [] rest = h :: t) : rdMoving (w ++ 32 :: rest) = match spl [32] 0 [] h with
    | [hh, c] => (mapO rdInt (spl [45] 0 [] c)).map fun ds => [strD w, strD hh, .tuple ds] ++ t.map strD
    | [hh, c, m] => (match mapO rdInt (spl [45] 0 [] c), mapO rdPart t, rdMarks m with
      | some ds, some ps, some ms => some [strD w, strD hh, .tuple ds, .tuple ms, .tuple ps]
      | _, _, _ => none)
    | _ => none := by
  have e1 : spl bar3 0 [] (w ++ 32 :: rest) = (w ++ 32 :: h) :: t := by
    rw [spl_bar_w w _ _ hw, List.nil_append, spl_miss hb]
    obtain ⟨h', t', q1, q2⟩ := spl_acc (S := bar3) (by decide) rest (w ++ [32])
    rw [hs] at q1
    cases q1
    rw [q2]
    simp
  have e2 : spl [32] 0 [] (w ++ 32 :: h) = w :: spl [32] 0 [] h := spl_first hw
  unfold rdMoving
  rw [e1]
  show (match spl [32] 0 [] (w ++ 32 :: h) with
    | [w, h, c] => (mapO rdInt (spl [45] 0 [] c)).map fun ds => [strD w, strD h, .tuple ds] ++ t.map strD
    | [w, h, c, m] => (match mapO rdInt (spl [45] 0 [] c), mapO rdPart t, rdMarks m with
      | some ds, some ps, some ms => some [strD w, strD h, .tuple ds, .tuple ms, .tuple ps]
      | _, _, _ => none)
    | _ => none) = _
  rw [e2]
  rcases spl [32] 0 [] h with _ | ⟨a, _ | ⟨b, _ | ⟨c, _ | ⟨d, r⟩⟩⟩⟩ <;> rfl
theorem rdMoving_bar {w rest : List Nat} (hw : 32 ∉ w) (hb : pre bar3 (32 :: rest) = true) : rdMoving (w ++ 32 :: rest) = none := by
  have e1 : ∃ t, spl bar3 0 [] (w ++ 32 :: rest) = w :: t := by
    rw [spl_bar_w w _ _ hw, List.nil_append, spl_hit hb]
    exact ⟨_, rfl⟩
  obtain ⟨t, e1⟩ := e1
  unfold rdMoving
  rw [e1]
  show (match spl [32] 0 [] w with
    | [w, h, c] => (mapO rdInt (spl [45] 0 [] c)).map fun ds => [strD w, strD h, .tuple ds] ++ t.map strD
    | [w, h, c, m] => (match mapO rdInt (spl [45] 0 [] c), mapO rdPart t, rdMarks m with
      | some ds, some ps, some ms => some [strD w, strD h, .tuple ds, .tuple ms, .tuple ps]
      | _, _, _ => none)
    | _ => none) = _
  rw [spl_last0 hw]
end NB

/-! NLu: the letter that a text writes, told by the first signs. -/
namespace NB
open PySem PySem.Spec PyProof.Rows L2 TL
/-- what read_letter makes of what was read -/
def good (o : Option (List PyData)) : Option (List PyData) := match o with
  | some l => if letterD (.tuple l) = true then some l else none
  | none => none
theorem ofL_inj {a b : List Nat} (h : ofL a = ofL b) : a = b := by
  have := congrArg tl h
  rwa [tl_ofL, tl_ofL] at this
theorem ofL_w {w : List Nat} {s : String} (h : w ≠ wL s) : ofL w ≠ Str.ofString s := fun z => h (by
  have := congrArg tl z
  rw [tl_ofL] at this
  exact this)
theorem rdNews_kind {ws : List (List Nat)} {l : List PyData} (h : rdNews ws = some l) : ∃ i j p, l = [.int i, .int j, .tuple p] := by
  unfold rdNews at h
  split at h
  · split at h
    · cases h; exact ⟨_, _, _, rfl⟩
    · cases h
  · cases h
theorem lwPart_mapO (t : List (List Nat)) : mapO lwPart t = (mapO rdPart t).filter fun ps => ps.all newsD := by
  rw [← mapO_filt (f := rdPart) (p := newsD) t]
  congr 1
  funext w
  unfold lwPart lwNews rdPart
  cases rdNews (spl [32] 0 [] w) with
  | none => rfl
  | some l => cases h : newsD (.tuple l) <;> simp [Option.filter, h]
theorem letterD_cons {w : Str} {r : List PyData} : letterD (.tuple (.str w :: r)) = (decide (1 ≤ r.length) && letterGo w r) := rfl
theorem here_go {hh : List Nat} {ds : List PyData} {t : List (List Nat)} : letterD (.tuple ([strD (wL "here"), strD hh, .tuple ds] ++ t.map strD)) = (decide (t = []) && (fieldL hh && wayD (.tuple ds))) := by
  rw [strD_w]
  cases t with
  | nil =>
    show (decide (1 ≤ 2) && letterGo (Str.ofString "here") [strD hh, .tuple ds]) = _
    have e : letterGo (Str.ofString "here") [strD hh, .tuple ds] = (fieldD (strD hh) && wayD (.tuple ds)) := by
      unfold letterGo
      rw [if_neg (by decide +kernel), if_neg (by decide +kernel), if_pos (by rfl)]
    rw [e, fieldD_strD]; rfl
  | cons a r =>
    show letterD (.tuple (.str (Str.ofString "here") :: strD hh :: .tuple ds :: strD a :: r.map strD)) = _
    rw [letterD_cons]
    have e : letterGo (Str.ofString "here") (strD hh :: .tuple ds :: strD a :: r.map strD) = false := by
      unfold letterGo
      rw [if_neg (by decide +kernel), if_neg (by decide +kernel), if_pos (by rfl)]
    rw [e, Bool.and_false]; rfl
theorem here_go4 {hh : List Nat} {ds ms ps : List PyData} : letterD (.tuple [strD (wL "here"), strD hh, .tuple ds, .tuple ms, .tuple ps]) = false := by
  rw [strD_w]
  rw [letterD_cons]
  have e : letterGo (Str.ofString "here") [strD hh, .tuple ds, .tuple ms, .tuple ps] = false := by
    unfold letterGo
    rw [if_neg (by decide +kernel), if_neg (by decide +kernel), if_pos (by rfl)]
  rw [e, Bool.and_false]
theorem kept_go {hh : List Nat} {ds ms ps : List PyData} : letterD (.tuple [strD (wL "kept"), strD hh, .tuple ds, .tuple ms, .tuple ps]) = (fieldL hh && (wayD (.tuple ds) && (marksD (.tuple ms) && ps.all newsD))) := by
  rw [strD_w]
  show (decide (1 ≤ 4) && letterGo (Str.ofString "kept") [strD hh, .tuple ds, .tuple ms, .tuple ps]) = _
  have e : letterGo (Str.ofString "kept") [strD hh, .tuple ds, .tuple ms, .tuple ps] = keptD [strD hh, .tuple ds, .tuple ms, .tuple ps] := by
    unfold letterGo
    rw [if_neg (by decide +kernel), if_neg (by decide +kernel), if_neg (by decide +kernel), if_pos (by rfl)]
  rw [e]
  show (_ && (fieldD (strD hh) && (wayD (.tuple ds) && (marksD (.tuple ms) && ps.all newsD)))) = _
  rw [fieldD_strD]; rfl
theorem kept_go3 {hh : List Nat} {ds : List PyData} {t : List (List Nat)} : letterD (.tuple ([strD (wL "kept"), strD hh, .tuple ds] ++ t.map strD)) = false := by
  rw [strD_w]
  show letterD (.tuple (.str (Str.ofString "kept") :: strD hh :: .tuple ds :: t.map strD)) = _
  rw [letterD_cons]
  have e : letterGo (Str.ofString "kept") (strD hh :: .tuple ds :: t.map strD) = keptD (strD hh :: .tuple ds :: t.map strD) := by
    unfold letterGo
    rw [if_neg (by decide +kernel), if_neg (by decide +kernel), if_neg (by decide +kernel), if_pos (by rfl)]
  have k : keptD (strD hh :: .tuple ds :: t.map strD) = false := by
    match t with
    | [] => rfl
    | [_] => rfl
    | [a, b] =>
      show (fieldD (strD hh) && (wayD (.tuple ds) && (false && newsAll (strD b)))) = false
      simp
    | _ :: _ :: _ :: _ => rfl
  rw [e, k, Bool.and_false]
theorem other_go {w : List Nat} {r : List PyData} (h1 : w ≠ wL "want") (h2 : w ≠ wL "unwant") (h3 : w ≠ wL "news") (h4 : w ≠ wL "here") (h5 : w ≠ wL "kept") : letterD (.tuple (strD w :: r)) = false := by
  show letterD (.tuple (.str (ofL w) :: r)) = false
  rw [letterD_cons]
  have e : letterGo (ofL w) r = false := by
    unfold letterGo
    rw [if_neg (fun z => z.elim (ofL_w h1) (ofL_w h2)), if_neg (show ¬ ofL w = sNews from ofL_w h3), if_neg (show ¬ ofL w = sHere from ofL_w h4), if_neg (show ¬ ofL w = sKept from ofL_w h5)]
  rw [e, Bool.and_false]
theorem field_bar {r : List Nat} : fieldL (124 :: r) = false := by
  cases h : fieldL (124 :: r) with
  | false => rfl
  | true =>
    have := (fieldL_iff.mp h).2.2 124 List.mem_cons_self
    omega
theorem rdWish_nil : rdWish [] = none := by rfl
/-- behind the first word, neither a wish nor news -/
theorem rest_eq {w rest : List Nat} (hw : 32 ∉ w) (h1 : w ≠ wL "want") (h2 : w ≠ wL "unwant") (h3 : w ≠ wL "news") : lwRest w true rest = good (rdMoving (w ++ 32 :: rest)) := by
  obtain ⟨h, t, hs⟩ := List.exists_cons_of_ne_nil (spl_ne bar3 rest 0 [])
  have e0 : lwRest w true rest = (if w = wL "here" then (match spl [32] 0 [] h with
      | [h, c] => if fieldL h = true then (match lwCourse c with
        | some ds => if t = [] then some [strD w, strD h, .tuple ds] else none
        | none => none) else none
      | _ => none)
    else if w = wL "kept" then (match spl [32] 0 [] h with
      | [h, c, m] => if fieldL h = true then (match lwCourse c, lwMarks m, mapO lwPart t with
        | some ds, some ms, some ps => some [strD w, strD h, .tuple ds, .tuple ms, .tuple ps]
        | _, _, _ => none) else none
      | _ => none)
    else none) := by
    unfold lwRest
    rw [if_neg (fun z => z.elim h1 h2), if_neg h3, hs]
    rfl
  rw [e0]
  cases hb : pre bar3 (32 :: rest) with
  | true =>
    rw [rdMoving_bar hw hb]
    -- what stands behind begins with a stroke
    obtain ⟨r, hr⟩ : ∃ r, rest = 124 :: r := by
      unfold pre bar3 at hb
      cases rest with
      | nil => simp at hb
      | cons c r =>
        have hb := eq_of_beq hb
        simp at hb
        exact ⟨r, by rw [hb.1]⟩
    have hh : ∃ h', h = 124 :: h' := by
      rw [hr, spl_miss (show pre bar3 (124 :: r) = false from pre_of_head [124, 32] r (by decide))] at hs
      obtain ⟨h', t', _, q2⟩ := spl_acc (S := bar3) (by decide) r [124]
      rw [List.nil_append, q2] at hs
      cases hs
      exact ⟨h', rfl⟩
    obtain ⟨h', rfl⟩ := hh
    have hw2 : ∃ a u, spl [32] 0 [] (124 :: h') = (124 :: a) :: u := by
      rw [spl_miss (pre_of_head [] h' (by decide))]
      obtain ⟨a, u, _, q2⟩ := spl_acc (S := [32]) (by simp) h' [124]
      exact ⟨a, u, by rw [List.nil_append, q2]; rfl⟩
    obtain ⟨a, u, e⟩ := hw2
    rw [e]
    show _ = none
    split
    · match u with
      | [] => rfl
      | [c] => show (if fieldL (124 :: a) = true then _ else none) = none; rw [field_bar]; rfl
      | _ :: _ :: _ => rfl
    · split
      · match u with
        | [] => rfl
        | [_] => rfl
        | [c, m] => show (if fieldL (124 :: a) = true then _ else none) = none; rw [field_bar]; rfl
        | _ :: _ :: _ :: _ => rfl
      · rfl
  | false =>
    rw [rdMoving_eq hw hb hs]
    by_cases hh : w = wL "here"
    · subst hh
      rw [if_pos rfl]
      rcases spl [32] 0 [] h with _ | ⟨a, _ | ⟨b, _ | ⟨c, _ | ⟨d, r⟩⟩⟩⟩
      · rfl
      · rfl
      · show (if fieldL a = true then (match lwCourse b with
          | some ds => if t = [] then some [strD (wL "here"), strD a, .tuple ds] else none
          | none => none) else none) = good ((mapO rdInt (spl [45] 0 [] b)).map fun ds => [strD (wL "here"), strD a, .tuple ds] ++ t.map strD)
        unfold lwCourse
        cases mapO rdInt (spl [45] 0 [] b) with
        | none => cases fieldL a <;> rfl
        | some ds =>
          show _ = (if letterD (.tuple ([strD (wL "here"), strD a, .tuple ds] ++ t.map strD)) = true then some ([strD (wL "here"), strD a, .tuple ds] ++ t.map strD) else none)
          rw [here_go]
          cases hf : fieldL a <;> cases hd : wayD (.tuple ds) <;> by_cases ht : t = [] <;> simp [Option.filter, hd, ht]
      · show none = good (match mapO rdInt (spl [45] 0 [] b), mapO rdPart t, rdMarks c with
          | some ds, some ps, some ms => some [strD (wL "here"), strD a, .tuple ds, .tuple ms, .tuple ps]
          | _, _, _ => none)
        cases mapO rdInt (spl [45] 0 [] b) <;> cases mapO rdPart t <;> cases rdMarks c <;> rfl
      · rfl
    · rw [if_neg hh]
      by_cases hk : w = wL "kept"
      · subst hk
        rw [if_pos rfl]
        rcases spl [32] 0 [] h with _ | ⟨a, _ | ⟨b, _ | ⟨c, _ | ⟨d, r⟩⟩⟩⟩
        · rfl
        · rfl
        · show none = good ((mapO rdInt (spl [45] 0 [] b)).map fun ds => [strD (wL "kept"), strD a, .tuple ds] ++ t.map strD)
          cases mapO rdInt (spl [45] 0 [] b) with
          | none => rfl
          | some ds =>
            show none = (if letterD (.tuple ([strD (wL "kept"), strD a, .tuple ds] ++ t.map strD)) = true then _ else none)
            rw [kept_go3]; rfl
        · show (if fieldL a = true then (match lwCourse b, lwMarks c, mapO lwPart t with
            | some ds, some ms, some ps => some [strD (wL "kept"), strD a, .tuple ds, .tuple ms, .tuple ps]
            | _, _, _ => none) else none) = good (match mapO rdInt (spl [45] 0 [] b), mapO rdPart t, rdMarks c with
            | some ds, some ps, some ms => some [strD (wL "kept"), strD a, .tuple ds, .tuple ms, .tuple ps]
            | _, _, _ => none)
          rw [lwPart_mapO]
          unfold lwCourse lwMarks
          cases mapO rdInt (spl [45] 0 [] b) with
          | none => cases fieldL a <;> rfl
          | some ds =>
            cases mapO rdPart t with
            | none =>
              cases fieldL a <;> cases hd : wayD (.tuple ds) <;> cases rdMarks c <;> simp [Option.filter, hd, good]
            | some ps =>
              cases rdMarks c with
              | none => cases fieldL a <;> cases hd : wayD (.tuple ds) <;> cases hp : ps.all newsD <;> simp [Option.filter, hd, hp, good]
              | some ms =>
                show _ = (if letterD (.tuple [strD (wL "kept"), strD a, .tuple ds, .tuple ms, .tuple ps]) = true then some [strD (wL "kept"), strD a, .tuple ds, .tuple ms, .tuple ps] else none)
                rw [kept_go]
                cases hf : fieldL a <;> cases hd : wayD (.tuple ds) <;> cases hm : marksD (.tuple ms) <;> cases hp : ps.all newsD <;> simp [Option.filter, hd, hp, hm]
        · rfl
      · rw [if_neg hk]
        have go : ∀ r : List PyData, good (some (strD w :: r)) = none := fun r => by
          show (if letterD (.tuple (strD w :: r)) = true then _ else none) = none
          rw [other_go h1 h2 h3 hh hk]; rfl
        rcases spl [32] 0 [] h with _ | ⟨a, _ | ⟨b, _ | ⟨c, _ | ⟨d, r⟩⟩⟩⟩
        · rfl
        · rfl
        · show none = good ((mapO rdInt (spl [45] 0 [] b)).map fun ds => [strD w, strD a, .tuple ds] ++ t.map strD)
          cases mapO rdInt (spl [45] 0 [] b) with
          | none => rfl
          | some ds => exact (go _).symm
        · show none = good (match mapO rdInt (spl [45] 0 [] b), mapO rdPart t, rdMarks c with
            | some ds, some ps, some ms => some [strD w, strD a, .tuple ds, .tuple ms, .tuple ps]
            | _, _, _ => none)
          cases mapO rdInt (spl [45] 0 [] b) <;> cases mapO rdPart t <;> cases rdMarks c <;> first | rfl | exact (go _).symm
        · rfl
theorem rdLetter_want {x : List Nat} {ws : List (List Nat)} {w : List Nat} (e : spl [32] 0 [] x = w :: ws) (h : w = wL "want" ∨ w = wL "unwant") : rdLetter x = (rdWish (joinL [32] ws)).map fun ds => [strD w, .tuple ds] := by
  unfold rdLetter
  rw [e]
  show (if w = wL "want" ∨ w = wL "unwant" then _ else _) = _
  rw [if_pos h]
  rfl
theorem rdLetter_else {x : List Nat} {ws : List (List Nat)} {w : List Nat} (e : spl [32] 0 [] x = w :: ws) (h : ¬ (w = wL "want" ∨ w = wL "unwant")) : rdLetter x = good (if w = wL "news" then (rdNews ws).map fun r => .str sNews :: r else rdMoving x) := by
  have e0 : rdLetter0 x = (if w = wL "news" then (rdNews ws).map fun r => .str sNews :: r else rdMoving x) := by
    unfold rdLetter0
    rw [e]
    rfl
  rw [← e0]
  unfold rdLetter
  rw [e]
  show (if w = wL "want" ∨ w = wL "unwant" then _ else _) = _
  rw [if_neg h]
  rfl
theorem good_newsL (ws : List (List Nat)) : good ((rdNews ws).map fun r => .str sNews :: r) = ((rdNews ws).filter fun l => newsD (.tuple l)).map fun r => .str sNews :: r := by
  cases h : rdNews ws with
  | none => rfl
  | some l =>
    obtain ⟨i, j, p, rfl⟩ := rdNews_kind h
    show (if letterD (.tuple (.str sNews :: [.int i, .int j, .tuple p])) = true then _ else none) = _
    rw [letterD_cons]
    have e : letterGo sNews [.int i, .int j, .tuple p] = newsD (.tuple [.int i, .int j, .tuple p]) := by
      unfold letterGo
      rw [if_neg (by decide +kernel), if_pos rfl]
    rw [e]
    cases hn : newsD (.tuple [.int i, .int j, .tuple p]) <;> simp [Option.filter, hn]
theorem lwLetter_eq (x : List Nat) : lwLetter x = rdLetter x := by
  unfold lwLetter
  have hsp := spl_par (S := [32]) (by simp) x []
  cases hp : par [32] [] x with
  | none =>
    have hx := par_no hp
    rw [hp] at hsp
    rw [List.nil_append] at hsp
    dsimp only at hsp ⊢
    by_cases hw : x = wL "want" ∨ x = wL "unwant"
    · rw [rdLetter_want hsp hw]
      unfold lwRest
      rw [if_pos hw]
      rw [show joinL [32] ([] : List (List Nat)) = [] from rfl, rdWish_nil]
      rfl
    · rw [rdLetter_else hsp hw]
      unfold lwRest
      rw [if_neg hw]
      by_cases hn : x = wL "news"
      · rw [if_pos hn, if_pos hn]
        rfl
      · rw [if_neg hn, if_neg hn]
        have e1 : spl bar3 0 [] x = [x] := by
          have := spl_bar_w x [] [] hx
          rw [List.append_nil, List.nil_append, spl_nil] at this
          exact this
        have e2 : rdMoving x = none := by
          unfold rdMoving
          rw [e1]
          show (match spl [32] 0 [] x with
            | [w, h, c] => (mapO rdInt (spl [45] 0 [] c)).map fun ds => [strD w, strD h, .tuple ds] ++ ([] : List (List Nat)).map strD
            | [w, h, c, m] => (match mapO rdInt (spl [45] 0 [] c), mapO rdPart [], rdMarks m with
              | some ds, some ps, some ms => some [strD w, strD h, .tuple ds, .tuple ms, .tuple ps]
              | _, _, _ => none)
            | _ => none) = none
          rw [hsp]
        rw [e2]
        show (if x = wL "here" then none else if x = wL "kept" then none else none) = none
        split
        · rfl
        · split <;> rfl
  | some q =>
    obtain ⟨w, rest⟩ := q
    obtain ⟨hw0, hx⟩ := spl_first_free hp
    rw [hp] at hsp
    dsimp only at hsp ⊢
    by_cases hw : w = wL "want" ∨ w = wL "unwant"
    · rw [rdLetter_want hsp hw, joinL_spl, List.nil_append]
      unfold lwRest
      rw [if_pos hw, if_pos rfl]
    · rw [rdLetter_else hsp hw]
      by_cases hn : w = wL "news"
      · rw [if_pos hn, good_newsL]
        unfold lwRest
        rw [if_neg hw, if_pos hn]
        rfl
      · rw [if_neg hn, hx]
        exact rest_eq hw0 (fun z => hw (.inl z)) (fun z => hw (.inr z)) hn
end NB

/-! NLv: set(list of ints): how many, and in order. -/
namespace NB
open PySem PySem.Spec PyProof.Rows L2 PySem.Froz
section
variable {P : Program} {w : World} {A : Around} {E : Value → Shared → Prop} {s : Shared}
set_option maxHeartbeats 8000000 in
/-- set(l), l a list of ints -/
theorem callSetNs {l : Addr} {items : Array Value} (ns : List Int) {Q : Value → Shared → Prop} (calm : A.handled = none) (li : s.heap.IsList l items) (tx : IntsAre items.toList ns) (few : ns.length + 1 < scanBound)
    (post : ∀ h' tk, (∃ c, c ≤ ns.length ∧ SetR w h' s.heap.objs.size (fun j => decide (j ∈ ns)) c) → (∀ b o, s.heap.get? b = some o → h'.get? b = some o) → Q (.ref s.heap.objs.size) { s with heap := h', toks := tk }) :
    wpAny (model P w) A (call (.type "set") [.ref l]) Q E s := by
  have sz : items.size = ns.length := by rw [← Array.length_toList]; exact IntsAre.length tx
  obtain ⟨cc, tl, hmro⟩ := F.called_set.mro
  have hmade := F.called_set.made
  have hsub := F.called_set.sub
  refine wpAny_call (codeAny_of_tree ?_)
  show wpAny _ _ (callAny (.type "set") _) _ _ _
  refine wpAny_pure ⟨Code.quiet_builtin _ (by decide +kernel), codeAny_builtin F.entry_type_call ?_⟩
  rw [Around.under_plain (weight_type_call_type "set" [.ref l] []) rfl]
  have f1 := F.called_set.notType
  have f2 := F.called_set.canCreate
  have f3 := F.typeCall_set_1 (.ref l)
  repeat (any_goals (first | assumption | wp_step))
  refine codeAny_mono (code_set_led1 (.ref l) (E := E) (Q₁ := fun v t => v = .ref s.heap.objs.size ∧ t = { s with heap := s.heap.push (set0 w) }) ⟨rfl, rfl⟩) fun r t hr => ?_
  match r, hr with
  | .error _, hr => exact hr
  | .ok (.ret _), hr =>
    obtain ⟨rfl, rfl⟩ := hr
    have new : (s.heap.push (set0 w)).get? s.heap.objs.size = some (set0 w) := Heap.get?_push_size _ rfl
    have ty : Shared.TypeIs { s with heap := s.heap.push (set0 w) } (.ref s.heap.objs.size) "set" := ⟨_, new, rfl⟩
    have f4 := F.called_set.init.lookup
    have f5 := F.called_set.init.bind (.ref s.heap.objs.size)
    repeat (any_goals (first | assumption | wp_step))
    refine codeAny_mono (codeAny_call_builtin (R := wants (fun v t => v = .none ∧ ∃ h' tk, t = { s with heap := h', toks := tk } ∧ (∃ c, c ≤ ns.length ∧ SetR w h' s.heap.objs.size (fun j => decide (j ∈ ns)) c) ∧ (∀ b o, s.heap.get? b = some o → h'.get? b = some o)) E) F.called_set.init.plain F.entry_set_init (check_set_init_1 ty ?_)) fun r2 t2 hr2 => ?_
    · obtain ⟨ob, at_l, hcl, nl, hdl⟩ := li
      obtain ⟨oc, od, dta, osl⟩ := ob
      simp only at hcl hdl
      subst hcl hdl
      have at_l2 : (s.heap.push (set0 w)).get? l = some { cls := .type "list", dict := od, data := .seq items nl, slots := osl } := Heap.get?_push_of_some _ at_l
      have f6 := F.sub_list_set
      have f7 := F.sub_list_frozenset
      have f8 : (Value.type "list" == Value.type "dict") = false := by decide
      have li2 : (s.heap.push (set0 w)).IsList l items := ⟨_, at_l2, rfl, nl, rfl⟩
      unfold Builtin.«set.__init__» noKeywords Builtin.Frozenset.updateFrom
      generalize hPI : pyIter = PI
      wp_walk
      subst hPI
      refine wpAny_pyIter_list li2 (wpAny_bind (wpAny_runValue ?_))
      have lt_l : l < s.heap.objs.size := Heap.lt_size at_l
      have calm3 : A.in1.in1.in1.handled = none := by simp [calm]
      have ne1 : l ≠ (s.heap.push (set0 w)).objs.size := by rw [Heap.size_push]; exact Nat.ne_of_lt (Nat.lt_succ_of_lt lt_l)
      have off : s.heap.objs.size ∉ [(s.heap.push (set0 w)).objs.size, l] := by
        rw [Heap.size_push]
        intro m
        rcases List.mem_cons.mp m with e | m
        · exact absurd e (Nat.ne_of_lt (Nat.lt_succ_self _))
        · exact absurd (List.mem_singleton.mp m) (Nat.ne_of_gt lt_l)
      have val : ∀ (i : Nat) (v : Value), items[i]? = some v → ∃ k t, ns[i]? = some k ∧ v = .int k t := fun i v hv => by
        have hi : i < ns.length := by rw [← sz]; exact (Array.getElem?_eq_some_iff.mp hv).1
        obtain ⟨t, e⟩ := PyProof.Rows.IntsAre.int_at tx i v (by rw [Array.getElem?_toList]; exact hv)
        exact ⟨ns[i], t, List.getElem?_eq_getElem hi, by rw [e, List.getD_eq_getElem?_getD, List.getElem?_eq_getElem hi]; rfl⟩
      refine set_update_ints ((Walks.list calm3 _ l ne1 items).toS) s.heap.objs.size off ns sz few val (items.size - 0) 0 _ (by omega) (Nat.zero_le _)
        ⟨⟨_, Heap.get?_push_size _ rfl, rfl, rfl⟩, li2.push _⟩ ⟨0, Nat.le_refl 0, setR_new_at (Heap.get?_push_of_some _ new)⟩ fun s' cn mv le g => ?_
      · rw [sz] at le
        obtain ⟨h', g1, d1, tk', os1⟩ := s'
        obtain rfl : g1 = s.gens := mv.gens
        obtain rfl : d1 = s.drawn := mv.drawn
        obtain rfl : os1 = s.os := mv.os
        show wpAny _ _ _ _ _ _
        refine wpAny_pure ?_
        show wpAny _ _ (ret Value.none) _ _ _
        refine wpAny_pure ⟨rfl, h', tk', rfl, ⟨cn, le, g⟩, fun b o e => ?_⟩
        have lt_b : b < s.heap.objs.size := Heap.lt_size e
        refine mv.heap b o (fun m => ?_) (Heap.get?_push_of_some _ (Heap.get?_push_of_some _ e))
        rcases List.mem_cons.mp m with q | m
        · exact Nat.ne_of_lt lt_b q
        · have q := List.mem_singleton.mp m
          rw [Heap.size_push] at q
          exact Nat.ne_of_lt (Nat.lt_succ_of_lt lt_b) q
    · match r2, hr2 with
      | .error _, hr2 => exact hr2
      | .ok (.ret _), hr2 =>
        obtain ⟨rfl, h', tk, rfl, g, kp⟩ := hr2
        repeat (any_goals (first | assumption | wp_step))
        exact post _ _ g kp
end
end NB

/-! NLw: len(set(l)), sorted(set(l)), l a list of ints. -/
namespace NB
open PySem PySem.Spec PyProof.Rows L2 TL
/-- len(set(l)), l a list of ints -/
def tLenSetL (K : PySem.W.Frag) (ta : TE) : TE := fun σ H Q => ta σ H fun x H1 => ∃ (l : Addr) (ns : List Int), x = .ref l ∧ SqL K H1 l (ns.map V.int) ∧ ns.length + 1 < scanBound ∧ ∀ c : Nat, (c = ns.length ↔ ns.Nodup) → c ≤ ns.length → Q (.int (c : Int)) H1
section
variable {X : Cx}
theorem pe_lenSetL {K : PySem.W.Frag} {a : Expr} {ta : TE} {p p2 q pos : Pos} (hc : X.calm = true) (hg : Gl X "len") (hm : X.mg "len" = none) (hg2 : Gl X "set") (hm2 : X.mg "set" = none) (ha : PE X a ta)
    (na : starEach [a] X.env = (false, eval a X.env) :: starEach [] X.env := by rfl) (hK : X.K = K := by rfl) : PE X (.Call (.Name "len" p) [.Call (.Name "set" p2) [a] [] q] [] pos) (tLenSetL K ta) := by
  subst hK
  refine ⟨fun pins s σ H Q I h => Call_ (ld_blt I hg hm boot_len (PyProof.Rows.callWith_builtin1 (PyProof.Rows.args_cons ?_ rfl) rfl rfl))⟩
  refine Call_ (ld_blt I hg2 hm2 boot_set (PyProof.Rows.callWith_type1 (PyProof.Rows.args_cons (thn (ha.run pins s σ H _ I h) fun v s1 q1 => PyProof.Rows.args_nil ?_) na) na rfl))
  obtain ⟨x, H1, I1, r1, l, ns, rfl, ht, few, k⟩ := q1
  cases r1
  obtain ⟨its, rv, ⟨ob, nb, ho, hcc, _, hdd⟩, hz⟩ := I1.list ht
  have pl : s1.heap.IsList l its.toArray := ⟨ob, ho, hcc, nb, hdd⟩
  refine callSetNs (P := X.prog) (w := X.w) ns (I1.ok.hd hc) pl (by simpa using ints_of_vals rv) few fun h' tk ⟨c, le, R⟩ keep => PyProof.Rows.args_nil ?_
  obtain ⟨o, rows, era, tab, at_o, exact_, dt, good, nd, mem, _, ft, cnt, _⟩ := R
  have I2 : Inv X pins σ H1 { s1 with heap := h', toks := tk } := I1.kept keep
  have e : c = ns.length ↔ ns.Nodup := by
    have hl : (rows.toList.map keyOf).length = c := by rw [List.length_map, Array.length_toList]; exact cnt
    have m1 : ∀ j, j ∈ rows.toList.map keyOf ↔ j ∈ ns := fun j => (mem j).symm.trans decide_eq_true_iff
    constructor
    · intro h
      exact nodup_of_more_int ns _ nd (fun j hj => (m1 j).mp hj) (by rw [hl, h]; exact Nat.le_refl _)
    · intro h
      have q1 : ns.length ≤ (rows.toList.map keyOf).length := List.Nodup.length_le_of_subset h fun j hj => (m1 j).mpr hj
      omega
  exact call_len_set at_o exact_ dt ft (by rw [cnt]; have := few; unfold scanBound at this; omega) ⟨.int c, H1, I2.tok _, ⟨_, by rw [cnt]⟩, k c e le⟩
/-- sorted(set(l)), l a list of fewer than 64 ints -/
def tSortSetL (K : PySem.W.Frag) (ta : TE) : TE := fun σ H Q => ta σ H fun x H1 => ∃ (l : Addr) (ns : List Int), x = .ref l ∧ SqL K H1 l (ns.map V.int) ∧ ns.length < 64 ∧
  ∀ (ms : List Int) (p : Addr), ms.Pairwise (· < ·) → (∀ k : Int, k ∈ ms ↔ k ∈ ns) → H1 p = none → Q (.ref p) (upd H1 p (.lst (ms.map V.int)))
theorem pe_sortSetL {K : PySem.W.Frag} {a : Expr} {ta : TE} {p p2 q pos : Pos} (hc : X.calm = true) (hg : Gl X "sorted") (hm : X.mg "sorted" = none) (hg2 : Gl X "set") (hm2 : X.mg "set" = none) (ha : PE X a ta)
    (na : starEach [a] X.env = (false, eval a X.env) :: starEach [] X.env := by rfl) (hK : X.K = K := by rfl) : PE X (.Call (.Name "sorted" p) [.Call (.Name "set" p2) [a] [] q] [] pos) (tSortSetL K ta) := by
  subst hK
  refine ⟨fun pins s σ H Q I h => Call_ (ld_blt I hg hm rfl (PyProof.Rows.callWith_builtin1 (PyProof.Rows.args_cons ?_ rfl) rfl rfl))⟩
  refine Call_ (ld_blt I hg2 hm2 boot_set (PyProof.Rows.callWith_type1 (PyProof.Rows.args_cons (thn (ha.run pins s σ H _ I h) fun v s1 q1 => PyProof.Rows.args_nil ?_) na) na rfl))
  obtain ⟨x, H1, I1, r1, l, ns, rfl, ht, few, k⟩ := q1
  cases r1
  obtain ⟨its, rv, ⟨ob, nb, ho, hcc, _, hdd⟩, hz⟩ := I1.list ht
  have pl : s1.heap.IsList l its.toArray := ⟨ob, ho, hcc, nb, hdd⟩
  refine callSetNs (P := X.prog) (w := X.w) ns (I1.ok.hd hc) pl (by simpa using ints_of_vals rv) (by unfold scanBound; omega) fun h' tk ⟨c, le, R⟩ keep => PyProof.Rows.args_nil ?_
  have I2 : Inv X pins σ H1 { s1 with heap := h', toks := tk } := I1.kept keep
  refine sorted_set (s := { s1 with heap := h', toks := tk }) R (I1.ok.hd hc) (by omega) fun s' b out cc ms kp g o hp hgo hi hs hm hl => ?_
  have hlen : (ms.map V.int).length ≤ sizeLine := by rw [List.length_map, hl, sizeLine_eq]; omega
  have hn : H1 b = none := I2.hok.fresh hp
  have J : Inv X pins σ (upd H1 b (.lst (ms.map V.int))) { ({ s1 with heap := h', toks := tk } : Shared) with heap := s'.heap, gens := s'.gens, drawn := s'.drawn, toks := s'.toks } :=
    I2.call (ch := []) (Un.laid kp hp hn) (I2.hok.laid kp hp ⟨hlen, out.toList, cc, vals_of_ints hi, hgo⟩) (by rw [g]; exact I2.bare) (fun _ z => nomatch z)
  have e : s' = { ({ s1 with heap := h', toks := tk } : Shared) with heap := s'.heap, gens := s'.gens, drawn := s'.drawn, toks := s'.toks } := by
    cases s'
    cases s1
    cases o
    rfl
  rw [e]
  exact ⟨.ref b, _, J, rfl, k ms b hs (fun z => (hm z).trans decide_eq_true_iff) hn⟩
end
end NB

/-! NTx: texts of plain signs, so many; lists of such texts. -/
namespace NB
open PySem PySem.Spec PyProof.Rows L2
/-- a text's signs are plain -/
def low (l : List Nat) : Prop := ∀ c ∈ l, c < 256
theorem low_app {a b : List Nat} (h : low a) (k : low b) : low (a ++ b) := fun c hc => by
  rcases List.mem_append.mp hc with z | z
  · exact h c z
  · exact k c z
theorem low_one {c : Nat} (h : c < 256) : low [c] := fun d hd => by rw [List.mem_singleton.mp hd]; exact h
theorem low_num (i : Int) : low (numLI i) := fun c hc => by
  rcases Nat.lt_or_ge c 256 with h | h
  · exact h
  · exact absurd hc (numLI_free (.inr (.inr (by omega))))
theorem low_end : ∀ e : PyData, low (shEnd e)
  | .int i => low_num i
  | .none | .bool _ | .str _ | .list _ | .tuple _ | .dict _ => low_one (by decide)
theorem low_field {f : Str} (h : fieldS f = true) : low (TL.tl f) := fun c hc => by
  have := (fieldL_iff.mp h).2.2 c hc
  omega
theorem spl_sub {S : List Nat} {c : Nat} : ∀ (L : List Nat) (k : Nat) (acc : List Nat), ∀ w ∈ TL.spl S k acc L, c ∈ w → c ∈ acc ∨ c ∈ L
  | [], k, acc, w, h, hc => by
    rw [TL.spl_nil] at h
    rw [List.mem_singleton.mp h] at hc
    exact .inl hc
  | a :: r, 0, acc, w, h, hc => by
    cases hp : TL.pre S (a :: r) with
    | true =>
      rw [TL.spl_hit hp] at h
      rcases List.mem_cons.mp h with rfl | h
      · exact .inl hc
      · rcases spl_sub r _ _ w h hc with h | h
        · cases h
        · exact .inr (List.mem_cons_of_mem _ h)
    | false =>
      rw [TL.spl_miss hp] at h
      rcases spl_sub r _ _ w h hc with h | h
      · rcases List.mem_append.mp h with h | h
        · exact .inl h
        · exact .inr (by rw [List.mem_singleton.mp h]; exact List.mem_cons_self)
      · exact .inr (List.mem_cons_of_mem _ h)
  | a :: r, k + 1, acc, w, h, hc => by
    rcases spl_sub r k acc w h hc with h | h
    · exact .inl h
    · exact .inr (List.mem_cons_of_mem _ h)
theorem spl_low {S L w : List Nat} (hL : low L) (h : w ∈ TL.spl S 0 [] L) : low w := fun c hc => by
  rcases spl_sub L 0 [] w h hc with h | h
  · cases h
  · exact hL c h
theorem parS_len (a b : Str) : (parS a b).1.length ≤ a.length ∧ (parS a b).2.2.length ≤ a.length := by
  unfold parS
  cases h : TL.par (TL.tl b) [] (TL.tl a) with
  | none => exact ⟨Nat.le_refl _, Nat.zero_le _⟩
  | some p =>
    obtain ⟨u, v⟩ := p
    have e := par_eq _ _ _ _ h
    have e2 := congrArg List.length e
    rw [List.nil_append, List.length_append, List.length_append, ← TL.len_tl] at e2
    have q1 : (ofL u).length = u.length := by rw [TL.len_tl, tl_ofL]
    have q2 : (ofL v).length = v.length := by rw [TL.len_tl, tl_ofL]
    show (ofL u).length ≤ _ ∧ (ofL v).length ≤ _
    rw [q1, q2]
    omega
/-- a text of so many plain signs -/
def TX (n : Nat) (x : Str) : Prop := x.length ≤ n ∧ low (TL.tl x)
theorem TX.le {n m : Nat} {x : Str} (h : TX n x) (k : n ≤ m) : TX m x := ⟨Nat.le_trans h.1 k, h.2⟩
theorem TX.app {n m : Nat} {x y : Str} (h : TX n x) (k : TX m y) : TX (n + m) (x ++ y) := ⟨by rw [len_app]; exact Nat.add_le_add h.1 k.1, fun c hc => by
  rw [TL.tl_append] at hc
  rcases List.mem_append.mp hc with z | z
  · exact h.2 c z
  · exact k.2 c z⟩
theorem TX.sub {n : Nat} {x y : Str} (h : TX n x) (k : ∀ c ∈ TL.tl y, c ∈ TL.tl x) (l : y.length ≤ x.length) : TX n y := ⟨Nat.le_trans l h.1, fun c hc => h.2 c (k c hc)⟩
theorem TX.lit {n : Nat} {x : Str} (h : (decide (x.length ≤ n) && (TL.tl x).all (fun c => decide (c < 256))) = true) : TX n x := by
  rw [Bool.and_eq_true] at h
  exact ⟨of_decide_eq_true h.1, fun c hc => of_decide_eq_true (List.all_eq_true.mp h.2 c hc)⟩
theorem TX.emp {n : Nat} : TX n Str.empty := ⟨Nat.zero_le _, fun c hc => nomatch hc⟩
theorem TX.one {x : Str} {c : Nat} {i n : Nat} (h : TX n x) (e : x.cps.toList[i]? = some c) : TX 1 ⟨#[c]⟩ := ⟨Nat.le_refl _, fun d hd => by
  have hd : d ∈ [c] := hd
  rw [List.mem_singleton.mp hd]
  exact h.2 c (List.mem_of_getElem? e)⟩
/-- one sign of a text, at a place within it -/
theorem r_sign {K : PySem.W.Frag} {H : Hp} {Q : VK} {x : Str} {n : Nat} {j : Int} (h : TX n x) (hn : n ≤ 1000000) (j0 : 0 ≤ j) (j1 : j < x.length) (q : ∀ y, TX 1 y → Q (.str y) H) : rIx K (.str x) (.int j) H Q := by
  have hl : x.cps.toList.length = x.length := Array.length_toList
  have hlt : j.toNat < x.cps.toList.length := by omega
  exact r_ix_s (n := j.toNat) (Nat.le_trans h.1 hn) (by omega) (List.getElem?_eq_getElem hlt) (q _ (h.one (List.getElem?_eq_getElem hlt)))
def okV (m : Nat) : V → Bool
  | .str x => decide (x.length ≤ m) && (TL.tl x).all fun c => decide (c < 256)
  | _ => false
theorem r_pickV {K : PySem.W.Frag} {H : Hp} {Q : VK} {p : Addr} {xs : List V} {j : Int} (m : Nat) (h : H p = some (.lst xs)) (ok : xs.all (okV m) = true) (h0 : 0 ≤ j) (h1 : j < xs.length) (q : ∀ y, TX m y → Q (.str y) H) : rIx K (.ref p) (.int j) H Q := by
  have hn : j.toNat < xs.length := by omega
  have hv := List.all_eq_true.mp ok _ (List.getElem_mem hn)
  refine r_ixl (n := j.toNat) h (by omega) (List.getElem?_eq_getElem hn) ?_
  generalize xs[j.toNat] = v at hv
  cases v <;> first | cases hv | skip
  exact q _ (TX.lit hv)
theorem parS_tx {n : Nat} {a b : Str} (h : TX n a) : TX n (parS a b).1 ∧ TX n (parS a b).2.2 := by
  obtain ⟨l1, l2⟩ := parS_len a b
  refine ⟨h.sub ?_ l1, h.sub ?_ l2⟩
  · intro c hc
    unfold parS at hc
    cases hp : TL.par (TL.tl b) [] (TL.tl a) with
    | none => rw [hp] at hc; exact hc
    | some q =>
      obtain ⟨u, v⟩ := q
      rw [hp] at hc
      have e := par_eq _ _ _ _ hp
      rw [List.nil_append] at e
      rw [e]
      exact List.mem_append_left _ (by rw [← tl_ofL u]; exact hc)
  · intro c hc
    unfold parS at hc
    cases hp : TL.par (TL.tl b) [] (TL.tl a) with
    | none => rw [hp] at hc; cases hc
    | some q =>
      obtain ⟨u, v⟩ := q
      rw [hp] at hc
      have e := par_eq _ _ _ _ hp
      rw [List.nil_append] at e
      rw [e]
      exact List.mem_append_right _ (List.mem_append_right _ (by rw [← tl_ofL v]; exact hc))
theorem drop_tx {n k : Nat} {a z : Str} (h : TX n a) (e : TL.tl z = (TL.tl a).drop k) : TX n z := h.sub (fun c hc => by rw [e] at hc; exact List.mem_of_mem_drop hc) (by rw [TL.len_tl, TL.len_tl, e, List.length_drop]; omega)
/-- texts whose lengths sum up to so much, of plain signs -/
def WS (n : Nat) (zs : List Str) : Prop := (zs.map (·.length)).sum + zs.length ≤ n ∧ ∀ z ∈ zs, low (TL.tl z)
theorem low_joinL {S : List Nat} (hS : low S) : ∀ ps : List (List Nat), (∀ p ∈ ps, low p) → low (TL.joinL S ps)
  | [], _, c, hc => nomatch hc
  | [p], h, c, hc => h p List.mem_cons_self c hc
  | p :: q :: r, h, c, hc => by
    rw [joinL_cons2] at hc
    rcases List.mem_append.mp hc with z | z
    · exact h p List.mem_cons_self c z
    · rcases List.mem_append.mp z with z | z
      · exact hS c z
      · exact low_joinL hS (q :: r) (fun x hx => h x (List.mem_cons_of_mem _ hx)) c z
theorem WS.join {n : Nat} {zs : List Str} (h : WS n zs) : TX n (Txt.join (Str.ofString " ") zs) := by
  have e : TL.tl (Str.ofString " ") = [32] := by decide +kernel
  have e2 : TL.tl (Txt.join (Str.ofString " ") zs) = TL.joinL [32] (zs.map TL.tl) := by rw [TL.join_eq, TL.tl_join, e]
  have e3 : (zs.map TL.tl).map List.length = zs.map (·.length) := by
    rw [List.map_map]
    exact List.map_congr_left fun z _ => (TL.len_tl z).symm
  constructor
  · rw [TL.len_tl, e2]
    have q := joinL_len (S := [32]) (zs.map TL.tl)
    rw [e3, List.length_map] at q
    have h1 := h.1
    have : zs.length * [32].length = zs.length := Nat.mul_one _
    omega
  · rw [e2]
    refine low_joinL (fun c hc => by rw [List.mem_singleton.mp hc]; decide) _ fun p hp => ?_
    obtain ⟨z, hz, rfl⟩ := List.mem_map.mp hp
    exact h.2 z hz
theorem words_ws {n : Nat} {x : Str} (h : TX n x) : WS (n + 1) (Txt.split x (Str.ofString " ")) := by
  refine ⟨Nat.le_trans (words_sum x) (Nat.add_le_add_right h.1 1), fun z hz => ?_⟩
  have e : (Txt.split x (Str.ofString " ")).map TL.tl = TL.spl [32] 0 [] (TL.tl x) := by
    have e : TL.tl (Str.ofString " ") = [32] := by decide +kernel
    rw [split_tl x (by decide +kernel) (by decide +kernel), e]
  exact spl_low h.2 (by rw [← e]; exact List.mem_map_of_mem hz)
theorem words_ne (x : Str) : 0 < (Txt.split x (Str.ofString " ")).length := by
  have e : (Txt.split x (Str.ofString " ")).map TL.tl = TL.spl [32] 0 [] (TL.tl x) := by
    have e : TL.tl (Str.ofString " ") = [32] := by decide +kernel
    rw [split_tl x (by decide +kernel) (by decide +kernel), e]
  have q := spl_ne [32] (TL.tl x) 0 []
  rw [← e] at q
  cases h : Txt.split x (Str.ofString " ") with
  | nil => rw [h] at q; exact absurd rfl q
  | cons a r => simp
theorem mem_sum {zs : List Str} {z : Str} (h : z ∈ zs) : z.length ≤ (zs.map (·.length)).sum := by
  induction zs with
  | nil => cases h
  | cons a r ih =>
    rw [List.map_cons, List.sum_cons]
    rcases List.mem_cons.mp h with rfl | h
    · omega
    · have := ih h; omega
theorem WS.mem {n : Nat} {zs : List Str} {z : Str} (h : WS n zs) (hz : z ∈ zs) : TX n z := ⟨by have := mem_sum hz; have := h.1; omega, h.2 z hz⟩
theorem WS.insert {n m k : Nat} {zs : List Str} {y : Str} (h : WS n zs) (hy : TX m y) : WS (n + m + 1) (zs.take k ++ [y] ++ zs.drop k) := by
  constructor
  · have e : zs.take k ++ zs.drop k = zs := List.take_append_drop k zs
    have e1 := congrArg (fun l => (l.map (·.length)).sum) e
    have e2 := congrArg List.length e
    simp only [List.map_append, List.sum_append, List.length_append, List.map_cons, List.map_nil, List.sum_cons, List.sum_nil, List.length_cons, List.length_nil] at e1 e2 ⊢
    have h1 := h.1
    have h2 := hy.1
    omega
  · intro z hz
    rcases List.mem_append.mp hz with hz | hz
    · rcases List.mem_append.mp hz with hz | hz
      · exact h.2 z (List.mem_of_mem_take hz)
      · rw [List.mem_singleton.mp hz]; exact hy.2
    · exact h.2 z (List.mem_of_mem_drop hz)
theorem map_erase : ∀ (zs : List Str) (k : Nat), (zs.map V.str).eraseIdx k = (zs.eraseIdx k).map V.str
  | [], k => by simp
  | z :: r, 0 => rfl
  | z :: r, k + 1 => by
    have := map_erase r k
    simp only [List.map_cons, List.eraseIdx_cons_succ, this]
theorem sum_erase : ∀ (zs : List Str) (k : Nat), ((zs.eraseIdx k).map (·.length)).sum + (zs.eraseIdx k).length ≤ (zs.map (·.length)).sum + zs.length
  | [], k => by simp
  | z :: r, 0 => by simp only [List.eraseIdx_cons_zero, List.map_cons, List.sum_cons, List.length_cons]; omega
  | z :: r, k + 1 => by
    have := sum_erase r k
    simp only [List.eraseIdx_cons_succ, List.map_cons, List.sum_cons, List.length_cons]
    omega
theorem WS.erase {n k : Nat} {zs : List Str} (h : WS n zs) : WS n (zs.eraseIdx k) := ⟨Nat.le_trans (sum_erase zs k) h.1, fun z hz => h.2 z (List.mem_of_mem_eraseIdx hz)⟩
theorem sum_set : ∀ (zs : List Str) (k : Nat) (y : Str), ((zs.set k y).map (·.length)).sum ≤ (zs.map (·.length)).sum + y.length
  | [], k, y => by simp
  | z :: r, 0, y => by simp only [List.set_cons_zero, List.map_cons, List.sum_cons]; omega
  | z :: r, k + 1, y => by
    have := sum_set r k y
    simp only [List.set_cons_succ, List.map_cons, List.sum_cons]
    omega
theorem WS.set {n m k : Nat} {zs : List Str} {y : Str} (h : WS n zs) (hy : TX m y) : WS (n + m) (zs.set k y) := by
  constructor
  · have := sum_set zs k y
    rw [List.length_set]
    have h1 := h.1
    have h2 := hy.1
    omega
  · intro z hz
    rcases List.mem_or_eq_of_mem_set hz with hz | rfl
    · exact h.2 z hz
    · exact hy.2
theorem sum_set2 : ∀ {zs : List Str} {k : Nat} {z y : Str}, zs[k]? = some z → ((zs.set k y).map (·.length)).sum + z.length = (zs.map (·.length)).sum + y.length
  | [], k, z, y, h => by cases h
  | x :: r, 0, z, y, h => by
    cases h
    simp only [List.set_cons_zero, List.map_cons, List.sum_cons]; omega
  | x :: r, k + 1, z, y, h => by
    have := sum_set2 (zs := r) (k := k) (y := y) h
    simp only [List.set_cons_succ, List.map_cons, List.sum_cons]
    omega
theorem WS.set2 {n k : Nat} {zs : List Str} {z y : Str} (h : WS n zs) (hz : zs[k]? = some z) (hy : TX (2 * z.length + 50) y) : WS (n + z.length + 50) (zs.set k y) := by
  constructor
  · have := sum_set2 (y := y) hz
    rw [List.length_set]
    have h1 := h.1
    have h2 := hy.1
    omega
  · exact (h.set (k := k) hy).2
theorem cut_tx {n : Nat} {x : Str} {lo hi : Option Int} (h : TX n x) : TX n (cutS x lo hi) := ⟨Nat.le_trans (cutS_length _ _ _) h.1, fun c hc => by
  have hc2 : c ∈ ((TL.tl x).drop (HT.sIx x.length 0 lo)).take (HT.sIx x.length x.length hi - HT.sIx x.length 0 lo) := hc
  exact h.2 c (List.mem_of_mem_drop (List.mem_of_mem_take hc2))⟩
theorem r_int_b {H : Hp} {Q : VK} {k : Bool} (q : Q (.int (if k then 1 else 0)) H) : rInt2 [.bl k] H Q := .inl (.inr ⟨k, rfl, q⟩)
theorem mul_tx {n : Nat} {x : Str} {k : Bool} (h : TX n x) : TX n (Txt.mul x (if k then 1 else 0)) := by
  cases k
  · exact TX.emp
  · exact h
theorem r_mul_b {H : Hp} {Q : VK} {x : Str} {k : Bool} (h : TX 1 x) (q : ∀ y, TX 1 y → Q (.str y) H) : rMulS (.str x) (.int (if k then 1 else 0)) H Q :=
  ⟨x, _, rfl, rfl, by cases k <;> decide, by cases k <;> decide, by have := h.1; omega, q _ (mul_tx h)⟩
theorem r_popAt {H : Hp} {Q : VK} {l : Addr} {xs : List V} {i : Int} {y : V} (h : H l = some (.lst xs)) (hl : xs.length ≤ 1000000) (i0 : 0 ≤ i) (i1 : i < xs.length) (hy : xs[i.toNat]? = some y) (q : Q y (upd H l (.lst (xs.eraseIdx i.toNat)))) : rPopAt (.ref l) [.int i] H Q :=
  ⟨l, xs, i, i.toNat, y, rfl, rfl, h, by omega, by omega, by
    unfold PySem.seqIndex?
    simp [i0, i1, Int.not_lt.mpr i0], hy, q⟩
end NB

/-! NMn: the least of a list of ints; steps for sets of them. -/
namespace NB
open PySem PySem.Spec PyProof.Rows L2
theorem cr_minL {X : Cx} {K : PySem.W.Frag} (hc : X.calm = true) (hK : X.K = K := by rfl) : CallR X (.builtin "min") (rMin K) := by subst hK; exact cr_min hc
def RLenSetL (K : PySem.W.Frag) (Q : VK) (x : V) (H1 : Hp) : Prop := ∃ (l : Addr) (ns : List Int), x = .ref l ∧ SqL K H1 l (ns.map V.int) ∧ ns.length + 1 < scanBound ∧ ∀ c : Nat, (c = ns.length ↔ ns.Nodup) → c ≤ ns.length → Q (.int (c : Int)) H1
theorem r_lenSetL0 {K : PySem.W.Frag} {ta : TE} {σ : L2.St} {H : Hp} {Q : VK} (h : ta σ H fun x H1 => RLenSetL K Q x H1) : tLenSetL K ta σ H Q := h
theorem r_lenSetL {K : PySem.W.Frag} {H : Hp} {Q : VK} {l : Addr} {ns : List Int} (h : H l = some (.lst (ns.map V.int))) (few : ns.length ≤ 4000) (k : ∀ c : Nat, (c = ns.length ↔ ns.Nodup) → c ≤ ns.length → Q (.int (c : Int)) H) : RLenSetL K Q (.ref l) H :=
  ⟨l, ns, rfl, SqL.of h, by unfold scanBound; omega, k⟩
def RSortSetL (K : PySem.W.Frag) (Q : VK) (x : V) (H1 : Hp) : Prop := ∃ (l : Addr) (ns : List Int), x = .ref l ∧ SqL K H1 l (ns.map V.int) ∧ ns.length < 64 ∧
  ∀ (ms : List Int) (p : Addr), ms.Pairwise (· < ·) → (∀ k : Int, k ∈ ms ↔ k ∈ ns) → H1 p = none → Q (.ref p) (upd H1 p (.lst (ms.map V.int)))
theorem r_sortSetL0 {K : PySem.W.Frag} {ta : TE} {σ : L2.St} {H : Hp} {Q : VK} (h : ta σ H fun x H1 => RSortSetL K Q x H1) : tSortSetL K ta σ H Q := h
theorem r_sortSetL {K : PySem.W.Frag} {H : Hp} {Q : VK} {l : Addr} {ns : List Int} (h : H l = some (.lst (ns.map V.int))) (few : ns.length < 64) (k : ∀ (ms : List Int) (p : Addr), ms.Pairwise (· < ·) → (∀ k : Int, k ∈ ms ↔ k ∈ ns) → H p = none → Q (.ref p) (upd H p (.lst (ms.map V.int)))) : RSortSetL K Q (.ref l) H :=
  ⟨l, ns, rfl, SqL.of h, few, k⟩
end NB

/-! NLx: how long letters of few parts are written, how many commas a text has; texts of so many plain signs and so many commas. -/
namespace NB
open PySem PySem.Spec PyProof.Rows L2 TL
/-- a list of codes: so long, plain, so many commas -/
structure Lc (n m : Nat) (l : List Nat) : Prop where
  le : l.length ≤ n
  lo : low l
  cm : l.count 44 ≤ m
theorem Lc.mono {n m n' m' : Nat} {l : List Nat} (h : Lc n m l) (a : n ≤ n') (b : m ≤ m') : Lc n' m' l := ⟨Nat.le_trans h.le a, h.lo, Nat.le_trans h.cm b⟩
theorem Lc.app {n m n' m' : Nat} {a b : List Nat} (h : Lc n m a) (k : Lc n' m' b) : Lc (n + n') (m + m') (a ++ b) := ⟨by rw [List.length_append]; have := h.le; have := k.le; omega, low_app h.lo k.lo, by rw [List.count_append]; have := h.cm; have := k.cm; omega⟩
theorem Lc.free {n : Nat} {l : List Nat} (h : l.length ≤ n) (lo : low l) (c : 44 ∉ l) : Lc n 0 l := ⟨h, lo, by rw [List.count_eq_zero.mpr c]; exact Nat.le_refl _⟩
theorem Lc.one {c : Nat} (h : c < 256) (h2 : c ≠ 44) : Lc 1 0 [c] := Lc.free (Nat.le_refl _) (low_one h) (by simp; omega)
theorem low_of {l : List Nat} (h : ∀ s, 256 ≤ s → s ∉ l) : low l := fun c hc => by
  rcases Nat.lt_or_ge c 256 with z | z
  · exact z
  · exact absurd hc (h c z)
theorem Lc.join {n m s : Nat} (hs : s < 256) (k : Nat) (hk : (if s = 44 then 1 else 0) = k) : ∀ {ps : List (List Nat)}, (∀ p ∈ ps, Lc n m p) → Lc ((n + 1) * ps.length) ((m + k) * ps.length) (joinL [s] ps)
  | [], _ => ⟨by simp [joinL], (fun c h => nomatch h), by simp [joinL]⟩
  | [p], h => (h p (by simp)).mono (by simp) (by simp)
  | p :: q :: r, h => by
    rw [joinL_cons2]
    have h1 := h p (by simp)
    have h2 := Lc.join hs k hk fun x hx => h x (List.mem_cons_of_mem (a := x) p hx)
    have hc : Lc 1 k [s] := ⟨Nat.le_refl _, low_one hs, by
      subst hk
      by_cases z : s = 44
      · subst z; simp
      · rw [if_neg z, List.count_eq_zero.mpr (by simp; omega)]; exact Nat.le_refl _⟩
    refine (h1.app (hc.app h2)).mono ?_ ?_
    · simp only [List.length_cons]
      rw [Nat.mul_add _ (r.length + 1) 1, Nat.mul_one]; omega
    · simp only [List.length_cons]
      rw [Nat.mul_add _ (r.length + 1) 1, Nat.mul_one]; omega
theorem lc_int {i : Int} {k : Nat} (hk : 0 < k) (h : i.natAbs < 10 ^ k) : Lc (k + 1) 0 (numLI i) := Lc.free (numLI_len hk h) (low_num i) (numLI_free (by omega))
theorem lc_num {d : PyData} (h : okNum 15 d = true) : Lc 16 0 (numD d) := by
  show Lc 16 0 (numLI (iv d))
  cases d with
  | int i => exact lc_int (k := 15) (by decide) (of_decide_eq_true h)
  | _ => exact lc_int (k := 15) (i := 0) (by decide) (by decide)
theorem lc_field {f : Str} (h : fieldS f = true) : Lc 8 0 (tl f) := Lc.free (fieldL_iff.mp h).2.1 (low_field h) (field_free h (by omega))
theorem lc_end {d : PyData} (h : okNum 15 d = true) : Lc 16 0 (shEnd d) := Lc.free (by
    cases d with
    | int i => exact numLI_len (k := 15) (by decide) (of_decide_eq_true h)
    | _ => exact (by decide : (1 : Nat) ≤ 16)) (low_end d) (shEnd_free (by omega))
theorem lc_way {ds : List PyData} (h : ds.all (okNum 15) = true) : Lc (17 * ds.length) 0 (wayLs ds) := by
  have := Lc.join (s := 45) (n := 16) (m := 0) (by decide) 0 (by decide) (ps := ds.map numD) fun p hp => by
    obtain ⟨d, hd, rfl⟩ := List.mem_map.mp hp
    exact lc_num (List.all_eq_true.mp h d hd)
  rw [List.length_map] at this
  exact this.mono (by omega) (by omega)
theorem lc_marks {ds : List PyData} (h : ds.all (okPart 15) = true) (hm : marksGo 0 ds = true) : Lc (34 * ds.length + 1) ds.length (shMarks ds) := by
  unfold shMarks
  split
  · exact (Lc.one (by decide) (by decide)).mono (by omega) (by omega)
  · have := Lc.join (s := 44) (n := 33) (m := 0) (by decide) 1 (by decide) (ps := ds.map shMark) fun p hp => by
      obtain ⟨d, hd, rfl⟩ := List.mem_map.mp hp
      obtain ⟨a, b, rfl, _, _⟩ := marksGo_mem hm d hd
      obtain ⟨h1, h2⟩ := okPart2 (List.all_eq_true.mp h _ hd)
      exact ((lc_num h1).app ((Lc.one (c := 58) (by decide) (by decide)).app (lc_num h2)))
    rw [List.length_map] at this
    exact this.mono (by omega) (by omega)
theorem lc_piece {ds : List PyData} (h : pieceD (.tuple ds) = true) (hk : ds.all (okPart 15) = true) : Lc (26 * ds.length + 1) 0 (shPiece ds) := by
  unfold shPiece
  split
  · exact (Lc.one (by decide) (by decide)).mono (by omega) (by omega)
  · have := Lc.join (s := 32) (n := 25) (m := 0) (by decide) 0 (by decide) (ps := ds.map shPiecePart) fun p hp => by
      obtain ⟨d, hd, rfl⟩ := List.mem_map.mp hp
      obtain ⟨f, i, rfl, hf⟩ := piece_part h hd
      obtain ⟨_, h2⟩ := okPart2 (List.all_eq_true.mp hk _ hd)
      exact ((lc_field hf).app ((Lc.one (c := 58) (by decide) (by decide)).app (lc_num h2)))
    rw [List.length_map] at this
    exact this.mono (by omega) (by omega)
theorem lc_wish {ds : List PyData} (h : wishD (.tuple ds) = true) (hk : ds.all (okPart 15) = true) : Lc (44 * ds.length + 1) 0 (shWish ds) := by
  unfold shWish
  split
  · exact (Lc.one (by decide) (by decide)).mono (by omega) (by omega)
  · have := Lc.join (s := 32) (n := 43) (m := 0) (by decide) 0 (by decide) (ps := ds.map shWishPart) fun p hp => by
      obtain ⟨d, hd, rfl⟩ := List.mem_map.mp hp
      obtain ⟨f, lo, hi, rfl, hf, _⟩ := wish_part h hd
      have hk2 : (okNum 15 (.str f) && (okNum 15 lo && (okNum 15 hi && true))) = true := List.all_eq_true.mp hk _ hd
      simp only [Bool.and_eq_true] at hk2
      exact ((lc_field hf).app ((Lc.one (c := 58) (by decide) (by decide)).app ((lc_end hk2.2.1).app (((Lc.one (c := 46) (by decide) (by decide)).app (Lc.one (c := 46) (by decide) (by decide))).app (lc_end hk2.2.2.1)))))
    rw [List.length_map] at this
    exact this.mono (by omega) (by omega)
theorem lc_bl : Lc 1 0 [32] := Lc.one (by decide) (by decide)
/-- few parts -/
def FewN (d : PyData) : Prop := ∀ a b p, d = .tuple [a, b, .tuple p] → p.length ≤ 2
def FewL : List PyData → Prop
  | [_, x] => (tupL x).length ≤ 2
  | [_, _, c] => (tupL c).length ≤ 7
  | [_, _, _, p] => (tupL p).length ≤ 2
  | [_, _, c, ms, ps] => (tupL c).length ≤ 7 ∧ (tupL ms).length ≤ 4 ∧ (tupL ps).length ≤ 3 ∧ ∀ d ∈ tupL ps, FewN d
  | _ => True
theorem lc_news {d : PyData} (h : newsD d = true) (hs : okNews 15 d = true) (hf : FewN d) : Lc 87 0 (shNews d) := by
  obtain ⟨a, b, p, rfl, _, _, hp⟩ := newsD_parts h
  have hs : (okNum 15 a && (okNum 15 b && p.all (okPart 15))) = true := hs
  simp only [Bool.and_eq_true] at hs
  have e := lc_piece hp hs.2.2
  have e2 := hf a b p rfl
  exact ((lc_num hs.1).app (lc_bl.app ((lc_num hs.2.1).app (lc_bl.app e)))).mono (by omega) (by omega)
theorem lc_flat {α : Type} {f : α → List Nat} {n : Nat} : ∀ {l : List α}, (∀ a ∈ l, Lc n 0 (f a)) → Lc (n * l.length) 0 ((l.map f).flatten)
  | [], _ => ⟨by simp, (fun c h => nomatch h), by simp⟩
  | a :: r, h => by
    have h1 := h a (by simp)
    have h2 := lc_flat (f := f) (n := n) (l := r) fun b hb => h b (List.mem_cons_of_mem _ hb)
    simp only [List.map_cons, List.flatten_cons]
    refine (h1.app h2).mono ?_ (Nat.le_refl _)
    rw [List.length_cons, Nat.mul_add, Nat.mul_one]
    omega
theorem lc_word {w : Str} (h : w = sWant ∨ w = sUnwant ∨ w = sNews ∨ w = sHere ∨ w = sKept) : Lc 6 0 (tl w) := by
  have go : ∀ w : Str, (decide ((tl w).length ≤ 6) && ((tl w).all (fun c => decide (c < 256)) && decide ((tl w).count 44 = 0))) = true → Lc 6 0 (tl w) := fun w h => by
    simp only [Bool.and_eq_true, decide_eq_true_eq, List.all_eq_true] at h
    exact ⟨h.1, fun c hc => h.2.1 c hc, Nat.le_of_eq h.2.2⟩
  rcases h with rfl | rfl | rfl | rfl | rfl <;> exact go _ (by decide +kernel)
theorem lc_letter {l : List PyData} (h : letterD (.tuple l) = true) (hk : okLet 15 l = true) (hf : FewL l) : Lc 700 4 (shLetter l) := by
  rcases letter_forms h with ⟨w, ds, hw, rfl, hds⟩ | ⟨a, b, p, rfl, ha, hb, hp⟩ | ⟨n, c, rfl, hn, hc⟩ | ⟨n, c, ms, ps, rfl, hn, hc, hm, hp⟩
  · have e := lc_wish hds hk
    have hf : ds.length ≤ 2 := hf
    exact ((lc_word (hw.elim .inl fun z => .inr (.inl z))).app (lc_bl.app e)).mono (by omega) (by omega)
  · have hk : (okNum 15 a && (okNum 15 b && p.all (okPart 15))) = true := hk
    simp only [Bool.and_eq_true] at hk
    have e := lc_piece hp hk.2.2
    have hf : p.length ≤ 2 := hf
    exact ((lc_word (.inr (.inr (.inl rfl)))).app (lc_bl.app ((lc_num hk.1).app (lc_bl.app ((lc_num hk.2.1).app (lc_bl.app e)))))).mono (by omega) (by omega)
  · have e := lc_way (ds := c) hk
    have hf : c.length ≤ 7 := hf
    exact ((lc_word (.inr (.inr (.inr (.inl rfl))))).app (lc_bl.app ((lc_field hn).app (lc_bl.app e)))).mono (by omega) (by omega)
  · have hk : (c.all (okNum 15) && (ms.all (okPart 15) && ps.all (okNews 15))) = true := hk
    simp only [Bool.and_eq_true] at hk
    obtain ⟨f1, f2, f3, f4⟩ : c.length ≤ 7 ∧ ms.length ≤ 4 ∧ ps.length ≤ 3 ∧ ∀ d ∈ ps, FewN d := hf
    have e1 := lc_way (ds := c) hk.1
    have e2 := lc_marks hk.2.1 hm
    have e3 := lc_flat (f := fun p => bar3 ++ shNews p) (n := 90) (l := ps) fun p hpm => by
      have q := lc_news (List.all_eq_true.mp hp p hpm) (List.all_eq_true.mp hk.2.2 p hpm) (f4 p hpm)
      have b : Lc 3 0 bar3 := Lc.free (Nat.le_refl _) (fun c hc => by
        have : c = 32 ∨ c = 124 ∨ c = 32 := by simpa [bar3] using hc
        omega) (by decide)
      exact b.app q
    exact ((lc_word (.inr (.inr (.inr (.inr rfl))))).app (lc_bl.app ((lc_field hn).app (lc_bl.app (e1.app (lc_bl.app (e2.app e3))))))).mono (by omega) (by omega)
/-- a text of so many plain signs, so many commas -/
def TC (n m : Nat) (x : Str) : Prop := Lc n m (tl x)
theorem TC.tx {n m : Nat} {x : Str} (h : TC n m x) : TX n x := ⟨by rw [TL.len_tl]; exact h.le, h.lo⟩
theorem TC.of {n m : Nat} {x : Str} (h : TX n x) (k : (tl x).count 44 ≤ m) : TC n m x := ⟨by rw [← TL.len_tl]; exact h.1, h.2, k⟩
theorem TC.le {n m n' m' : Nat} {x : Str} (h : TC n m x) (a : n ≤ n') (b : m ≤ m') : TC n' m' x := h.mono a b
theorem TC.app {n m n' m' : Nat} {x y : Str} (h : TC n m x) (k : TC n' m' y) : TC (n + n') (m + m') (x ++ y) := by
  unfold TC
  rw [TL.tl_append]
  exact Lc.app h k
theorem TC.lit {n m : Nat} {x : Str} (h : (decide ((tl x).length ≤ n) && ((tl x).all (fun c => decide (c < 256)) && decide ((tl x).count 44 ≤ m))) = true) : TC n m x := by
  simp only [Bool.and_eq_true, decide_eq_true_eq, List.all_eq_true] at h
  exact ⟨h.1, fun c hc => h.2.1 c hc, h.2.2⟩
def okC (n m : Nat) : V → Bool
  | .str x => decide ((tl x).length ≤ n) && ((tl x).all (fun c => decide (c < 256)) && decide ((tl x).count 44 ≤ m))
  | _ => false
theorem r_pickC {K : PySem.W.Frag} {H : Hp} {Q : VK} {p : Addr} {xs : List V} {j : Int} (n m : Nat) (h : H p = some (.lst xs)) (ok : xs.all (okC n m) = true) (h0 : 0 ≤ j) (h1 : j < xs.length) (q : ∀ y, TC n m y → Q (.str y) H) : rIx K (.ref p) (.int j) H Q := by
  have hn : j.toNat < xs.length := by omega
  have hv := List.all_eq_true.mp ok _ (List.getElem_mem hn)
  refine r_ixl (n := j.toNat) h (by omega) (List.getElem?_eq_getElem hn) ?_
  generalize xs[j.toNat] = v at hv
  cases v <;> first | cases hv | skip
  exact q _ (TC.lit hv)
/-- words: their commas in all -/
def cmW (zs : List Str) : Nat := (zs.map fun z => (tl z).count 44).sum
theorem cm_join : ∀ (ps : List (List Nat)), (joinL [32] ps).count 44 = (ps.map fun p => p.count 44).sum
  | [] => rfl
  | [p] => by simp [joinL]
  | p :: q :: r => by
    rw [joinL_cons2, List.count_append, List.count_append, cm_join (q :: r)]
    simp
theorem cm_split (x : Str) : cmW (Txt.split x (Str.ofString " ")) = (tl x).count 44 := by
  have e : (Txt.split x (Str.ofString " ")).map tl = spl [32] 0 [] (tl x) := by
    have e : tl (Str.ofString " ") = [32] := by decide +kernel
    rw [split_tl x (by decide +kernel) (by decide +kernel), e]
  have q := joinL_spl (s := 32) (tl x) []
  rw [List.nil_append] at q
  have q2 := cm_join (spl [32] 0 [] (tl x))
  rw [q, ← e, List.map_map] at q2
  exact q2.symm
theorem cm_joinS (zs : List Str) : (tl (Txt.join (Str.ofString " ") zs)).count 44 = cmW zs := by
  have e : tl (Str.ofString " ") = [32] := by decide +kernel
  have e2 : tl (Txt.join (Str.ofString " ") zs) = joinL [32] (zs.map tl) := by rw [TL.join_eq, TL.tl_join, e]
  rw [e2, cm_join, List.map_map]; rfl
theorem cm_mem {zs : List Str} {z : Str} (h : z ∈ zs) : (tl z).count 44 ≤ cmW zs := by
  unfold cmW
  induction zs with
  | nil => cases h
  | cons a r ih =>
    rw [List.map_cons, List.sum_cons]
    rcases List.mem_cons.mp h with rfl | h
    · omega
    · have := ih h; omega
theorem cm_insert (zs : List Str) (k : Nat) (y : Str) : cmW (zs.take k ++ [y] ++ zs.drop k) = cmW zs + (tl y).count 44 := by
  have e1 : cmW (zs.take k ++ zs.drop k) = cmW zs := by rw [List.take_append_drop]
  unfold cmW at e1 ⊢
  simp only [List.map_append, List.sum_append, List.map_cons, List.map_nil, List.sum_cons, List.sum_nil] at e1 ⊢
  omega
theorem cm_erase : ∀ {zs : List Str} {k : Nat} {z : Str}, zs[k]? = some z → cmW (zs.eraseIdx k) + (tl z).count 44 = cmW zs
  | [], k, z, h => by cases h
  | x :: r, 0, z, h => by
    cases h
    show cmW r + _ = cmW (x :: r)
    unfold cmW
    rw [List.map_cons, List.sum_cons]; omega
  | x :: r, k + 1, z, h => by
    have := cm_erase (zs := r) (k := k) h
    rw [List.eraseIdx_cons_succ]
    unfold cmW at this ⊢
    simp only [List.map_cons, List.sum_cons]
    omega
theorem cm_set : ∀ {zs : List Str} {k : Nat} {z y : Str}, zs[k]? = some z → cmW (zs.set k y) + (tl z).count 44 = cmW zs + (tl y).count 44
  | [], k, z, y, h => by cases h
  | x :: r, 0, z, y, h => by
    cases h
    unfold cmW
    simp only [List.set_cons_zero, List.map_cons, List.sum_cons]; omega
  | x :: r, k + 1, z, y, h => by
    have := cm_set (zs := r) (k := k) (y := y) h
    unfold cmW at this ⊢
    simp only [List.set_cons_succ, List.map_cons, List.sum_cons]
    omega
theorem cnt_take (l : List Nat) (k : Nat) : (l.take k).count 44 ≤ l.count 44 := (List.take_sublist k l).count_le 44
theorem cnt_drop (l : List Nat) (k : Nat) : (l.drop k).count 44 ≤ l.count 44 := (List.drop_sublist k l).count_le 44
theorem cut_cm {x : Str} {lo hi : Option Int} : (tl (cutS x lo hi)).count 44 ≤ (tl x).count 44 := by
  show (((tl x).drop (HT.sIx x.length 0 lo)).take (HT.sIx x.length x.length hi - HT.sIx x.length 0 lo)).count 44 ≤ _
  exact Nat.le_trans (cnt_take _ _) (cnt_drop _ _)
/-- the signs ahead of one place and from that place or the next one on -/
theorem cut_cm2 {x : Str} {a b : Nat} (h : a ≤ b) : (tl (cutS x none (some (a : Int)))).count 44 + (tl (cutS x (some (b : Int)) none)).count 44 ≤ (tl x).count 44 := by
  have e1 : tl (cutS x none (some (a : Int))) = (tl x).take (min a x.length) := by
    show ((tl x).drop (HT.sIx x.length 0 none)).take (HT.sIx x.length x.length (some (a : Int)) - HT.sIx x.length 0 none) = _
    rw [HT.sIx_nat, HT.sIx_none, List.drop_zero, Nat.sub_zero]
  have e2 : tl (cutS x (some (b : Int)) none) = (tl x).drop (min b x.length) := by
    show ((tl x).drop (HT.sIx x.length 0 (some (b : Int)))).take (HT.sIx x.length x.length none - HT.sIx x.length 0 (some (b : Int))) = _
    rw [HT.sIx_nat, HT.sIx_none, List.take_of_length_le (by rw [List.length_drop, ← TL.len_tl]; omega)]
  rw [e1, e2]
  have e3 : (tl x).count 44 = ((tl x).take (min a x.length)).count 44 + ((tl x).drop (min a x.length)).count 44 := by
    rw [← List.count_append, List.take_append_drop]
  have e4 : (tl x).drop (min b x.length) = ((tl x).drop (min a x.length)).drop (min b x.length - min a x.length) := by
    rw [List.drop_drop]
    congr 1
    omega
  rw [e3, e4]
  have := cnt_drop ((tl x).drop (min a x.length)) (min b x.length - min a x.length)
  omega
/-- numbers between signs: each has a sign of its own -/
theorem spl_sum {s : Nat} : ∀ (L acc : List Nat), ((spl [s] 0 acc L).map List.length).sum + (spl [s] 0 acc L).length = acc.length + L.length + 1
  | [], acc => by rw [spl_nil]; simp
  | c :: r, acc => by
    by_cases h : c = s
    · subst h
      have hp : pre [c] (c :: r) = true := by simp [pre]
      rw [spl_hit hp, List.map_cons, List.sum_cons, List.length_cons]
      have := spl_sum (s := c) r []
      simp only [List.length_cons, List.length_nil, Nat.zero_add] at this ⊢
      show acc.length + ((spl [c] 0 [] r).map List.length).sum + ((spl [c] 0 [] r).length + 1) = _
      omega
    · have hp : pre [s] (c :: r) = false := pre_of_head [] r h
      rw [spl_miss hp, spl_sum r (acc ++ [c])]
      simp only [List.length_append, List.length_cons, List.length_nil]
      omega
theorem rdNum_nil : rdNum [] = none := by unfold rdNum; rw [if_pos (.inl rfl)]
theorem mapO_num_len : ∀ {ws : List (List Nat)} {l : List Int}, mapO rdNum ws = some l → l.length = ws.length ∧ ws.length ≤ (ws.map List.length).sum
  | [], l, h => by cases h; exact ⟨rfl, Nat.le_refl _⟩
  | w :: r, l, h => by
    rw [mapO] at h
    cases hw : rdNum w with
    | none => rw [hw] at h; cases h
    | some i =>
      cases hr : mapO rdNum r with
      | none => rw [hw, hr] at h; cases h
      | some t =>
        rw [hw, hr] at h
        cases h
        obtain ⟨e1, e2⟩ := mapO_num_len hr
        have : 0 < w.length := by
          cases w with
          | nil => rw [rdNum_nil] at hw; cases hw
          | cons a b => simp
        rw [List.length_cons, List.length_cons, List.map_cons, List.sum_cons]
        omega
theorem nums_few {s : Nat} {w : List Nat} {l : List Int} (h : mapO rdNum (spl [s] 0 [] w) = some l) : 2 * l.length ≤ w.length + 1 := by
  obtain ⟨e1, e2⟩ := mapO_num_len h
  have := spl_sum (s := s) w []
  rw [List.length_nil, Nat.zero_add] at this
  omega
end NB

namespace K
open PySem PySem.Spec PyProof.Rows L2 NB
abbrev pg : PySem.Program := PySem.Challenge.pw_newsways_k82_whole_texts_of_no_letter
def top (i : Nat) : Stmt := pg.main.body.getD i (.Pass ⟨0, 0, 0, 0⟩)
abbrev s_is_whole : Stmt := top 24
abbrev s_is_span : Stmt := top 25
abbrev s_is_field : Stmt := top 29
abbrev s_are_parts : Stmt := top 30
abbrev s_is_wish : Stmt := top 31
abbrev s_is_piece : Stmt := top 32
abbrev s_is_name : Stmt := top 35
abbrev s_is_count : Stmt := top 36
abbrev s_is_way : Stmt := top 37
abbrev s_is_news : Stmt := top 38
abbrev s_is_marks : Stmt := top 39
abbrev s_is_kept : Stmt := top 40
abbrev s_is_letter : Stmt := top 41
abbrev s_words_of : Stmt := top 47
abbrev s_read_number : Stmt := top 48
abbrev s_read_end : Stmt := top 49
abbrev s_two_of : Stmt := top 50
abbrev s_read_wish : Stmt := top 51
abbrev s_read_piece : Stmt := top 52
abbrev s_read_news : Stmt := top 53
abbrev s_read_marks : Stmt := top 54
abbrev s_read_moving : Stmt := top 55
abbrev s_read_letter : Stmt := top 56
abbrev s__law_bag : Stmt := top 58
abbrev s__law_draw : Stmt := top 59
abbrev s__law_number : Stmt := top 60
abbrev s__law_held : Stmt := top 61
abbrev s__law_span : Stmt := top 62
abbrev s__law_whole : Stmt := top 63
abbrev s__law_field : Stmt := top 64
abbrev s__law_fields : Stmt := top 65
abbrev s__law_same : Stmt := top 66
abbrev s__law_made : Stmt := top 67
abbrev s__law_written : Stmt := top 68
abbrev s__law_plain : Stmt := top 69
abbrev s__law_is_field : Stmt := top 70
abbrev s__law_is_span : Stmt := top 71
abbrev s__law_is_made : Stmt := top 72
abbrev s__law_value : Stmt := top 73
abbrev s__law_part_of : Stmt := top 74
abbrev s__law_read : Stmt := top 75
abbrev s__law_count : Stmt := top 76
abbrev s__law_rising : Stmt := top 77
abbrev s__law_course : Stmt := top 78
abbrev s__law_letter : Stmt := top 79
abbrev s__law_shown : Stmt := top 80
abbrev s__law_other_word : Stmt := top 81
abbrev s__law_bent : Stmt := top 82
abbrev s__law_counts : Stmt := top 83
abbrev s__law_course_of : Stmt := top 84
abbrev s__law_marks_of : Stmt := top 85
abbrev s__law_news_of : Stmt := top 86
abbrev s__law_letter_of : Stmt := top 87
abbrev s__law_told : Stmt := top 88
abbrev s_law : Stmt := top 89
theorem sc_is_whole : FnScope ["thing"] ["thing"] (defScope s_is_whole) := ⟨rfl, rfl, rfl, by decide +kernel, rfl, by decide +kernel, by decide +kernel⟩
theorem sc_is_span : FnScope ["thing", "end", "low", "high"] ["thing"] (defScope s_is_span) := ⟨rfl, rfl, rfl, by decide +kernel, rfl, by decide +kernel, by decide +kernel⟩
theorem sc_is_field : FnScope ["thing", "sign"] ["thing"] (defScope s_is_field) := ⟨rfl, rfl, rfl, by decide +kernel, rfl, by decide +kernel, by decide +kernel⟩
theorem sc_are_parts : FnScope ["thing", "size", "last", "part"] ["thing", "size"] (defScope s_are_parts) := ⟨rfl, rfl, rfl, by decide +kernel, rfl, by decide +kernel, by decide +kernel⟩
theorem sc_is_wish : FnScope ["thing", "field", "low", "high"] ["thing"] (defScope s_is_wish) := ⟨rfl, rfl, rfl, by decide +kernel, rfl, by decide +kernel, by decide +kernel⟩
theorem sc_is_piece : FnScope ["thing", "field", "number"] ["thing"] (defScope s_is_piece) := ⟨rfl, rfl, rfl, by decide +kernel, rfl, by decide +kernel, by decide +kernel⟩
theorem sc_is_name : FnScope ["thing", "sign"] ["thing"] (defScope s_is_name) := ⟨rfl, rfl, rfl, by decide +kernel, rfl, by decide +kernel, by decide +kernel⟩
theorem sc_is_count : FnScope ["thing"] ["thing"] (defScope s_is_count) := ⟨rfl, rfl, rfl, by decide +kernel, rfl, by decide +kernel, by decide +kernel⟩
theorem sc_is_way : FnScope ["thing", "post"] ["thing"] (defScope s_is_way) := ⟨rfl, rfl, rfl, by decide +kernel, rfl, by decide +kernel, by decide +kernel⟩
theorem sc_is_news : FnScope ["thing"] ["thing"] (defScope s_is_news) := ⟨rfl, rfl, rfl, by decide +kernel, rfl, by decide +kernel, by decide +kernel⟩
theorem sc_is_marks : FnScope ["thing", "least", "mark"] ["thing"] (defScope s_is_marks) := ⟨rfl, rfl, rfl, by decide +kernel, rfl, by decide +kernel, by decide +kernel⟩
theorem sc_is_kept : FnScope ["thing", "news"] ["thing"] (defScope s_is_kept) := ⟨rfl, rfl, rfl, by decide +kernel, rfl, by decide +kernel, by decide +kernel⟩
theorem sc_is_letter : FnScope ["thing"] ["thing"] (defScope s_is_letter) := ⟨rfl, rfl, rfl, by decide +kernel, rfl, by decide +kernel, by decide +kernel⟩
theorem sc_words_of : FnScope ["text", "by"] ["text", "by"] (defScope s_words_of) := ⟨rfl, rfl, rfl, by decide +kernel, rfl, by decide +kernel, by decide +kernel⟩
theorem sc_read_number : FnScope ["word", "figures", "sign"] ["word"] (defScope s_read_number) := ⟨rfl, rfl, rfl, by decide +kernel, rfl, by decide +kernel, by decide +kernel⟩
theorem sc_read_end : FnScope ["word"] ["word"] (defScope s_read_end) := ⟨rfl, rfl, rfl, by decide +kernel, rfl, by decide +kernel, by decide +kernel⟩
theorem sc_two_of : FnScope ["word", "by", "parts"] ["word", "by"] (defScope s_two_of) := ⟨rfl, rfl, rfl, by decide +kernel, rfl, by decide +kernel, by decide +kernel⟩
theorem sc_read_wish : FnScope ["text", "wish", "word", "field", "ends", "low", "high"] ["text"] (defScope s_read_wish) := ⟨rfl, rfl, rfl, by decide +kernel, rfl, by decide +kernel, by decide +kernel⟩
theorem sc_read_piece : FnScope ["text", "piece", "word", "field", "number"] ["text"] (defScope s_read_piece) := ⟨rfl, rfl, rfl, by decide +kernel, rfl, by decide +kernel, by decide +kernel⟩
theorem sc_read_news : FnScope ["words"] ["words"] (defScope s_read_news) := ⟨rfl, rfl, rfl, by decide +kernel, rfl, by decide +kernel, by decide +kernel⟩
theorem sc_read_marks : FnScope ["word", "marks", "mark", "teller", "number"] ["word"] (defScope s_read_marks) := ⟨rfl, rfl, rfl, by decide +kernel, rfl, by decide +kernel, by decide +kernel⟩
theorem sc_read_moving : FnScope ["text", "parts", "words", "course", "word", "pieces", "part"] ["text"] (defScope s_read_moving) := ⟨rfl, rfl, rfl, by decide +kernel, rfl, by decide +kernel, by decide +kernel⟩
theorem sc_read_letter : FnScope ["text", "words", "letter"] ["text"] (defScope s_read_letter) := ⟨rfl, rfl, rfl, by decide +kernel, rfl, by decide +kernel, by decide +kernel⟩
theorem sc__law_bag : FnScope ["script", "great", "cell", "lesser", "stir"] ["script"] (defScope s__law_bag) := ⟨rfl, rfl, rfl, by decide +kernel, rfl, by decide +kernel, by decide +kernel⟩
theorem sc__law_draw : FnScope ["bag", "many", "found", "cell"] ["bag", "many"] (defScope s__law_draw) := ⟨rfl, rfl, rfl, by decide +kernel, rfl, by decide +kernel, by decide +kernel⟩
theorem sc__law_number : FnScope ["bag", "choice", "number"] ["bag"] (defScope s__law_number) := ⟨rfl, rfl, rfl, by decide +kernel, rfl, by decide +kernel, by decide +kernel⟩
theorem sc__law_held : FnScope ["number"] ["number"] (defScope s__law_held) := ⟨rfl, rfl, rfl, by decide +kernel, rfl, by decide +kernel, by decide +kernel⟩
theorem sc__law_span : FnScope ["bag", "choice", "low", "high"] ["bag"] (defScope s__law_span) := ⟨rfl, rfl, rfl, by decide +kernel, rfl, by decide +kernel, by decide +kernel⟩
theorem sc__law_whole : FnScope ["found"] ["found"] (defScope s__law_whole) := ⟨rfl, rfl, rfl, by decide +kernel, rfl, by decide +kernel, by decide +kernel⟩
theorem sc__law_field : FnScope ["bag", "choice", "some", "k"] ["bag"] (defScope s__law_field) := ⟨rfl, rfl, rfl, by decide +kernel, rfl, by decide +kernel, by decide +kernel⟩
theorem sc__law_fields : FnScope ["bag", "most", "k"] ["bag", "most"] (defScope s__law_fields) := ⟨rfl, rfl, rfl, by decide +kernel, rfl, by decide +kernel, by decide +kernel⟩
theorem sc__law_same : FnScope ["found", "due", "k"] ["found", "due"] (defScope s__law_same) := ⟨rfl, rfl, rfl, by decide +kernel, rfl, by decide +kernel, by decide +kernel⟩
theorem sc__law_made : FnScope ["bag", "size", "most", "parts", "field", "span"] ["bag", "size", "most"] (defScope s__law_made) := ⟨rfl, rfl, rfl, by decide +kernel, rfl, by decide +kernel, by decide +kernel⟩
theorem sc__law_written : FnScope ["thing", "words", "part", "ends", "end"] ["thing"] (defScope s__law_written) := ⟨rfl, rfl, rfl, by decide +kernel, rfl, by decide +kernel, by decide +kernel⟩
theorem sc__law_plain : FnScope ["bag", "deep", "choice", "some", "k"] ["bag", "deep"] (defScope s__law_plain) := ⟨rfl, rfl, rfl, by decide +kernel, rfl, by decide +kernel, by decide +kernel⟩
theorem sc__law_is_field : FnScope ["thing", "sign"] ["thing"] (defScope s__law_is_field) := ⟨rfl, rfl, rfl, by decide +kernel, rfl, by decide +kernel, by decide +kernel⟩
theorem sc__law_is_span : FnScope ["low", "high", "end"] ["low", "high"] (defScope s__law_is_span) := ⟨rfl, rfl, rfl, by decide +kernel, rfl, by decide +kernel, by decide +kernel⟩
theorem sc__law_is_made : FnScope ["thing", "size", "k", "part"] ["thing", "size"] (defScope s__law_is_made) := ⟨rfl, rfl, rfl, by decide +kernel, rfl, by decide +kernel, by decide +kernel⟩
theorem sc__law_value : FnScope ["word", "figures", "sign"] ["word"] (defScope s__law_value) := ⟨rfl, rfl, rfl, by decide +kernel, rfl, by decide +kernel, by decide +kernel⟩
theorem sc__law_part_of : FnScope ["word", "size", "field", "sign", "rest", "low", "dots", "high", "ends", "values", "end", "lacks", "k"] ["word", "size"] (defScope s__law_part_of) := ⟨rfl, rfl, rfl, by decide +kernel, rfl, by decide +kernel, by decide +kernel⟩
theorem sc__law_read : FnScope ["text", "size", "parts", "word"] ["text", "size"] (defScope s__law_read) := ⟨rfl, rfl, rfl, by decide +kernel, rfl, by decide +kernel, by decide +kernel⟩
theorem sc__law_count : FnScope ["bag", "few"] ["bag"] (defScope s__law_count) := ⟨rfl, rfl, rfl, by decide +kernel, rfl, by decide +kernel, by decide +kernel⟩
theorem sc__law_rising : FnScope ["bag", "many", "found", "at", "k"] ["bag", "many"] (defScope s__law_rising) := ⟨rfl, rfl, rfl, by decide +kernel, rfl, by decide +kernel, by decide +kernel⟩
theorem sc__law_course : FnScope ["bag", "found", "number"] ["bag"] (defScope s__law_course) := ⟨rfl, rfl, rfl, by decide +kernel, rfl, by decide +kernel, by decide +kernel⟩
theorem sc__law_letter : FnScope ["bag", "most", "word", "hand", "course", "marks", "teller", "pieces", "k"] ["bag", "most"] (defScope s__law_letter) := ⟨rfl, rfl, rfl, by decide +kernel, rfl, by decide +kernel, by decide +kernel⟩
theorem sc__law_shown : FnScope ["thing", "text", "part", "post", "marks", "teller", "number", "piece"] ["thing"] (defScope s__law_shown) := ⟨rfl, rfl, rfl, by decide +kernel, rfl, by decide +kernel, by decide +kernel⟩
theorem sc__law_other_word : FnScope ["bag", "word", "some", "at", "other"] ["bag", "word"] (defScope s__law_other_word) := ⟨rfl, rfl, rfl, by decide +kernel, rfl, by decide +kernel, by decide +kernel⟩
theorem sc__law_bent : FnScope ["bag", "text", "signs", "choice", "sign", "at", "words", "k", "to"] ["bag", "text"] (defScope s__law_bent) := ⟨rfl, rfl, rfl, by decide +kernel, rfl, by decide +kernel, by decide +kernel⟩
theorem sc__law_counts : FnScope ["text", "by", "found", "word"] ["text", "by"] (defScope s__law_counts) := ⟨rfl, rfl, rfl, by decide +kernel, rfl, by decide +kernel, by decide +kernel⟩
theorem sc__law_course_of : FnScope ["word", "found"] ["word"] (defScope s__law_course_of) := ⟨rfl, rfl, rfl, by decide +kernel, rfl, by decide +kernel, by decide +kernel⟩
theorem sc__law_marks_of : FnScope ["word", "pairs", "mark", "pair", "tellers"] ["word"] (defScope s__law_marks_of) := ⟨rfl, rfl, rfl, by decide +kernel, rfl, by decide +kernel, by decide +kernel⟩
theorem sc__law_news_of : FnScope ["text", "words", "heads", "word", "piece"] ["text"] (defScope s__law_news_of) := ⟨rfl, rfl, rfl, by decide +kernel, rfl, by decide +kernel, by decide +kernel⟩
theorem sc__law_letter_of : FnScope ["text", "word", "blank", "rest", "wish", "news", "parts", "words", "course", "marks", "pieces", "part"] ["text"] (defScope s__law_letter_of) := ⟨rfl, rfl, rfl, by decide +kernel, rfl, by decide +kernel, by decide +kernel⟩
theorem sc__law_told : FnScope ["text", "found", "kinds", "e", "others"] ["text"] (defScope s__law_told) := ⟨rfl, rfl, rfl, by decide +kernel, rfl, by decide +kernel, by decide +kernel⟩
theorem sc_law : FnScope ["script", "bag", "last", "turn", "spoils", "letter", "text", "k", "one", "due", "kept"] ["script"] (defScope s_law) := ⟨rfl, rfl, rfl, by decide +kernel, rfl, by decide +kernel, by decide +kernel⟩
/-- where the exception classes stand -/
structure Ads where
  NewsError : Addr
  NoSpan : Addr
  NoNumber : Addr
  NoField : Addr
  NoWish : Addr
  NoPiece : Addr
  TooMany : Addr
  NoName : Addr
  Twice : Addr
  NotWanted : Addr
  NoWeb : Addr
  NoPost : Addr
  NoRoad : Addr
  NoHand : Addr
  NoLetter : Addr
  OnTheWay : Addr
  Full : Addr
  NoStands : Addr
  NoDeed : Addr
  Stuck : Addr
  NoText : Addr
  NoRow : Addr
structure Txt (K : PySem.W.Frag) (mg : Str → Option Value) (c : Ads) : Prop where
  d_is_whole : Def K mg "is_whole" s_is_whole ["thing"]
  d_is_span : Def K mg "is_span" s_is_span ["thing"]
  d_is_field : Def K mg "is_field" s_is_field ["thing"]
  d_are_parts : Def K mg "are_parts" s_are_parts ["thing", "size"]
  d_is_wish : Def K mg "is_wish" s_is_wish ["thing"]
  d_is_piece : Def K mg "is_piece" s_is_piece ["thing"]
  d_is_name : Def K mg "is_name" s_is_name ["thing"]
  d_is_count : Def K mg "is_count" s_is_count ["thing"]
  d_is_way : Def K mg "is_way" s_is_way ["thing"]
  d_is_news : Def K mg "is_news" s_is_news ["thing"]
  d_is_marks : Def K mg "is_marks" s_is_marks ["thing"]
  d_is_kept : Def K mg "is_kept" s_is_kept ["thing"]
  d_is_letter : Def K mg "is_letter" s_is_letter ["thing"]
  d_words_of : Def K mg "words_of" s_words_of ["text", "by"]
  d_read_number : Def K mg "read_number" s_read_number ["word"]
  d_read_end : Def K mg "read_end" s_read_end ["word"]
  d_two_of : Def K mg "two_of" s_two_of ["word", "by"]
  d_read_wish : Def K mg "read_wish" s_read_wish ["text"]
  d_read_piece : Def K mg "read_piece" s_read_piece ["text"]
  d_read_news : Def K mg "read_news" s_read_news ["words"]
  d_read_marks : Def K mg "read_marks" s_read_marks ["word"]
  d_read_moving : Def K mg "read_moving" s_read_moving ["text"]
  d_read_letter : Def K mg "read_letter" s_read_letter ["text"]
  d__law_bag : Def K mg "_law_bag" s__law_bag ["script"]
  d__law_draw : Def K mg "_law_draw" s__law_draw ["bag", "many"]
  d__law_number : Def K mg "_law_number" s__law_number ["bag"]
  d__law_held : Def K mg "_law_held" s__law_held ["number"]
  d__law_span : Def K mg "_law_span" s__law_span ["bag"]
  d__law_whole : Def K mg "_law_whole" s__law_whole ["found"]
  d__law_field : Def K mg "_law_field" s__law_field ["bag"]
  d__law_fields : Def K mg "_law_fields" s__law_fields ["bag", "most"]
  d__law_same : Def K mg "_law_same" s__law_same ["found", "due"]
  d__law_made : Def K mg "_law_made" s__law_made ["bag", "size", "most"]
  d__law_written : Def K mg "_law_written" s__law_written ["thing"]
  d__law_plain : Def K mg "_law_plain" s__law_plain ["bag", "deep"]
  d__law_is_field : Def K mg "_law_is_field" s__law_is_field ["thing"]
  d__law_is_span : Def K mg "_law_is_span" s__law_is_span ["low", "high"]
  d__law_is_made : Def K mg "_law_is_made" s__law_is_made ["thing", "size"]
  d__law_value : Def K mg "_law_value" s__law_value ["word"]
  d__law_part_of : Def K mg "_law_part_of" s__law_part_of ["word", "size"]
  d__law_read : Def K mg "_law_read" s__law_read ["text", "size"]
  d__law_count : Def K mg "_law_count" s__law_count ["bag"]
  d__law_rising : Def K mg "_law_rising" s__law_rising ["bag", "many"]
  d__law_course : Def K mg "_law_course" s__law_course ["bag"]
  d__law_letter : Def K mg "_law_letter" s__law_letter ["bag", "most"]
  d__law_shown : Def K mg "_law_shown" s__law_shown ["thing"]
  d__law_other_word : Def K mg "_law_other_word" s__law_other_word ["bag", "word"]
  d__law_bent : Def K mg "_law_bent" s__law_bent ["bag", "text"]
  d__law_counts : Def K mg "_law_counts" s__law_counts ["text", "by"]
  d__law_course_of : Def K mg "_law_course_of" s__law_course_of ["word"]
  d__law_marks_of : Def K mg "_law_marks_of" s__law_marks_of ["word"]
  d__law_news_of : Def K mg "_law_news_of" s__law_news_of ["text"]
  d__law_letter_of : Def K mg "_law_letter_of" s__law_letter_of ["text"]
  d__law_told : Def K mg "_law_told" s__law_told ["text"]
  d_law : Def K mg "law" s_law ["script"]
  g_LETTERS : Glo mg "LETTERS" (.str "abcdefghijklmnopqrstuvwxyz")
  g_LONGEST : Glo mg "LONGEST" (.int 8)
  g_SMALL : Glo mg "SMALL" (.str "abcdefghijklmnopqrstuvwxyz")
  g_FIGURES : Glo mg "FIGURES" (.str "0123456789")
  g_MOST : Glo mg "MOST" (.int 15)
  g_NONE : Glo mg "NONE" (.str "-")
  g_OPEN : Glo mg "OPEN" (.str "*")
  e_NewsError : ExcC K mg "NewsError" c.NewsError
  e_NoSpan : ExcC K mg "NoSpan" c.NoSpan
  e_NoNumber : ExcC K mg "NoNumber" c.NoNumber
  e_NoField : ExcC K mg "NoField" c.NoField
  e_NoWish : ExcC K mg "NoWish" c.NoWish
  e_NoPiece : ExcC K mg "NoPiece" c.NoPiece
  e_TooMany : ExcC K mg "TooMany" c.TooMany
  e_NoName : ExcC K mg "NoName" c.NoName
  e_Twice : ExcC K mg "Twice" c.Twice
  e_NotWanted : ExcC K mg "NotWanted" c.NotWanted
  e_NoWeb : ExcC K mg "NoWeb" c.NoWeb
  e_NoPost : ExcC K mg "NoPost" c.NoPost
  e_NoRoad : ExcC K mg "NoRoad" c.NoRoad
  e_NoHand : ExcC K mg "NoHand" c.NoHand
  e_NoLetter : ExcC K mg "NoLetter" c.NoLetter
  e_OnTheWay : ExcC K mg "OnTheWay" c.OnTheWay
  e_Full : ExcC K mg "Full" c.Full
  e_NoStands : ExcC K mg "NoStands" c.NoStands
  e_NoDeed : ExcC K mg "NoDeed" c.NoDeed
  e_Stuck : ClsC K mg "Stuck" c.Stuck
  e_NoText : ExcC K mg "NoText" c.NoText
  e_NoRow : ExcC K mg "NoRow" c.NoRow
  n_len : mg "len" = none
  n_isinstance : mg "isinstance" = none
  n_int : mg "int" = none
  n_str : mg "str" = none
  n_bool : mg "bool" = none
  n_list : mg "list" = none
  n_tuple : mg "tuple" = none
  n_all : mg "all" = none
  n_sorted : mg "sorted" = none
  n_set : mg "set" = none
  n_max : mg "max" = none
  n_min : mg "min" = none
  n_range : mg "range" = none
  n_repr : mg "repr" = none
  n_ValueError : mg "ValueError" = none

/-! ### steps of a reading -/
local macro_rules | `(tactic| walk_at "kp") => `(tactic| first
  | exact Kp.refl
  | assumption
  | exact Kp.no (by assumption)
  | ((with_reducible refine Kp.fresh ?_ (by assumption)); walk_at "kp")
  | ((with_reducible refine Kp.new ?_ (by assumption)); walk_at "kp")
  | (refine Kp.trans (by assumption) ?_; walk_at "kp")
  | (refine Kp.trans (Kp.no (by assumption)) ?_; walk_at "kp"))
local macro_rules | `(tactic| walk_at "tup") => `(tactic| first
  | assumption
  | exact upd_same
  | (refine Kp.tup (ex := No) ?_ (by assumption); walk_at "kp"))
local macro_rules | `(tactic| walk_at "lst") => `(tactic| first
  | assumption
  | exact upd_same
  | (refine Kp.lst ?_ (by assumption); walk_at "kp"))
local macro_rules | `(tactic| walk_at "sql") => `(tactic| first
  | assumption
  | exact SqL.of (by assumption)
  | (refine Kp.sql ?_ (by assumption); walk_at "kp")
  | (refine SqL.of ?_; walk_at "lst"))
local macro_rules | `(tactic| walk_at "dat") => `(tactic| first
  | assumption
  | with_reducible exact Dat.int _
  | with_reducible exact Dat.str _ (by assumption)
  | with_reducible exact Dat.str _ (by decide +kernel)
  | with_reducible exact Dat.bl _
  | with_reducible exact Dat.non
  | (refine Dat.mono (ex' := No) ?_ (fun _ z => z.elim) (by assumption); walk_at "kp")
  | (refine Dat.kp (by assumption) ?_; walk_at "kp")
  | ((with_reducible apply Dat.tup); (walk_at "tup"); (walk_at "dats")))
local macro_rules | `(tactic| walk_at "scal") => `(tactic| first
  | with_reducible exact Dat.int _
  | with_reducible exact Dat.str _ (by assumption)
  | with_reducible exact Dat.bl _
  | with_reducible exact Dat.non)
local macro_rules | `(tactic| walk_at "dats") => `(tactic| first
  | assumption
  | with_reducible exact Dats.nil
  | ((with_reducible apply Dats.cons); (walk_at "dat"); (walk_at "dats"))
  | (refine Dats.mono (ex' := No) ?_ (fun _ z => z.elim) (by assumption); walk_at "kp")
  | (refine Dats.kp (by assumption) ?_; walk_at "kp"))
local macro_rules | `(tactic| walk_at "len") => `(tactic| first
  | omega
  | (simp only [len_app, l_colon, l_dots, l_blank, l_empty, l_bar, l_dash, l_star, l_comma, l_emp]; omega))
local macro_rules | `(tactic| walk_at "s") => `(tactic| first
  | with_reducible refine r_seq ?_
  | with_reducible refine r_nx ?_
  | with_reducible refine r_asg ?_
  | with_reducible refine r_name ?_
  | with_reducible refine r_ret ?_
  | with_reducible refine r_if ?_
  | with_reducible refine r_drop ?_
  | ((with_reducible show tVar _ _ _ _); refine ⟨_, rfl, ?_⟩)
  | with_reducible refine r_c ?_
  | with_reducible refine r_op ?_
  | with_reducible refine r_un ?_
  | with_reducible refine r_test ?_
  | with_reducible refine r_tB ?_
  | with_reducible refine r_bl ?_
  | with_reducible refine r_and ?_
  | with_reducible refine r_or ?_
  | with_reducible refine r_not ?_
  | with_reducible refine r_andV ?_
  | with_reducible refine r_orV ?_
  | with_reducible refine r_notV ?_
  | with_reducible refine r_ife ?_
  | with_reducible refine r_chain ?_
  | with_reducible refine r_nil ?_
  | with_reducible refine r_cons ?_
  | with_reducible refine r_call ?_
  | with_reducible refine r_cb ?_
  | with_reducible refine r_tup ?_
  | with_reducible refine r_lst ?_
  | with_reducible refine r_isN ?_
  | with_reducible refine r_notN ?_
  | with_reducible refine r_part0 ?_
  | with_reducible refine r_part ?_
  | with_reducible refine r_int ?_
  | with_reducible refine r_sl ?_
  | ((with_reducible apply r_eq_nil); (walk_at "sql"); (walk_at "lst"))
  | ((with_reducible apply r_ne_nil); (walk_at "sql"); (walk_at "lst"))
  | with_reducible refine r_yes ?_
  | ((with_reducible refine r_wipe ?_ ?_); rfl)
  | with_reducible refine r_exc ?_
  | with_reducible refine r_m1 ?_
  | with_reducible refine r_isS ?_
  | with_reducible refine r_starts ?_
  | with_reducible refine r_joined ?_
  | with_reducible refine r_js0 ?_
  | with_reducible refine r_js ?_
  | with_reducible refine r_fmt ?_
  | ((with_reducible refine r_js1 ?_ ?_); (walk_at "len"))
  | ((with_reducible refine r_fmt_s ?_ ?_); (walk_at "len"))
  | ((with_reducible refine r_fmt_i ?_ ?_); (walk_at "len"))
  | ((with_reducible refine r_strI ?_ ?_); (walk_at "len"))
  | ((with_reducible refine r_str_i ?_ ?_); (walk_at "len"))
  | with_reducible refine r_str_s ?_
  | ((with_reducible refine r_add_s ?_ ?_); (walk_at "len"))
  | with_reducible refine r_callS ?_
  | with_reducible refine sp1_in1 ?_
  | with_reducible refine sp1_in ?_
  | with_reducible refine sp2_in ?_
  | with_reducible refine sp3_in ?_
  | with_reducible refine r_I0 ?_
  | with_reducible refine r_U ?_
  | with_reducible refine iteT ?_
  | with_reducible refine iteF ?_
  | with_reducible refine r_eq_ii ?_
  | with_reducible refine r_ne_ii ?_
  | with_reducible refine r_eq_ss ?_
  | with_reducible refine r_ne_ss ?_
  | ((with_reducible refine r_eq_s ?_ ?_); rfl)
  | ((with_reducible refine r_ne_s ?_ ?_); rfl)
  | with_reducible refine r_lt_ii ?_
  | with_reducible refine r_lt_ss ?_
  | with_reducible refine r_le_ii ?_
  | with_reducible refine r_le_ss ?_
  | with_reducible refine r_gt_ii ?_
  | with_reducible refine r_ge_ii ?_
  | with_reducible refine r_add_ii ?_
  | ((with_reducible apply r_isi_int (ex := No)); (walk_at "scal"))
  | ((with_reducible apply r_isi_int); (walk_at "dat"))
  | ((with_reducible apply r_isi_bool (ex := No)); (walk_at "scal"))
  | ((with_reducible apply r_isi_bool); (walk_at "dat"))
  | ((with_reducible apply r_isi_str (ex := No)); (walk_at "scal"))
  | ((with_reducible apply r_isi_str); (walk_at "dat"))
  | ((with_reducible apply r_isi_tup (ex := No)); (walk_at "scal"))
  | ((with_reducible apply r_isi_tup); (walk_at "dat"))
  | ((with_reducible apply r_isi_list (ex := No)); (walk_at "scal"))
  | ((with_reducible apply r_isi_list); (walk_at "dat"))
  | ((with_reducible apply r_len_t); (walk_at "tup"))
  | ((with_reducible refine r_len_ss ?_ ?_); assumption)
  | ((with_reducible apply r_len_s); (walk_at "dat"))
  | ((with_reducible apply r_gtup); (walk_at "tup"); rfl)
  | with_reducible refine r_in_c ?_
  | with_reducible refine r_nin_c ?_
  | ((with_reducible apply r_at_t (i := 0)); (walk_at "tup"); (exact rfl); rfl)
  | ((with_reducible apply r_at_t (i := 1)); (walk_at "tup"); (exact rfl); rfl)
  | ((with_reducible apply r_at_t (i := 2)); (walk_at "tup"); (exact rfl); rfl)
  | ((with_reducible apply r_at_t (i := 3)); (walk_at "tup"); (exact rfl); rfl)
  | ((with_reducible apply r_at_t (i := 4)); (walk_at "tup"); (exact rfl); rfl)
  | ((with_reducible refine r_newT ?_ ?_); (exact Nat.le_of_ble_eq_true rfl); intro _ _ _ _ _)
  | ((with_reducible refine r_newL ?_ ?_); (exact Nat.le_of_ble_eq_true rfl); intro _ _ _ _ _)
  | with_reducible refine r_gcons ?_
  | with_reducible refine r_gnil ?_
  | ((with_reducible apply r_bool1); (walk_at "dat"); intro _ _)
  | with_reducible refine r_gsub ?_
  | ((with_reducible apply r_ixl (n := 0)); (walk_at "lst"); (exact rfl); rfl)
  | ((with_reducible apply r_ixl (n := 1)); (walk_at "lst"); (exact rfl); rfl)
  | ((with_reducible apply r_ixl (n := 2)); (walk_at "lst"); (exact rfl); rfl)
  | ((with_reducible apply r_ixl (n := 3)); (walk_at "lst"); (exact rfl); rfl)
  | with_reducible refine br_iN ?_
  | with_reducible refine br_nN ?_
  | with_reducible refine br_iNN ?_
  | with_reducible refine br_bN ?_
  | with_reducible refine br_sN ?_
  | with_reducible refine br_rN ?_
  | with_reducible refine br_nNN ?_
  | with_reducible refine r_min2 ?_
  | with_reducible refine r_max2 ?_
  | with_reducible refine r_abs ?_
  | with_reducible refine r_lenSet ?_
  | with_reducible refine r_dget ?_
  | with_reducible refine r_din ?_
  | with_reducible refine r_dnin ?_
  | with_reducible refine r_dput ?_
  | ((with_reducible refine r_dnewK ?_); intro _ _ _ _ _)
  | with_reducible refine r_bm ?_
  | with_reducible refine r_bm0 ?_
  | ((with_reducible apply r_tyL); (walk_at "lst"))
  | ((with_reducible apply r_tupL); (walk_at "lst"); intro _ _ _ _ _)
  | ((with_reducible refine r_sl_s ?_ ?_); (walk_at "len")))
local macro_rules | `(tactic| walk_at "br") => `(tactic| first
  | with_reducible refine br_nd ?_ ?_
  | with_reducible refine br_d ?_ ?_
  | with_reducible refine br_n ?_ ?_
  | with_reducible refine r_ite ?_ ?_)
local macro_rules | `(tactic| walk_at "go") => `(tactic| repeat (walk_at "s"))

section
variable {P : Program} {w : World} {K : PySem.W.Frag} {mg : Str → Option Value} {base : Heap} {c : Ads}
/-! the looks at data -/
theorem c_is_whole (T : Txt K mg c) : Cal P w K mg base CX0 1 "is_whole" ["thing"] (spBool1 wholeD) := by
  refine T.d_is_whole.cal sc_is_whole sp1_len (fun f cdv A outer s H vs Q E hr h => ?_)
  obtain ⟨v, rfl, ex, d, hd, k⟩ := h
  refine ⟨_, (pss_one (ps_ret (pe_and (pe_callB (call_isi2 (K := K)) (by rfl) T.n_isinstance (by decide +kernel) (pa_cons (pv 0) (pa_cons (pe_bltn (v := .ty "int") (by rfl) T.n_int (by decide +kernel) rfl) pa_nil))) (pe_one (pe_not (pe_callB (call_isi2 (K := K)) (by rfl) T.n_isinstance (by decide +kernel) (pa_cons (pv 0) (pa_cons (pe_bltn (v := .ty "bool") (by rfl) T.n_bool (by decide +kernel) rfl) pa_nil)))))))), ?_⟩
  walk_at "go"
  walk_at "br"
  · intro h1
    walk_at "go"
    exact fin_b k (by rw [wholeD_eq, h1]; rfl) (by walk_at "kp")
  · intro h1
    exact fin_b k (by rw [wholeD_eq, h1]; rfl) (by walk_at "kp")
theorem c_is_span (T : Txt K mg c) : Cal P w K mg base CX0 2 "is_span" ["thing"] (spBool1 spanD) := by
  refine T.d_is_span.cal sc_is_span sp1_len (fun f cdv A outer s H vs Q E hr h => ?_)
  obtain ⟨v, rfl, ex, d, hd, k⟩ := h
  refine ⟨_, (pss_cons (ps_if (PW.pt (pw_or (pt_not (pt_val (pe_callB (call_isi2 (K := K)) (by rfl) T.n_isinstance (by decide +kernel) (pa_cons (pv 0) (pa_cons (pe_bltn (v := .ty "tuple") (by rfl) T.n_tuple (by decide +kernel) rfl) pa_nil))) (by intro _; rfl))) (pw_or1 (pt_cmpR (op_ne2 (K := K) hr.units) (pe_callB (call_len2 (K := K)) (by rfl) T.n_len (by decide +kernel) (pa_cons (pv 0) pa_nil)) pe_int (nomark _))))) (pss_one (ps_ret pe_bl)) pss_nil)
    (pss_cons (ps_for PassesOwn.never rfl (pi_any (K := K) (pv 0)) (pg_name (i := 1) sc_is_span.nd rfl (by first | exact Or.inl rfl | exact Or.inr rfl))
      (pss_one (ps_if (PW.pt (pw_and (pt_cmp (pc_notN (pv 1)) rfl) (pw_and1 (pt_not (pt_val (pe_cal (c_is_whole T) (hr.mono (by first | decide | omega)) pass0 (pa_cons (pv 1) pa_nil)) (by intro _; rfl)))))) (pss_one (ps_ret pe_bl)) pss_nil)))
    (pss_cons (ps_asg (pv 0) (pg_tup2 (K := K) (n := 2) (by rfl) (pgs_cons (pg_name (i := 2) sc_is_span.nd rfl (by first | exact Or.inl rfl | exact Or.inr rfl)) (pgs_cons (pg_name (i := 3) sc_is_span.nd rfl (by first | exact Or.inl rfl | exact Or.inr rfl)) pgs_nil))))
    (pss_one (ps_ret (pe_or (pe_cmp (pc_isN (pv 2)) rfl) (pe_or (pe_cmp (pc_isN (pv 3)) rfl) (pe_one (pe_cmpR op_le2 (pv 2) (pv 3) (nomark _)))))))))), ?_⟩
  walk_at "go"
  walk_at "br"
  · intro h1
    walk_at "go"
    have e : spanD d = false := by cases d <;> first | rfl | cases h1
    exact fin_b k e (by walk_at "kp")
  · intro h1
    obtain ⟨a, xs, ds, rfl, rfl, ha, hds⟩ := hd.tupI h1
    have hl := hds.len
    walk_at "go"
    walk_at "br"
    · intro h2
      walk_at "go"
      have e : spanD (.tuple ds) = false := by
        match ds, hl with
        | [_, _], hl => exact absurd (by rw [hl]; rfl) h2
        | [], _ => rfl
        | [_], _ => rfl
        | _ :: _ :: _ :: _, _ => rfl
      exact fin_b k e (by walk_at "kp")
    · intro h2
      obtain ⟨d1, d2, rfl⟩ : ∃ d1 d2, ds = [d1, d2] := by
        match ds, hl with
        | [d1, d2], _ => exact ⟨d1, d2, rfl⟩
        | [], hl => simp at hl; subst hl; simp at h2
        | [_], hl => rw [hl] at h2; simp at h2
        | _ :: _ :: _ :: _, hl => rw [hl] at h2; simp at h2; omega
      obtain ⟨x, y, rfl⟩ : ∃ x y, xs = [x, y] := by
        match xs, hl with
        | [x, y], _ => exact ⟨x, y, rfl⟩
      have hx : Dat ex H x d1 := by
        cases hds with
        | cons h _ => exact h
      have hy : Dat ex H y d2 := by
        cases hds with
        | cons _ h => cases h with | cons h _ => exact h
      walk_at "go"
      refine r_forT ?_
      walk_at "go"
      refine lpT No (fun i σ' H' => ∃ o, σ' = [some (.ref a), o, none, none] ∧ (([d1, d2] : List PyData).take i).all endD = true) ha ⟨none, rfl, rfl⟩ ?_ ?_
      · rintro i z σ' H' hi kp ⟨o, rfl, hall⟩
        obtain ⟨dz, hdz, hz⟩ := hds.get hi
        walk_at "go"
        have step : ∀ b, endD dz = b → (([d1, d2] : List PyData).take (i + 1)).all endD = b := fun b hb => by
          rw [List.take_add_one, hdz, List.all_append, hall, ← hb]
          simp
        have bad : endD dz = false → spanD (.tuple [d1, d2]) = false := fun hb => by
          have hm : dz ∈ ([d1, d2] : List PyData) := List.mem_of_getElem? hdz
          simp only [List.mem_cons, List.not_mem_nil, or_false] at hm
          rcases hm with rfl | rfl <;> simp [spanD, hb]
        walk_at "br"
        · intro h3
          walk_at "go"
          walk_at "br"
          · intro h4
            walk_at "go"
            refine fin_b k (bad ?_) (by walk_at "kp")
            cases dz <;> first | rfl | (cases hz; exact absurd rfl h3) | cases h4
          · intro h4
            walk_at "go"
            refine ⟨by walk_at "kp", _, rfl, step true ?_⟩
            cases dz <;> first | rfl | cases h4
        · intro h3
          walk_at "go"
          refine ⟨by walk_at "kp", _, rfl, step true ?_⟩
          subst h3
          cases hz
          rfl
      · rintro σ' H' kp ⟨o, rfl, hall⟩
        have h12 : endD d1 = true ∧ endD d2 = true := by simpa using hall
        have endI : ∀ {x : V} {d : PyData}, Dat ex H x d → endD d = true → ¬ x = .non → ∃ i, x = .int i ∧ d = .int i := fun hx he hn => by
          cases hx <;> first | exact ⟨_, rfl, rfl⟩ | exact absurd rfl hn | cases he
        walk_at "go"
        walk_at "br"
        · intro h5
          subst h5
          cases hx
          refine fin_b k ?_ (by walk_at "kp")
          show (endD .none && endD d2 && leD .none d2) = true
          rw [h12.2]; rfl
        · intro h5
          walk_at "go"
          walk_at "br"
          · intro h6
            subst h6
            cases hy
            refine fin_b k ?_ (by walk_at "kp")
            show (endD d1 && endD .none && leD d1 .none) = true
            rw [h12.1]
            cases d1 <;> rfl
          · intro h6
            obtain ⟨i, rfl, rfl⟩ := endI hx h12.1 h5
            obtain ⟨j, rfl, rfl⟩ := endI hy h12.2 h6
            walk_at "go"
            exact fin_b k rfl (by walk_at "kp")
theorem c_is_field (T : Txt K mg c) : Cal P w K mg base CX0 1 "is_field" ["thing"] (spBool1 fieldD) := by
  refine T.d_is_field.cal sc_is_field sp1_len (fun f cdv A outer s H vs Q E hr h => ?_)
  obtain ⟨v, rfl, ex, d, hd, k⟩ := h
  refine ⟨_, (pss_cons (ps_if (PW.pt (pw_or (pt_not (pt_val (pe_callB (call_isi2 (K := K)) (by rfl) T.n_isinstance (by decide +kernel) (pa_cons (pv 0) (pa_cons (pe_bltn (v := .ty "str") (by rfl) T.n_str (by decide +kernel) rfl) pa_nil))) (by intro _; rfl))) (pw_or (pt_cmpR (op_eq2 (K := K) hr.units) (pv 0) pe_str (nomark _)) (pw_or1 (pt_cmpR op_gt2 (pe_callB (call_len2 (K := K)) (by rfl) T.n_len (by decide +kernel) (pa_cons (pv 0) pa_nil)) (pe_glo T.g_LONGEST) (nomark _)))))) (pss_one (ps_ret pe_bl)) pss_nil)
    (pss_cons (ps_for PassesOwn.never rfl (pi_any (K := K) (pv 0)) (pg_name (i := 1) sc_is_field.nd rfl (by first | exact Or.inl rfl | exact Or.inr rfl))
      (pss_one (ps_if (pt_cmpR (op_nin2 (K := K)) (pv 1) (pe_glo T.g_LETTERS) (by rfl)) (pss_one (ps_ret pe_bl)) pss_nil)))
    (pss_one (ps_ret pe_bl)))), ?_⟩
  walk_at "go"
  walk_at "br"
  · intro h1
    walk_at "go"
    have e : fieldD d = false := by cases d <;> first | rfl | cases h1
    exact fin_b k e (by walk_at "kp")
  · intro h1
    obtain ⟨x, rfl, rfl, hx⟩ := hd.strI h1
    have hlen : x.length = x.cps.toList.length := by rw [Array.length_toList]; rfl
    walk_at "go"
    walk_at "br"
    · intro h2
      walk_at "go"
      exact fin_b k (by subst h2; decide +kernel) (by walk_at "kp")
    · intro h2
      walk_at "go"
      walk_at "br"
      · intro h3
        walk_at "go"
        refine fin_b k ?_ (by walk_at "kp")
        have h3' : ¬ x.cps.toList.length ≤ 8 := by rw [← hlen]; omega
        show (!x.cps.toList.isEmpty && decide (x.cps.toList.length ≤ 8) && _) = false
        rw [decide_eq_false h3', Bool.and_false, Bool.false_and]
      · intro h3
        walk_at "go"
        refine r_forS ?_
        walk_at "go"
        refine lpS (fun i σ' H' => Kp No H H' ∧ (∃ o, σ' = [some (.str x), o]) ∧ (x.cps.toList.take i).all (fun c => decide (c ∈ lettersL)) = true) ⟨Kp.refl, ⟨none, rfl⟩, rfl⟩ ?_ ?_
        · rintro i z σ' H' hi ⟨kp, ⟨o, rfl⟩, hall⟩
          walk_at "go"
          have hz : z ∈ x.cps.toList := List.mem_of_getElem? hi
          walk_at "br"
          · intro h4
            walk_at "go"
            refine fin_b k ?_ (by walk_at "kp")
            have e : (x.cps.toList.all fun c => decide (c ∈ lettersL)) = false := List.all_eq_false.mpr ⟨z, hz, by rw [decide_eq_true_eq]; exact h4⟩
            show (!x.cps.toList.isEmpty && decide (x.cps.toList.length ≤ 8) && _) = false
            rw [e, Bool.and_false]
          · intro h4
            walk_at "go"
            refine ⟨by walk_at "kp", ⟨_, rfl⟩, ?_⟩
            rw [List.take_add_one, hi, List.all_append, hall]
            show (true && (decide (z ∈ lettersL) && true)) = true
            rw [decide_eq_true (show z ∈ lettersL from h4)]; rfl
        · rintro σ' H' ⟨kp, ⟨o, rfl⟩, hall⟩
          walk_at "go"
          refine fin_b k ?_ (by walk_at "kp")
          rw [List.take_length] at hall
          have h3' : x.cps.toList.length ≤ 8 := by rw [← hlen]; omega
          have h2' : (!x.cps.toList.isEmpty) = true := by
            cases e : x.cps.toList with
            | nil => exact absurd (TL.ext_tl (x := x) (y := Str.ofString "") (by show x.cps.toList = _; rw [e]; decide +kernel)) h2
            | cons _ _ => rfl
          show (!x.cps.toList.isEmpty && decide (x.cps.toList.length ≤ 8) && _) = true
          rw [h2', decide_eq_true h3', hall]; rfl
abbrev spParts : Sp := sp2 fun v z H Q _ => ∃ ex d n, Dat ex H v d ∧ z = .int (n : Nat) ∧ 1 ≤ n ∧ ∀ H', Kp No H H' → Q (.bl (partsD n d)) H'
theorem c_are_parts (T : Txt K mg c) : Cal P w K mg base CX0 2 "are_parts" ["thing", "size"] spParts := by
  refine T.d_are_parts.cal sc_are_parts sp2_len (fun f cdv A outer s H vs Q E hr h => ?_)
  obtain ⟨v, _, rfl, ex, d, n, hd, rfl, hn1, k⟩ := h
  refine ⟨_, (pss_cons (ps_if (pt_not (pt_val (pe_callB (call_isi2 (K := K)) (by rfl) T.n_isinstance (by decide +kernel) (pa_cons (pv 0) (pa_cons (pe_bltn (v := .ty "tuple") (by rfl) T.n_tuple (by decide +kernel) rfl) pa_nil))) (by intro _; rfl))) (pss_one (ps_ret pe_bl)) pss_nil)
    (pss_cons (ps_set (i := 2) sc_are_parts.nd rfl (by first | exact Or.inl rfl | exact Or.inr rfl) pe_str)
    (pss_cons (ps_for PassesOwn.never rfl (pi_any (K := K) (pv 0)) (pg_name (i := 3) sc_are_parts.nd rfl (by first | exact Or.inl rfl | exact Or.inr rfl))
      (pss_cons (ps_if (PW.pt (pw_or (pt_not (pt_val (pe_callB (call_isi2 (K := K)) (by rfl) T.n_isinstance (by decide +kernel) (pa_cons (pv 3) (pa_cons (pe_bltn (v := .ty "tuple") (by rfl) T.n_tuple (by decide +kernel) rfl) pa_nil))) (by intro _; rfl))) (pw_or1 (pt_cmpR (op_ne2 (K := K) hr.units) (pe_callB (call_len2 (K := K)) (by rfl) T.n_len (by decide +kernel) (pa_cons (pv 3) pa_nil)) (pv 1) (nomark _))))) (pss_one (ps_ret pe_bl)) pss_nil)
      (pss_cons (ps_if (PW.pt (pw_or (pt_not (pt_val (pe_cal (c_is_field T) (hr.mono (by first | decide | omega)) pass0 (pa_cons (pe_ix (ix_any (K := K)) (pv 3) pe_int (fun _ _ => rfl)) pa_nil)) (by intro _; rfl))) (pw_or1 (pt_cmpR op_le2 (pe_ix (ix_any (K := K)) (pv 3) pe_int (fun _ _ => rfl)) (pv 2) (nomark _))))) (pss_one (ps_ret pe_bl)) pss_nil)
      (pss_one (ps_set (i := 2) sc_are_parts.nd rfl (by first | exact Or.inl rfl | exact Or.inr rfl) (pe_ix (ix_any (K := K)) (pv 3) pe_int (fun _ _ => rfl)))))))
    (pss_one (ps_ret pe_bl))))), ?_⟩
  walk_at "go"
  walk_at "br"
  · intro h1
    walk_at "go"
    have e : partsD n d = false := by cases d <;> first | rfl | cases h1
    exact fin_b k e (by walk_at "kp")
  · intro h1
    obtain ⟨a, xs, ds, rfl, rfl, ha, hds⟩ := hd.tupI h1
    walk_at "go"
    refine r_forT ?_
    walk_at "go"
    refine lpT No (fun i σ' H' => ∃ last o, σ' = [some (.ref a), some (.int (n : Nat)), some (.str last), o] ∧ partsGo n Str.empty ds = partsGo n last (ds.drop i) ∧ last.length ≤ 1000000) ha ⟨_, none, rfl, rfl, by decide⟩ ?_ ?_
    · rintro i z σ' H' hi kp ⟨last, o, rfl, hgo, hlast⟩
      obtain ⟨dz, hdz, hz0⟩ := hds.get hi
      have hz : Dat ex H' z dz := by walk_at "dat"
      have edrop : ds.drop i = dz :: ds.drop (i + 1) := by
        obtain ⟨hlt, e⟩ := List.getElem?_eq_some_iff.mp hdz
        rw [List.drop_eq_getElem_cons hlt, e]
      rw [edrop] at hgo
      walk_at "go"
      walk_at "br"
      · intro h2
        walk_at "go"
        refine fin_b k ?_ (by walk_at "kp")
        show partsGo n Str.empty ds = false
        rw [hgo]
        cases dz <;> first | rfl | cases h2
      · intro h2
        obtain ⟨b, ys, es, rfl, rfl, hb, hes⟩ := hz.tupI h2
        have hl := hes.len
        walk_at "go"
        walk_at "br"
        · intro h3
          walk_at "go"
          refine fin_b k ?_ (by walk_at "kp")
          show partsGo n Str.empty ds = false
          rw [hgo]
          exact partsGo_len (by omega)
        · intro h3
          obtain ⟨y0, ys', rfl⟩ : ∃ y0 ys', ys = y0 :: ys' := by
            cases ys with
            | nil => simp at h3; omega
            | cons y0 ys' => exact ⟨y0, ys', rfl⟩
          cases hes with
          | @cons _ _ e0 es' he0 hes' =>
            walk_at "go"
            walk_at "br"
            · intro h4
              walk_at "go"
              refine fin_b k ?_ (by walk_at "kp")
              show partsGo n Str.empty ds = false
              rw [hgo]
              exact partsGo_fld h4
            · intro h4
              have hstr : isStrD e0 = true := by cases e0 <;> first | rfl | cases h4
              obtain ⟨f0, rfl, rfl, hf0⟩ := he0.strI hstr
              walk_at "go"
              walk_at "br"
              · intro h5
                walk_at "go"
                refine fin_b k ?_ (by walk_at "kp")
                show partsGo n Str.empty ds = false
                rw [hgo]
                exact partsGo_le (decide_eq_false h5)
              · intro h5
                walk_at "go"
                refine ⟨by walk_at "kp", _, _, rfl, ?_, hf0⟩
                rw [hgo]
                have hlen2 : es'.length + 1 = n := by
                  have q := hes'.len
                  simp at h3
                  omega
                exact partsGo_ok hlen2 h4 (decide_eq_true h5)
    · rintro σ' H' kp ⟨last, o, rfl, hgo, hlast⟩
      walk_at "go"
      refine fin_b k ?_ (by walk_at "kp")
      show partsGo n Str.empty ds = true
      rw [hgo, hds.len, List.drop_length]
      rfl

end

section
variable {P : Program} {w : World} {K : PySem.W.Frag} {mg : Str → Option Value} {base : Heap} {c : Ads}
theorem c_is_wish (T : Txt K mg c) : Cal P w K mg base CX0 3 "is_wish" ["thing"] (spBool1 wishD) := by
  refine T.d_is_wish.cal sc_is_wish sp1_len (fun f cdv A outer s H vs Q E hr h => ?_)
  obtain ⟨v, rfl, ex, d, hd, k⟩ := h
  refine ⟨_, (pss_cons (ps_if (pt_not (pt_val (pe_cal (c_are_parts T) (hr.mono (by first | decide | omega)) pass0 (pa_cons (pv 0) (pa_cons pe_int pa_nil))) (by intro _; rfl))) (pss_one (ps_ret pe_bl)) pss_nil)
    (pss_cons (ps_for PassesOwn.never rfl (pi_any (K := K) (pv 0)) (pg_tup2 (K := K) (n := 3) (by rfl) (pgs_cons (pg_name (i := 1) sc_is_wish.nd rfl (by first | exact Or.inl rfl | exact Or.inr rfl)) (pgs_cons (pg_name (i := 2) sc_is_wish.nd rfl (by first | exact Or.inl rfl | exact Or.inr rfl)) (pgs_cons (pg_name (i := 3) sc_is_wish.nd rfl (by first | exact Or.inl rfl | exact Or.inr rfl)) pgs_nil))))
      (pss_one (ps_if (pt_not (pt_val (pe_cal (c_is_span T) (hr.mono (by first | decide | omega)) pass0 (pa_cons (pe_tup (pa_cons (pv 2) (pa_cons (pv 3) pa_nil))) pa_nil)) (by intro _; rfl))) (pss_one (ps_ret pe_bl)) pss_nil)))
    (pss_one (ps_ret pe_bl)))), ?_⟩
  walk_at "go"
  refine ⟨ex, d, 3, hd, rfl, by decide, fun H1 k1 => ?_⟩
  walk_at "go"
  walk_at "br"
  · intro h1
    walk_at "go"
    refine fin_b k ?_ (by walk_at "kp")
    cases d <;> first | rfl | (show (_ && _) = false; rw [show partsGo 3 Str.empty _ = false from h1]; rfl)
  · intro h1
    obtain ⟨ds, rfl⟩ : ∃ ds, d = .tuple ds := by cases d <;> first | exact ⟨_, rfl⟩ | cases h1
    obtain ⟨a, xs, rfl, ha0, hds0⟩ := hd.tupE
    have ha : H1 a = some (.tup xs) := by walk_at "tup"
    have hds : Dats ex H1 xs ds := by walk_at "dats"
    walk_at "go"
    refine r_forT ?_
    walk_at "go"
    refine lpT No (fun i σ' H' => (∃ o1 o2 o3, σ' = [some (.ref a), o1, o2, o3]) ∧ (ds.take i).all spanOf = true) ha ⟨⟨none, none, none, rfl⟩, rfl⟩ ?_ ?_
    · rintro i z σ' H' hi kp ⟨⟨o1, o2, o3, rfl⟩, hall⟩
      obtain ⟨dz, hdz, hz0⟩ := hds.get hi
      have hz : Dat ex H' z dz := by walk_at "dat"
      have hm : dz ∈ ds := List.mem_of_getElem? hdz
      obtain ⟨f, r, rfl, hr3, hf⟩ := partsGo_mem h1 dz hm
      obtain ⟨lo, hi', rfl⟩ : ∃ lo hi', r = [lo, hi'] := by
        match r, hr3 with
        | [lo, hi'], _ => exact ⟨lo, hi', rfl⟩
      obtain ⟨b, ys, rfl, hb, hes⟩ := hz.tupE
      obtain ⟨y0, y1, y2, rfl, hy0, hy1, hy2⟩ := hes.inv3
      walk_at "go"
      have step : spanD (.tuple [lo, hi']) = true → (ds.take (i + 1)).all spanOf = true := fun hb => by
        rw [List.take_add_one, hdz, List.all_append, hall]
        show (true && (spanD (.tuple [lo, hi']) && true)) = true
        rw [hb]; rfl
      walk_at "br"
      · intro h2
        walk_at "go"
        refine fin_b k ?_ (by walk_at "kp")
        have e : ds.all spanOf = false := List.all_eq_false.mpr ⟨_, hm, by rw [show spanOf (.tuple [.str f, lo, hi']) = spanD (.tuple [lo, hi']) from rfl, h2]; exact Bool.false_ne_true⟩
        show (partsGo 3 Str.empty ds && ds.all spanOf) = false
        rw [e, Bool.and_false]
      · intro h2
        walk_at "go"
        exact ⟨by walk_at "kp", ⟨_, _, _, rfl⟩, step h2⟩
    · rintro σ' H' kp ⟨⟨o1, o2, o3, rfl⟩, hall⟩
      walk_at "go"
      refine fin_b k ?_ (by walk_at "kp")
      rw [hds.len, List.take_length] at hall
      show (partsGo 3 Str.empty ds && ds.all spanOf) = true
      rw [hall, show partsGo 3 Str.empty ds = true from h1]; rfl
theorem c_is_piece (T : Txt K mg c) : Cal P w K mg base CX0 3 "is_piece" ["thing"] (spBool1 pieceD) := by
  refine T.d_is_piece.cal sc_is_piece sp1_len (fun f cdv A outer s H vs Q E hr h => ?_)
  obtain ⟨v, rfl, ex, d, hd, k⟩ := h
  refine ⟨_, (pss_cons (ps_if (pt_not (pt_val (pe_cal (c_are_parts T) (hr.mono (by first | decide | omega)) pass0 (pa_cons (pv 0) (pa_cons pe_int pa_nil))) (by intro _; rfl))) (pss_one (ps_ret pe_bl)) pss_nil)
    (pss_cons (ps_for PassesOwn.never rfl (pi_any (K := K) (pv 0)) (pg_tup2 (K := K) (n := 2) (by rfl) (pgs_cons (pg_name (i := 1) sc_is_piece.nd rfl (by first | exact Or.inl rfl | exact Or.inr rfl)) (pgs_cons (pg_name (i := 2) sc_is_piece.nd rfl (by first | exact Or.inl rfl | exact Or.inr rfl)) pgs_nil)))
      (pss_one (ps_if (pt_not (pt_val (pe_cal (c_is_whole T) (hr.mono (by first | decide | omega)) pass0 (pa_cons (pv 2) pa_nil)) (by intro _; rfl))) (pss_one (ps_ret pe_bl)) pss_nil)))
    (pss_one (ps_ret pe_bl)))), ?_⟩
  walk_at "go"
  refine ⟨ex, d, 2, hd, rfl, by decide, fun H1 k1 => ?_⟩
  walk_at "go"
  walk_at "br"
  · intro h1
    walk_at "go"
    refine fin_b k ?_ (by walk_at "kp")
    cases d <;> first | rfl | (show (_ && _) = false; rw [show partsGo 2 Str.empty _ = false from h1]; rfl)
  · intro h1
    obtain ⟨ds, rfl⟩ : ∃ ds, d = .tuple ds := by cases d <;> first | exact ⟨_, rfl⟩ | cases h1
    obtain ⟨a, xs, rfl, ha0, hds0⟩ := hd.tupE
    have ha : H1 a = some (.tup xs) := by walk_at "tup"
    have hds : Dats ex H1 xs ds := by walk_at "dats"
    walk_at "go"
    refine r_forT ?_
    walk_at "go"
    refine lpT No (fun i σ' H' => (∃ o1 o2, σ' = [some (.ref a), o1, o2]) ∧ (ds.take i).all numOf = true) ha ⟨⟨none, none, rfl⟩, rfl⟩ ?_ ?_
    · rintro i z σ' H' hi kp ⟨⟨o1, o2, rfl⟩, hall⟩
      obtain ⟨dz, hdz, hz0⟩ := hds.get hi
      have hz : Dat ex H' z dz := by walk_at "dat"
      have hm : dz ∈ ds := List.mem_of_getElem? hdz
      obtain ⟨f, r, rfl, hr3, hf⟩ := partsGo_mem h1 dz hm
      obtain ⟨nu, rfl⟩ : ∃ nu, r = [nu] := by
        match r, hr3 with
        | [nu], _ => exact ⟨nu, rfl⟩
      obtain ⟨b, ys, rfl, hb, hes⟩ := hz.tupE
      obtain ⟨y0, y1, rfl, hy0, hy1⟩ := hes.inv2
      walk_at "go"
      have step : wholeD nu = true → (ds.take (i + 1)).all numOf = true := fun hb => by
        rw [List.take_add_one, hdz, List.all_append, hall]
        show (true && (wholeD nu && true)) = true
        rw [hb]; rfl
      walk_at "br"
      · intro h2
        walk_at "go"
        refine fin_b k ?_ (by walk_at "kp")
        have e : ds.all numOf = false := List.all_eq_false.mpr ⟨_, hm, by rw [show numOf (.tuple [.str f, nu]) = wholeD nu from rfl, h2]; exact Bool.false_ne_true⟩
        show (partsGo 2 Str.empty ds && ds.all numOf) = false
        rw [e, Bool.and_false]
      · intro h2
        walk_at "go"
        exact ⟨by walk_at "kp", ⟨_, _, rfl⟩, step h2⟩
    · rintro σ' H' kp ⟨⟨o1, o2, rfl⟩, hall⟩
      walk_at "go"
      refine fin_b k ?_ (by walk_at "kp")
      rw [hds.len, List.take_length] at hall
      show (partsGo 2 Str.empty ds && ds.all numOf) = true
      rw [hall, show partsGo 2 Str.empty ds = true from h1]; rfl

end

section
variable {P : Program} {w : World} {K : PySem.W.Frag} {mg : Str → Option Value} {base : Heap} {c : Ads}
/-! reading -/
abbrev spWordsOf (c : Ads) : Sp := sp2 fun v y H Q E => ∃ ex d b, Dat ex H v d ∧ y = .str b ∧ (b.length == 0) = false ∧ (∀ x, d = .str x → ∀ p H', H p = none → Kp No H H' → H' p = some (.lst ((Txt.split x b).map V.str)) → Q (.ref p) H') ∧ (isStrD d = false → ∀ H', Kp No H H' → E (.ref c.NoText) none H')
theorem c_words_of (T : Txt K mg c) : Cal P w K mg base (L2.CX P w) 1 "words_of" ["text", "by"] (spWordsOf c) := by
  refine T.d_words_of.calX sc_words_of sp2_len (fun f cdv A outer s H vs Q E hr h => ?_)
  obtain ⟨v, _, rfl, ex, d, b, hd, rfl, hb, k, kE⟩ := h
  refine ⟨_, (pss_cons (ps_if (pt_not (pt_val (pe_callB (call_isi2 (K := K)) (by rfl) T.n_isinstance (by decide +kernel) (pa_cons (pv 0) (pa_cons (pe_bltn (v := .ty "str") (by rfl) T.n_str (by decide +kernel) rfl) pa_nil))) (by intro _; rfl))) (pss_one (ps_exc2 T.e_NoText rfl (takes_of rfl rfl rfl rfl))) pss_nil)
    (pss_one (ps_ret (pe_split2 (pv 0) (pv 1))))), ?_⟩
  walk_at "go"
  walk_at "br"
  · intro h1
    walk_at "go"
    exact kE h1 _ (by walk_at "kp")
  · intro h1
    obtain ⟨x, rfl, rfl, hx⟩ := hd.strI h1
    walk_at "go"
    exact r_split hb hx (k x rfl)
abbrev spRdNum (c : Ads) : Sp := sp1 fun v H Q E => ∃ x, v = .str x ∧ x.length ≤ 1000000 ∧ (∀ i, rdNum (TL.tl x) = some i → ∀ H', Kp No H H' → Q (.int i) H') ∧ (rdNum (TL.tl x) = none → ∀ H', Kp No H H' → E (.ref c.NoText) none H')
theorem c_read_number (T : Txt K mg c) : Cal P w K mg base (L2.CX P w) 1 "read_number" ["word"] (spRdNum c) := by
  refine T.d_read_number.calX sc_read_number sp1_len (fun f cdv A outer s H vs Q E hr h => ?_)
  obtain ⟨v, rfl, x, rfl, hx, k, kE⟩ := h
  refine ⟨_, (pss_cons (ps_set (i := 1) sc_read_number.nd rfl (by first | exact Or.inl rfl | exact Or.inr rfl) (pe_ifExp (pt_val (pe_starts2 (pv 0) pe_str) (by intro _; rfl)) (pe_slice (sl_any (K := K)) (pv 0) (po_some pe_int) po_none) (pv 0)))
    (pss_cons (ps_if (PW.pt (pw_or (pt_cmpR (op_eq2 (K := K) hr.units) (pv 1) pe_str (nomark _)) (pw_or (pt_cmpR op_gt2 (pe_callB (call_len2 (K := K)) (by rfl) T.n_len (by decide +kernel) (pa_cons (pv 1) pa_nil)) (pe_glo T.g_MOST) (nomark _)) (pw_or1 (PW.pt (pw_and (pt_cmpR (op_eq2 (K := K) hr.units) (pe_ix (ix_any (K := K)) (pv 1) pe_int (fun _ _ => rfl)) pe_str (nomark _)) (pw_and1 (pt_cmpR (op_ne2 (K := K) hr.units) (pv 0) pe_str (nomark _))))))))) (pss_one (ps_exc2 T.e_NoText rfl (takes_of rfl rfl rfl rfl))) pss_nil)
    (pss_cons (ps_for (passes_of rfl) rfl (pi_any (K := K) (pv 1)) (pg_name (i := 2) sc_read_number.nd rfl (by first | exact Or.inl rfl | exact Or.inr rfl))
      (pss_one (ps_if (pt_cmpR (op_nin2 (K := K)) (pv 2) (pe_glo T.g_FIGURES) (by rfl)) (pss_one (ps_exc2 T.e_NoText rfl (takes_of rfl rfl rfl rfl))) pss_nil)))
    (pss_one (ps_ret (pe_callTy call_int2 (by rfl) T.n_int (by decide +kernel) (pa_cons (pv 0) pa_nil))))))), ?_⟩
  walk_at "go"
  walk_at "br"
  · intro h1
    rw [starts_one x (c := 45) (by decide +kernel)] at h1
    have hyt : TL.tl (cutS x (some 1) none) = figsOf (TL.tl x) := by
      unfold figsOf
      rw [if_pos (of_decide_eq_true h1), tl_cut1]
    have hyl : (cutS x (some 1) none).length ≤ 1000000 := Nat.le_trans (cutS_length _ _ _) hx
    walk_at "go"
    generalize cutS x (some 1) none = y at *
    rw [eq_lit (l := []) rfl, hyt]
    walk_at "br"
    · intro h2
      walk_at "go"
      exact kE (rdNum_no (.inl (of_decide_eq_true h2))) _ Kp.refl
    · intro h2'
      have h2 := of_decide_eq_false h2'
      walk_at "go"
      walk_at "br"
      · intro h3
        walk_at "go"
        exact kE (rdNum_no (.inr (.inl (by rw [← hyt, ← TL.len_tl]; omega)))) _ Kp.refl
      · intro h3
        obtain ⟨c0, r0, hcr⟩ := List.exists_cons_of_ne_nil h2
        have hc0 : (y).cps.toList[0]? = some c0 := by
          show (TL.tl y)[0]? = _
          rw [hyt, hcr]; rfl
        walk_at "go"
        refine r_ix_s hyl rfl hc0 ?_
        walk_at "go"
        rw [eq_lit (l := [48]) (by decide +kernel)]
        walk_at "br"
        · intro h4'
          have h4 : c0 = 48 := by
            have q : [c0] = [48] := h4'
            simpa using q
          walk_at "go"
          rw [eq_lit (l := [48]) (by decide +kernel)]
          walk_at "br"
          · intro h5
            walk_at "go"
            exact kE (rdNum_no (.inr (.inr ⟨by rw [hcr, h4]; rfl, h5⟩))) _ Kp.refl
          · intro h5
            have h6 : ¬ ((figsOf (TL.tl x)).head? = some 48 ∧ TL.tl x ≠ [48]) := fun z => z.2 h5
            walk_at "go"
            refine r_forS ?_
            walk_at "go"
            refine lpS (fun i σ' H' => Kp No H H' ∧ (∃ o, σ' = [some (.str x), some (.str y), o]) ∧ ((figsOf (TL.tl x)).take i).all isFig = true) ⟨Kp.refl, ⟨none, rfl⟩, rfl⟩ ?_ ?_
            · rintro i d σ' H' hi ⟨kp, ⟨o, rfl⟩, hall⟩
              have hi' : (figsOf (TL.tl x))[i]? = some d := by rw [← hyt]; exact hi
              walk_at "go"
              walk_at "br"
              · intro h7
                walk_at "go"
                refine kE (rdNum_bad (List.mem_of_getElem? hi') ?_) _ kp
                cases q : isFig d with
                | false => rfl
                | true => exact absurd (isFig_iff.mpr q) h7
              · intro h7
                walk_at "go"
                refine ⟨kp, ⟨_, rfl⟩, ?_⟩
                rw [List.take_add_one, hi', List.all_append, hall]
                show (true && (isFig d && true)) = true
                rw [isFig_iff.mp h7]; rfl
            · rintro σ' H' ⟨kp, ⟨o, rfl⟩, hall⟩
              have hl : (figsOf (TL.tl x)).take (y).cps.toList.length = figsOf (TL.tl x) := by
                show (figsOf (TL.tl x)).take (TL.tl y).length = _
                rw [congrArg List.length hyt, List.take_length]
              rw [hl] at hall
              have e := rdNum_yes h2 (by rw [← hyt, ← TL.len_tl]; omega) h6 hall
              walk_at "go"
              exact r_int_s e (k _ e _ kp)
        · intro h4'
          have h6 : ¬ ((figsOf (TL.tl x)).head? = some 48 ∧ TL.tl x ≠ [48]) := fun z => by
            have q : ¬ ([c0] = [48]) := h4'
            rw [hcr] at z
            exact q (by simpa using z.1)
          walk_at "go"
          refine r_forS ?_
          walk_at "go"
          refine lpS (fun i σ' H' => Kp No H H' ∧ (∃ o, σ' = [some (.str x), some (.str y), o]) ∧ ((figsOf (TL.tl x)).take i).all isFig = true) ⟨Kp.refl, ⟨none, rfl⟩, rfl⟩ ?_ ?_
          · rintro i d σ' H' hi ⟨kp, ⟨o, rfl⟩, hall⟩
            have hi' : (figsOf (TL.tl x))[i]? = some d := by rw [← hyt]; exact hi
            walk_at "go"
            walk_at "br"
            · intro h7
              walk_at "go"
              refine kE (rdNum_bad (List.mem_of_getElem? hi') ?_) _ kp
              cases q : isFig d with
              | false => rfl
              | true => exact absurd (isFig_iff.mpr q) h7
            · intro h7
              walk_at "go"
              refine ⟨kp, ⟨_, rfl⟩, ?_⟩
              rw [List.take_add_one, hi', List.all_append, hall]
              show (true && (isFig d && true)) = true
              rw [isFig_iff.mp h7]; rfl
          · rintro σ' H' ⟨kp, ⟨o, rfl⟩, hall⟩
            have hl : (figsOf (TL.tl x)).take (y).cps.toList.length = figsOf (TL.tl x) := by
              show (figsOf (TL.tl x)).take (TL.tl y).length = _
              rw [congrArg List.length hyt, List.take_length]
            rw [hl] at hall
            have e := rdNum_yes h2 (by rw [← hyt, ← TL.len_tl]; omega) h6 hall
            walk_at "go"
            exact r_int_s e (k _ e _ kp)
  · intro h1
    rw [starts_one x (c := 45) (by decide +kernel)] at h1
    have hyt : TL.tl x = figsOf (TL.tl x) := by
      unfold figsOf
      rw [if_neg (of_decide_eq_false h1)]
    have hyl := hx
    walk_at "go"
    rw [eq_lit (l := []) rfl, hyt]
    walk_at "br"
    · intro h2
      walk_at "go"
      exact kE (rdNum_no (.inl (of_decide_eq_true h2))) _ Kp.refl
    · intro h2'
      have h2 := of_decide_eq_false h2'
      walk_at "go"
      walk_at "br"
      · intro h3
        walk_at "go"
        exact kE (rdNum_no (.inr (.inl (by rw [← hyt, ← TL.len_tl]; omega)))) _ Kp.refl
      · intro h3
        obtain ⟨c0, r0, hcr⟩ := List.exists_cons_of_ne_nil h2
        have hc0 : (x).cps.toList[0]? = some c0 := by
          show (TL.tl x)[0]? = _
          rw [hyt, hcr]; rfl
        walk_at "go"
        refine r_ix_s hyl rfl hc0 ?_
        walk_at "go"
        rw [eq_lit (l := [48]) (by decide +kernel)]
        walk_at "br"
        · intro h4'
          have h4 : c0 = 48 := by
            have q : [c0] = [48] := h4'
            simpa using q
          walk_at "go"
          rw [eq_lit (l := [48]) (by decide +kernel)]
          walk_at "br"
          · intro h5
            walk_at "go"
            exact kE (rdNum_no (.inr (.inr ⟨by rw [hcr, h4]; rfl, h5⟩))) _ Kp.refl
          · intro h5
            have h6 : ¬ ((figsOf (TL.tl x)).head? = some 48 ∧ TL.tl x ≠ [48]) := fun z => z.2 h5
            walk_at "go"
            refine r_forS ?_
            walk_at "go"
            refine lpS (fun i σ' H' => Kp No H H' ∧ (∃ o, σ' = [some (.str x), some (.str x), o]) ∧ ((figsOf (TL.tl x)).take i).all isFig = true) ⟨Kp.refl, ⟨none, rfl⟩, rfl⟩ ?_ ?_
            · rintro i d σ' H' hi ⟨kp, ⟨o, rfl⟩, hall⟩
              have hi' : (figsOf (TL.tl x))[i]? = some d := by rw [← hyt]; exact hi
              walk_at "go"
              walk_at "br"
              · intro h7
                walk_at "go"
                refine kE (rdNum_bad (List.mem_of_getElem? hi') ?_) _ kp
                cases q : isFig d with
                | false => rfl
                | true => exact absurd (isFig_iff.mpr q) h7
              · intro h7
                walk_at "go"
                refine ⟨kp, ⟨_, rfl⟩, ?_⟩
                rw [List.take_add_one, hi', List.all_append, hall]
                show (true && (isFig d && true)) = true
                rw [isFig_iff.mp h7]; rfl
            · rintro σ' H' ⟨kp, ⟨o, rfl⟩, hall⟩
              have hl : (figsOf (TL.tl x)).take (x).cps.toList.length = figsOf (TL.tl x) := by
                show (figsOf (TL.tl x)).take (TL.tl x).length = _
                rw [congrArg List.length hyt, List.take_length]
              rw [hl] at hall
              have e := rdNum_yes h2 (by rw [← hyt, ← TL.len_tl]; omega) h6 hall
              walk_at "go"
              exact r_int_s e (k _ e _ kp)
        · intro h4'
          have h6 : ¬ ((figsOf (TL.tl x)).head? = some 48 ∧ TL.tl x ≠ [48]) := fun z => by
            have q : ¬ ([c0] = [48]) := h4'
            rw [hcr] at z
            exact q (by simpa using z.1)
          walk_at "go"
          refine r_forS ?_
          walk_at "go"
          refine lpS (fun i σ' H' => Kp No H H' ∧ (∃ o, σ' = [some (.str x), some (.str x), o]) ∧ ((figsOf (TL.tl x)).take i).all isFig = true) ⟨Kp.refl, ⟨none, rfl⟩, rfl⟩ ?_ ?_
          · rintro i d σ' H' hi ⟨kp, ⟨o, rfl⟩, hall⟩
            have hi' : (figsOf (TL.tl x))[i]? = some d := by rw [← hyt]; exact hi
            walk_at "go"
            walk_at "br"
            · intro h7
              walk_at "go"
              refine kE (rdNum_bad (List.mem_of_getElem? hi') ?_) _ kp
              cases q : isFig d with
              | false => rfl
              | true => exact absurd (isFig_iff.mpr q) h7
            · intro h7
              walk_at "go"
              refine ⟨kp, ⟨_, rfl⟩, ?_⟩
              rw [List.take_add_one, hi', List.all_append, hall]
              show (true && (isFig d && true)) = true
              rw [isFig_iff.mp h7]; rfl
          · rintro σ' H' ⟨kp, ⟨o, rfl⟩, hall⟩
            have hl : (figsOf (TL.tl x)).take (x).cps.toList.length = figsOf (TL.tl x) := by
              show (figsOf (TL.tl x)).take (TL.tl x).length = _
              rw [congrArg List.length hyt, List.take_length]
            rw [hl] at hall
            have e := rdNum_yes h2 (by rw [← hyt, ← TL.len_tl]; omega) h6 hall
            walk_at "go"
            exact r_int_s e (k _ e _ kp)
def endV : PyData → V
  | .int i => .int i
  | _ => .non
theorem rdEnd_kind {l : List Nat} {d : PyData} (h : rdEnd l = some d) : d = .none ∨ ∃ i, d = .int i := by
  unfold rdEnd at h
  split at h
  · cases h; exact .inl rfl
  · cases q : rdNum l with
    | none => rw [q] at h; cases h
    | some i => rw [q] at h; cases h; exact .inr ⟨i, rfl⟩
theorem endV_dat {ex : Addr → Prop} {H : Hp} {l : List Nat} {d : PyData} (h : rdEnd l = some d) : Dat ex H (endV d) d := by
  rcases rdEnd_kind h with rfl | ⟨i, rfl⟩
  · exact .non
  · exact .int i
abbrev spRdEnd (c : Ads) : Sp := sp1 fun v H Q E => ∃ x, v = .str x ∧ x.length ≤ 1000000 ∧ (∀ d, rdEnd (TL.tl x) = some d → ∀ H', Kp No H H' → Q (endV d) H') ∧ (rdEnd (TL.tl x) = none → ∀ H', Kp No H H' → E (.ref c.NoText) none H')
theorem c_read_end (T : Txt K mg c) : Cal P w K mg base (L2.CX P w) 2 "read_end" ["word"] (spRdEnd c) := by
  refine T.d_read_end.calX sc_read_end sp1_len (fun f cdv A outer s H vs Q E hr h => ?_)
  obtain ⟨v, rfl, x, rfl, hx, k, kE⟩ := h
  refine ⟨_, (pss_one (ps_ret (pe_ifExp (pt_cmpR (op_eq2 (K := K) hr.units) (pv 0) (pe_glo T.g_OPEN) (nomark _)) pe_non (pe_cal (c_read_number T) (hr.mono (by first | decide | omega)) (passes_call (takes_of rfl rfl rfl rfl) fun _ _ _ _ h => h) (pa_cons (pv 0) pa_nil))))), ?_⟩
  walk_at "go"
  rw [eq_lit (l := [42]) (by decide +kernel)]
  walk_at "br"
  · intro h1
    walk_at "go"
    exact k .none (if_pos h1) _ Kp.refl
  · intro h1
    walk_at "go"
    have e : rdEnd (TL.tl x) = (rdNum (TL.tl x)).map .int := if_neg h1
    refine ⟨x, rfl, hx, fun i hi H' kp => k (.int i) (by rw [e, hi]; rfl) _ kp, fun hn H' kp => kE (by rw [e, hn]; rfl) _ kp⟩
abbrev spTwoOf (c : Ads) : Sp := sp2 fun v y H Q E => ∃ x b, v = .str x ∧ x.length ≤ 1000000 ∧ y = .str b ∧ TL.tl b ≠ [] ∧ b.cps.all (· < 256) = true ∧ (b.length == 0) = false ∧ (∀ a e, two (TL.tl b) (TL.tl x) = some (a, e) → ∀ p H', Kp No H H' → H' p = some (.tup [.str (ofL a), .str (ofL e)]) → Q (.ref p) H') ∧ (two (TL.tl b) (TL.tl x) = none → ∀ H', Kp No H H' → E (.ref c.NoText) none H')
theorem c_two_of (T : Txt K mg c) : Cal P w K mg base (L2.CX P w) 1 "two_of" ["word", "by"] (spTwoOf c) := by
  refine T.d_two_of.calX sc_two_of sp2_len (fun f cdv A outer s H vs Q E hr h => ?_)
  obtain ⟨v, _, rfl, x, b, rfl, hx, rfl, hb, hb2, hb0, k, kE⟩ := h
  refine ⟨_, (pss_cons (ps_set (i := 2) sc_two_of.nd rfl (by first | exact Or.inl rfl | exact Or.inr rfl) (pe_split2 (pv 0) (pv 1)))
    (pss_cons (ps_if (pt_cmpR (op_ne2 (K := K) hr.units) (pe_callB (call_len2 (K := K)) (by rfl) T.n_len (by decide +kernel) (pa_cons (pv 2) pa_nil)) pe_int (nomark _)) (pss_one (ps_exc2 T.e_NoText rfl (takes_of rfl rfl rfl rfl))) pss_nil)
    (pss_one (ps_ret (pe_tup (pa_cons (pe_ix (ix_any (K := K)) (pv 2) pe_int (fun _ _ => rfl)) (pa_cons (pe_ix (ix_any (K := K)) (pv 2) pe_int (fun _ _ => rfl)) pa_nil))))))), ?_⟩
  walk_at "go"
  refine r_split hb0 hx fun p H1 hn k1 hp => ?_
  walk_at "go"
  refine r_len_l hp ?_
  walk_at "go"
  have hc := split_count x hb hb2
  have ht := two_split x hb hb2
  rw [List.length_map]
  walk_at "br"
  · intro h1
    walk_at "go"
    cases q : two (TL.tl b) (TL.tl x) with
    | none => exact kE q _ k1
    | some ae =>
      have e := ht.1 ae.1 ae.2 q
      rw [e] at h1
      exact absurd rfl h1
  · intro h1
    walk_at "go"
    cases q : two (TL.tl b) (TL.tl x) with
    | none => exact absurd (by omega) (ht.2 q)
    | some ae =>
      obtain ⟨a, e⟩ := ae
      have e2 := ht.1 a e q
      rw [e2] at hp
      walk_at "go"
      exact k a e q _ _ (by walk_at "kp") (by assumption)
/-- the words of a text: between blanks, none of "-" -/
def wordsD (x : Str) : List Str := if TL.tl x = [45] then [] else Txt.split x (Str.ofString " ")
theorem rdPiece_words (x : Str) : rdPiece (TL.tl x) = match mapO rdPiecePart ((wordsD x).map TL.tl) with
    | some ds => if pieceD (.tuple ds) = true then some ds else none
    | none => none := by
  unfold rdPiece wordsD
  by_cases h : TL.tl x = [45]
  · rw [if_pos h, if_pos h]; rfl
  · rw [if_neg h, if_neg h, split_tl x (by decide +kernel) (by decide +kernel)]
    have e : TL.tl (Str.ofString " ") = [32] := by decide +kernel
    first
      | (rw [e]; done)
      | (rw [e]; rfl)
theorem rdWish_words (x : Str) : rdWish (TL.tl x) = match mapO rdWishPart ((wordsD x).map TL.tl) with
    | some ds => if wishD (.tuple ds) = true then some ds else none
    | none => none := by
  unfold rdWish wordsD
  by_cases h : TL.tl x = [45]
  · rw [if_pos h, if_pos h]; rfl
  · rw [if_neg h, if_neg h, split_tl x (by decide +kernel) (by decide +kernel)]
    have e : TL.tl (Str.ofString " ") = [32] := by decide +kernel
    first
      | (rw [e]; done)
      | (rw [e]; rfl)
theorem wordsD_le {x w : Str} (h : w ∈ wordsD x) : w.length ≤ x.length := by
  unfold wordsD at h
  split at h
  · cases h
  · exact split_le x (by decide +kernel) (by decide +kernel) h
theorem wordsD_count (x : Str) : (wordsD x).length ≤ x.length + 1 := by
  unfold wordsD
  split
  · exact Nat.zero_le _
  · exact split_count x (by decide +kernel) (by decide +kernel)
abbrev spRd (c : Ads) (rd : List Nat → Option (List PyData)) : Sp := sp1 fun v H Q E => ∃ ex d, Dat ex H v d ∧ cmpD d = true ∧
  (∀ x ds, d = .str x → rd (TL.tl x) = some ds → ∀ p H', Kp No H H' → Dat All H' (.ref p) (.tuple ds) → Q (.ref p) H') ∧ ((∀ x, d = .str x → rd (TL.tl x) = none) → ∀ H', Kp No H H' → E (.ref c.NoText) none H')
theorem c_read_piece (T : Txt K mg c) : Cal P w K mg base (L2.CX P w) 4 "read_piece" ["text"] (spRd c rdPiece) := by
  refine T.d_read_piece.calX sc_read_piece sp1_len (fun f cdv A outer s H vs Q E hr h => ?_)
  obtain ⟨v, rfl, ex, d, hd, hcm, k, kE⟩ := h
  refine ⟨_, (pss_cons (ps_set (i := 1) sc_read_piece.nd rfl (by first | exact Or.inl rfl | exact Or.inr rfl) (pe_lst pa_nil))
    (pss_cons (ps_for (passes_of rfl) rfl (pi_any (K := K) (pe_ifExp (pt_cmpR (op_ne2 (K := K) hr.units) (pv 0) (pe_glo T.g_NONE) (nomark _)) (pe_cal (c_words_of T) (hr.mono (by first | decide | omega)) (passes_call (takes_of rfl rfl rfl rfl) fun _ _ _ _ h => h) (pa_cons (pv 0) (pa_cons pe_str pa_nil))) (pe_lst pa_nil))) (pg_name (i := 2) sc_read_piece.nd rfl (by first | exact Or.inl rfl | exact Or.inr rfl))
      (pss_cons (ps_asg (pe_cal (c_two_of T) (hr.mono (by first | decide | omega)) (passes_call (takes_of rfl rfl rfl rfl) fun _ _ _ _ h => h) (pa_cons (pv 2) (pa_cons pe_str pa_nil))) (pg_tup2 (K := K) (n := 2) (by rfl) (pgs_cons (pg_name (i := 3) sc_read_piece.nd rfl (by first | exact Or.inl rfl | exact Or.inr rfl)) (pgs_cons (pg_name (i := 4) sc_read_piece.nd rfl (by first | exact Or.inl rfl | exact Or.inr rfl)) pgs_nil))))
      (pss_one (ps_expr (pe_bm PySem.F.plainAttrs_list PySem.F.slot_list_append PySem.F.type_list_append mt_append (pv 1) (pa_cons (pe_tup (pa_cons (pv 3) (pa_cons (pe_cal (c_read_number T) (hr.mono (by first | decide | omega)) (passes_call (takes_of rfl rfl rfl rfl) fun _ _ _ _ h => h) (pa_cons (pv 4) pa_nil)) pa_nil))) pa_nil))))))
    (pss_cons (ps_if (pt_not (pt_val (pe_cal (c_is_piece T) (hr.mono (by first | decide | omega)) pass0 (pa_cons (pe_callTy (call_tuple2 (K := K)) (by rfl) T.n_tuple (by decide +kernel) (pa_cons (pv 1) pa_nil)) pa_nil)) (by intro _; rfl))) (pss_one (ps_exc2 T.e_NoText rfl (takes_of rfl rfl rfl rfl))) pss_nil)
    (pss_one (ps_ret (pe_callTy (call_tuple2 (K := K)) (by rfl) T.n_tuple (by decide +kernel) (pa_cons (pv 1) pa_nil))))))), ?_⟩
  walk_at "go"
  rename_i p H1 hp0 k1 hp1
  refine r_forL (via (fun u H2 => ∃ q x, u = .ref q ∧ d = .str x ∧ x.length ≤ 1000000 ∧ q ≠ p ∧ Kp No H1 H2 ∧ H2 q = some (.lst ((wordsD x).map V.str))) (fun Z hZ => ?_) ?_)
  · walk_at "go"
    refine r_ne_ds (by walk_at "dat") hcm (by decide +kernel) ?_
    walk_at "go"
    walk_at "br"
    · intro h1
      walk_at "go"
      refine ⟨_, d, _, (by walk_at "dat"), rfl, by decide +kernel, ?_, ?_⟩
      · rintro x rfl q H2 hq k2 hq2
        obtain ⟨_, _, e, hx⟩ := hd.strI rfl
        cases e
        refine hZ _ _ ⟨q, x, rfl, rfl, hx, ne_of_none hp1 hq |>.symm, k2, ?_⟩
        have e : wordsD x = Txt.split x (Str.ofString " ") := if_neg fun e => by
          have : isSD (Str.ofString "-") (.str x) = true := by
            show decide (x = _) = true
            rw [eq_lit (l := [45]) (by decide +kernel)]
            exact decide_eq_true e
          rw [this] at h1; cases h1
        rw [e]; exact hq2
      · intro hn H2 k2
        exact kE (fun x e => by rw [e] at hn; cases hn) _ (by walk_at "kp")
    · intro h1
      walk_at "go"
      rename_i q H2 hq k2 hq2
      have h1' : isSD (Str.ofString "-") d = true := by
        cases q : isSD (Str.ofString "-") d with
        | true => rfl
        | false => rw [q] at h1; cases h1
      obtain ⟨x, rfl⟩ : ∃ x, d = .str x := by cases d <;> first | exact ⟨_, rfl⟩ | cases h1'
      have e : wordsD x = [] := if_pos (by
        have q : decide (x = _) = true := h1'
        rw [eq_lit (l := [45]) (by decide +kernel)] at q
        exact of_decide_eq_true q)
      obtain ⟨_, _, e2, hx⟩ := hd.strI rfl
      cases e2
      exact hZ _ _ ⟨q, x, rfl, rfl, hx, ne_of_none hp1 hq |>.symm, k2, by rw [e]; exact hq2⟩
  · rintro u H2 ⟨q, x, rfl, rfl, hx, hqp, k2, hq2⟩
    have kE' : rdPiece (TL.tl x) = none → ∀ H', Kp No H H' → E (.ref c.NoText) none H' := fun e => kE fun y ey => by cases ey; exact e
    have hrd := rdPiece_words x
    refine lpL (fun i σ' H' => ∃ acc ds, Kp No H H' ∧ H' p = some (.lst acc) ∧ H' q = some (.lst ((wordsD x).map V.str)) ∧ Dats All H' acc ds ∧ mapO rdPiecePart (((wordsD x).map TL.tl).take i) = some ds ∧ ∃ o1 o2 o3, σ' = [some v, some (.ref p), o1, o2, o3])
      (SqL.of hq2) ⟨[], [], by walk_at "kp", k2.lst hp1, hq2, .nil, rfl, none, none, none, rfl⟩ (fun i σ' H' ⟨_, _, _, _, h, _⟩ => SqL.of h) ?_ ?_
    · rintro i z σ' H' hi ⟨acc, ds, kp, hp, hq, hds, hm, o1, o2, o3, rfl⟩
      obtain ⟨w, hw, rfl⟩ : ∃ w, (wordsD x)[i]? = some w ∧ z = V.str w := by
        rw [List.getElem?_map] at hi
        cases q : (wordsD x)[i]? with
        | none => rw [q] at hi; cases hi
        | some w => rw [q] at hi; cases hi; exact ⟨w, rfl, rfl⟩
      have hwm : w ∈ wordsD x := List.mem_of_getElem? hw
      have hwl : w.length ≤ 1000000 := Nat.le_trans (wordsD_le hwm) hx
      have hw' : ((wordsD x).map TL.tl)[i]? = some (TL.tl w) := by rw [List.getElem?_map, hw]; rfl
      have bad : rdPiecePart (TL.tl w) = none → rdPiece (TL.tl x) = none := fun e => by
        rw [hrd, mapO_none ⟨_, List.mem_map_of_mem hwm, e⟩]
      have hacc : acc.length ≤ 1000001 := by
        rw [hds.len, mapO_len hm, List.length_take, List.length_map]
        have := wordsD_count x
        omega
      walk_at "go"
      refine ⟨w, _, rfl, hwl, rfl, by decide +kernel, by decide +kernel, by decide +kernel, fun a e hae b H3 k3 hb => ?_, fun hn H3 k3 => ?_⟩
      · have hae' : two [58] (TL.tl w) = some (a, e) := hae
        have hle := two_le hae
        walk_at "go"
        refine ⟨_, rfl, (by rw [TL.len_tl, tl_ofL]; rw [TL.len_tl] at hwl; omega), fun n hn H4 k4 => ?_, fun hn H4 k4 => ?_⟩
        · have hn' : rdNum e = some n := by rw [tl_ofL] at hn; exact hn
          walk_at "go"
          rename_i b2 H5 hb2 k5 hb5
          have k7 : Kp No H' H5 := by walk_at "kp"
          have hp5 := k7.lst hp
          refine r_append hp5 (by omega) ?_
          have hpart : rdPiecePart (TL.tl w) = some (.tuple [.str (ofL a), .int n]) := by
            unfold rdPiecePart
            rw [hae']
            show (rdNum e).map _ = _
            rw [hn']; rfl
          refine ⟨_, _, Kp.fresh (by walk_at "kp") hp0, upd_same, by rw [upd_ne hqp]; exact k7.lst hq, Dats.all (Dats.append (hds.all k7) (Dats.one (.tup hb5 ?_))) (Kp.app hp5), mapO_take hm hw' hpart, _, _, _, rfl⟩
          have hal : (ofL a).length ≤ 1000000 := by rw [TL.len_tl, tl_ofL]; rw [TL.len_tl] at hwl; omega
          walk_at "dats"
        · refine kE' (bad ?_) _ (by walk_at "kp")
          have hn' : rdNum e = none := by rw [tl_ofL] at hn; exact hn
          unfold rdPiecePart
          rw [hae']
          show (rdNum e).map _ = none
          rw [hn']; rfl
      · refine kE' (bad ?_) _ (by walk_at "kp")
        unfold rdPiecePart
        have hn' : two [58] (TL.tl w) = none := hn
        rw [hn']
    · rintro σ' H' ⟨acc, ds, kp, hp, hq, hds, hm, o1, o2, o3, rfl⟩
      have hl : ((wordsD x).map TL.tl).take ((wordsD x).map V.str).length = (wordsD x).map TL.tl := by
        have e : ((wordsD x).map V.str).length = ((wordsD x).map TL.tl).length := by rw [List.length_map, List.length_map]
        rw [e, List.take_length]
      rw [hl] at hm
      rw [hm] at hrd
      walk_at "go"
      rename_i b H3 hb k3 hb3 H4 k4
      walk_at "br"
      · intro h1
        walk_at "go"
        exact kE' (by rw [hrd]; exact if_neg (by rw [h1]; exact Bool.false_ne_true)) _ (by walk_at "kp")
      · intro h1
        walk_at "go"
        rename_i b2 H5 hb2 k5 hb5
        exact k x ds rfl (by rw [hrd]; exact if_pos h1) _ _ (by walk_at "kp") (.tup hb5 (((hds.all k3).all k4).all k5))
theorem c_read_wish (T : Txt K mg c) : Cal P w K mg base (L2.CX P w) 4 "read_wish" ["text"] (spRd c rdWish) := by
  refine T.d_read_wish.calX sc_read_wish sp1_len (fun f cdv A outer s H vs Q E hr h => ?_)
  obtain ⟨v, rfl, ex, d, hd, hcm, k, kE⟩ := h
  refine ⟨_, (pss_cons (ps_set (i := 1) sc_read_wish.nd rfl (by first | exact Or.inl rfl | exact Or.inr rfl) (pe_lst pa_nil))
    (pss_cons (ps_for (passes_of rfl) rfl (pi_any (K := K) (pe_ifExp (pt_cmpR (op_ne2 (K := K) hr.units) (pv 0) (pe_glo T.g_NONE) (nomark _)) (pe_cal (c_words_of T) (hr.mono (by first | decide | omega)) (passes_call (takes_of rfl rfl rfl rfl) fun _ _ _ _ h => h) (pa_cons (pv 0) (pa_cons pe_str pa_nil))) (pe_lst pa_nil))) (pg_name (i := 2) sc_read_wish.nd rfl (by first | exact Or.inl rfl | exact Or.inr rfl))
      (pss_cons (ps_asg (pe_cal (c_two_of T) (hr.mono (by first | decide | omega)) (passes_call (takes_of rfl rfl rfl rfl) fun _ _ _ _ h => h) (pa_cons (pv 2) (pa_cons pe_str pa_nil))) (pg_tup2 (K := K) (n := 2) (by rfl) (pgs_cons (pg_name (i := 3) sc_read_wish.nd rfl (by first | exact Or.inl rfl | exact Or.inr rfl)) (pgs_cons (pg_name (i := 4) sc_read_wish.nd rfl (by first | exact Or.inl rfl | exact Or.inr rfl)) pgs_nil))))
      (pss_cons (ps_asg (pe_cal (c_two_of T) (hr.mono (by first | decide | omega)) (passes_call (takes_of rfl rfl rfl rfl) fun _ _ _ _ h => h) (pa_cons (pv 4) (pa_cons pe_str pa_nil))) (pg_tup2 (K := K) (n := 2) (by rfl) (pgs_cons (pg_name (i := 5) sc_read_wish.nd rfl (by first | exact Or.inl rfl | exact Or.inr rfl)) (pgs_cons (pg_name (i := 6) sc_read_wish.nd rfl (by first | exact Or.inl rfl | exact Or.inr rfl)) pgs_nil))))
      (pss_one (ps_expr (pe_bm PySem.F.plainAttrs_list PySem.F.slot_list_append PySem.F.type_list_append mt_append (pv 1) (pa_cons (pe_tup (pa_cons (pv 3) (pa_cons (pe_cal (c_read_end T) (hr.mono (by first | decide | omega)) (passes_call (takes_of rfl rfl rfl rfl) fun _ _ _ _ h => h) (pa_cons (pv 5) pa_nil)) (pa_cons (pe_cal (c_read_end T) (hr.mono (by first | decide | omega)) (passes_call (takes_of rfl rfl rfl rfl) fun _ _ _ _ h => h) (pa_cons (pv 6) pa_nil)) pa_nil)))) pa_nil)))))))
    (pss_cons (ps_if (pt_not (pt_val (pe_cal (c_is_wish T) (hr.mono (by first | decide | omega)) pass0 (pa_cons (pe_callTy (call_tuple2 (K := K)) (by rfl) T.n_tuple (by decide +kernel) (pa_cons (pv 1) pa_nil)) pa_nil)) (by intro _; rfl))) (pss_one (ps_exc2 T.e_NoText rfl (takes_of rfl rfl rfl rfl))) pss_nil)
    (pss_one (ps_ret (pe_callTy (call_tuple2 (K := K)) (by rfl) T.n_tuple (by decide +kernel) (pa_cons (pv 1) pa_nil))))))), ?_⟩
  walk_at "go"
  rename_i p H1 hp0 k1 hp1
  refine r_forL (via (fun u H2 => ∃ q x, u = .ref q ∧ d = .str x ∧ x.length ≤ 1000000 ∧ q ≠ p ∧ Kp No H1 H2 ∧ H2 q = some (.lst ((wordsD x).map V.str))) (fun Z hZ => ?_) ?_)
  · walk_at "go"
    refine r_ne_ds (by walk_at "dat") hcm (by decide +kernel) ?_
    walk_at "go"
    walk_at "br"
    · intro h1
      walk_at "go"
      refine ⟨_, d, _, (by walk_at "dat"), rfl, by decide +kernel, ?_, ?_⟩
      · rintro x rfl q H2 hq k2 hq2
        obtain ⟨_, _, e, hx⟩ := hd.strI rfl
        cases e
        refine hZ _ _ ⟨q, x, rfl, rfl, hx, ne_of_none hp1 hq |>.symm, k2, ?_⟩
        have e : wordsD x = Txt.split x (Str.ofString " ") := if_neg fun e => by
          have : isSD (Str.ofString "-") (.str x) = true := by
            show decide (x = _) = true
            rw [eq_lit (l := [45]) (by decide +kernel)]
            exact decide_eq_true e
          rw [this] at h1; cases h1
        rw [e]; exact hq2
      · intro hn H2 k2
        exact kE (fun x e => by rw [e] at hn; cases hn) _ (by walk_at "kp")
    · intro h1
      walk_at "go"
      rename_i q H2 hq k2 hq2
      have h1' : isSD (Str.ofString "-") d = true := by
        cases q : isSD (Str.ofString "-") d with
        | true => rfl
        | false => rw [q] at h1; cases h1
      obtain ⟨x, rfl⟩ : ∃ x, d = .str x := by cases d <;> first | exact ⟨_, rfl⟩ | cases h1'
      have e : wordsD x = [] := if_pos (by
        have q : decide (x = _) = true := h1'
        rw [eq_lit (l := [45]) (by decide +kernel)] at q
        exact of_decide_eq_true q)
      obtain ⟨_, _, e2, hx⟩ := hd.strI rfl
      cases e2
      exact hZ _ _ ⟨q, x, rfl, rfl, hx, ne_of_none hp1 hq |>.symm, k2, by rw [e]; exact hq2⟩
  · rintro u H2 ⟨q, x, rfl, rfl, hx, hqp, k2, hq2⟩
    have kE' : rdWish (TL.tl x) = none → ∀ H', Kp No H H' → E (.ref c.NoText) none H' := fun e => kE fun y ey => by cases ey; exact e
    have hrd := rdWish_words x
    refine lpL (fun i σ' H' => ∃ acc ds, Kp No H H' ∧ H' p = some (.lst acc) ∧ H' q = some (.lst ((wordsD x).map V.str)) ∧ Dats All H' acc ds ∧ mapO rdWishPart (((wordsD x).map TL.tl).take i) = some ds ∧ ∃ o1 o2 o3 o4 o5, σ' = [some v, some (.ref p), o1, o2, o3, o4, o5])
      (SqL.of hq2) ⟨[], [], by walk_at "kp", k2.lst hp1, hq2, .nil, rfl, none, none, none, none, none, rfl⟩ (fun i σ' H' ⟨_, _, _, _, h, _⟩ => SqL.of h) ?_ ?_
    · rintro i z σ' H' hi ⟨acc, ds, kp, hp, hq, hds, hm, o1, o2, o3, o4, o5, rfl⟩
      obtain ⟨w, hw, rfl⟩ : ∃ w, (wordsD x)[i]? = some w ∧ z = V.str w := by
        rw [List.getElem?_map] at hi
        cases q : (wordsD x)[i]? with
        | none => rw [q] at hi; cases hi
        | some w => rw [q] at hi; cases hi; exact ⟨w, rfl, rfl⟩
      have hwm : w ∈ wordsD x := List.mem_of_getElem? hw
      have hwl : w.length ≤ 1000000 := Nat.le_trans (wordsD_le hwm) hx
      have hw' : ((wordsD x).map TL.tl)[i]? = some (TL.tl w) := by rw [List.getElem?_map, hw]; rfl
      have bad : rdWishPart (TL.tl w) = none → rdWish (TL.tl x) = none := fun e => by
        rw [hrd, mapO_none ⟨_, List.mem_map_of_mem hwm, e⟩]
      have hacc : acc.length ≤ 1000001 := by
        rw [hds.len, mapO_len hm, List.length_take, List.length_map]
        have := wordsD_count x
        omega
      walk_at "go"
      refine ⟨w, _, rfl, hwl, rfl, by decide +kernel, by decide +kernel, by decide +kernel, fun a e hae b H3 k3 hb => ?_, fun hn H3 k3 => ?_⟩
      · have hae' : two [58] (TL.tl w) = some (a, e) := hae
        have hle := two_le hae
        walk_at "go"
        refine ⟨_, _, rfl, (by rw [TL.len_tl, tl_ofL]; rw [TL.len_tl] at hwl; omega), rfl, by decide +kernel, by decide +kernel, by decide +kernel, fun lo hi' hlh b2 H4 k4 hb2 => ?_, fun hn H4 k4 => ?_⟩
        · have hlh' : two [46, 46] e = some (lo, hi') := by
            have e2 : TL.tl (Str.ofString "..") = [46, 46] := by decide +kernel
            rw [tl_ofL, e2] at hlh; exact hlh
          have hle2 := two_le hlh'
          walk_at "go"
          refine ⟨_, rfl, (by rw [TL.len_tl, tl_ofL]; rw [TL.len_tl] at hwl; omega), fun d1 hd1 H5 k5 => ?_, fun hn H5 k5 => ?_⟩
          · have hd1' : rdEnd lo = some d1 := by rw [tl_ofL] at hd1; exact hd1
            walk_at "go"
            refine ⟨_, rfl, (by rw [TL.len_tl, tl_ofL]; rw [TL.len_tl] at hwl; omega), fun d2 hd2 H6 k6 => ?_, fun hn H6 k6 => ?_⟩
            · have hd2' : rdEnd hi' = some d2 := by rw [tl_ofL] at hd2; exact hd2
              walk_at "go"
              rename_i b3 H7 hb3n k7 hb3
              have kk : Kp No H' H7 := by walk_at "kp"
              have hp7 := kk.lst hp
              refine r_append hp7 (by omega) ?_
              have hpart : rdWishPart (TL.tl w) = some (.tuple [.str (ofL a), d1, d2]) := by
                unfold rdWishPart
                rw [hae']
                show (match two [46, 46] e with | some (lo, hi) => (match rdEnd lo, rdEnd hi with | some a', some b' => some (PyData.tuple [.str (ofL a), a', b']) | _, _ => none) | none => none) = _
                rw [hlh']
                show (match rdEnd lo, rdEnd hi' with | some a', some b' => some (PyData.tuple [.str (ofL a), a', b']) | _, _ => none) = _
                rw [hd1', hd2']
              have hal : (ofL a).length ≤ 1000000 := by rw [TL.len_tl, tl_ofL]; rw [TL.len_tl] at hwl; omega
              exact ⟨_, _, Kp.fresh (by walk_at "kp") hp0, upd_same, by rw [upd_ne hqp]; exact kk.lst hq, Dats.all (Dats.append (hds.all kk) (Dats.one (.tup hb3 (.cons (.str _ hal) (.cons (endV_dat hd1') (.cons (endV_dat hd2') .nil)))))) (Kp.app hp7), mapO_take hm hw' hpart, _, _, _, _, _, rfl⟩
            · refine kE' (bad ?_) _ (by walk_at "kp")
              have hn' : rdEnd hi' = none := by rw [tl_ofL] at hn; exact hn
              unfold rdWishPart
              rw [hae']
              show (match two [46, 46] e with | some (lo, hi) => (match rdEnd lo, rdEnd hi with | some a', some b' => some (PyData.tuple [.str (ofL a), a', b']) | _, _ => none) | none => none) = none
              rw [hlh']
              show (match rdEnd lo, rdEnd hi' with | some a', some b' => some (PyData.tuple [.str (ofL a), a', b']) | _, _ => none) = none
              rw [hd1', hn']
          · refine kE' (bad ?_) _ (by walk_at "kp")
            have hn' : rdEnd lo = none := by rw [tl_ofL] at hn; exact hn
            unfold rdWishPart
            rw [hae']
            show (match two [46, 46] e with | some (lo, hi) => (match rdEnd lo, rdEnd hi with | some a', some b' => some (PyData.tuple [.str (ofL a), a', b']) | _, _ => none) | none => none) = none
            rw [hlh']
            show (match rdEnd lo, rdEnd hi' with | some a', some b' => some (PyData.tuple [.str (ofL a), a', b']) | _, _ => none) = none
            rw [hn']
        · refine kE' (bad ?_) _ (by walk_at "kp")
          have hn' : two [46, 46] e = none := by
            have e2 : TL.tl (Str.ofString "..") = [46, 46] := by decide +kernel
            rw [tl_ofL, e2] at hn; exact hn
          unfold rdWishPart
          rw [hae']
          show (match two [46, 46] e with | some (lo, hi) => (match rdEnd lo, rdEnd hi with | some a', some b' => some (PyData.tuple [.str (ofL a), a', b']) | _, _ => none) | none => none) = none
          rw [hn']
      · refine kE' (bad ?_) _ (by walk_at "kp")
        unfold rdWishPart
        have hn' : two [58] (TL.tl w) = none := hn
        rw [hn']
    · rintro σ' H' ⟨acc, ds, kp, hp, hq, hds, hm, o1, o2, o3, o4, o5, rfl⟩
      have hl : ((wordsD x).map TL.tl).take ((wordsD x).map V.str).length = (wordsD x).map TL.tl := by
        have e : ((wordsD x).map V.str).length = ((wordsD x).map TL.tl).length := by rw [List.length_map, List.length_map]
        rw [e, List.take_length]
      rw [hl] at hm
      rw [hm] at hrd
      walk_at "go"
      rename_i b H3 hb k3 hb3 H4 k4
      walk_at "br"
      · intro h1
        walk_at "go"
        exact kE' (by rw [hrd]; exact if_neg (by rw [h1]; exact Bool.false_ne_true)) _ (by walk_at "kp")
      · intro h1
        walk_at "go"
        rename_i b2 H5 hb2 k5 hb5
        exact k x ds rfl (by rw [hrd]; exact if_pos h1) _ _ (by walk_at "kp") (.tup hb5 (((hds.all k3).all k4).all k5))

end

section
variable {P : Program} {w : World} {K : PySem.W.Frag} {mg : Str → Option Value} {base : Heap} {c : Ads}
/-! what the law draws -/
theorem small_cell {x : Int} (h : 0 ≤ x ∧ x < 10 ^ 18) {n : Int} (hn : 0 ≤ n ∧ n ≤ 1000001) {st : Int} (hs : 0 ≤ st ∧ st < MM) : 0 ≤ st + (x + 3 * n) * (2 * n + 1) ∧ st + (x + 3 * n) * (2 * n + 1) < 2 ^ 200 := by
  have e1 : 0 ≤ (x + 3 * n) * (2 * n + 1) := Int.mul_nonneg (by omega) (by omega)
  have e2 : (x + 3 * n) * (2 * n + 1) ≤ (10 ^ 18 + 3 * 1000001) * (2 * 1000001 + 1) := Int.mul_le_mul (by omega) (by omega) (by omega) (by omega)
  have e3 : ((10 : Int) ^ 18 + 3 * 1000001) * (2 * 1000001 + 1) = ((10 : Int) ^ 18 + 3000003) * 2000003 := by decide +kernel
  have e4 : (2 : Int) ^ 200 = 1606938044258990275541962092341162602522202993782792835301376 := by decide +kernel
  have e5 : MM = 618970019642690137449562111 := rfl
  omega
theorem c__law_drawL (T : Txt K mg c) : Cal P w K mg base CX0 1 "_law_draw" ["bag", "many"] spDrawL := by
  refine T.d__law_draw.cal sc__law_draw sp2_len (fun f cdv A outer s H vs Q E hr h => ?_)
  obtain ⟨_, _, rfl, b, g, l, B, m, rfl, rfl, hm1, hm2, ⟨gs, ls, n, st, hb, hn⟩, k⟩ := h
  refine ⟨_, (pss_cons (ps_while PassesOwn.never (PW.pt (pw_and (pt_cmpR (op_ne2 (K := K) hr.units) (pe_ix (ix_any (K := K)) (pv 0) pe_int (fun _ _ => rfl)) (pe_lst pa_nil) (nomark _)) (pw_and1 (pt_cmpR (op_eq2 (K := K) hr.units) (pe_ix (ix_any (K := K)) (pe_ix (ix_any (K := K)) (pv 0) pe_int (fun _ _ => rfl)) pe_int (fun _ _ => rfl)) pe_int (nomark _)))))
      (pss_one (ps_expr (pe_bm PySem.F.plainAttrs_list PySem.F.slot_list_pop PySem.F.type_list_pop mt_popAt (pe_ix (ix_any (K := K)) (pv 0) pe_int (fun _ _ => rfl)) (pa_cons pe_int pa_nil)))))
    (pss_cons (ps_if (pt_cmpR (op_ne2 (K := K) hr.units) (pe_ix (ix_any (K := K)) (pv 0) pe_int (fun _ _ => rfl)) (pe_lst pa_nil) (nomark _)) (pss_cons (ps_set (i := 2) sc__law_draw.nd rfl (by first | exact Or.inl rfl | exact Or.inr rfl) (pe_op op_mod (pe_ix (ix_any (K := K)) (pe_ix (ix_any (K := K)) (pv 0) pe_int (fun _ _ => rfl)) pe_int (fun _ _ => rfl)) (pv 1)))
      (pss_cons (ps_asg (pe_op op_fdivW (pe_ix (ix_any (K := K)) (pe_ix (ix_any (K := K)) (pv 0) pe_int (fun _ _ => rfl)) pe_int (fun _ _ => rfl)) (pv 1)) (pg_sub (pe_ix (ix_any (K := K)) (pv 0) pe_int (fun _ _ => rfl)) pe_int set_list))
      (pss_one (ps_ret (pv 2))))) pss_nil)
    (pss_cons (ps_asg (pe_op (op_add2 (K := K)) (pe_ix (ix_any (K := K)) (pv 0) pe_int (fun _ _ => rfl)) pe_int) (pg_sub (pv 0) pe_int set_list))
    (pss_cons (ps_set (i := 3) sc__law_draw.nd rfl (by first | exact Or.inl rfl | exact Or.inr rfl) (pe_ix (ix_any (K := K)) (pe_ix (ix_any (K := K)) (pv 0) pe_int (fun _ _ => rfl)) (pe_op op_mod (pe_ix (ix_any (K := K)) (pv 0) pe_int (fun _ _ => rfl)) (pe_callB (call_len2 (K := K)) (by rfl) T.n_len (by decide +kernel) (pa_cons (pe_ix (ix_any (K := K)) (pv 0) pe_int (fun _ _ => rfl)) pa_nil))) (fun _ _ => rfl)))
    (pss_cons (ps_asg (pe_op op_mod (pe_op op_pow2 (pe_op (op_add2 (K := K)) (pe_ix (ix_any (K := K)) (pv 0) pe_int (fun _ _ => rfl)) (pe_op op_mul2 (pe_op (op_add2 (K := K)) (pv 3) (pe_op op_mul2 pe_int (pe_ix (ix_any (K := K)) (pv 0) pe_int (fun _ _ => rfl)))) (pe_op (op_add2 (K := K)) (pe_op op_mul2 pe_int (pe_ix (ix_any (K := K)) (pv 0) pe_int (fun _ _ => rfl))) pe_int))) pe_int) pe_int) (pg_sub (pv 0) pe_int set_list))
    (pss_one (ps_ret (pe_op op_mod (pe_op op_fdivW (pe_ix (ix_any (K := K)) (pv 0) pe_int (fun _ _ => rfl)) pe_int) (pv 1))))))))), ?_⟩
  walk_at "go"
  refine r_while (fun i σ' H' => ∃ gs', i = gs'.length ∧ BagAt H' b g l gs' ls n st ∧ Kp (bx b g) H H' ∧ σ' = [some (.ref b), some (.int m), none, none]) gs.length ⟨gs, rfl, hb, Kp.refl, rfl⟩ ?_
  rintro i σ' H1 ⟨gs1, rfl, hb1, kp1, rfl⟩
  have h1b := hb1.hb
  have h1g := hb1.hg
  have h1l := hb1.hl
  walk_at "go"
  refine r_ne_nil (xs := gs1.map V.int) (SqL.of (Kp.lst (by assumption) h1g)) (by assumption) ?_
  walk_at "go"
  rename_i q1 H2 hq1 k12 hq1l
  have hb2 := hb1.kp k12
  have kp2 : Kp (bx b g) H H2 := kp1.trans k12.no
  cases gs1 with
  | cons x r =>
    refine r_iteT rfl ?_
    have h2b := hb2.hb
    have h2g := hb2.hg
    rw [List.map_cons] at h2g
    walk_at "go"
    refine r_wh (fun hx => ?_) (fun hx => ?_)
    · walk_at "go"
      refine r_pop0 h2g ?_
      walk_at "go"
      exact ⟨r.length, Nat.lt_succ_self _, r, rfl, hb2.popG, kp2.trans hb2.kG, rfl⟩
    · walk_at "go"
      rename_i q2 H3 hq2 k23 hq2l
      have hb3 := hb2.kp k23
      have h3b := hb3.hb
      have h3g := hb3.hg
      rw [List.map_cons] at h3g
      refine r_ne_nil (xs := V.int x :: r.map V.int) (SqL.of h3g) (by assumption) ?_
      refine r_bl (r_iteT rfl ?_)
      walk_at "go"
      refine r_mod (by omega) ?_
      walk_at "go"
      refine r_fdiv (by omega) (by omega) ?_
      walk_at "go"
      refine r_setL h3g rfl (by simp) ?_
      have e : ((V.int x :: r.map V.int).set 0 (.int (x / m))) = ((x / m) :: r).map V.int := rfl
      rw [e]
      walk_at "go"
      exact k _ _ (Int.emod_nonneg _ (by omega)) (Int.emod_lt_of_pos _ (by omega)) ((kp2.trans k23.no).trans hb3.kG) ⟨_, ls, n, st, hb3.setG, by omega⟩
  | nil =>
    refine r_iteF rfl ?_
    refine r_whF ?_
    have h2b := hb2.hb
    have h2g := hb2.hg
    walk_at "go"
    rename_i q2 H3 hq2 k23 hq2l
    have hb3 := hb2.kp k23
    have h3b := hb3.hb
    have h3g := hb3.hg
    have h3l := hb3.hl
    refine r_ne_nil (xs := []) (SqL.of h3g) (by assumption) ?_
    refine r_bl (r_iteF rfl ?_)
    walk_at "go"
    refine r_setL h3b rfl (by simp) ?_
    have e : (([.ref g, .ref l, .int n, .int st] : List V).set 2 (.int (n + 1))) = [.ref g, .ref l, .int (n + 1), .int st] := rfl
    rw [e]
    have hb4 := hb3.setB (n' := n + 1) (by have := hb3.np; omega) hb3.sp
    have kp4 := (kp2.trans k23.no).trans (hb3.kB (xs' := [.ref g, .ref l, .int (n + 1), .int st]))
    generalize upd H3 b (.lst [.ref g, .ref l, .int (n + 1), .int st]) = H4 at hb4 kp4 ⊢
    have h4b := hb4.hb
    have h4l := hb4.hl
    have lpos : 0 < ls.length := List.length_pos_iff.mpr hb4.ln
    walk_at "go"
    refine r_len_l h4l ?_
    rw [List.length_map]
    walk_at "go"
    refine r_mod (by omega) ?_
    have hi : ((n + 1) % (ls.length : Int)).toNat < ls.length := by
      have := Int.emod_lt_of_pos (n + 1) (b := (ls.length : Int)) (by omega)
      have := Int.emod_nonneg (n + 1) (b := (ls.length : Int)) (by omega)
      omega
    have hc := hb4.lp _ (List.getElem_mem hi)
    refine r_ixl (n := ((n + 1) % (ls.length : Int)).toNat) (v := .int ls[((n + 1) % (ls.length : Int)).toNat]) h4l (by have := Int.emod_nonneg (n + 1) (b := (ls.length : Int)) (by omega); omega) (by rw [List.getElem?_map, List.getElem?_eq_getElem hi]; rfl) ?_
    generalize ls[((n + 1) % (ls.length : Int)).toNat] = cell at hc ⊢
    walk_at "go"
    have np := hb3.np
    have c2 : (2 : Int) ^ 200 = 1606938044258990275541962092341162602522202993782792835301376 := by decide +kernel
    refine r_mul (by decide) (by omega) ?_
    walk_at "go"
    refine r_mul (by decide) (by omega) ?_
    walk_at "go"
    refine r_mul (by omega) (by omega) ?_
    walk_at "go"
    have sc := small_cell hc (n := n + 1) (by omega) hb4.sp
    refine r_pow (n := 7) (by decide) (by omega) ?_
    walk_at "go"
    refine r_mod (b := MM) (by decide) ?_
    walk_at "go"
    refine r_setL h4b rfl (by simp) ?_
    have e2 : ∀ y : Int, (([.ref g, .ref l, .int (n + 1), .int st] : List V).set 3 (.int y)) = [.ref g, .ref l, .int (n + 1), .int y] := fun _ => rfl
    rw [e2]
    have y1 := Int.emod_nonneg ((st + (cell + 3 * (n + 1)) * (2 * (n + 1) + 1)) ^ 7) (b := MM) (by decide)
    have y2 := Int.emod_lt_of_pos ((st + (cell + 3 * (n + 1)) * (2 * (n + 1) + 1)) ^ 7) (b := MM) (by decide)
    generalize (st + (cell + 3 * (n + 1)) * (2 * (n + 1) + 1)) ^ 7 % MM = y at y1 y2 ⊢
    have hb5 := hb4.setB (n' := n + 1) (st' := y) (by omega) ⟨y1, y2⟩
    have kp5 := kp4.trans (hb4.kB (xs' := [.ref g, .ref l, .int (n + 1), .int y]))
    generalize upd H4 b (.lst [.ref g, .ref l, .int (n + 1), .int y]) = H5 at hb5 kp5 ⊢
    have h5b := hb5.hb
    walk_at "go"
    refine r_fdiv (by decide) (by decide) ?_
    walk_at "go"
    refine r_mod (by omega) ?_
    exact k _ _ (Int.emod_nonneg _ (by omega)) (Int.emod_lt_of_pos _ (by omega)) kp5 ⟨_, ls, n + 1, y, hb5, by omega⟩
theorem c__law_draw (T : Txt K mg c) : Cal P w K mg base CX0 1 "_law_draw" ["bag", "many"] spDraw := (c__law_drawL T).imp fun vs H Q E ⟨v, m, e, b, g, B, k, e1, e2, h1, h2, ⟨l, hB⟩, q⟩ =>
  ⟨v, m, e, b, g, l, B, k, e1, e2, h1, h2, hB, fun r H' r0 r1 kp hB' => q r H' r0 r1 kp ⟨l, hB'⟩⟩

end

section
variable {P : Program} {w : World} {K : PySem.W.Frag} {mg : Str → Option Value} {base : Heap} {c : Ads}
theorem cut_ints (ns : List Int) (lo hi : Option Int) : ∃ ms : List Int, cutV (ns.map V.int) lo hi = ms.map V.int ∧ ms.length ≤ ns.length := by
  refine ⟨(ns.drop (HT.sIx ns.length 0 lo)).take (HT.sIx ns.length ns.length hi - HT.sIx ns.length 0 lo), ?_, ?_⟩
  · unfold cutV
    rw [List.length_map, List.map_take, List.map_drop]
  · rw [List.length_take, List.length_drop]
    omega
theorem int_at {ms : List Int} {i : Nat} {z : V} (h : (ms.map V.int)[i]? = some z) : ∃ x, z = .int x ∧ x ∈ ms := by
  rw [List.getElem?_map] at h
  cases q : ms[i]? with
  | none => rw [q] at h; cases h
  | some x => rw [q] at h; cases h; exact ⟨x, rfl, List.mem_of_getElem? q⟩
theorem int_app (ms : List Int) (x : Int) : ms.map V.int ++ [V.int x] = (ms ++ [x]).map V.int := by rw [List.map_append]; rfl
abbrev spBag (K : PySem.W.Frag) : Sp := sp1 fun v H Q _ => ∃ (a : Addr) (ns : List Int), v = .ref a ∧ SqL K H a (ns.map V.int) ∧ ns.length ≤ 63 ∧ ∀ b g H', H b = none → H g = none → Kp No H H' → Bag H' b g 900000 → Q (.ref b) H'
theorem c__law_bag (T : Txt K mg c) : Cal P w K mg base CX0 1 "_law_bag" ["script"] (spBag K) := by
  refine T.d__law_bag.cal sc__law_bag sp1_len (fun f cdv A outer s H vs Q E hr h => ?_)
  obtain ⟨v, rfl, a, ns, rfl, hs, hl63, k⟩ := h
  refine ⟨_, (pss_cons (ps_setLc (i := 1) (own := [("cell", 2)]) (by rfl) sc__law_bag.nd rfl rfl (sw_true rfl rfl rfl (by decide +kernel)) (pi_any (K := K) (pe_slice (sl_any (K := K)) (pv 0) po_none (po_some pe_int))) (blkOk_by (own := [("cell", 2)]) (N := ["script", "great", "cell", "lesser", "stir"]) (sc := defScope s__law_bag) (by decide +kernel)) (fun _ _ _ _ _ => (pg_name (i := 2) sc__law_bag.nd rfl (by first | exact Or.inl rfl | exact Or.inr rfl))) (fun _ _ _ _ _ => (pts_one (pt_cmpR op_ge2 (pv 2) (pe_op op_pow2 pe_int pe_int) (nomark _)))) (fun _ _ _ _ _ => (pe_op op_sub (pv 2) (pe_op op_pow2 pe_int pe_int))))
    (pss_cons (ps_setLc (i := 3) (own := [("cell", 2)]) (by rfl) sc__law_bag.nd rfl rfl (sw_true rfl rfl rfl (by decide +kernel)) (pi_any (K := K) (pe_slice (sl_any (K := K)) (pv 0) po_none (po_some pe_int))) (blkOk_by (own := [("cell", 2)]) (N := ["script", "great", "cell", "lesser", "stir"]) (sc := defScope s__law_bag) (by decide +kernel)) (fun _ _ _ _ _ => (pg_name (i := 2) sc__law_bag.nd rfl (by first | exact Or.inl rfl | exact Or.inr rfl))) (fun _ _ _ _ _ => (pts_one (pt_cmpR op_lt2 (pv 2) (pe_op op_pow2 pe_int pe_int) (nomark _)))) (fun _ _ _ _ _ => (pe_op op_mod (pv 2) (pe_op op_pow2 pe_int pe_int))))
    (pss_cons (ps_set (i := 4) sc__law_bag.nd rfl (by first | exact Or.inl rfl | exact Or.inr rfl) pe_int)
    (pss_cons (ps_for PassesOwn.never rfl (pi_any (K := K) (pv 3)) (pg_name (i := 2) sc__law_bag.nd rfl (by first | exact Or.inl rfl | exact Or.inr rfl))
      (pss_one (ps_set (i := 4) sc__law_bag.nd rfl (by first | exact Or.inl rfl | exact Or.inr rfl) (pe_op op_mod (pe_op op_pow2 (pe_op (op_add2 (K := K)) (pe_op (op_add2 (K := K)) (pv 4) (pv 2)) pe_int) pe_int) pe_int))))
    (pss_one (ps_ret (pe_lst (pa_cons (pv 1) (pa_cons (pe_op (op_add2 (K := K)) (pv 3) (pe_lst (pa_cons pe_int pa_nil))) (pa_cons pe_int (pa_cons (pv 4) pa_nil))))))))))), ?_⟩
  have e18 : (10 : Int) ^ 18 = 1000000000000000000 := by decide
  walk_at "go"
  refine r_lcL ?_
  walk_at "go"
  refine r_slL hs fun p1 H1 hp1 k1 hp1l => ?_
  obtain ⟨ms, em, lm⟩ := cut_ints ns none (some 63)
  rw [em] at hp1l
  refine lcL (fun D i acc H' => Kp No H1 H' ∧ ∃ gs : List Int, acc = gs.map V.int) (SqL.of hp1l) (fun D hD => ⟨Kp.new Kp.refl hD, [], rfl⟩) (fun D i acc H' hD h => h.1.sql (SqL.of hp1l)) ?_ ?_
  · rintro D i acc z H' hD hi hacc hl ⟨kp, gs, rfl⟩
    obtain ⟨x, rfl, -⟩ := int_at hi
    have hi2 : i < ms.length := by
      have := (List.getElem?_eq_some_iff.mp hi).1
      rwa [List.length_map] at this
    walk_at "go"
    refine r_pow (n := 18) (by decide) (by decide) ?_
    walk_at "go"
    walk_at "br"
    · intro _
      walk_at "go"
      refine r_pow (n := 18) (by decide) (by decide) ?_
      walk_at "go"
      exact lc_yes hacc hl (by omega) ⟨Kp.fresh kp hD, gs ++ [x - 10 ^ 18], int_app _ _⟩
    · intro _
      exact lc_no hacc hl ⟨kp, gs, rfl⟩
  · rintro g acc H2 hg hgl hl ⟨kp2, gs, rfl⟩
    walk_at "go"
    refine r_lcL ?_
    walk_at "go"
    refine r_slL (kp2.sql (k1.sql hs)) fun p3 H3 hp3 k3 hp3l => ?_
    rw [em] at hp3l
    refine lcL (fun D i acc H' => Kp No H3 H' ∧ ∃ ls : List Int, acc = ls.map V.int ∧ ∀ x ∈ ls, 0 ≤ x ∧ x < 10 ^ 18) (SqL.of hp3l) (fun D hD => ⟨Kp.new Kp.refl hD, [], rfl, fun x h => by cases h⟩) (fun D i acc H' hD h => h.1.sql (SqL.of hp3l)) ?_ ?_
    · rintro D i acc z H' hD hi hacc hl ⟨kp, ls, rfl, hls⟩
      obtain ⟨x, rfl, -⟩ := int_at hi
      have hi2 : i < ms.length := by
        have := (List.getElem?_eq_some_iff.mp hi).1
        rwa [List.length_map] at this
      walk_at "go"
      refine r_pow (n := 18) (by decide) (by decide) ?_
      walk_at "go"
      walk_at "br"
      · intro _
        walk_at "go"
        refine r_pow (n := 18) (by decide) (by decide) ?_
        walk_at "go"
        refine r_mod (b := (10 : Int) ^ 18) (by decide) ?_
        refine lc_yes hacc hl (by omega) ⟨Kp.fresh kp hD, ls ++ [x % 10 ^ 18], int_app _ _, fun y hy => ?_⟩
        rcases List.mem_append.mp hy with q | q
        · exact hls y q
        · rw [List.mem_singleton.mp q]
          exact ⟨Int.emod_nonneg _ (by decide), Int.emod_lt_of_pos _ (by decide)⟩
      · intro _
        exact lc_no hacc hl ⟨kp, ls, rfl, hls⟩
    · rintro l0 acc H4 hl0 hl0l hl4 ⟨kp4, ls, rfl, hls⟩
      walk_at "go"
      refine r_forL ?_
      walk_at "go"
      refine lpL (fun i σ' H' => Kp No H4 H' ∧ ∃ (st : Int) (o2 : Option V), 0 ≤ st ∧ st < MM ∧ σ' = [some (.ref a), some (.ref g), o2, some (.ref l0), some (.int st)]) (SqL.of hl0l) ⟨Kp.refl, 5, _, by decide, by decide, rfl⟩ (fun i σ' H' h => h.1.sql (SqL.of hl0l)) ?_ ?_
      · rintro i z σ' H' hi ⟨kp5, st, o2, s0, s1, rfl⟩
        obtain ⟨x, rfl, hx⟩ := int_at hi
        have hx2 := hls x hx
        have c2 : (2 : Int) ^ 200 = 1606938044258990275541962092341162602522202993782792835301376 := by decide +kernel
        have c3 : MM = 618970019642690137449562111 := rfl
        walk_at "go"
        refine r_pow (n := 7) (by decide) (by omega) ?_
        walk_at "go"
        refine r_mod (b := MM) (by decide) ?_
        walk_at "go"
        exact ⟨kp5, _, _, Int.emod_nonneg _ (by decide), Int.emod_lt_of_pos _ (by decide), rfl⟩
      · rintro σ' H5 ⟨kp5, st, o2, s0, s1, rfl⟩
        walk_at "go"
        rename_i q6 H6 hq6 k6 hq6l
        have hg6 : H6 g = some (.lst (gs.map V.int)) := k6.lst (kp5.lst (kp4.lst (k3.lst hgl)))
        have hl6 : H6 l0 = some (.lst (ls.map V.int)) := k6.lst (kp5.lst hl0l)
        refine r_cat hl6 hq6l (by simp only [List.length_map, List.length_cons, List.length_nil] at *; omega) fun l H7 hl7 k7 hl7l => ?_
        walk_at "go"
        rename_i b H8 hb8 k8 hb8l
        have hg7 : H7 g = some (.lst (gs.map V.int)) := k7.lst hg6
        have kall : Kp No H H8 := k1.trans (kp2.trans (k3.trans (kp4.trans (kp5.trans (k6.trans (k7.trans k8))))))
        have gl : g ≠ l := fun z => by subst z; rw [hg6] at hl7; cases hl7
        have bg : b ≠ g := fun z => by subst z; rw [hg7] at hb8; cases hb8
        have bl : b ≠ l := fun z => by subst z; rw [hl7l] at hb8; cases hb8
        refine k b g H8 ?_ (k1.free (ex := No) hg fun z => z) kall ⟨l, gs, ls ++ [0], 0, st, ⟨hb8l, k8.lst hg7, k8.lst (by rw [← int_app]; exact hl7l), fun x hx => ?_, by simp, ⟨s0, s1⟩, by decide, bg, bl, gl⟩, by decide⟩
        · have k17 : Kp No H H7 := k1.trans (kp2.trans (k3.trans (kp4.trans (kp5.trans (k6.trans k7)))))
          exact k17.free (ex := No) hb8 fun z => z
        · rcases List.mem_append.mp hx with q | q
          · exact hls x q
          · rw [List.mem_singleton.mp q]; decide

end

section
variable {P : Program} {w : World} {K : PySem.W.Frag} {mg : Str → Option Value} {base : Heap} {c : Ads}
abbrev spNumber : Sp := sp1 fun v H Q _ => ∃ b g B, v = .ref b ∧ Bag H b g (B + 3) ∧ ∀ (i : Int) H', i.natAbs < 10 ^ 15 → Kp (bx b g) H H' → Bag H' b g B → Q (.int i) H'
theorem c__law_number (T : Txt K mg c) : Cal P w K mg base CX0 2 "_law_number" ["bag"] spNumber := by
  refine T.d__law_number.cal sc__law_number sp1_len (fun f cdv A outer s H vs Q E hr h => ?_)
  obtain ⟨v, rfl, b, g, B, rfl, hB, k⟩ := h
  have e15 : (10 : Nat) ^ 15 = 1000000000000000 := by decide
  have e15' : (10 : Int) ^ 15 = 1000000000000000 := by decide
  refine ⟨_, (pss_cons (ps_set (i := 1) sc__law_number.nd rfl (by first | exact Or.inl rfl | exact Or.inr rfl) (pe_cal (c__law_draw T) (hr.mono (by first | decide | omega)) pass0 (pa_cons (pv 0) (pa_cons pe_int pa_nil))))
    (pss_cons (ps_if (pt_cmpR (op_eq2 (K := K) hr.units) (pv 1) pe_int (nomark _)) (pss_one (ps_ret (pe_op op_sub (pe_cal (c__law_draw T) (hr.mono (by first | decide | omega)) pass0 (pa_cons (pv 0) (pa_cons pe_int pa_nil))) pe_int))) pss_nil)
    (pss_cons (ps_if (pt_cmpR (op_eq2 (K := K) hr.units) (pv 1) pe_int (nomark _)) (pss_one (ps_ret (pe_op op_sub (pe_cal (c__law_draw T) (hr.mono (by first | decide | omega)) pass0 (pa_cons (pv 0) (pa_cons pe_int pa_nil))) pe_int))) pss_nil)
    (pss_cons (ps_if (pt_cmpR (op_eq2 (K := K) hr.units) (pv 1) pe_int (nomark _)) (pss_one (ps_ret (pe_op op_mul2 (pe_ix (ix_any (K := K)) (pe_lst (pa_cons pe_int (pa_cons (pe_un un_neg pe_int) pa_nil))) (pe_cal (c__law_draw T) (hr.mono (by first | decide | omega)) pass0 (pa_cons (pv 0) (pa_cons pe_int pa_nil))) (fun _ _ => rfl)) (pe_op op_sub (pe_op op_sub (pe_op op_pow2 pe_int pe_int) pe_int) (pe_cal (c__law_draw T) (hr.mono (by first | decide | omega)) pass0 (pa_cons (pv 0) (pa_cons pe_int pa_nil))))))) pss_nil)
    (pss_cons (ps_set (i := 2) sc__law_number.nd rfl (by first | exact Or.inl rfl | exact Or.inr rfl) (pe_cal (c__law_draw T) (hr.mono (by first | decide | omega)) pass0 (pa_cons (pv 0) (pa_cons (pe_op op_pow2 pe_int pe_int) pa_nil))))
    (pss_one (ps_ret (pe_ifExp (pt_cmpR (op_eq2 (K := K) hr.units) (pv 1) pe_int (nomark _)) (pv 2) (pe_op op_sub pe_int (pv 2)))))))))), ?_⟩
  walk_at "go"
  refine ⟨b, g, B + 2, 5, rfl, rfl, by decide, by decide, hB, fun r H1 r0 r1 k1 B1 => ?_⟩
  walk_at "go"
  walk_at "br"
  · intro _
    walk_at "go"
    refine ⟨b, g, B + 1, 9, rfl, rfl, by decide, by decide, B1, fun r H2 r0 r1 k2 B2 => ?_⟩
    walk_at "go"
    exact k _ _ (by omega) (k1.trans k2) (B2.less (by omega))
  · intro _
    walk_at "go"
    walk_at "br"
    · intro _
      walk_at "go"
      refine ⟨b, g, B + 1, 2000, rfl, rfl, by decide, by decide, B1, fun r H2 r0 r1 k2 B2 => ?_⟩
      walk_at "go"
      exact k _ _ (by omega) (k1.trans k2) (B2.less (by omega))
    · intro _
      walk_at "go"
      walk_at "br"
      · intro _
        walk_at "go"
        rename_i p Hp hpn kp hpl
        refine ⟨b, g, B + 1, 2, rfl, rfl, by decide, by decide, B1.kp kp, fun r H2 r0 r1 k2 B2 => ?_⟩
        have hp2 : H2 p = some (.lst [.int 1, .int (-1)]) := k2.at hpl (B1.old hpn)
        have key : ∀ s : Int, (s = 1 ∨ s = -1) → ([V.int 1, V.int (-1)] : List V)[r.toNat]? = some (.int s) → rIx K (.ref p) (.int r) H2 = rIx K (.ref p) (.int r) H2 := fun _ _ _ => rfl
        obtain ⟨s, hs, hv⟩ : ∃ s : Int, (s = 1 ∨ s = -1) ∧ ([V.int 1, V.int (-1)] : List V)[r.toNat]? = some (.int s) := by
          have : r = 0 ∨ r = 1 := by omega
          rcases this with rfl | rfl
          · exact ⟨1, .inl rfl, rfl⟩
          · exact ⟨-1, .inr rfl, rfl⟩
        refine r_ixl (n := r.toNat) hp2 (by omega) hv ?_
        walk_at "go"
        refine r_pow (n := 15) (by decide) (by decide) ?_
        walk_at "go"
        refine ⟨b, g, B, 3, rfl, rfl, by decide, by decide, B2, fun q H3 q0 q1 k3 B3 => ?_⟩
        walk_at "go"
        have c2 : (2 : Nat) ^ 200 = 1606938044258990275541962092341162602522202993782792835301376 := by decide +kernel
        refine r_mul (by omega) (by omega) ?_
        refine k _ _ ?_ (((k1.trans kp.no).trans k2).trans k3) B3
        rcases hs with rfl | rfl <;> omega
      · intro _
        walk_at "go"
        refine r_pow (n := 15) (by decide) (by decide) ?_
        walk_at "go"
        refine ⟨b, g, B + 1, 10 ^ 15, rfl, rfl, by decide, by decide, B1, fun r H2 r0 r1 k2 B2 => ?_⟩
        walk_at "go"
        walk_at "br"
        · intro _
          walk_at "go"
          exact k _ _ (by omega) (k1.trans k2) (B2.less (by omega))
        · intro _
          walk_at "go"
          exact k _ _ (by omega) (k1.trans k2) (B2.less (by omega))
abbrev spHeld : Sp := sp1 fun v H Q _ => ∃ i : Int, v = .int i ∧ ∀ H', Kp No H H' → Q (.int (max (1 - 10 ^ 15) (min (10 ^ 15 - 1) i))) H'
theorem c__law_held (T : Txt K mg c) : Cal P w K mg base CX0 1 "_law_held" ["number"] spHeld := by
  refine T.d__law_held.cal sc__law_held sp1_len (fun f cdv A outer s H vs Q E hr h => ?_)
  obtain ⟨v, rfl, i, rfl, k⟩ := h
  refine ⟨_, (pss_one (ps_ret (pe_callB (cr_max2 rfl) (by rfl) T.n_max (by decide +kernel) (pa_cons (pe_op op_sub pe_int (pe_op op_pow2 pe_int pe_int)) (pa_cons (pe_callB (cr_min2 rfl) (by rfl) T.n_min (by decide +kernel) (pa_cons (pe_op op_sub (pe_op op_pow2 pe_int pe_int) pe_int) (pa_cons (pv 0) pa_nil))) pa_nil))))), ?_⟩
  walk_at "go"
  refine r_pow (n := 15) (by decide) (by decide) ?_
  walk_at "go"
  refine r_pow (n := 15) (by decide) (by decide) ?_
  walk_at "go"
  exact k _ (by walk_at "kp")
/-- a span that was drawn -/
def SpanAt (H : Hp) (p : Addr) (lo hi : Option Int) : Prop := H p = some (.tup [EV lo, EV hi]) ∧ spanD (.tuple [ED lo, ED hi]) = true ∧ okO lo ∧ okO hi
abbrev spLawSpan : Sp := sp1 fun v H Q _ => ∃ b g B, v = .ref b ∧ Bag H b g (B + 7) ∧ ∀ p lo hi H', SpanAt H' p lo hi → Kp (bx b g) H H' → Bag H' b g B → Q (.ref p) H'
theorem okO_some {i : Int} (h : i.natAbs < 10 ^ 15) : okO (some i) := fun j e => by cases e; exact h
theorem okO_none : okO none := fun j e => by cases e
theorem c__law_span (T : Txt K mg c) : Cal P w K mg base CX0 3 "_law_span" ["bag"] spLawSpan := by
  refine T.d__law_span.cal sc__law_span sp1_len (fun f cdv A outer s H vs Q E hr h => ?_)
  obtain ⟨v, rfl, b, g, B, rfl, hB, k⟩ := h
  have e15 : (10 : Nat) ^ 15 = 1000000000000000 := by decide
  have e15' : (10 : Int) ^ 15 = 1000000000000000 := by decide
  refine ⟨_, (pss_cons (ps_set (i := 1) sc__law_span.nd rfl (by first | exact Or.inl rfl | exact Or.inr rfl) (pe_cal (c__law_draw T) (hr.mono (by first | decide | omega)) pass0 (pa_cons (pv 0) (pa_cons pe_int pa_nil))))
    (pss_cons (ps_set (i := 2) sc__law_span.nd rfl (by first | exact Or.inl rfl | exact Or.inr rfl) (pe_cal (c__law_number T) (hr.mono (by first | decide | omega)) pass0 (pa_cons (pv 0) pa_nil)))
    (pss_cons (ps_if (pt_cmpR (op_eq2 (K := K) hr.units) (pv 1) pe_int (nomark _)) (pss_one (ps_ret (pe_tup (pa_cons pe_non (pa_cons pe_non pa_nil))))) pss_nil)
    (pss_cons (ps_if (pt_cmpR (op_eq2 (K := K) hr.units) (pv 1) pe_int (nomark _)) (pss_one (ps_ret (pe_tup (pa_cons pe_non (pa_cons (pv 2) pa_nil))))) pss_nil)
    (pss_cons (ps_if (pt_cmpR (op_eq2 (K := K) hr.units) (pv 1) pe_int (nomark _)) (pss_one (ps_ret (pe_tup (pa_cons (pv 2) (pa_cons pe_non pa_nil))))) pss_nil)
    (pss_cons (ps_if (pt_cmpR (op_eq2 (K := K) hr.units) (pv 1) pe_int (nomark _)) (pss_one (ps_ret (pe_tup (pa_cons (pv 2) (pa_cons (pv 2) pa_nil))))) pss_nil)
    (pss_cons (ps_if (pt_cmpR op_lt2 (pv 1) pe_int (nomark _)) (pss_one (ps_ret (pe_tup (pa_cons (pv 2) (pa_cons (pe_cal (c__law_held T) (hr.mono (by first | decide | omega)) pass0 (pa_cons (pe_op (op_add2 (K := K)) (pe_op (op_add2 (K := K)) (pv 2) pe_int) (pe_cal (c__law_draw T) (hr.mono (by first | decide | omega)) pass0 (pa_cons (pv 0) (pa_cons pe_int pa_nil)))) pa_nil)) pa_nil))))) pss_nil)
    (pss_cons (ps_set (i := 3) sc__law_span.nd rfl (by first | exact Or.inl rfl | exact Or.inr rfl) (pe_cal (c__law_number T) (hr.mono (by first | decide | omega)) pass0 (pa_cons (pv 0) pa_nil)))
    (pss_one (ps_ret (pe_tup (pa_cons (pe_callB (cr_min2 rfl) (by rfl) T.n_min (by decide +kernel) (pa_cons (pv 2) (pa_cons (pv 3) pa_nil))) (pa_cons (pe_callB (cr_max2 rfl) (by rfl) T.n_max (by decide +kernel) (pa_cons (pv 2) (pa_cons (pv 3) pa_nil))) pa_nil))))))))))))), ?_⟩
  walk_at "go"
  refine ⟨b, g, B + 6, 7, rfl, rfl, by decide, by decide, hB, fun r H1 r0 r1 k1 B1 => ?_⟩
  walk_at "go"
  refine ⟨b, g, B + 3, rfl, B1, fun low H2 hlow k2 B2 => ?_⟩
  walk_at "go"
  walk_at "br"
  · intro _
    walk_at "go"
    rename_i p H3 hp k3 hpt
    exact k p none none H3 ⟨hpt, rfl, okO_none, okO_none⟩ ((k1.trans k2).trans k3.no) ((B2.kp k3).less (by omega))
  · intro _
    walk_at "go"
    walk_at "br"
    · intro _
      walk_at "go"
      rename_i p H3 hp k3 hpt
      exact k p none (some low) H3 ⟨hpt, rfl, okO_none, okO_some hlow⟩ ((k1.trans k2).trans k3.no) ((B2.kp k3).less (by omega))
    · intro _
      walk_at "go"
      walk_at "br"
      · intro _
        walk_at "go"
        rename_i p H3 hp k3 hpt
        exact k p (some low) none H3 ⟨hpt, rfl, okO_some hlow, okO_none⟩ ((k1.trans k2).trans k3.no) ((B2.kp k3).less (by omega))
      · intro _
        walk_at "go"
        walk_at "br"
        · intro _
          walk_at "go"
          rename_i p H3 hp k3 hpt
          refine k p (some low) (some low) H3 ⟨hpt, ?_, okO_some hlow, okO_some hlow⟩ ((k1.trans k2).trans k3.no) ((B2.kp k3).less (by omega))
          exact decide_eq_true (Int.le_refl _)
        · intro _
          walk_at "go"
          walk_at "br"
          · intro _
            walk_at "go"
            refine ⟨b, g, B + 2, 12, rfl, rfl, by decide, by decide, B2, fun q H3 q0 q1 k3 B3 => ?_⟩
            walk_at "go"
            intro H4 k4
            walk_at "go"
            rename_i p H5 hp k5 hpt
            refine k p (some low) (some _) H5 ⟨hpt, ?_, okO_some hlow, okO_some ?_⟩ (((k1.trans k2).trans k3).trans (k4.trans k5).no) ((B3.kp (k4.trans k5)).less (by omega))
            · refine decide_eq_true ?_
              omega
            · omega
          · intro _
            walk_at "go"
            refine ⟨b, g, B, rfl, B2, fun high H3 hhigh k3 B3 => ?_⟩
            walk_at "go"
            rename_i p H4 hp k4 hpt
            refine k p (some _) (some _) H4 ⟨hpt, ?_, okO_some ?_, okO_some ?_⟩ (((k1.trans k2).trans k3).trans k4.no) (B3.kp k4)
            · refine decide_eq_true ?_
              omega
            · omega
            · omega

end

section
variable {P : Program} {w : World} {K : PySem.W.Frag} {mg : Str → Option Value} {base : Heap} {c : Ads}
abbrev spField : Sp := sp1 fun v H Q _ => ∃ b g B, v = .ref b ∧ Bag H b g (B + 10) ∧ ∀ f H', fieldS f = true → Kp (bx b g) H H' → Bag H' b g B → Q (.str f) H'
theorem letter_at {r : Int} (r0 : 0 ≤ r) (r1 : r < 26) : ∃ d, lettersL[r.toNat]? = some d ∧ d ∈ lettersL := by
  have h : r.toNat < lettersL.length := by rw [letters_len]; omega
  exact ⟨lettersL[r.toNat], List.getElem?_eq_getElem h, List.getElem_mem h⟩
theorem c__law_field (T : Txt K mg c) : Cal P w K mg base CX0 2 "_law_field" ["bag"] spField := by
  refine T.d__law_field.cal sc__law_field sp1_len (fun f cdv A outer s H vs Q E hr h => ?_)
  obtain ⟨v, rfl, b, g, B, rfl, hB, k⟩ := h
  refine ⟨_, (pss_cons (ps_set (i := 1) sc__law_field.nd rfl (by first | exact Or.inl rfl | exact Or.inr rfl) (pe_cal (c__law_draw T) (hr.mono (by first | decide | omega)) pass0 (pa_cons (pv 0) (pa_cons pe_int pa_nil))))
    (pss_cons (ps_set (i := 2) sc__law_field.nd rfl (by first | exact Or.inl rfl | exact Or.inr rfl) pe_str)
    (pss_cons (ps_if (pt_cmpR (op_eq2 (K := K) hr.units) (pv 1) pe_int (nomark _)) (pss_one (ps_ret (pe_join2 (K := K) pe_str (pe_lc (own := [("k", 3)]) (by rfl) sc__law_field.nd (pi_range1 (by rfl) T.n_range (pa_cons (pe_op (op_add2 (K := K)) pe_int (pe_cal (c__law_draw T) (hr.mono (by first | decide | omega)) pass0 (pa_cons (pv 0) (pa_cons pe_int pa_nil)))) pa_nil)) (blkOk_by (own := [("k", 3)]) (N := ["bag", "choice", "some", "k"]) (sc := defScope s__law_field) (by decide +kernel)) (fun _ _ _ _ _ => (pg_name (i := 3) sc__law_field.nd rfl (by first | exact Or.inl rfl | exact Or.inr rfl))) (fun _ _ _ _ _ => pts_nil) (fun _ _ _ _ _ => (pe_ix (ix_any (K := K)) (pv 2) (pe_cal (c__law_draw T) (hr.mono (by first | decide | omega)) pass0 (pa_cons (pv 0) (pa_cons pe_int pa_nil))) (fun _ _ => rfl))))))) pss_nil)
    (pss_one (ps_ret (pe_join2 (K := K) pe_str (pe_lc (own := [("k", 3)]) (by rfl) sc__law_field.nd (pi_range1 (by rfl) T.n_range (pa_cons (pe_op (op_add2 (K := K)) pe_int (pe_cal (c__law_draw T) (hr.mono (by first | decide | omega)) pass0 (pa_cons (pv 0) (pa_cons pe_int pa_nil)))) pa_nil)) (blkOk_by (own := [("k", 3)]) (N := ["bag", "choice", "some", "k"]) (sc := defScope s__law_field) (by decide +kernel)) (fun _ _ _ _ _ => (pg_name (i := 3) sc__law_field.nd rfl (by first | exact Or.inl rfl | exact Or.inr rfl))) (fun _ _ _ _ _ => pts_nil) (fun _ _ _ _ _ => (pe_ix (ix_any (K := K)) (pv 2) (pe_op op_mul2 (pe_cal (c__law_draw T) (hr.mono (by first | decide | omega)) pass0 (pa_cons (pv 0) (pa_cons pe_int pa_nil))) pe_int) (fun _ _ => rfl)))))))))), ?_⟩
  walk_at "go"
  refine ⟨b, g, B + 9, 3, rfl, rfl, by decide, by decide, hB, fun r H1 r0 r1 k1 B1 => ?_⟩
  walk_at "go"
  have al : (Str.ofString "abcdefghijklmnopqrstuvwxyz").length ≤ 1000000 := by decide +kernel
  have ae : (Str.ofString "abcdefghijklmnopqrstuvwxyz").cps.toList = lettersL := by rfl
  walk_at "br"
  · intro _
    walk_at "go"
    refine r_lcR ?_
    walk_at "go"
    refine ⟨b, g, B + 8, 8, rfl, rfl, by decide, by decide, B1, fun q H2 q0 q1 k2 B2 => ?_⟩
    walk_at "go"
    obtain ⟨z, hz⟩ : ∃ z : Nat, 1 + q = (z : Int) := ⟨(1 + q).toNat, by omega⟩
    rw [hz]
    refine lcR (fun D i acc H' => Kp (bx b g) H2 H' ∧ Bag H' b g (B + (8 - i)) ∧ ∃ cs : List Nat, acc = (cs.map sg).map V.str ∧ cs.length = i ∧ ∀ d ∈ cs, d ∈ lettersL) (by omega) (fun D hD => ⟨Kp.new Kp.refl hD, B2.kp (Kp.new Kp.refl hD), [], rfl, rfl, fun d h => by cases h⟩) ?_ ?_
    · rintro D i acc H' hD hi hacc hl ⟨k3, B3, cs, rfl, hcs, hall⟩
      obtain ⟨B', hB'⟩ : ∃ B', B + (8 - i) = B' + 1 := ⟨B + (8 - i) - 1, by omega⟩
      rw [hB'] at B3
      walk_at "go"
      refine ⟨b, g, B', 26, rfl, rfl, by decide, by decide, B3, fun u H3 u0 u1 k4 B4 => ?_⟩
      walk_at "go"
      obtain ⟨d, hd, hdm⟩ := letter_at (r := u) (by omega) (by omega)
      refine r_ix_s (n := u.toNat) al (by omega) (by rw [ae]; exact hd) ?_
      have hDb : ¬ bx b g D := B2.old hD
      have hacc3 : H3 D = some (.lst ((cs.map sg).map V.str)) := k4.at hacc hDb
      refine lc_yes hacc3 hl (by omega) ⟨Kp.fresh (k3.trans k4) hD, ?_, cs ++ [d], by rw [List.map_append, List.map_append]; rfl, by rw [List.length_append, hcs]; rfl, fun y hy => ?_⟩
      · have e : B + (8 - (i + 1)) = B' := by omega
        rw [e]
        exact B4.wr hacc3 hDb head_str
      · rcases List.mem_append.mp hy with z | z
        · exact hall y z
        · rw [List.mem_singleton.mp z]; exact hdm
    · rintro D acc H' hD hacc hl ⟨k3, B3, cs, rfl, hcs, hall⟩
      walk_at "go"
      refine r_join (SqL.of hacc) (by rw [sum_ones, List.length_map, l_empty]; omega) ?_
      refine k _ _ (field_signs (fun z => by rw [z] at hcs; simp at hcs; omega) (by omega) hall) ((k1.trans k2).trans k3) (B3.less (by omega))
  · intro _
    walk_at "go"
    refine r_lcR ?_
    walk_at "go"
    refine ⟨b, g, B + 8, 4, rfl, rfl, by decide, by decide, B1, fun q H2 q0 q1 k2 B2 => ?_⟩
    walk_at "go"
    obtain ⟨z, hz⟩ : ∃ z : Nat, 1 + q = (z : Int) := ⟨(1 + q).toNat, by omega⟩
    rw [hz]
    refine lcR (fun D i acc H' => Kp (bx b g) H2 H' ∧ Bag H' b g (B + (8 - i)) ∧ ∃ cs : List Nat, acc = (cs.map sg).map V.str ∧ cs.length = i ∧ ∀ d ∈ cs, d ∈ lettersL) (by omega) (fun D hD => ⟨Kp.new Kp.refl hD, B2.kp (Kp.new Kp.refl hD), [], rfl, rfl, fun d h => by cases h⟩) ?_ ?_
    · rintro D i acc H' hD hi hacc hl ⟨k3, B3, cs, rfl, hcs, hall⟩
      obtain ⟨B', hB'⟩ : ∃ B', B + (8 - i) = B' + 1 := ⟨B + (8 - i) - 1, by omega⟩
      rw [hB'] at B3
      walk_at "go"
      refine ⟨b, g, B', 2, rfl, rfl, by decide, by decide, B3, fun u H3 u0 u1 k4 B4 => ?_⟩
      walk_at "go"
      refine r_mul (by omega) (by decide) ?_
      walk_at "go"
      obtain ⟨d, hd, hdm⟩ := letter_at (r := u * 25) (by omega) (by omega)
      refine r_ix_s (n := (u * 25).toNat) al (by omega) (by rw [ae]; exact hd) ?_
      have hDb : ¬ bx b g D := B2.old hD
      have hacc3 : H3 D = some (.lst ((cs.map sg).map V.str)) := k4.at hacc hDb
      refine lc_yes hacc3 hl (by omega) ⟨Kp.fresh (k3.trans k4) hD, ?_, cs ++ [d], by rw [List.map_append, List.map_append]; rfl, by rw [List.length_append, hcs]; rfl, fun y hy => ?_⟩
      · have e : B + (8 - (i + 1)) = B' := by omega
        rw [e]
        exact B4.wr hacc3 hDb head_str
      · rcases List.mem_append.mp hy with z | z
        · exact hall y z
        · rw [List.mem_singleton.mp z]; exact hdm
    · rintro D acc H' hD hacc hl ⟨k3, B3, cs, rfl, hcs, hall⟩
      walk_at "go"
      refine r_join (SqL.of hacc) (by rw [sum_ones, List.length_map, l_empty]; omega) ?_
      refine k _ _ (field_signs (fun z => by rw [z] at hcs; simp at hcs; omega) (by omega) hall) ((k1.trans k2).trans k3) (B3.less (by omega))
abbrev spFields : Sp := sp2 fun v m H Q _ => ∃ b g B, ∃ most : Int, v = .ref b ∧ m = .int most ∧ 0 ≤ most ∧ most ≤ 8 ∧ Bag H b g (B + 81) ∧
  ∀ p ys H', ascS Str.empty ys = true → (∀ f ∈ ys, fieldS f = true) → (ys.length : Int) ≤ most → H p = none → H' p = some (.lst (ys.map V.str)) → Kp (bx b g) H H' → Bag H' b g B → Q (.ref p) H'
theorem c__law_fields (T : Txt K mg c) : Cal P w K mg base CX0 3 "_law_fields" ["bag", "most"] spFields := by
  refine T.d__law_fields.cal sc__law_fields sp2_len (fun f cdv A outer s H vs Q E hr h => ?_)
  obtain ⟨_, _, rfl, b, g, B, most, rfl, rfl, m0, m1, hB, k⟩ := h
  refine ⟨_, (pss_one (ps_ret (pe_callB (cr_sortedOfS (P := P) (w := w) rfl) (by rfl) T.n_sorted (by decide +kernel) (pa_cons (pe_callTy (cr_setOfS (K := K) (P := P) (w := w) rfl) (by rfl) T.n_set (by decide +kernel) (pa_cons (pe_lc (own := [("k", 2)]) (by rfl) sc__law_fields.nd (pi_range1 (by rfl) T.n_range (pa_cons (pe_cal (c__law_draw T) (hr.mono (by first | decide | omega)) pass0 (pa_cons (pv 0) (pa_cons (pe_op (op_add2 (K := K)) (pv 1) pe_int) pa_nil))) pa_nil)) (blkOk_by (own := [("k", 2)]) (N := ["bag", "most", "k"]) (sc := defScope s__law_fields) (by decide +kernel)) (fun _ _ _ _ _ => (pg_name (i := 2) sc__law_fields.nd rfl (by first | exact Or.inl rfl | exact Or.inr rfl))) (fun _ _ _ _ _ => pts_nil) (fun _ _ _ _ _ => (pe_cal (c__law_field T) (hr.mono (by first | decide | omega)) pass0 (pa_cons (pv 0) pa_nil)))) pa_nil)) pa_nil)))), ?_⟩
  walk_at "go"
  refine r_lcR ?_
  walk_at "go"
  refine ⟨b, g, B + 80, most + 1, rfl, rfl, by omega, by omega, hB, fun q H2 q0 q1 k2 B2 => ?_⟩
  walk_at "go"
  obtain ⟨z, rfl⟩ : ∃ z : Nat, q = (z : Int) := ⟨q.toNat, by omega⟩
  refine lcR (fun D i acc H' => Kp (bx b g) H2 H' ∧ Bag H' b g (B + 10 * (8 - i)) ∧ ∃ xs : List Str, acc = xs.map V.str ∧ xs.length = i ∧ ∀ d ∈ xs, fieldS d = true) (by omega) (fun D hD => ⟨Kp.new Kp.refl hD, B2.kp (Kp.new Kp.refl hD), [], rfl, rfl, fun d h => by cases h⟩) ?_ ?_
  · rintro D i acc H' hD hi hacc hl ⟨k3, B3, xs, rfl, hcs, hall⟩
    have e : B + 10 * (8 - i) = (B + 10 * (8 - (i + 1))) + 10 := by omega
    rw [e] at B3
    walk_at "go"
    refine ⟨b, g, _, rfl, B3, fun d H3 hd k4 B4 => ?_⟩
    have hDb : ¬ bx b g D := B2.old hD
    have hacc3 : H3 D = some (.lst (xs.map V.str)) := k4.at hacc hDb
    refine lc_yes hacc3 hl (by omega) ⟨Kp.fresh (k3.trans k4) hD, B4.wr hacc3 hDb head_str, xs ++ [d], by rw [List.map_append]; rfl, by rw [List.length_append, hcs]; rfl, fun y hy => ?_⟩
    rcases List.mem_append.mp hy with z | z
    · exact hall y z
    · rw [List.mem_singleton.mp z]; exact hd
  · rintro D acc H' hD hacc hl ⟨k3, B3, xs, rfl, hcs, hall⟩
    walk_at "go"
    refine r_setOfS (SqL.of hacc) (by omega) fun a H4 ha k4 hal => ?_
    walk_at "go"
    refine r_sortedOfS hal (by omega) fun ys p H5 nd so mem hp k5 hpl => ?_
    have hf : ∀ f ∈ ys, fieldS f = true := fun f hf => hall f ((mem f).mp hf)
    have hlen : ys.length ≤ xs.length := List.Nodup.length_le_of_subset nd fun f hf => (mem f).mp hf
    exact k p ys H5 (ascS_sorted so nd hf) hf (by omega) (((k2.trans k3).trans k4.no).free hp ((B3.kp k4).old hp)) hpl (((k2.trans k3).trans k4.no).trans k5.no) (((B3.kp k4).kp k5).less (by omega))
abbrev spMade : Sp := sp3 fun v sz m H Q _ => ∃ b g B, ∃ size most : Int, v = .ref b ∧ sz = .int size ∧ m = .int most ∧ (size = 2 ∨ size = 3) ∧ 0 ≤ most ∧ most ≤ 8 ∧ Bag H b g (B + 300) ∧
  ∀ p (ps : List (Str × List PyData)) H', ascS Str.empty (ps.map (·.1)) = true → (∀ q ∈ ps, fieldS q.1 = true ∧ goodR size q.2) → (ps.length : Int) ≤ most → Dat All H' (.ref p) (.tuple (ps.map mk1)) → Kp (bx b g) H H' → Bag H' b g B → Q (.ref p) H'
theorem c__law_made (T : Txt K mg c) : Cal P w K mg base CX0 4 "_law_made" ["bag", "size", "most"] spMade := by
  refine T.d__law_made.cal sc__law_made sp3_len (fun f cdv A outer s H vs Q E hr h => ?_)
  obtain ⟨_, _, _, rfl, b, g, B, size, most, rfl, rfl, rfl, hsz, m0, m1, hB, k⟩ := h
  refine ⟨_, (pss_cons (ps_set (i := 3) sc__law_made.nd rfl (by first | exact Or.inl rfl | exact Or.inr rfl) (pe_lst pa_nil))
    (pss_cons (ps_for PassesOwn.never rfl (pi_any (K := K) (pe_cal (c__law_fields T) (hr.mono (by first | decide | omega)) pass0 (pa_cons (pv 0) (pa_cons (pv 2) pa_nil)))) (pg_name (i := 4) sc__law_made.nd rfl (by first | exact Or.inl rfl | exact Or.inr rfl))
      (pss_cons (ps_set (i := 5) sc__law_made.nd rfl (by first | exact Or.inl rfl | exact Or.inr rfl) (pe_cal (c__law_span T) (hr.mono (by first | decide | omega)) pass0 (pa_cons (pv 0) pa_nil)))
      (pss_one (ps_expr (pe_bm PySem.F.plainAttrs_list PySem.F.slot_list_append PySem.F.type_list_append mt_append (pv 3) (pa_cons (pe_ifExp (pt_cmpR (op_eq2 (K := K) hr.units) (pv 1) pe_int (nomark _)) (pe_tup (pa_cons (pv 4) (pa_cons (pe_ix (ix_any (K := K)) (pv 5) pe_int (fun _ _ => rfl)) (pa_cons (pe_ix (ix_any (K := K)) (pv 5) pe_int (fun _ _ => rfl)) pa_nil)))) (pe_tup (pa_cons (pv 4) (pa_cons (pe_cal (c__law_number T) (hr.mono (by first | decide | omega)) pass0 (pa_cons (pv 0) pa_nil)) pa_nil)))) pa_nil))))))
    (pss_one (ps_ret (pe_callTy (call_tuple2 (K := K)) (by rfl) T.n_tuple (by decide +kernel) (pa_cons (pv 3) pa_nil)))))), ?_⟩
  walk_at "go"
  rename_i p H1 hp k1 hpl
  have pb : ¬ bx b g p := hB.old hp
  refine r_forL ?_
  walk_at "go"
  refine ⟨b, g, B + 200, most, rfl, rfl, m0, m1, (hB.kp k1).less (by omega), fun q ys H2 hasc hf hlen hqn hq k2 B2 => ?_⟩
  have hp2 : H2 p = some (.lst []) := k2.at hpl pb
  have pq : q ≠ p := fun z => by
    subst z
    rw [hpl] at hqn; cases hqn
  have qb : ¬ bx b g q := (hB.kp k1).old hqn
  refine lpL (fun i σ' H' => ∃ (acc : List V) (ps : List (Str × List PyData)), Kp (bx b g) H H' ∧ Bag H' b g (B + 10 * (10 - i)) ∧ H' p = some (.lst acc) ∧ H' q = some (.lst (ys.map V.str)) ∧ Dats All H' acc (ps.map mk1) ∧ ps.map (·.1) = ys.take i ∧ (∀ r ∈ ps, fieldS r.1 = true ∧ goodR size r.2) ∧ ∃ o4 o5, σ' = [some (.ref b), some (.int size), some (.int most), some (.ref p), o4, o5])
    (SqL.of hq) ⟨[], [], (k1.no).trans k2, B2.less (by omega), hp2, hq, .nil, rfl, (fun r h => by cases h), none, none, rfl⟩ (fun i σ' H' ⟨_, _, _, _, _, h, _⟩ => SqL.of h) ?_ ?_
  · rintro i z σ' H' hi ⟨acc, ps, kp, Bi, hpi, hqi, hds, hps, hgood, o4, o5, rfl⟩
    obtain ⟨fl, hfl, rfl⟩ : ∃ fl, ys[i]? = some fl ∧ z = .str fl := by
      rw [List.getElem?_map] at hi
      cases e : ys[i]? with
      | none => rw [e] at hi; cases hi
      | some fl => rw [e] at hi; cases hi; exact ⟨fl, rfl, rfl⟩
    have hflf : fieldS fl = true := hf fl (List.mem_of_getElem? hfl)
    have hfll : fl.length ≤ 1000000 := by have := (fieldL_iff.mp hflf).2.1; rw [TL.len_tl]; exact Nat.le_trans this (by decide)
    have hi8 : i < 8 := by have := (List.getElem?_eq_some_iff.mp hfl).1; omega
    have e10 : B + 10 * (10 - i) = (B + 10 * (10 - (i + 1)) + 3) + 7 := by omega
    rw [e10] at Bi
    walk_at "go"
    refine ⟨b, g, _, rfl, Bi, fun t lo hi' H3 hsp k3 B3 => ?_⟩
    have hp3 : H3 p = some (.lst acc) := k3.at hpi pb
    have hq3 : H3 q = some (.lst (ys.map V.str)) := k3.at hqi qb
    obtain ⟨htt, hspan, o1, o2⟩ := hsp
    have hacc : acc.length ≤ 8 := by
      rw [hds.len, List.length_map]
      have e := congrArg List.length hps
      rw [List.length_map, List.length_take] at e
      omega
    have nohead : ∀ j : Int, acc.head? ≠ some (.int j) := fun j e => by
      obtain ⟨r, rfl⟩ : ∃ r, acc = .int j :: r := by
        cases acc with
        | nil => cases e
        | cons a r => cases e; exact ⟨r, rfl⟩
      cases ps with
      | nil => cases hds
      | cons p0 ps0 =>
        have hds' : Dats All H' (.int j :: r) (.tuple (.str p0.1 :: p0.2) :: ps0.map mk1) := hds
        cases hds' with
        | cons h1 _ => cases h1
    have hn : H p = none := hp
    walk_at "go"
    walk_at "br"
    · intro h3
      walk_at "go"
      rename_i u H4 hu k4 hut
      have hp4 := k4.lst hp3
      refine r_append hp4 (by omega) ?_
      have hlast : Dats All H4 [V.ref u] [mk1 (fl, [ED lo, ED hi'])] := Dats.one (.tup hut (.cons (.str fl hfll) (.cons (.ed lo) (.cons (.ed hi') .nil))))
      refine ⟨acc ++ [.ref u], ps ++ [(fl, [ED lo, ED hi'])], Kp.fresh ((kp.trans k3).trans k4.no) hn, ((B3.kp k4).wr hp4 pb nohead).less (by omega), upd_same, by rw [upd_ne pq]; exact k4.lst hq3, ?_, ?_, ?_, _, _, rfl⟩
      · rw [List.map_append]
        exact Dats.all (Dats.append ((hds.all k3).all k4) hlast) (Kp.app hp4)
      · rw [List.map_append, hps, List.take_add_one, hfl]; rfl
      · intro r hr
        rcases List.mem_append.mp hr with z | z
        · exact hgood r z
        · rw [List.mem_singleton.mp z]
          exact ⟨hflf, .inl ⟨h3, lo, hi', rfl, hspan, o1, o2⟩⟩
    · intro h3
      walk_at "go"
      refine ⟨b, g, _, rfl, B3, fun n H4 hn4 k4 B4 => ?_⟩
      walk_at "go"
      rename_i u H5 hu k5 hut
      have hp5 := k5.lst (k4.at hp3 pb)
      refine r_append hp5 (by omega) ?_
      have hlast : Dats All H5 [V.ref u] [mk1 (fl, [.int n])] := Dats.one (.tup hut (.cons (.str fl hfll) (.cons (.int n) .nil)))
      refine ⟨acc ++ [.ref u], ps ++ [(fl, [.int n])], Kp.fresh (((kp.trans k3).trans k4).trans k5.no) hn, ((B4.kp k5).wr hp5 pb nohead).less (by omega), upd_same, by rw [upd_ne pq]; exact k5.lst (k4.at hq3 qb), ?_, ?_, ?_, _, _, rfl⟩
      · rw [List.map_append]
        exact Dats.all (Dats.append (((hds.all k3).all k4).all k5) hlast) (Kp.app hp5)
      · rw [List.map_append, hps, List.take_add_one, hfl]; rfl
      · intro r hr
        rcases List.mem_append.mp hr with z | z
        · exact hgood r z
        · rw [List.mem_singleton.mp z]
          exact ⟨hflf, .inr ⟨hsz.resolve_right h3, n, rfl, hn4⟩⟩
  · rintro σ' H' ⟨acc, ps, kp, Bi, hpi, hqi, hds, hps, hgood, o4, o5, rfl⟩
    rw [List.length_map, List.take_length] at hps
    walk_at "go"
    rename_i u H3 hu k3 hut
    refine k u ps H3 (by rw [hps]; exact hasc) hgood ?_ (.tup hut (hds.all k3)) (kp.trans k3.no) ((Bi.kp k3).less (by omega))
    have e := congrArg List.length hps
    rw [List.length_map] at e
    omega

end

section
variable {P : Program} {w : World} {K : PySem.W.Frag} {mg : Str → Option Value} {base : Heap} {c : Ads}
/-! the law's own looks -/
theorem c__law_same (T : Txt K mg c) : ∀ n, Cal P w K mg base CX0 (n + 1) "_law_same" ["found", "due"] (spSame n)
  | 0 => T.d__law_same.cal sc__law_same sp2_len (fun f cdv A outer s H vs Q E hr h => by
      obtain ⟨_, _, _, _, _, _, _, _, z, _⟩ := h
      cases z)
  | n + 1 => by
    have ih := c__law_same T n
    refine T.d__law_same.cal sc__law_same sp2_len (fun f cdv A outer s H vs Q E hr h => ?_)
    obtain ⟨v, u, rfl, ex, ex2, d, hv, hu, hd, k⟩ := h
    refine ⟨_, (pss_cons (ps_if (pt_cmp (pc_isN (pv 1)) rfl) (pss_one (ps_ret (pe_cmp (pc_isN (pv 0)) rfl))) pss_nil)
    (pss_cons (ps_if (pt_val (pe_callB (call_isiT2 (K := K)) (by rfl) T.n_isinstance (by decide +kernel) (pa_cons (pv 1) (pa_cons (pe_tup (pa_cons (pe_bltn (v := .ty "list") (by rfl) T.n_list (by decide +kernel) rfl) (pa_cons (pe_bltn (v := .ty "tuple") (by rfl) T.n_tuple (by decide +kernel) rfl) pa_nil))) pa_nil))) (by intro _; rfl)) (pss_cons (ps_if (PW.pt (pw_or (pt_not (pt_val (pe_callB (call_isiT2 (K := K)) (by rfl) T.n_isinstance (by decide +kernel) (pa_cons (pv 0) (pa_cons (pe_tup (pa_cons (pe_bltn (v := .ty "list") (by rfl) T.n_list (by decide +kernel) rfl) (pa_cons (pe_bltn (v := .ty "tuple") (by rfl) T.n_tuple (by decide +kernel) rfl) pa_nil))) pa_nil))) (by intro _; rfl))) (pw_or1 (pt_cmpR (op_ne2 (K := K) hr.units) (pe_callB (call_isi2 (K := K)) (by rfl) T.n_isinstance (by decide +kernel) (pa_cons (pv 0) (pa_cons (pe_bltn (v := .ty "list") (by rfl) T.n_list (by decide +kernel) rfl) pa_nil))) (pe_callB (call_isi2 (K := K)) (by rfl) T.n_isinstance (by decide +kernel) (pa_cons (pv 1) (pa_cons (pe_bltn (v := .ty "list") (by rfl) T.n_list (by decide +kernel) rfl) pa_nil))) (nomark _))))) (pss_one (ps_ret pe_bl)) pss_nil)
      (pss_one (ps_ret (pe_and (pe_cmpR (op_eq2 (K := K) hr.units) (pe_callB (call_len2 (K := K)) (by rfl) T.n_len (by decide +kernel) (pa_cons (pv 0) pa_nil)) (pe_callB (call_len2 (K := K)) (by rfl) T.n_len (by decide +kernel) (pa_cons (pv 1) pa_nil)) (nomark _)) (pe_one (pe_callB (cr_all2 (K := K) rfl) (by rfl) T.n_all (by decide +kernel) (pa_cons (pe_lc (own := [("k", 2)]) (by rfl) sc__law_same.nd (pi_range1 (by rfl) T.n_range (pa_cons (pe_callB (call_len2 (K := K)) (by rfl) T.n_len (by decide +kernel) (pa_cons (pv 1) pa_nil)) pa_nil)) (blkOk_by (own := [("k", 2)]) (N := ["found", "due", "k"]) (sc := defScope s__law_same) (by decide +kernel)) (fun _ _ _ _ _ => (pg_name (i := 2) sc__law_same.nd rfl (by first | exact Or.inl rfl | exact Or.inr rfl))) (fun _ _ _ _ _ => pts_nil) (fun _ _ _ _ _ => (pe_cal ih (hr.mono (by first | decide | omega)) pass0 (pa_cons (pe_ix (ix_any (K := K)) (pv 0) (pv 2) (fun _ _ => rfl)) (pa_cons (pe_ix (ix_any (K := K)) (pv 1) (pv 2) (fun _ _ => rfl)) pa_nil))))) pa_nil))))))) pss_nil)
    (pss_cons (ps_if (PW.pt (pw_or (pt_cmpR (op_ne2 (K := K) hr.units) (pe_callB (call_isi2 (K := K)) (by rfl) T.n_isinstance (by decide +kernel) (pa_cons (pv 0) (pa_cons (pe_bltn (v := .ty "bool") (by rfl) T.n_bool (by decide +kernel) rfl) pa_nil))) (pe_callB (call_isi2 (K := K)) (by rfl) T.n_isinstance (by decide +kernel) (pa_cons (pv 1) (pa_cons (pe_bltn (v := .ty "bool") (by rfl) T.n_bool (by decide +kernel) rfl) pa_nil))) (nomark _)) (pw_or1 (pt_cmpR (op_ne2 (K := K) hr.units) (pe_callB (call_isi2 (K := K)) (by rfl) T.n_isinstance (by decide +kernel) (pa_cons (pv 0) (pa_cons (pe_bltn (v := .ty "int") (by rfl) T.n_int (by decide +kernel) rfl) pa_nil))) (pe_callB (call_isi2 (K := K)) (by rfl) T.n_isinstance (by decide +kernel) (pa_cons (pv 1) (pa_cons (pe_bltn (v := .ty "int") (by rfl) T.n_int (by decide +kernel) rfl) pa_nil))) (nomark _))))) (pss_one (ps_ret pe_bl)) pss_nil)
    (pss_one (ps_ret (pe_and (pe_cmpR (op_eq2 (K := K) hr.units) (pe_callB (call_isi2 (K := K)) (by rfl) T.n_isinstance (by decide +kernel) (pa_cons (pv 0) (pa_cons (pe_bltn (v := .ty "str") (by rfl) T.n_str (by decide +kernel) rfl) pa_nil))) (pe_callB (call_isi2 (K := K)) (by rfl) T.n_isinstance (by decide +kernel) (pa_cons (pv 1) (pa_cons (pe_bltn (v := .ty "str") (by rfl) T.n_str (by decide +kernel) rfl) pa_nil))) (nomark _)) (pe_one (pe_cmpR (op_eq2 (K := K) hr.units) (pv 0) (pv 1) (nomark _))))))))), ?_⟩
    cases d with
    | none =>
      cases hv
      cases hu
      walk_at "go"
      have e : decide (V.non = V.non) = true := decide_eq_true rfl
      show Q (.bl (decide (V.non = V.non))) H
      rw [e]
      exact k _ (by walk_at "kp")
    | bool b =>
      cases hv
      cases hu
      walk_at "go"
      refine r_isiLT (ex := No) (by walk_at "dat") (by assumption) ?_
      walk_at "go"
      refine r_iteF rfl ?_
      walk_at "go"
      refine r_iteF (by simp) ?_
      walk_at "go"
      refine r_iteF (by simp) ?_
      walk_at "go"
      refine r_iteT (by simp) ?_
      walk_at "go"
      exact fin_b k (by simp) (by walk_at "kp")
    | int i =>
      cases hv
      cases hu
      walk_at "go"
      refine r_isiLT (ex := No) (by walk_at "dat") (by assumption) ?_
      walk_at "go"
      refine r_iteF rfl ?_
      walk_at "go"
      refine r_iteF (by simp) ?_
      walk_at "go"
      refine r_iteF (by simp) ?_
      walk_at "go"
      refine r_iteT (by simp) ?_
      walk_at "go"
      exact fin_b k (by simp) (by walk_at "kp")
    | str x =>
      have hxl : x.length ≤ 1000000 := by cases hu; assumption
      cases hv
      cases hu
      walk_at "go"
      refine r_isiLT (ex := No) (by walk_at "dat") (by assumption) ?_
      walk_at "go"
      refine r_iteF rfl ?_
      walk_at "go"
      refine r_iteF (by simp) ?_
      walk_at "go"
      refine r_iteF (by simp) ?_
      walk_at "go"
      refine r_iteT (by simp) ?_
      walk_at "go"
      exact fin_b k (by simp) (by walk_at "kp")
    | tuple ds =>
      obtain ⟨hl1, hd'⟩ := Bool.and_eq_true_iff.mp (show (decide (ds.length ≤ 10000) && ds.all (upTo n)) = true from hd)
      have hlen := of_decide_eq_true hl1
      obtain ⟨a, xs, rfl, ha, hxs⟩ := hv.tupE
      obtain ⟨b, ys, rfl, hb, hys⟩ := hu.tupE
      have lx := hxs.len
      have ly := hys.len
      walk_at "go"
      refine r_isiLT (ex := ex2) (by walk_at "dat") (by assumption) ?_
      walk_at "go"
      refine r_iteT rfl ?_
      walk_at "go"
      refine r_isiLT (ex := ex) (by walk_at "dat") (by assumption) ?_
      walk_at "go"
      refine r_iteF rfl ?_
      walk_at "go"
      refine r_iteF (by simp) ?_
      walk_at "go"
      refine r_iteT (by rw [lx, ly]; simp) ?_
      walk_at "go"
      refine r_lcR ?_
      walk_at "go"
      refine lcR (fun D i acc H' => Kp No H H' ∧ acc = (List.replicate i true).map V.bl ∧ H D = none) (by omega) (fun D hD => ⟨by walk_at "kp", rfl, Kp.free (ex := No) (by walk_at "kp") hD fun z => z⟩) ?_ ?_
      · rintro D i acc H' hD hi hacc hl ⟨kp, rfl, hD0⟩
        have hix : i < xs.length := by omega
        obtain ⟨dx, hdx, hdx2⟩ := hxs.get (List.getElem?_eq_getElem hix)
        obtain ⟨dy, hdy, hdy2⟩ := hys.get (List.getElem?_eq_getElem hi)
        have e : dx = dy := Option.some.inj (hdx.symm.trans hdy)
        subst e
        have hup : upTo n dx = true := List.all_eq_true.mp hd' dx (List.mem_of_getElem? hdx)
        walk_at "go"
        refine r_at_t (by walk_at "tup") (e := rfl) (hv := List.getElem?_eq_getElem hix) ?_
        walk_at "go"
        refine r_at_t (by walk_at "tup") (e := rfl) (hv := List.getElem?_eq_getElem hi) ?_
        walk_at "go"
        refine ⟨ex, ex2, dx, (by walk_at "dat"), (by walk_at "dat"), hup, fun H2 k2 => ?_⟩
        walk_at "go"
        refine lc_yes (by walk_at "lst") hl (by omega) ⟨by walk_at "kp", ?_, hD0⟩
        rw [List.replicate_succ', List.map_append]
        rfl
      · rintro D acc H' hD hacc hl ⟨kp, rfl, _⟩
        walk_at "go"
        refine r_all (SqL.of hacc) ?_
        rw [bools_true]
        exact k _ (by walk_at "kp")
    | list ds =>
      obtain ⟨hl1, hd'⟩ := Bool.and_eq_true_iff.mp (show (decide (ds.length ≤ 10000) && ds.all (upTo n)) = true from hd)
      have hlen := of_decide_eq_true hl1
      obtain ⟨a, xs, _, rfl, e1, _, ha, hxs⟩ := hv.listI rfl
      cases e1
      obtain ⟨b, ys, _, rfl, e2, _, hb, hys⟩ := hu.listI rfl
      cases e2
      have lx := hxs.len
      have ly := hys.len
      walk_at "go"
      refine r_isiLT (ex := ex2) (by walk_at "dat") (by assumption) ?_
      walk_at "go"
      refine r_iteT rfl ?_
      walk_at "go"
      refine r_isiLT (ex := ex) (by walk_at "dat") (by assumption) ?_
      walk_at "go"
      refine r_iteF rfl ?_
      walk_at "go"
      refine r_iteF (by simp) ?_
      walk_at "go"
      refine r_len_l (by walk_at "lst") ?_
      walk_at "go"
      refine r_len_l (by walk_at "lst") ?_
      walk_at "go"
      refine r_iteT (by rw [lx, ly]; simp) ?_
      walk_at "go"
      refine r_lcR ?_
      walk_at "go"
      refine r_len_l (by walk_at "lst") ?_
      walk_at "go"
      refine lcR (fun D i acc H' => Kp No H H' ∧ acc = (List.replicate i true).map V.bl ∧ H D = none) (by omega) (fun D hD => ⟨by walk_at "kp", rfl, Kp.free (ex := No) (by walk_at "kp") hD fun z => z⟩) ?_ ?_
      · rintro D i acc H' hD hi hacc hl ⟨kp, rfl, hD0⟩
        have hix : i < xs.length := by omega
        obtain ⟨dx, hdx, hdx2⟩ := hxs.get (List.getElem?_eq_getElem hix)
        obtain ⟨dy, hdy, hdy2⟩ := hys.get (List.getElem?_eq_getElem hi)
        have e : dx = dy := Option.some.inj (hdx.symm.trans hdy)
        subst e
        have hup : upTo n dx = true := List.all_eq_true.mp hd' dx (List.mem_of_getElem? hdx)
        walk_at "go"
        refine r_ixl (by walk_at "lst") (e := rfl) (hv := List.getElem?_eq_getElem hix) ?_
        walk_at "go"
        refine r_ixl (by walk_at "lst") (e := rfl) (hv := List.getElem?_eq_getElem hi) ?_
        walk_at "go"
        refine ⟨ex, ex2, dx, (by walk_at "dat"), (by walk_at "dat"), hup, fun H2 k2 => ?_⟩
        walk_at "go"
        refine lc_yes (by walk_at "lst") hl (by omega) ⟨by walk_at "kp", ?_, hD0⟩
        rw [List.replicate_succ', List.map_append]
        rfl
      · rintro D acc H' hD hacc hl ⟨kp, rfl, _⟩
        walk_at "go"
        refine r_all (SqL.of hacc) ?_
        rw [bools_true]
        exact k _ (by walk_at "kp")
    | dict ds => cases hd

end

section
variable {P : Program} {w : World} {K : PySem.W.Frag} {mg : Str → Option Value} {base : Heap} {c : Ads}
abbrev spWritten : Sp := sp1 fun v H Q _ => ∃ ex, ∃ ps : List (Str × List PyData), Dat ex H v (.tuple (ps.map mk1)) ∧ (∀ p ∈ ps, okW p) ∧ ps.length ≤ 1000 ∧ ∀ H', Kp No H H' → Q (.str (ofL (wrL ps))) H'
theorem wr_part {f : Str} {es : List PyData} : ((f ++ Str.ofString ":") ++ Txt.join (Str.ofString "..") (es.map fun e => ofL (shEnd e))) = ofL (wrP (f, es)) := by
  refine TL.ext_tl ?_
  have e1 : TL.tl (Str.ofString ":") = [58] := by decide +kernel
  have e2 : TL.tl (Str.ofString "..") = [46, 46] := by decide +kernel
  rw [TL.tl_append, TL.tl_append, tl_ofL, TL.join_eq, TL.tl_join, e1, e2, List.map_map]
  have e3 : es.map (TL.tl ∘ fun e => ofL (shEnd e)) = es.map shEnd := List.map_congr_left fun e _ => tl_ofL _
  rw [e3, List.append_assoc]
  rfl
theorem c__law_written (T : Txt K mg c) : Cal P w K mg base CX0 1 "_law_written" ["thing"] spWritten := by
  refine T.d__law_written.cal sc__law_written sp1_len (fun f cdv A outer s H vs Q E hr h => ?_)
  obtain ⟨v, rfl, ex, ps, hd, hok, hlen, k⟩ := h
  refine ⟨_, (pss_cons (ps_set (i := 1) sc__law_written.nd rfl (by first | exact Or.inl rfl | exact Or.inr rfl) (pe_lst pa_nil))
    (pss_cons (ps_for PassesOwn.never rfl (pi_any (K := K) (pv 0)) (pg_name (i := 2) sc__law_written.nd rfl (by first | exact Or.inl rfl | exact Or.inr rfl))
      (pss_cons (ps_setLc (i := 3) (own := [("end", 4)]) (by rfl) sc__law_written.nd rfl rfl (sw_true rfl rfl rfl (by decide +kernel)) (pi_any (K := K) (pe_slice (sl_any (K := K)) (pv 2) (po_some pe_int) po_none)) (blkOk_by (own := [("end", 4)]) (N := ["thing", "words", "part", "ends", "end"]) (sc := defScope s__law_written) (by decide +kernel)) (fun _ _ _ _ _ => (pg_name (i := 4) sc__law_written.nd rfl (by first | exact Or.inl rfl | exact Or.inr rfl))) (fun _ _ _ _ _ => pts_nil) (fun _ _ _ _ _ => (pe_ifExp (pt_cmp (pc_isN (pv 4)) rfl) pe_str (pe_callTy call_str3 (by rfl) T.n_str (by decide +kernel) (pa_cons (pv 4) pa_nil)))))
      (pss_one (ps_expr (pe_bm PySem.F.plainAttrs_list PySem.F.slot_list_append PySem.F.type_list_append mt_append (pv 1) (pa_cons (pe_op (op_add2 (K := K)) (pe_op (op_add2 (K := K)) (pe_ix (ix_any (K := K)) (pv 2) pe_int (fun _ _ => rfl)) pe_str) (pe_join2 (K := K) pe_str (pv 3))) pa_nil))))))
    (pss_one (ps_ret (pe_ifExp (pt_cmpR (op_ne2 (K := K) hr.units) (pv 1) (pe_lst pa_nil) (nomark _)) (pe_join2 (K := K) pe_str (pv 1)) pe_str))))), ?_⟩
  obtain ⟨a, xs, rfl, ha, hxs⟩ := hd.tupE
  have lx := hxs.len
  rw [List.length_map] at lx
  walk_at "go"
  rename_i p H1 hp k1 hpl
  refine r_forT ?_
  walk_at "go"
  refine lpT All (fun i σ' H' => Kp No H H' ∧ H' p = some (.lst (((ps.take i).map fun p => ofL (wrP p)).map V.str)) ∧ ∃ o2 o3 o4, σ' = [some (.ref a), some (.ref p), o2, o3, o4]) (k1.tup ha) ⟨k1, hpl, none, none, none, rfl⟩ ?_ ?_
  · rintro i z σ' H' hi kp ⟨kk, hpi, o2, o3, o4, rfl⟩
    obtain ⟨d, hdi, hz⟩ := hxs.get hi
    rw [List.getElem?_map] at hdi
    obtain ⟨q, hq, rfl⟩ : ∃ q, ps[i]? = some q ∧ d = mk1 q := by
      cases e : ps[i]? with
      | none => rw [e] at hdi; cases hdi
      | some q => rw [e] at hdi; cases hdi; exact ⟨q, rfl, rfl⟩
    have hqm : q ∈ ps := List.mem_of_getElem? hq
    obtain ⟨fl, es⟩ := q
    have okq := hok _ hqm
    have okq2 := okq
    obtain ⟨hf, hl2, hes⟩ := okq2
    have hl2 : es.length ≤ 2 := hl2
    have hf : fieldS fl = true := hf
    have hes : ∀ e ∈ es, endD e = true ∧ okNum 40 e = true := hes
    have hz' : Dat ex H z (.tuple (.str fl :: es)) := hz
    obtain ⟨b, ys, rfl, hb, hys⟩ := hz'.tupE
    cases hys with
    | cons h0 hys =>
      rename_i y0 ys
      obtain ⟨_, rfl, e0, hfl⟩ := h0.strI rfl
      cases e0
      have hb' : H' b = some (.tup (V.str fl :: ys)) := kk.tup hb
      have ly := hys.len
      walk_at "go"
      refine r_lcT ?_
      walk_at "go"
      refine r_slT1 hb' fun l H2 hl k2 hlt => ?_
      refine lcT (fun D j acc H3 => Kp No H2 H3 ∧ acc = ((es.take j).map fun e => ofL (shEnd e)).map V.str) hlt (fun D hD => ⟨Kp.new Kp.refl hD, rfl⟩) (fun D j acc H3 hp => hp.1.tup hlt) ?_ ?_
      · rintro D j acc y H3 hD hj hacc hjl ⟨k3, rfl⟩
        obtain ⟨e, he, hye⟩ := hys.get hj
        have hem : e ∈ es := List.mem_of_getElem? he
        obtain ⟨hend, hnum⟩ := hes e hem
        have hjl2 : j < 3 := by have := (List.getElem?_eq_some_iff.mp hj).1; omega
        have nx : ∀ s : Str, s = ofL (shEnd e) → ((es.take j).map fun e => ofL (shEnd e)).map V.str ++ [V.str s] = ((es.take (j + 1)).map fun e => ofL (shEnd e)).map V.str := fun s hs => by
          rw [List.take_add_one, he, List.map_append, List.map_append, hs]; rfl
        rcases end_num hend with rfl | ⟨i, rfl⟩
        · cases hye
          walk_at "go"
          exact lc_yes hacc hjl (by omega) ⟨Kp.fresh k3 hD, nx _ (TL.ext_tl (by rw [tl_ofL]; decide +kernel))⟩
        · cases hye
          have hi40 : i.natAbs < 10 ^ 40 := of_decide_eq_true hnum
          walk_at "go"
          exact lc_yes hacc hjl (by omega) ⟨Kp.fresh k3 hD, nx _ (TL.ext_tl (by rw [tl_ofL, tl_numS]; rfl))⟩
      · rintro D acc H3 hD hacc hjl ⟨k3, rfl⟩
        rw [ly, List.take_length] at hacc
        walk_at "go"
        have hb3 : H3 b = some (.tup (V.str fl :: ys)) := (k2.trans k3).tup hb'
        have hp3 := (k2.trans k3).lst hpi
        have fl8 : fl.length ≤ 8 := by rw [TL.len_tl]; exact (fieldL_iff.mp hf).2.1
        walk_at "go"
        have sum1 : ((es.map fun e => ofL (shEnd e)).map (·.length)).sum ≤ 41 * es.length := by
          rw [List.map_map]
          exact sum_le' es fun e he => by show (ofL (shEnd e)).length ≤ 41; rw [TL.len_tl, tl_ofL]; exact shEnd_len' (hes e he).2
        refine r_join (SqL.of hacc) (by rw [List.length_map, l_dots]; omega) ?_
        have hw := wrP_len okq
        have hw2 : (ofL (wrP (fl, es))).length ≤ 100 := by rw [TL.len_tl, tl_ofL]; exact hw
        rw [← wr_part, len_app, len_app] at hw2
        refine r_add_s (by rw [len_app]; omega) ?_
        rw [wr_part]
        walk_at "go"
        refine r_append hp3 (by rw [List.length_map, List.length_map, List.length_take]; omega) ?_
        refine ⟨?_, ?_, ?_, _, _, _, rfl⟩
        · exact (kp.trans (k2.trans k3).no).trans (Kp.app hp3)
        · exact Kp.fresh (kk.trans (k2.trans k3)) hp
        · rw [upd_same, List.take_add_one, hq, List.map_append, List.map_append]; rfl
  · rintro σ' H' kp ⟨kk, hpi, o2, o3, o4, rfl⟩
    rw [lx, List.take_length] at hpi
    walk_at "go"
    rename_i q H2 hq k2 hql
    have hp2 := k2.lst hpi
    by_cases hn : ps = []
    · subst hn
      refine r_ne_nil (xs := []) (SqL.of hp2) hql ?_
      refine r_bl (r_iteF rfl ?_)
      walk_at "go"
      have e : ofL (wrL []) = Str.ofString "-" := by decide +kernel
      rw [e] at k
      exact k _ (by walk_at "kp")
    · refine r_ne_nil (SqL.of hp2) hql ?_
      refine r_bl (r_iteT (by cases ps with | nil => exact absurd rfl hn | cons _ _ => rfl) ?_)
      walk_at "go"
      have sum1 : ((ps.map fun p => ofL (wrP p)).map (·.length)).sum ≤ 100 * ps.length := by
        rw [List.map_map]
        exact sum_le' ps fun p hp => by show (ofL (wrP p)).length ≤ 100; rw [TL.len_tl, tl_ofL]; exact wrP_len (hok p hp)
      refine r_join (SqL.of hp2) (by rw [List.length_map, l_blank]; omega) ?_
      have e : Txt.join (Str.ofString " ") (ps.map fun p => ofL (wrP p)) = ofL (wrL ps) := TL.ext_tl (by
        rw [TL.join_eq, TL.tl_join, tl_ofL, List.map_map]
        have e1 : TL.tl (Str.ofString " ") = [32] := by decide +kernel
        have e2 : ps.map (TL.tl ∘ fun p => ofL (wrP p)) = ps.map wrP := List.map_congr_left fun e _ => tl_ofL _
        unfold wrL
        rw [e1, e2, if_neg hn])
      rw [e]
      exact k _ (by walk_at "kp")

end

section
variable {P : Program} {w : World} {K : PySem.W.Frag} {mg : Str → Option Value} {base : Heap} {c : Ads}
/-! letters -/
theorem c_is_count (T : Txt K mg c) : Cal P w K mg base CX0 1 "is_count" ["thing"] (spBool1 countD) := by
  refine T.d_is_count.cal sc_is_count sp1_len (fun f cdv A outer s H vs Q E hr h => ?_)
  obtain ⟨v, rfl, ex, d, hd, k⟩ := h
  refine ⟨_, (pss_one (ps_ret (pe_and (pe_callB (call_isi2 (K := K)) (by rfl) T.n_isinstance (by decide +kernel) (pa_cons (pv 0) (pa_cons (pe_bltn (v := .ty "int") (by rfl) T.n_int (by decide +kernel) rfl) pa_nil))) (pe_and (pe_not (pe_callB (call_isi2 (K := K)) (by rfl) T.n_isinstance (by decide +kernel) (pa_cons (pv 0) (pa_cons (pe_bltn (v := .ty "bool") (by rfl) T.n_bool (by decide +kernel) rfl) pa_nil)))) (pe_one (pe_cmpR op_ge2 (pv 0) pe_int (nomark _))))))), ?_⟩
  walk_at "go"
  cases d with
  | int i =>
    cases hd
    refine r_iteT rfl ?_
    walk_at "go"
    refine r_iteT rfl ?_
    walk_at "go"
    exact fin_b k rfl (by walk_at "kp")
  | bool b =>
    cases hd
    refine r_iteT rfl ?_
    walk_at "go"
    refine r_iteF rfl ?_
    exact fin_b k rfl (by walk_at "kp")
  | _ =>
    refine r_iteF rfl ?_
    exact fin_b k rfl (by walk_at "kp")
theorem c_is_name (T : Txt K mg c) : Cal P w K mg base CX0 1 "is_name" ["thing"] (spBool1 fieldD) := by
  refine T.d_is_name.cal sc_is_name sp1_len (fun f cdv A outer s H vs Q E hr h => ?_)
  obtain ⟨v, rfl, ex, d, hd, k⟩ := h
  refine ⟨_, (pss_cons (ps_if (PW.pt (pw_or (pt_not (pt_val (pe_callB (call_isi2 (K := K)) (by rfl) T.n_isinstance (by decide +kernel) (pa_cons (pv 0) (pa_cons (pe_bltn (v := .ty "str") (by rfl) T.n_str (by decide +kernel) rfl) pa_nil))) (by intro _; rfl))) (pw_or1 (pt_not (pt_chain op_le2 op_le2 pe_int (pe_callB (call_len2 (K := K)) (by rfl) T.n_len (by decide +kernel) (pa_cons (pv 0) pa_nil)) pe_int))))) (pss_one (ps_ret pe_bl)) pss_nil)
    (pss_one (ps_ret (pe_callB (cr_all2 (K := K) rfl) (by rfl) T.n_all (by decide +kernel) (pa_cons (pe_lc (own := [("sign", 1)]) (by rfl) sc_is_name.nd (pi_any (K := K) (pv 0)) (blkOk_by (own := [("sign", 1)]) (N := ["thing", "sign"]) (sc := defScope s_is_name) (by decide +kernel)) (fun _ _ _ _ _ => (pg_name (i := 1) sc_is_name.nd rfl (by first | exact Or.inl rfl | exact Or.inr rfl))) (fun _ _ _ _ _ => pts_nil) (fun _ _ _ _ _ => (pe_cmpR (op_in2 (K := K)) (pv 1) (pe_glo T.g_SMALL) (by rfl)))) pa_nil))))), ?_⟩
  walk_at "go"
  walk_at "br"
  · intro h1
    walk_at "go"
    refine fin_b k ?_ (by walk_at "kp")
    cases d <;> first | rfl | cases h1
  · intro h1
    obtain ⟨x, rfl, rfl, hx⟩ := hd.strI h1
    walk_at "go"
    have key : fieldD (.str x) = (decide (1 ≤ (x.length : Int)) && decide ((x.length : Int) ≤ 8) && x.cps.toList.all fun c => decide (c ∈ lettersL)) := by
      show fieldL x.cps.toList = _
      have hx2 : x.cps.toList.length = x.length := Array.length_toList
      have e1 : (!x.cps.toList.isEmpty) = decide (1 ≤ (x.length : Int)) := by
        rw [← hx2]
        cases x.cps.toList with
        | nil => rfl
        | cons a r => exact (decide_eq_true (by rw [List.length_cons]; omega)).symm
      have e2 : decide (x.cps.toList.length ≤ 8) = decide ((x.length : Int) ≤ 8) := by
        rw [← hx2]
        by_cases h : x.cps.toList.length ≤ 8
        · rw [decide_eq_true h, decide_eq_true (by omega)]
        · rw [decide_eq_false h, decide_eq_false (by omega)]
      unfold fieldL
      rw [e1, e2]
    walk_at "br"
    · intro h2
      walk_at "go"
      walk_at "br"
      · intro h3
        walk_at "go"
        refine fin_b k ?_ (by walk_at "kp")
        rw [key, decide_eq_false h3, Bool.and_false, Bool.false_and]
      · intro h3
        walk_at "go"
        refine r_lcS ?_
        walk_at "go"
        refine lcS (fun D i acc H' => Kp No H H' ∧ acc = ((x.cps.toList.take i).map fun c => decide (c ∈ lettersL)).map V.bl) (fun D hD => ⟨by walk_at "kp", rfl⟩) ?_ ?_
        · rintro D i acc d H' hD hi hacc hl ⟨kp, rfl⟩
          have hx2 : x.cps.toList.length = x.length := Array.length_toList
          have hi2 : i < 100000 := by
            have := (List.getElem?_eq_some_iff.mp hi).1
            omega
          walk_at "go"
          refine lc_yes hacc hl hi2 ⟨Kp.fresh kp hD, ?_⟩
          rw [List.take_add_one, hi, List.map_append, List.map_append]
          rfl
        · rintro D acc H' hD hacc hl ⟨kp, rfl⟩
          rw [List.take_length] at hacc
          walk_at "go"
          refine r_all (SqL.of hacc) ?_
          refine fin_b k ?_ kp
          rw [key, decide_eq_true h2, decide_eq_true h3, Bool.true_and, Bool.true_and, List.all_map]
          rfl
    · intro h2
      walk_at "go"
      refine r_iteT rfl ?_
      walk_at "go"
      refine fin_b k ?_ (by walk_at "kp")
      rw [key, decide_eq_false h2, Bool.false_and, Bool.false_and]

end

section
variable {P : Program} {w : World} {K : PySem.W.Frag} {mg : Str → Option Value} {base : Heap} {c : Ads}
theorem counts_int {ex : Addr → Prop} {H : Hp} : ∀ {xs : List V} {ds : List PyData}, Dats ex H xs ds → ds.all countD = true → xs = (ds.map iv).map V.int
  | [], [], .nil, _ => rfl
  | x :: xs, d :: ds, .cons h r, e => by
    rw [List.all_cons, Bool.and_eq_true] at e
    have ih := counts_int r e.2
    cases d with
    | int i => cases h; rw [ih]; rfl
    | _ => cases e.1
/-- ways of at most 4000 posts: the set's table is known so far -/
abbrev spWay : Sp := sp1 fun v H Q _ => ∃ ex d, Dat ex H v d ∧ (∀ ds, d = .tuple ds → ds.length ≤ 4000) ∧ ∀ H', Kp No H H' → Q (.bl (wayD d)) H'
theorem c_is_way (T : Txt K mg c) : Cal P w K mg base CX0 2 "is_way" ["thing"] spWay := by
  refine T.d_is_way.cal sc_is_way sp1_len (fun f cdv A outer s H vs Q E hr h => ?_)
  obtain ⟨v, rfl, ex, d, hd, hshort, k⟩ := h
  refine ⟨_, (pss_cons (ps_if (PW.pt (pw_or (pt_not (pt_val (pe_callB (call_isi2 (K := K)) (by rfl) T.n_isinstance (by decide +kernel) (pa_cons (pv 0) (pa_cons (pe_bltn (v := .ty "tuple") (by rfl) T.n_tuple (by decide +kernel) rfl) pa_nil))) (by intro _; rfl))) (pw_or1 (pt_cmpR op_lt2 (pe_callB (call_len2 (K := K)) (by rfl) T.n_len (by decide +kernel) (pa_cons (pv 0) pa_nil)) pe_int (nomark _))))) (pss_one (ps_ret pe_bl)) pss_nil)
    (pss_cons (ps_if (pt_not (pt_val (pe_callB (cr_all2 (K := K) rfl) (by rfl) T.n_all (by decide +kernel) (pa_cons (pe_lc (own := [("post", 1)]) (by rfl) sc_is_way.nd (pi_any (K := K) (pv 0)) (blkOk_by (own := [("post", 1)]) (N := ["thing", "post"]) (sc := defScope s_is_way) (by decide +kernel)) (fun _ _ _ _ _ => (pg_name (i := 1) sc_is_way.nd rfl (by first | exact Or.inl rfl | exact Or.inr rfl))) (fun _ _ _ _ _ => pts_nil) (fun _ _ _ _ _ => (pe_cal (c_is_count T) (hr.mono (by first | decide | omega)) pass0 (pa_cons (pv 1) pa_nil)))) pa_nil)) (by intro _; rfl))) (pss_one (ps_ret pe_bl)) pss_nil)
    (pss_one (ps_ret (pe_cmpR (op_eq2 (K := K) hr.units) (pe_lenSetI (K := K) rfl (by rfl) T.n_len (by rfl) T.n_set (pv 0)) (pe_callB (call_len2 (K := K)) (by rfl) T.n_len (by decide +kernel) (pa_cons (pv 0) pa_nil)) (nomark _)))))), ?_⟩
  walk_at "go"
  walk_at "br"
  · intro h1
    walk_at "go"
    refine fin_b k ?_ (by walk_at "kp")
    cases d <;> first | rfl | cases h1
  · intro h1
    obtain ⟨ds, rfl⟩ : ∃ ds, d = .tuple ds := by cases d <;> first | exact ⟨_, rfl⟩ | cases h1
    have hlen := hshort ds rfl
    obtain ⟨a, xs, rfl, ha, hxs⟩ := hd.tupE
    have lx := hxs.len
    walk_at "go"
    walk_at "br"
    · intro h2
      walk_at "go"
      refine fin_b k ?_ (by walk_at "kp")
      show (decide (2 ≤ ds.length) && _) = false
      rw [decide_eq_false (by omega), Bool.false_and]
    · intro h2
      walk_at "go"
      refine r_lcT ?_
      walk_at "go"
      refine lcT (fun D i acc H' => Kp No H H' ∧ acc = ((ds.take i).map countD).map V.bl) ha (fun D hD => ⟨by walk_at "kp", rfl⟩) (fun D i acc H' hp => hp.1.tup ha) ?_ ?_
      · rintro D i acc z H' hD hi hacc hl ⟨kp, rfl⟩
        obtain ⟨dz, hdz, hz⟩ := hxs.get hi
        have hi2 : i < 100000 := by have := (List.getElem?_eq_some_iff.mp hi).1; omega
        walk_at "go"
        rename_i H2 k2
        refine lc_yes (k2.lst hacc) hl hi2 ⟨Kp.fresh (kp.trans k2) hD, ?_⟩
        rw [List.take_add_one, hdz, List.map_append, List.map_append]
        rfl
      · rintro D acc H' hD hacc hl ⟨kp, rfl⟩
        rw [lx, List.take_length] at hacc
        walk_at "go"
        refine r_all (SqL.of hacc) ?_
        walk_at "go"
        have eall : ((ds.map countD).all id) = ds.all countD := by rw [List.all_map]; rfl
        rw [eall]
        walk_at "br"
        · intro h3
          walk_at "go"
          refine fin_b k ?_ kp
          show (_ && (ds.all countD && _)) = false
          rw [h3, Bool.false_and, Bool.and_false]
        · intro h3
          have ha' := kp.tup ha
          rw [counts_int hxs h3] at ha'
          walk_at "go"
          refine r_lenSetI ha' (by rw [List.length_map]; exact hlen) fun n hn => ?_
          walk_at "go"
          rw [List.length_map, List.length_map]
          refine fin_b k ?_ kp
          rw [List.length_map] at hn
          show (decide (2 ≤ ds.length) && (ds.all countD && decide ((ds.map iv).Nodup))) = _
          rw [h3, decide_eq_true (by omega), Bool.true_and, Bool.true_and]
          by_cases q : (ds.map iv).Nodup
          · rw [decide_eq_true q, decide_eq_true (by have := hn.mpr q; omega)]
          · rw [decide_eq_false q, decide_eq_false (fun z => q (hn.mp (by omega)))]

end

section
variable {P : Program} {w : World} {K : PySem.W.Frag} {mg : Str → Option Value} {base : Heap} {c : Ads}
theorem c_is_news (T : Txt K mg c) : Cal P w K mg base CX0 4 "is_news" ["thing"] (spBool1 newsD) := by
  refine T.d_is_news.cal sc_is_news sp1_len (fun f cdv A outer s H vs Q E hr h => ?_)
  obtain ⟨v, rfl, ex, d, hd, k⟩ := h
  refine ⟨_, (pss_cons (ps_if (PW.pt (pw_or (pt_not (pt_val (pe_callB (call_isi2 (K := K)) (by rfl) T.n_isinstance (by decide +kernel) (pa_cons (pv 0) (pa_cons (pe_bltn (v := .ty "tuple") (by rfl) T.n_tuple (by decide +kernel) rfl) pa_nil))) (by intro _; rfl))) (pw_or1 (pt_cmpR (op_ne2 (K := K) hr.units) (pe_callB (call_len2 (K := K)) (by rfl) T.n_len (by decide +kernel) (pa_cons (pv 0) pa_nil)) pe_int (nomark _))))) (pss_one (ps_ret pe_bl)) pss_nil)
    (pss_one (ps_ret (pe_and (pe_cal (c_is_count T) (hr.mono (by first | decide | omega)) pass0 (pa_cons (pe_ix (ix_any (K := K)) (pv 0) pe_int (fun _ _ => rfl)) pa_nil)) (pe_and (pe_cal (c_is_count T) (hr.mono (by first | decide | omega)) pass0 (pa_cons (pe_ix (ix_any (K := K)) (pv 0) pe_int (fun _ _ => rfl)) pa_nil)) (pe_one (pe_cal (c_is_piece T) (hr.mono (by first | decide | omega)) pass0 (pa_cons (pe_ix (ix_any (K := K)) (pv 0) pe_int (fun _ _ => rfl)) pa_nil)))))))), ?_⟩
  walk_at "go"
  walk_at "br"
  · intro h1
    walk_at "go"
    refine fin_b k ?_ (by walk_at "kp")
    cases d <;> first | rfl | cases h1
  · intro h1
    obtain ⟨ds, rfl⟩ : ∃ ds, d = .tuple ds := by cases d <;> first | exact ⟨_, rfl⟩ | cases h1
    obtain ⟨a, xs, rfl, ha, hxs⟩ := hd.tupE
    have lx := hxs.len
    walk_at "go"
    walk_at "br"
    · intro h2
      walk_at "go"
      refine fin_b k ?_ (by walk_at "kp")
      match ds, lx with
      | [], _ => rfl
      | [_], _ => rfl
      | [_, _], _ => rfl
      | [_, _, _], lx => exact absurd (by rw [lx]; rfl) h2
      | _ :: _ :: _ :: _ :: _, _ => rfl
    · intro h2
      obtain ⟨d0, d1, d2, rfl⟩ : ∃ d0 d1 d2, ds = [d0, d1, d2] := by
        have e : ds.length = 3 := by omega
        match ds, e with
        | [x, y, z], _ => exact ⟨x, y, z, rfl⟩
      obtain ⟨y0, y1, y2, rfl, h0, h1', h2'⟩ := hxs.inv3
      walk_at "go"
      walk_at "br"
      · intro q0
        walk_at "go"
        walk_at "br"
        · intro q1
          walk_at "go"
          refine fin_b k ?_ (by walk_at "kp")
          show (countD d0 && (countD d1 && pieceD d2)) = _
          rw [q0, q1]; rfl
        · intro q1
          walk_at "go"
          refine fin_b k ?_ (by walk_at "kp")
          show (countD d0 && (countD d1 && pieceD d2)) = _
          rw [q0, q1]; rfl
      · intro q0
        walk_at "go"
        refine fin_b k ?_ (by walk_at "kp")
        show (countD d0 && (countD d1 && pieceD d2)) = _
        rw [q0]; rfl
theorem c_is_marks (T : Txt K mg c) : Cal P w K mg base CX0 2 "is_marks" ["thing"] (spBool1 marksD) := by
  refine T.d_is_marks.cal sc_is_marks sp1_len (fun f cdv A outer s H vs Q E hr h => ?_)
  obtain ⟨v, rfl, ex, d, hd, k⟩ := h
  refine ⟨_, (pss_cons (ps_if (pt_not (pt_val (pe_callB (call_isi2 (K := K)) (by rfl) T.n_isinstance (by decide +kernel) (pa_cons (pv 0) (pa_cons (pe_bltn (v := .ty "tuple") (by rfl) T.n_tuple (by decide +kernel) rfl) pa_nil))) (by intro _; rfl))) (pss_one (ps_ret pe_bl)) pss_nil)
    (pss_cons (ps_set (i := 1) sc_is_marks.nd rfl (by first | exact Or.inl rfl | exact Or.inr rfl) pe_int)
    (pss_cons (ps_for PassesOwn.never rfl (pi_any (K := K) (pv 0)) (pg_name (i := 2) sc_is_marks.nd rfl (by first | exact Or.inl rfl | exact Or.inr rfl))
      (pss_cons (ps_if (PW.pt (pw_or (pt_not (pt_val (pe_callB (call_isi2 (K := K)) (by rfl) T.n_isinstance (by decide +kernel) (pa_cons (pv 2) (pa_cons (pe_bltn (v := .ty "tuple") (by rfl) T.n_tuple (by decide +kernel) rfl) pa_nil))) (by intro _; rfl))) (pw_or1 (pt_cmpR (op_ne2 (K := K) hr.units) (pe_callB (call_len2 (K := K)) (by rfl) T.n_len (by decide +kernel) (pa_cons (pv 2) pa_nil)) pe_int (nomark _))))) (pss_one (ps_ret pe_bl)) pss_nil)
      (pss_cons (ps_if (PW.pt (pw_or (pt_not (pt_val (pe_cal (c_is_count T) (hr.mono (by first | decide | omega)) pass0 (pa_cons (pe_ix (ix_any (K := K)) (pv 2) pe_int (fun _ _ => rfl)) pa_nil)) (by intro _; rfl))) (pw_or (pt_not (pt_val (pe_cal (c_is_count T) (hr.mono (by first | decide | omega)) pass0 (pa_cons (pe_ix (ix_any (K := K)) (pv 2) pe_int (fun _ _ => rfl)) pa_nil)) (by intro _; rfl))) (pw_or1 (pt_cmpR op_lt2 (pe_ix (ix_any (K := K)) (pv 2) pe_int (fun _ _ => rfl)) (pv 1) (nomark _)))))) (pss_one (ps_ret pe_bl)) pss_nil)
      (pss_one (ps_set (i := 1) sc_is_marks.nd rfl (by first | exact Or.inl rfl | exact Or.inr rfl) (pe_op (op_add2 (K := K)) (pe_ix (ix_any (K := K)) (pv 2) pe_int (fun _ _ => rfl)) pe_int))))))
    (pss_one (ps_ret pe_bl))))), ?_⟩
  walk_at "go"
  walk_at "br"
  · intro h1
    walk_at "go"
    refine fin_b k ?_ (by walk_at "kp")
    cases d <;> first | rfl | cases h1
  · intro h1
    obtain ⟨ds, rfl⟩ : ∃ ds, d = .tuple ds := by cases d <;> first | exact ⟨_, rfl⟩ | cases h1
    obtain ⟨a, xs, rfl, ha, hxs⟩ := hd.tupE
    have lx := hxs.len
    walk_at "go"
    refine r_forT ?_
    walk_at "go"
    refine lpT No (fun i σ' H' => ∃ (least : Int) (o2 : Option V), σ' = [some (.ref a), some (.int least), o2] ∧ marksGo 0 ds = marksGo least (ds.drop i)) ha ⟨0, none, rfl, rfl⟩ ?_ ?_
    · rintro i z σ' H' hi kp ⟨least, o2, rfl, hgo⟩
      obtain ⟨dz, hdz, hz0⟩ := hxs.get hi
      have hz : Dat ex H' z dz := by walk_at "dat"
      obtain ⟨hil, hget⟩ := List.getElem?_eq_some_iff.mp hdz
      have hdrop : ds.drop i = dz :: ds.drop (i + 1) := by rw [← hget]; exact List.drop_eq_getElem_cons hil
      rw [hdrop] at hgo
      have fail : marksGo least (dz :: ds.drop (i + 1)) = false → ∀ H'', Kp No H' H'' → Q (.bl false) H'' := fun e H'' k2 => fin_b k (by show marksGo 0 ds = false; rw [hgo]; exact e) (kp.trans k2)
      walk_at "go"
      walk_at "br"
      · intro h2
        walk_at "go"
        refine fail ?_ _ (by walk_at "kp")
        cases dz <;> first | rfl | cases h2
      · intro h2
        obtain ⟨es, rfl⟩ : ∃ es, dz = .tuple es := by cases dz <;> first | exact ⟨_, rfl⟩ | cases h2
        obtain ⟨b, ys, rfl, hb, hys⟩ := hz.tupE
        have ly := hys.len
        walk_at "go"
        walk_at "br"
        · intro h3
          walk_at "go"
          refine fail ?_ _ (by walk_at "kp")
          match es, ly with
          | [], _ => rfl
          | [_], _ => rfl
          | [_, _], ly => exact absurd (by rw [ly]; rfl) h3
          | _ :: _ :: _ :: _, _ => rfl
        · intro h3
          obtain ⟨d0, d1, rfl⟩ : ∃ d0 d1, es = [d0, d1] := by
            have e : es.length = 2 := by omega
            match es, e with
            | [x, y], _ => exact ⟨x, y, rfl⟩
          obtain ⟨y0, y1, rfl, h0, h1'⟩ := hys.inv2
          walk_at "go"
          walk_at "br"
          · intro q0
            walk_at "go"
            refine fail ?_ _ (by walk_at "kp")
            show (countD d0 && _) = false
            rw [q0]; rfl
          · intro q0
            obtain ⟨m, rfl⟩ : ∃ m, d0 = .int m := by cases d0 <;> first | exact ⟨_, rfl⟩ | cases q0
            cases h0
            walk_at "go"
            walk_at "br"
            · intro q1
              walk_at "go"
              refine fail ?_ _ (by walk_at "kp")
              show (countD (.int m) && (countD d1 && _)) = false
              rw [q1, Bool.false_and, Bool.and_false]
            · intro q1
              walk_at "go"
              walk_at "br"
              · intro q2
                walk_at "go"
                refine fail ?_ _ (by walk_at "kp")
                show (countD (.int m) && (countD d1 && (decide (least ≤ m) && _))) = false
                rw [decide_eq_false (by omega), Bool.false_and, Bool.and_false, Bool.and_false]
              · intro q2
                walk_at "go"
                refine ⟨by walk_at "kp", m + 1, _, rfl, ?_⟩
                rw [hgo]
                show (countD (.int m) && (countD d1 && (decide (least ≤ m) && marksGo (m + 1) (ds.drop (i + 1))))) = _
                rw [q0, q1, decide_eq_true (by omega)]; rfl
    · rintro σ' H' kp ⟨least, o2, rfl, hgo⟩
      walk_at "go"
      refine fin_b k ?_ (by walk_at "kp")
      rw [lx, List.drop_length] at hgo
      exact hgo

end

section
variable {P : Program} {w : World} {K : PySem.W.Frag} {mg : Str → Option Value} {base : Heap} {c : Ads}
abbrev spKept : Sp := sp1 fun v H Q _ => ∃ ex ds, Dat ex H v (.tuple ds) ∧ shortP ds ∧ ∀ H', Kp No H H' → Q (.bl (keptD ds)) H'
theorem c_is_kept (T : Txt K mg c) : Cal P w K mg base CX0 5 "is_kept" ["thing"] spKept := by
  refine T.d_is_kept.cal sc_is_kept sp1_len (fun f cdv A outer s H vs Q E hr h => ?_)
  obtain ⟨v, rfl, ex, ds, hd, hsh, k⟩ := h
  refine ⟨_, (pss_cons (ps_if (PW.pt (pw_or (pt_cmpR (op_ne2 (K := K) hr.units) (pe_callB (call_len2 (K := K)) (by rfl) T.n_len (by decide +kernel) (pa_cons (pv 0) pa_nil)) pe_int (nomark _)) (pw_or (pt_not (pt_val (pe_cal (c_is_name T) (hr.mono (by first | decide | omega)) pass0 (pa_cons (pe_ix (ix_any (K := K)) (pv 0) pe_int (fun _ _ => rfl)) pa_nil)) (by intro _; rfl))) (pw_or (pt_not (pt_val (pe_cal (c_is_way T) (hr.mono (by first | decide | omega)) pass0 (pa_cons (pe_ix (ix_any (K := K)) (pv 0) pe_int (fun _ _ => rfl)) pa_nil)) (by intro _; rfl))) (pw_or1 (pt_not (pt_val (pe_cal (c_is_marks T) (hr.mono (by first | decide | omega)) pass0 (pa_cons (pe_ix (ix_any (K := K)) (pv 0) pe_int (fun _ _ => rfl)) pa_nil)) (by intro _; rfl)))))))) (pss_one (ps_ret pe_bl)) pss_nil)
    (pss_one (ps_ret (pe_and (pe_callB (call_isi2 (K := K)) (by rfl) T.n_isinstance (by decide +kernel) (pa_cons (pe_ix (ix_any (K := K)) (pv 0) pe_int (fun _ _ => rfl)) (pa_cons (pe_bltn (v := .ty "tuple") (by rfl) T.n_tuple (by decide +kernel) rfl) pa_nil))) (pe_one (pe_callB (cr_all2 (K := K) rfl) (by rfl) T.n_all (by decide +kernel) (pa_cons (pe_lc (own := [("news", 1)]) (by rfl) sc_is_kept.nd (pi_any (K := K) (pe_ix (ix_any (K := K)) (pv 0) pe_int (fun _ _ => rfl))) (blkOk_by (own := [("news", 1)]) (N := ["thing", "news"]) (sc := defScope s_is_kept) (by decide +kernel)) (fun _ _ _ _ _ => (pg_name (i := 1) sc_is_kept.nd rfl (by first | exact Or.inl rfl | exact Or.inr rfl))) (fun _ _ _ _ _ => pts_nil) (fun _ _ _ _ _ => (pe_cal (c_is_news T) (hr.mono (by first | decide | omega)) pass0 (pa_cons (pv 1) pa_nil)))) pa_nil))))))), ?_⟩
  obtain ⟨a, xs, rfl, ha, hxs⟩ := hd.tupE
  have lx := hxs.len
  walk_at "go"
  walk_at "br"
  · intro h2
    walk_at "go"
    refine fin_b k ?_ (by walk_at "kp")
    match ds, lx with
    | [], _ => rfl
    | [_], _ => rfl
    | [_, _], _ => rfl
    | [_, _, _], _ => rfl
    | [_, _, _, _], lx => exact absurd (by rw [lx]; rfl) h2
    | _ :: _ :: _ :: _ :: _ :: _, _ => rfl
  · intro h2
    obtain ⟨d0, d1, d2, d3, rfl⟩ : ∃ d0 d1 d2 d3, ds = [d0, d1, d2, d3] := by
      have e : ds.length = 4 := by omega
      match ds, e with
      | [x, y, z, u], _ => exact ⟨x, y, z, u, rfl⟩
    cases hxs with
    | cons h0 hr3 =>
    obtain ⟨y1, y2, y3, rfl, h1, h2', h3⟩ := hr3.inv3
    rename_i y0
    walk_at "go"
    have val : keptD [d0, d1, d2, d3] = (fieldD d0 && (wayD d1 && (marksD d2 && newsAll d3))) := rfl
    walk_at "br"
    · intro q0
      walk_at "go"
      refine fin_b k ?_ (by walk_at "kp")
      rw [val, q0]; rfl
    · intro q0
      walk_at "go"
      refine ⟨ex, d1, (by walk_at "dat"), hsh d1 (by simp), fun H2 k2 => ?_⟩
      walk_at "go"
      walk_at "br"
      · intro q1
        walk_at "go"
        refine fin_b k ?_ (by walk_at "kp")
        rw [val, q1, Bool.false_and, Bool.and_false]
      · intro q1
        walk_at "go"
        walk_at "br"
        · intro q2
          walk_at "go"
          refine fin_b k ?_ (by walk_at "kp")
          rw [val, q2, Bool.false_and, Bool.and_false, Bool.and_false]
        · intro q2
          rw [val, q0, q1, q2] at k
          walk_at "go"
          walk_at "br"
          · intro q3
            obtain ⟨es, rfl⟩ : ∃ es, d3 = .tuple es := by cases d3 <;> first | exact ⟨_, rfl⟩ | cases q3
            have hes := hsh (.tuple es) (by simp) es rfl
            obtain ⟨b, ys, rfl, hb, hys⟩ := h3.tupE
            have ly := hys.len
            walk_at "go"
            refine r_lcT ?_
            walk_at "go"
            refine lcT (fun D i acc H' => Kp No H H' ∧ acc = ((es.take i).map newsD).map V.bl ∧ H D = none) (by walk_at "tup") (fun D hD => ⟨by walk_at "kp", rfl, Kp.free (ex := No) (by walk_at "kp") hD fun z => z⟩) (fun D i acc H' hp => hp.1.tup hb) ?_ ?_
            · rintro D i acc z H' hD hi hacc hl ⟨kp, rfl, hD0⟩
              obtain ⟨dz, hdz, hz⟩ := hys.get hi
              have hi2 : i < 100000 := by have := (List.getElem?_eq_some_iff.mp hi).1; omega
              walk_at "go"
              rename_i H9 k9
              refine lc_yes (k9.lst hacc) hl hi2 ⟨Kp.fresh (kp.trans k9) hD0, ?_, hD0⟩
              rw [List.take_add_one, hdz, List.map_append, List.map_append]
              rfl
            · rintro D acc H' hD hacc hl ⟨kp, rfl, _⟩
              rw [ly, List.take_length] at hacc
              walk_at "go"
              refine r_all (SqL.of hacc) ?_
              refine fin_b k ?_ kp
              show (true && (true && (true && es.all newsD))) = _
              rw [List.all_map]; rfl
          · intro q3
            walk_at "go"
            refine fin_b k ?_ (by walk_at "kp")
            cases d3 <;> first | rfl | cases q3

end

section
variable {P : Program} {w : World} {K : PySem.W.Frag} {mg : Str → Option Value} {base : Heap} {c : Ads}
/-! is a thing a letter -/
abbrev spLetter : Sp := sp1 fun v H Q _ => ∃ ex d, Dat ex H v d ∧ (∀ ds, d = .tuple ds → shortP ds) ∧ ∀ H', Kp No H H' → Q (.bl (letterD d)) H'
theorem len2 {α : Type} {l : List α} (h : ¬ ((l.length : Nat) : Int) < 2) : ∃ a b r, l = a :: b :: r := by
  match l, h with
  | [], h => exact absurd (by simp) h
  | [_], h => exact absurd (by simp) h
  | a :: b :: r, _ => exact ⟨a, b, r, rfl⟩
theorem c_is_letter (T : Txt K mg c) : Cal P w K mg base CX0 6 "is_letter" ["thing"] spLetter := by
  refine T.d_is_letter.cal sc_is_letter sp1_len (fun f cdv A outer s H vs Q E hr h => ?_)
  obtain ⟨v, rfl, ex, d, hd, hsh, k⟩ := h
  refine ⟨_, (pss_cons (ps_if (PW.pt (pw_or (pt_not (pt_val (pe_callB (call_isi2 (K := K)) (by rfl) T.n_isinstance (by decide +kernel) (pa_cons (pv 0) (pa_cons (pe_bltn (v := .ty "tuple") (by rfl) T.n_tuple (by decide +kernel) rfl) pa_nil))) (by intro _; rfl))) (pw_or (pt_cmpR op_lt2 (pe_callB (call_len2 (K := K)) (by rfl) T.n_len (by decide +kernel) (pa_cons (pv 0) pa_nil)) pe_int (nomark _)) (pw_or1 (pt_not (pt_val (pe_callB (call_isi2 (K := K)) (by rfl) T.n_isinstance (by decide +kernel) (pa_cons (pe_ix (ix_any (K := K)) (pv 0) pe_int (fun _ _ => rfl)) (pa_cons (pe_bltn (v := .ty "str") (by rfl) T.n_str (by decide +kernel) rfl) pa_nil))) (by intro _; rfl))))))) (pss_one (ps_ret pe_bl)) pss_nil)
    (pss_cons (ps_if (PW.pt (pw_or (pt_cmpR (op_eq2 (K := K) hr.units) (pe_ix (ix_any (K := K)) (pv 0) pe_int (fun _ _ => rfl)) pe_str (nomark _)) (pw_or1 (pt_cmpR (op_eq2 (K := K) hr.units) (pe_ix (ix_any (K := K)) (pv 0) pe_int (fun _ _ => rfl)) pe_str (nomark _))))) (pss_one (ps_ret (pe_and (pe_cmpR (op_eq2 (K := K) hr.units) (pe_callB (call_len2 (K := K)) (by rfl) T.n_len (by decide +kernel) (pa_cons (pv 0) pa_nil)) pe_int (nomark _)) (pe_one (pe_cal (c_is_wish T) (hr.mono (by first | decide | omega)) pass0 (pa_cons (pe_ix (ix_any (K := K)) (pv 0) pe_int (fun _ _ => rfl)) pa_nil)))))) pss_nil)
    (pss_cons (ps_if (pt_cmpR (op_eq2 (K := K) hr.units) (pe_ix (ix_any (K := K)) (pv 0) pe_int (fun _ _ => rfl)) pe_str (nomark _)) (pss_one (ps_ret (pe_cal (c_is_news T) (hr.mono (by first | decide | omega)) pass0 (pa_cons (pe_slice (sl_any (K := K)) (pv 0) (po_some pe_int) po_none) pa_nil)))) pss_nil)
    (pss_cons (ps_if (pt_cmpR (op_eq2 (K := K) hr.units) (pe_ix (ix_any (K := K)) (pv 0) pe_int (fun _ _ => rfl)) pe_str (nomark _)) (pss_one (ps_ret (pe_and (pe_cmpR (op_eq2 (K := K) hr.units) (pe_callB (call_len2 (K := K)) (by rfl) T.n_len (by decide +kernel) (pa_cons (pv 0) pa_nil)) pe_int (nomark _)) (pe_and (pe_cal (c_is_name T) (hr.mono (by first | decide | omega)) pass0 (pa_cons (pe_ix (ix_any (K := K)) (pv 0) pe_int (fun _ _ => rfl)) pa_nil)) (pe_one (pe_cal (c_is_way T) (hr.mono (by first | decide | omega)) pass0 (pa_cons (pe_ix (ix_any (K := K)) (pv 0) pe_int (fun _ _ => rfl)) pa_nil))))))) pss_nil)
    (pss_one (ps_ret (pe_and (pe_cmpR (op_eq2 (K := K) hr.units) (pe_ix (ix_any (K := K)) (pv 0) pe_int (fun _ _ => rfl)) pe_str (nomark _)) (pe_one (pe_cal (c_is_kept T) (hr.mono (by first | decide | omega)) pass0 (pa_cons (pe_slice (sl_any (K := K)) (pv 0) (po_some pe_int) po_none) pa_nil)))))))))), ?_⟩
  walk_at "go"
  walk_at "br"
  · intro h1
    walk_at "go"
    refine fin_b k ?_ (by walk_at "kp")
    cases d <;> first | rfl | cases h1
  · intro h1
    obtain ⟨ds, rfl⟩ : ∃ ds, d = .tuple ds := by cases d <;> first | exact ⟨_, rfl⟩ | cases h1
    obtain ⟨a, xs, rfl, ha, hxs⟩ := hd.tupE
    have hshort := hsh ds rfl
    have lx := hxs.len
    walk_at "go"
    walk_at "br"
    · intro h2
      walk_at "go"
      refine fin_b k ?_ (by walk_at "kp")
      rw [lx] at h2
      match ds, h2 with
      | [], _ => rfl
      | [d0], _ => cases d0 <;> rfl
      | _ :: _ :: _, h2 => exact absurd h2 (by simp only [List.length_cons]; omega)
    · intro h2
      rw [lx] at h2
      obtain ⟨d0, d1, r, rfl⟩ := len2 h2
      cases hxs with
      | cons h0 hr1 =>
      cases hr1 with
      | cons h1' hr' =>
      rename_i x0 x1 xr
      walk_at "go"
      walk_at "br"
      · intro h3
        walk_at "go"
        refine fin_b k ?_ (by walk_at "kp")
        cases d0 <;> first | rfl | cases h3
      · intro h3
        obtain ⟨w0, rfl, rfl, hw⟩ := h0.strI h3
        have val : letterD (.tuple (.str w0 :: d1 :: r)) = letterGo w0 (d1 :: r) := by
          show (decide (1 ≤ (d1 :: r).length) && _) = _
          rw [decide_eq_true (by simp)]
          exact Bool.true_and _
        rw [val] at k
        walk_at "go"
        have lx2 : (V.str w0 :: x1 :: xr).length = r.length + 2 := lx
        have one : ∀ b : Bool, (b = true → ∃ y, r = [y] → False) → True := fun _ _ => trivial
        walk_at "br"
        · intro h4
          have hw : w0 = sWant ∨ w0 = sUnwant := .inl h4
          walk_at "go"
          have g : letterGo w0 (d1 :: r) = (match d1 :: r with | [x] => wishD x | _ => false) := if_pos hw
          rw [g] at k
          walk_at "go"
          walk_at "br"
          · intro h5
            obtain rfl : r = [] := List.eq_nil_of_length_eq_zero (by omega)
            walk_at "go"
            exact fin_b k rfl (by walk_at "kp")
          · intro h5
            walk_at "go"
            refine fin_b k ?_ (by walk_at "kp")
            cases r with
            | nil => exact absurd (by rw [lx2]; rfl) h5
            | cons _ _ => rfl
        · intro h4
          walk_at "go"
          walk_at "br"
          · intro h4'
            have hw : w0 = sWant ∨ w0 = sUnwant := .inr h4'
            walk_at "go"
            have g : letterGo w0 (d1 :: r) = (match d1 :: r with | [x] => wishD x | _ => false) := if_pos hw
            rw [g] at k
            walk_at "go"
            walk_at "br"
            · intro h5
              obtain rfl : r = [] := List.eq_nil_of_length_eq_zero (by omega)
              walk_at "go"
              exact fin_b k rfl (by walk_at "kp")
            · intro h5
              walk_at "go"
              refine fin_b k ?_ (by walk_at "kp")
              cases r with
              | nil => exact absurd (by rw [lx2]; rfl) h5
              | cons _ _ => rfl
          · intro h4'
            have g1 : letterGo w0 (d1 :: r) = (if w0 = sNews then newsD (.tuple (d1 :: r)) else if w0 = sHere then (match d1 :: r with | [n, c] => fieldD n && wayD c | _ => false) else if w0 = sKept then keptD (d1 :: r) else false) := if_neg fun z => z.elim h4 h4'
            rw [g1] at k
            walk_at "go"
            walk_at "br"
            · intro h5
              rw [if_pos (show w0 = sNews from h5)] at k
              walk_at "go"
              refine r_slT1 (by walk_at "tup") fun l H2 hl k2 hlt => ?_
              walk_at "go"
              exact fin_b k rfl (by walk_at "kp")
            · intro h5
              rw [if_neg (show ¬ w0 = sNews from h5)] at k
              walk_at "go"
              walk_at "br"
              · intro h6
                rw [if_pos (show w0 = sHere from h6)] at k
                walk_at "go"
                walk_at "br"
                · intro h7
                  obtain ⟨d2, rfl⟩ : ∃ d2, r = [d2] := by
                    have e : r.length = 1 := by omega
                    match r, e with
                    | [y], _ => exact ⟨y, rfl⟩
                  obtain ⟨x2, rfl, h2'⟩ := hr'.inv1
                  walk_at "go"
                  walk_at "br"
                  · intro q1
                    walk_at "go"
                    refine ⟨ex, d2, (by walk_at "dat"), hshort d2 (by simp), fun H2 k2 => ?_⟩
                    refine fin_b k ?_ (by walk_at "kp")
                    show (fieldD d1 && wayD d2) = _
                    rw [q1]; rfl
                  · intro q1
                    walk_at "go"
                    refine fin_b k ?_ (by walk_at "kp")
                    show (fieldD d1 && wayD d2) = _
                    rw [q1]; rfl
                · intro h7
                  walk_at "go"
                  refine fin_b k ?_ (by walk_at "kp")
                  match r, lx2 with
                  | [], _ => rfl
                  | [_], lx2 => exact absurd (by rw [lx2]; rfl) h7
                  | _ :: _ :: _, _ => rfl
              · intro h6
                rw [if_neg (show ¬ w0 = sHere from h6)] at k
                walk_at "go"
                walk_at "br"
                · intro h7
                  rw [if_pos (show w0 = sKept from h7)] at k
                  walk_at "go"
                  refine r_slT1 (by walk_at "tup") fun l H2 hl k2 hlt => ?_
                  walk_at "go"
                  refine ⟨ex, d1 :: r, (by walk_at "dat"), fun e he => hshort e (List.mem_cons_of_mem _ he), fun H3 k3 => ?_⟩
                  exact fin_b k rfl (by walk_at "kp")
                · intro h7
                  rw [if_neg (show ¬ w0 = sKept from h7)] at k
                  walk_at "go"
                  exact fin_b k rfl (by walk_at "kp")

end

section
variable {P : Program} {w : World} {K : PySem.W.Frag} {mg : Str → Option Value} {base : Heap} {c : Ads}
/-! letters read -/
abbrev spReadNews (c : Ads) : Sp := sp1 fun v H Q E => ∃ (p : Addr) (ws : List Str), v = .ref p ∧ H p = some (.lst (ws.map V.str)) ∧ (ws.map (·.length)).sum + ws.length ≤ 900001 ∧
  (∀ ds, rdNews (ws.map TL.tl) = some ds → ∀ q H', Kp No H H' → Dat All H' (.ref q) (.tuple ds) → Q (.ref q) H') ∧ (rdNews (ws.map TL.tl) = none → ∀ H', Kp No H H' → E (.ref c.NoText) none H')
theorem join_text {ws : List Str} : TL.tl (Txt.join (Str.ofString " ") ws) = TL.joinL [32] (ws.map TL.tl) := by
  have e : TL.tl (Str.ofString " ") = [32] := by decide +kernel
  rw [TL.join_eq, TL.tl_join, e]
theorem join_len {ws : List Str} : (Txt.join (Str.ofString " ") ws).length ≤ (ws.map (·.length)).sum + ws.length := by
  have q := joinL_len (S := [32]) (ws.map TL.tl)
  rw [TL.len_tl, join_text]
  have e2 : (ws.map TL.tl).map List.length = ws.map (·.length) := by
    rw [List.map_map]
    exact List.map_congr_left fun w _ => (TL.len_tl w).symm
  rw [e2, List.length_map] at q
  simpa using q
theorem sum_mem {l : List Nat} {n : Nat} (h : n ∈ l) : n ≤ l.sum := by
  induction l with
  | nil => cases h
  | cons a r ih =>
    rw [List.sum_cons]
    rcases List.mem_cons.mp h with rfl | h
    · omega
    · have := ih h; omega
theorem c_read_news (T : Txt K mg c) : Cal P w K mg base (L2.CX P w) 5 "read_news" ["words"] (spReadNews c) := by
  refine T.d_read_news.calX sc_read_news sp1_len (fun f cdv A outer s H vs Q E hr h => ?_)
  obtain ⟨v, rfl, p, ws, rfl, hp, hsum, k, kE⟩ := h
  refine ⟨_, (pss_cons (ps_if (pt_cmpR op_lt2 (pe_callB (call_len2 (K := K)) (by rfl) T.n_len (by decide +kernel) (pa_cons (pv 0) pa_nil)) pe_int (nomark _)) (pss_one (ps_exc2 T.e_NoText rfl (takes_of rfl rfl rfl rfl))) pss_nil)
    (pss_one (ps_ret (pe_tup (pa_cons (pe_cal (c_read_number T) (hr.mono (by first | decide | omega)) (passes_call (takes_of rfl rfl rfl rfl) fun _ _ _ _ h => h) (pa_cons (pe_ix (ix_any (K := K)) (pv 0) pe_int (fun _ _ => rfl)) pa_nil)) (pa_cons (pe_cal (c_read_number T) (hr.mono (by first | decide | omega)) (passes_call (takes_of rfl rfl rfl rfl) fun _ _ _ _ h => h) (pa_cons (pe_ix (ix_any (K := K)) (pv 0) pe_int (fun _ _ => rfl)) pa_nil)) (pa_cons (pe_cal (c_read_piece T) (hr.mono (by first | decide | omega)) (passes_call (takes_of rfl rfl rfl rfl) fun _ _ _ _ h => h) (pa_cons (pe_join2 (K := K) pe_str (pe_slice (sl_any (K := K)) (pv 0) (po_some pe_int) po_none)) pa_nil)) pa_nil))))))), ?_⟩
  walk_at "go"
  refine r_len_l hp ?_
  walk_at "go"
  rw [List.length_map]
  walk_at "br"
  · intro h1
    walk_at "go"
    refine kE ?_ _ (by walk_at "kp")
    match ws, h1 with
    | [], _ => rfl
    | [_], _ => rfl
    | [_, _], _ => rfl
    | _ :: _ :: _ :: _, h1 => exact absurd h1 (by simp only [List.length_cons]; omega)
  · intro h1
    obtain ⟨w0, w1, w2, r, rfl⟩ : ∃ w0 w1 w2 r, ws = w0 :: w1 :: w2 :: r := by
      match ws, h1 with
      | [], h => exact absurd (by simp) h
      | [_], h => exact absurd (by simp) h
      | [_, _], h => exact absurd (by simp) h
      | a :: b :: c :: r, _ => exact ⟨a, b, c, r, rfl⟩
    have l0 : w0.length ≤ 1000000 := Nat.le_trans (sum_mem (l := (w0 :: w1 :: w2 :: r).map (·.length)) (by simp)) (by omega)
    have l1 : w1.length ≤ 1000000 := Nat.le_trans (sum_mem (l := (w0 :: w1 :: w2 :: r).map (·.length)) (by simp)) (by omega)
    have val : rdNews ((w0 :: w1 :: w2 :: r).map TL.tl) = match rdNum (TL.tl w0), rdNum (TL.tl w1), rdPiece (TL.joinL [32] ((w2 :: r).map TL.tl)) with
      | some i, some j, some p => some [.int i, .int j, .tuple p]
      | _, _, _ => none := rfl
    have jl := join_len (ws := w2 :: r)
    have jl2 : ((w2 :: r).map (·.length)).sum + (w2 :: r).length ≤ 900001 := by simp only [List.map_cons, List.sum_cons, List.length_cons] at hsum ⊢; omega
    walk_at "go"
    refine ⟨w0, rfl, l0, fun i hi H1 k1 => ?_, fun hn H1 k1 => ?_⟩
    · walk_at "go"
      refine ⟨w1, rfl, l1, fun j hj H2 k2 => ?_, fun hn H2 k2 => ?_⟩
      · walk_at "go"
        refine r_slL (SqL.of ((k1.trans k2).lst hp)) fun q H3 hq k3 hq3 => ?_
        walk_at "go"
        have e3 : cutV ((w0 :: w1 :: w2 :: r).map V.str) (some 2) none = (w2 :: r).map V.str := cutV_from _ 2
        rw [e3] at hq3
        refine r_join (SqL.of hq3) (by rw [l_blank]; omega) ?_
        walk_at "go"
        refine ⟨All, _, .str _ (by omega), rfl, fun x ds e hx q4 H4 k4 hd4 => ?_, fun hn H4 k4 => ?_⟩
        · cases e
          rw [join_text] at hx
          walk_at "go"
          rename_i b H5 hb k5 hb5
          refine k [.int i, .int j, .tuple ds] (by rw [val, hi, hj, hx]) _ _ (by walk_at "kp") (.tup hb5 (.cons (.int i) (.cons (.int j) (.cons (hd4.all k5) .nil))))
        · have hn := hn _ rfl
          rw [join_text] at hn
          exact kE (by rw [val, hi, hj, hn]) _ (by walk_at "kp")
      · exact kE (by rw [val, hi, hn]) _ (by walk_at "kp")
    · exact kE (by rw [val, hn]) _ (by walk_at "kp")
/-- the marks' words -/
def marksW (x : Str) : List Str := if TL.tl x = [45] then [] else Txt.split x (Str.ofString ",")
theorem rdMarks_words (x : Str) : rdMarks (TL.tl x) = mapO rdMark ((marksW x).map TL.tl) := by
  unfold rdMarks marksW
  by_cases h : TL.tl x = [45]
  · rw [if_pos h, if_pos h]; rfl
  · rw [if_neg h, if_neg h, split_tl x (by decide +kernel) (by decide +kernel)]
    have e : TL.tl (Str.ofString ",") = [44] := by decide +kernel
    rw [e]
theorem marksW_le {x w : Str} (h : w ∈ marksW x) : w.length ≤ x.length := by
  unfold marksW at h
  split at h
  · cases h
  · exact split_le x (by decide +kernel) (by decide +kernel) h
theorem marksW_count (x : Str) : (marksW x).length ≤ x.length + 1 := by
  unfold marksW
  split
  · exact Nat.zero_le _
  · exact split_count x (by decide +kernel) (by decide +kernel)
abbrev spReadMarks (c : Ads) : Sp := sp1 fun v H Q E => ∃ x, v = .str x ∧ x.length ≤ 1000000 ∧ (∀ ds, rdMarks (TL.tl x) = some ds → ∀ p H', Kp No H H' → Dat All H' (.ref p) (.tuple ds) → Q (.ref p) H') ∧ (rdMarks (TL.tl x) = none → ∀ H', Kp No H H' → E (.ref c.NoText) none H')
theorem c_read_marks (T : Txt K mg c) : Cal P w K mg base (L2.CX P w) 2 "read_marks" ["word"] (spReadMarks c) := by
  refine T.d_read_marks.calX sc_read_marks sp1_len (fun f cdv A outer s H vs Q E hr h => ?_)
  obtain ⟨v, rfl, x, rfl, hx, k, kE⟩ := h
  refine ⟨_, (pss_cons (ps_set (i := 1) sc_read_marks.nd rfl (by first | exact Or.inl rfl | exact Or.inr rfl) (pe_lst pa_nil))
    (pss_cons (ps_for (passes_of rfl) rfl (pi_any (K := K) (pe_ifExp (pt_cmpR (op_ne2 (K := K) hr.units) (pv 0) (pe_glo T.g_NONE) (nomark _)) (pe_split2 (pv 0) pe_str) (pe_lst pa_nil))) (pg_name (i := 2) sc_read_marks.nd rfl (by first | exact Or.inl rfl | exact Or.inr rfl))
      (pss_cons (ps_asg (pe_cal (c_two_of T) (hr.mono (by first | decide | omega)) (passes_call (takes_of rfl rfl rfl rfl) fun _ _ _ _ h => h) (pa_cons (pv 2) (pa_cons pe_str pa_nil))) (pg_tup2 (K := K) (n := 2) (by rfl) (pgs_cons (pg_name (i := 3) sc_read_marks.nd rfl (by first | exact Or.inl rfl | exact Or.inr rfl)) (pgs_cons (pg_name (i := 4) sc_read_marks.nd rfl (by first | exact Or.inl rfl | exact Or.inr rfl)) pgs_nil))))
      (pss_one (ps_expr (pe_bm PySem.F.plainAttrs_list PySem.F.slot_list_append PySem.F.type_list_append mt_append (pv 1) (pa_cons (pe_tup (pa_cons (pe_cal (c_read_number T) (hr.mono (by first | decide | omega)) (passes_call (takes_of rfl rfl rfl rfl) fun _ _ _ _ h => h) (pa_cons (pv 3) pa_nil)) (pa_cons (pe_cal (c_read_number T) (hr.mono (by first | decide | omega)) (passes_call (takes_of rfl rfl rfl rfl) fun _ _ _ _ h => h) (pa_cons (pv 4) pa_nil)) pa_nil))) pa_nil))))))
    (pss_one (ps_ret (pe_callTy (call_tuple2 (K := K)) (by rfl) T.n_tuple (by decide +kernel) (pa_cons (pv 1) pa_nil)))))), ?_⟩
  walk_at "go"
  rename_i p H1 hp0 k1 hp1
  refine r_forL (via (fun u H2 => ∃ q, u = .ref q ∧ q ≠ p ∧ Kp No H1 H2 ∧ H2 q = some (.lst ((marksW x).map V.str))) (fun Z hZ => ?_) ?_)
  · walk_at "go"
    rw [eq_lit (l := [45]) (by decide +kernel)]
    walk_at "br"
    · intro h1
      walk_at "go"
      refine r_split (by decide +kernel) hx fun q H2 hq k2 hq2 => ?_
      refine hZ _ _ ⟨q, rfl, ne_of_none hp1 hq |>.symm, k2, ?_⟩
      have e : marksW x = Txt.split x (Str.ofString ",") := if_neg h1
      rw [e]; exact hq2
    · intro h1
      walk_at "go"
      rename_i q H2 hq k2 hq2
      have e : marksW x = [] := if_pos h1
      exact hZ _ _ ⟨q, rfl, ne_of_none hp1 hq |>.symm, k2, by rw [e]; exact hq2⟩
  · rintro u H2 ⟨q, rfl, hqp, k2, hq2⟩
    have hrd := rdMarks_words x
    refine lpL (fun i σ' H' => ∃ acc ds, Kp No H H' ∧ H' p = some (.lst acc) ∧ H' q = some (.lst ((marksW x).map V.str)) ∧ Dats All H' acc ds ∧ mapO rdMark (((marksW x).map TL.tl).take i) = some ds ∧ ∃ o1 o2 o3, σ' = [some (.str x), some (.ref p), o1, o2, o3])
      (SqL.of hq2) ⟨[], [], by walk_at "kp", k2.lst hp1, hq2, .nil, rfl, none, none, none, rfl⟩ (fun i σ' H' ⟨_, _, _, _, h, _⟩ => SqL.of h) ?_ ?_
    · rintro i z σ' H' hi ⟨acc, ds, kp, hp, hq, hds, hm, o1, o2, o3, rfl⟩
      obtain ⟨w, hw, rfl⟩ : ∃ w, (marksW x)[i]? = some w ∧ z = V.str w := by
        rw [List.getElem?_map] at hi
        cases q : (marksW x)[i]? with
        | none => rw [q] at hi; cases hi
        | some w => rw [q] at hi; cases hi; exact ⟨w, rfl, rfl⟩
      have hwm : w ∈ marksW x := List.mem_of_getElem? hw
      have hwl : w.length ≤ 1000000 := Nat.le_trans (marksW_le hwm) hx
      have hw' : ((marksW x).map TL.tl)[i]? = some (TL.tl w) := by rw [List.getElem?_map, hw]; rfl
      have bad : rdMark (TL.tl w) = none → rdMarks (TL.tl x) = none := fun e => by
        rw [hrd, mapO_none ⟨_, List.mem_map_of_mem hwm, e⟩]
      have hacc : acc.length ≤ 1000001 := by
        rw [hds.len, mapO_len hm, List.length_take, List.length_map]
        have := marksW_count x
        omega
      have val : ∀ a b, two [58] (TL.tl w) = some (a, b) → rdMark (TL.tl w) = match rdNum a, rdNum b with
        | some i, some j => some (.tuple [.int i, .int j])
        | _, _ => none := fun a b e => by
        unfold rdMark
        rw [e]
        first | done | rfl
      walk_at "go"
      refine ⟨w, _, rfl, hwl, rfl, by decide +kernel, by decide +kernel, by decide +kernel, fun a e hae b H3 k3 hb => ?_, fun hn H3 k3 => ?_⟩
      · have hae' : two [58] (TL.tl w) = some (a, e) := hae
        have hle := two_le hae
        walk_at "go"
        refine ⟨_, rfl, (by rw [TL.len_tl, tl_ofL]; rw [TL.len_tl] at hwl; omega), fun n hn H4 k4 => ?_, fun hn H4 k4 => ?_⟩
        · rw [tl_ofL] at hn
          walk_at "go"
          refine ⟨_, rfl, (by rw [TL.len_tl, tl_ofL]; rw [TL.len_tl] at hwl; omega), fun n2 hn2 H5 k5 => ?_, fun hn2 H5 k5 => ?_⟩
          · rw [tl_ofL] at hn2
            walk_at "go"
            rename_i b2 H6 hb2 k6 hb6
            have k7 : Kp No H' H6 := by walk_at "kp"
            have hp6 := k7.lst hp
            refine r_append hp6 (by omega) ?_
            have hpart : rdMark (TL.tl w) = some (.tuple [.int n, .int n2]) := by rw [val _ _ hae', hn, hn2]
            exact ⟨_, _, Kp.fresh (by walk_at "kp") hp0, upd_same, by rw [upd_ne hqp]; exact k7.lst hq, Dats.all (Dats.append (hds.all k7) (Dats.one (.tup hb6 (.cons (.int n) (.cons (.int n2) .nil))))) (Kp.app hp6), mapO_take hm hw' hpart, _, _, _, rfl⟩
          · rw [tl_ofL] at hn2
            exact kE (bad (by rw [val _ _ hae', hn, hn2])) _ (by walk_at "kp")
        · rw [tl_ofL] at hn
          exact kE (bad (by rw [val _ _ hae', hn])) _ (by walk_at "kp")
      · have hn' : two [58] (TL.tl w) = none := hn
        exact kE (bad (by unfold rdMark; rw [hn'])) _ (by walk_at "kp")
    · rintro σ' H' ⟨acc, ds, kp, hp, hq, hds, hm, o1, o2, o3, rfl⟩
      have hl : ((marksW x).map TL.tl).take ((marksW x).map V.str).length = (marksW x).map TL.tl := by
        have e : ((marksW x).map V.str).length = ((marksW x).map TL.tl).length := by rw [List.length_map, List.length_map]
        rw [e, List.take_length]
      rw [hl] at hm
      rw [hm] at hrd
      walk_at "go"
      rename_i b H3 hb k3 hb3
      exact k ds hrd _ _ (by walk_at "kp") (.tup hb3 (hds.all k3))

end

section
variable {P : Program} {w : World} {K : PySem.W.Frag} {mg : Str → Option Value} {base : Heap} {c : Ads}
/-! a letter of a hand that moves, read -/
abbrev spReadMoving (c : Ads) : Sp := sp1 fun v H Q E => ∃ x, v = .str x ∧ x.length ≤ 900000 ∧ (∀ ds, rdMoving (TL.tl x) = some ds → ∀ p H', Kp No H H' → Dat All H' (.ref p) (.tuple ds) → Q (.ref p) H') ∧ (rdMoving (TL.tl x) = none → ∀ H', Kp No H H' → E (.ref c.NoText) none H')
theorem bar_tl : TL.tl (Str.ofString " | ") = bar3 := by decide +kernel
theorem blank_tl : TL.tl (Str.ofString " ") = [32] := by decide +kernel
theorem dash_tl : TL.tl (Str.ofString "-") = [45] := by decide +kernel
theorem strD_of (ws : List Str) : (ws.map TL.tl).map strD = ws.map PyData.str := by
  rw [List.map_map]
  exact List.map_congr_left fun w _ => strD_tl w
theorem c_read_moving (T : Txt K mg c) : Cal P w K mg base (L2.CX P w) 6 "read_moving" ["text"] (spReadMoving c) := by
  refine T.d_read_moving.calX sc_read_moving sp1_len (fun f cdv A outer s H vs Q E hr h => ?_)
  obtain ⟨v, rfl, x, rfl, hx, k, kE⟩ := h
  refine ⟨_, (pss_cons (ps_set (i := 1) sc_read_moving.nd rfl (by first | exact Or.inl rfl | exact Or.inr rfl) (pe_split2 (pv 0) pe_str))
    (pss_cons (ps_set (i := 2) sc_read_moving.nd rfl (by first | exact Or.inl rfl | exact Or.inr rfl) (pe_split2 (pe_ix (ix_any (K := K)) (pv 1) pe_int (fun _ _ => rfl)) pe_str))
    (pss_cons (ps_if (PW.pt (pw_and (pt_cmpR (op_ne2 (K := K) hr.units) (pe_callB (call_len2 (K := K)) (by rfl) T.n_len (by decide +kernel) (pa_cons (pv 2) pa_nil)) pe_int (nomark _)) (pw_and1 (pt_cmpR (op_ne2 (K := K) hr.units) (pe_callB (call_len2 (K := K)) (by rfl) T.n_len (by decide +kernel) (pa_cons (pv 2) pa_nil)) pe_int (nomark _))))) (pss_one (ps_exc2 T.e_NoText rfl (takes_of rfl rfl rfl rfl))) pss_nil)
    (pss_cons (ps_set (i := 3) sc_read_moving.nd rfl (by first | exact Or.inl rfl | exact Or.inr rfl) (pe_callTy (call_tuple2 (K := K)) (by rfl) T.n_tuple (by decide +kernel) (pa_cons (pe_lcX (own := [("word", 4)]) rfl sc_read_moving.nd (takes_of rfl rfl rfl rfl) rfl rfl (pi_any (K := K) (pe_split2 (pe_ix (ix_any (K := K)) (pv 2) pe_int (fun _ _ => rfl)) pe_str)) (blkOk_by (own := [("word", 4)]) (N := ["text", "parts", "words", "course", "word", "pieces", "part"]) (sc := defScope s_read_moving) (by decide +kernel)) (fun _ _ _ _ _ _ => (pg_name (i := 4) sc_read_moving.nd rfl (by first | exact Or.inl rfl | exact Or.inr rfl))) (fun _ _ _ _ _ _ => pts_nil) (fun _ _ _ _ _ _ hp => (pe_cal (c_read_number T) (hr.mono (by first | decide | omega)) hp (pa_cons (pv 4) pa_nil)))) pa_nil)))
    (pss_cons (ps_if (pt_cmpR (op_eq2 (K := K) hr.units) (pe_callB (call_len2 (K := K)) (by rfl) T.n_len (by decide +kernel) (pa_cons (pv 2) pa_nil)) pe_int (nomark _)) (pss_one (ps_ret (pe_op (op_add2 (K := K)) (pe_tup (pa_cons (pe_ix (ix_any (K := K)) (pv 2) pe_int (fun _ _ => rfl)) (pa_cons (pe_ix (ix_any (K := K)) (pv 2) pe_int (fun _ _ => rfl)) (pa_cons (pv 3) pa_nil)))) (pe_callTy (call_tuple2 (K := K)) (by rfl) T.n_tuple (by decide +kernel) (pa_cons (pe_slice (sl_any (K := K)) (pv 1) (po_some pe_int) po_none) pa_nil))))) pss_nil)
    (pss_cons (ps_set (i := 5) sc_read_moving.nd rfl (by first | exact Or.inl rfl | exact Or.inr rfl) (pe_callTy (call_tuple2 (K := K)) (by rfl) T.n_tuple (by decide +kernel) (pa_cons (pe_lcX (own := [("part", 6)]) rfl sc_read_moving.nd (takes_of rfl rfl rfl rfl) rfl rfl (pi_any (K := K) (pe_slice (sl_any (K := K)) (pv 1) (po_some pe_int) po_none)) (blkOk_by (own := [("part", 6)]) (N := ["text", "parts", "words", "course", "word", "pieces", "part"]) (sc := defScope s_read_moving) (by decide +kernel)) (fun _ _ _ _ _ _ => (pg_name (i := 6) sc_read_moving.nd rfl (by first | exact Or.inl rfl | exact Or.inr rfl))) (fun _ _ _ _ _ _ => pts_nil) (fun _ _ _ _ _ _ hp => (pe_cal (c_read_news T) (hr.mono (by first | decide | omega)) hp (pa_cons (pe_split2 (pv 6) pe_str) pa_nil)))) pa_nil)))
    (pss_one (ps_ret (pe_tup (pa_cons (pe_ix (ix_any (K := K)) (pv 2) pe_int (fun _ _ => rfl)) (pa_cons (pe_ix (ix_any (K := K)) (pv 2) pe_int (fun _ _ => rfl)) (pa_cons (pv 3) (pa_cons (pe_cal (c_read_marks T) (hr.mono (by first | decide | omega)) (passes_call (takes_of rfl rfl rfl rfl) fun _ _ _ _ h => h) (pa_cons (pe_ix (ix_any (K := K)) (pv 2) pe_int (fun _ _ => rfl)) pa_nil)) (pa_cons (pv 5) pa_nil)))))))))))))), ?_⟩
  walk_at "go"
  refine r_split (by decide +kernel) (by omega) fun p H1 hp0 k1 hp1 => ?_
  walk_at "go"
  have eparts := split_tl x (y := Str.ofString " | ") (by decide +kernel) (by decide +kernel)
  rw [bar_tl] at eparts
  have cparts := split_count x (y := Str.ofString " | ") (by decide +kernel) (by decide +kernel)
  have lparts : ∀ w ∈ Txt.split x (Str.ofString " | "), w.length ≤ x.length := fun w hw => split_le x (by decide +kernel) (by decide +kernel) hw
  obtain ⟨w0, pr, hpr⟩ : ∃ w0 pr, Txt.split x (Str.ofString " | ") = w0 :: pr := by
    cases h : Txt.split x (Str.ofString " | ") with
    | nil => rw [h] at eparts; exact absurd eparts.symm (spl_ne _ _ _ _)
    | cons a r => exact ⟨a, r, rfl⟩
  rw [hpr] at eparts hp1 cparts lparts
  have k1' : Kp No H1 H1 := Kp.refl
  walk_at "go"
  have l0 : w0.length ≤ 900000 := Nat.le_trans (lparts w0 (by simp)) hx
  refine r_split (by decide +kernel) (by omega) fun q H2 hq0 k2 hq1 => ?_
  have ewords := split_tl w0 (y := Str.ofString " ") (by decide +kernel) (by decide +kernel)
  rw [blank_tl] at ewords
  have lwords : ∀ w ∈ Txt.split w0 (Str.ofString " "), w.length ≤ w0.length := fun w hw => split_le w0 (by decide +kernel) (by decide +kernel) hw
  obtain ⟨ws, hws⟩ : ∃ ws, Txt.split w0 (Str.ofString " ") = ws := ⟨_, rfl⟩
  rw [hws] at ewords hq1 lwords
  have emov := eparts.symm
  have ewrd := ewords.symm
  rw [List.map_cons] at emov
  walk_at "go"
  refine r_len_l hq1 ?_
  walk_at "go"
  rw [List.length_map]
  walk_at "br"
  · intro h3
    walk_at "go"
    refine r_len_l hq1 ?_
    walk_at "go"
    rw [List.length_map]
    walk_at "br"
    · intro h4
      walk_at "go"
      exact kE (rdMoving_n emov ewrd (by rw [List.length_map]; omega) (by rw [List.length_map]; omega)) _ (by walk_at "kp")
    · intro h4
      obtain ⟨a0, a1, a2, a3, rfl⟩ : ∃ a0 a1 a2 a3, ws = [a0, a1, a2, a3] := by
        have e : ws.length = 4 := by omega
        match ws, e with
        | [a0, a1, a2, a3], _ => exact ⟨a0, a1, a2, a3, rfl⟩
      have la2 : a2.length ≤ 900000 := Nat.le_trans (lwords a2 (by simp)) l0
      have la3 : a3.length ≤ 900000 := Nat.le_trans (lwords a3 (by simp)) l0
      have la0 : a0.length ≤ 900000 := Nat.le_trans (lwords a0 (by simp)) l0
      have la1 : a1.length ≤ 900000 := Nat.le_trans (lwords a1 (by simp)) l0
      walk_at "go"
      have fail1 : mapO rdInt (TL.spl [45] 0 [] (TL.tl a2)) = none → rdMoving (TL.tl x) = none := fun e => rdMoving_4n emov ewrd (.inl e)
      refine via (fun v H' => ∃ (D : Addr) (is : List Int), v = .ref D ∧ Kp No H2 H' ∧ H' D = some (.lst (is.map V.int)) ∧ mapO rdInt (TL.spl [45] 0 [] (TL.tl a2)) = some (is.map .int)) (fun Z hZ => ?_) ?_
      · refine r_lcL ?_
        walk_at "go"
        have c2 := split_count a2 (y := Str.ofString "-") (by decide +kernel) (by decide +kernel)
        have c2l : ∀ w ∈ Txt.split a2 (Str.ofString "-"), w.length ≤ (a2).length := fun w hw => split_le a2 (by decide +kernel) (by decide +kernel) hw
        have e2w := split_tl a2 (y := Str.ofString "-") (by decide +kernel) (by decide +kernel)
        rw [dash_tl] at e2w
        refine r_split (by decide +kernel) (by omega) fun qc H3 hqc k3 hq3 => ?_
        obtain ⟨cs, hcs⟩ : ∃ cs, Txt.split a2 (Str.ofString "-") = cs := ⟨_, rfl⟩
        rw [hcs] at c2 c2l e2w hq3
        have bad : ∀ w ∈ cs, rdNum (TL.tl w) = none → mapO rdInt (TL.spl [45] 0 [] (TL.tl a2)) = none := fun w hw e => by
          rw [← e2w]
          exact mapO_none ⟨_, List.mem_map_of_mem hw, by unfold rdInt; rw [e]; rfl⟩
        refine lcL (fun D i acc H' => Kp No H3 H' ∧ H3 D = none ∧ ∃ is : List Int, acc = is.map V.int ∧ mapO rdInt ((cs.map TL.tl).take i) = some (is.map .int)) (SqL.of hq3) (fun D hD => ⟨Kp.new Kp.refl hD, hD, [], rfl, rfl⟩) (fun D i acc H' _ hp => SqL.of (hp.1.lst hq3)) ?_ ?_
        · rintro D i acc z H' hD hi hacc hl2 ⟨kp, hD3, is, rfl, hm⟩
          obtain ⟨w, hw, rfl⟩ : ∃ w, cs[i]? = some w ∧ z = V.str w := by
            rw [List.getElem?_map] at hi
            cases q : cs[i]? with
            | none => rw [q] at hi; cases hi
            | some w => rw [q] at hi; cases hi; exact ⟨w, rfl, rfl⟩
          have hwm : w ∈ cs := List.mem_of_getElem? hw
          have hw' : (cs.map TL.tl)[i]? = some (TL.tl w) := by rw [List.getElem?_map, hw]; rfl
          have hi2 : i ≤ 900001 := by have := (List.getElem?_eq_some_iff.mp hw).1; omega
          have hwl := c2l w hwm
          walk_at "go"
          refine ⟨w, rfl, (by omega), fun n hn H4 k4 => ?_, fun hn H4 k4 => ?_⟩
          · refine lc_yesB (k4.lst hacc) hl2 (by omega) ⟨Kp.fresh (kp.trans k4) hD3, hD3, is ++ [n], by rw [List.map_append]; rfl, ?_⟩
            rw [List.map_append]
            exact mapO_take hm hw' (by unfold rdInt; rw [hn]; rfl)
          · exact kE (fail1 (bad w hwm hn)) _ (by walk_at "kp")
        · rintro D acc H' hD hacc hl2 ⟨kp, hD3, is, rfl, hm⟩
          have hl : (cs.map TL.tl).take (cs.map V.str).length = cs.map TL.tl := by
            have e : (cs.map V.str).length = (cs.map TL.tl).length := by rw [List.length_map, List.length_map]
            rw [e, List.take_length]
          rw [hl, e2w] at hm
          exact hZ _ _ ⟨D, is, rfl, k3.trans kp, hacc, hm⟩
      rintro v H3 ⟨D, is, rfl, k3, hD, hcourse⟩
      walk_at "go"
      rename_i qt H4 hqt k4 hqt4
      refine r_len_l (by walk_at "lst") ?_
      walk_at "go"
      refine r_iteF (by simp) ?_
      walk_at "go"
      have fail2 : mapO rdPart (pr.map TL.tl) = none → rdMoving (TL.tl x) = none := fun e => rdMoving_4n emov ewrd (.inr (.inl e))
      have fail3 : rdMarks (TL.tl a3) = none → rdMoving (TL.tl x) = none := fun e => rdMoving_4n emov ewrd (.inr (.inr e))
      have p4 : H4 p = some (.lst ((w0 :: pr).map V.str)) := (k1'.trans (k2.trans (k3.trans k4))).lst hp1
      have fsum : ∀ w ∈ pr, ((Txt.split w (Str.ofString " ")).map (·.length)).sum + (Txt.split w (Str.ofString " ")).length ≤ 900001 := fun w hw => by
        have := words_sum w
        have := lparts w (List.mem_cons_of_mem _ hw)
        omega
      have part : ∀ w : Str, rdPart (TL.tl w) = (rdNews ((Txt.split w (Str.ofString " ")).map TL.tl)).map .tuple := fun w => by
        unfold rdPart
        rw [split_tl w (y := Str.ofString " ") (by decide +kernel) (by decide +kernel), blank_tl]
      refine via (fun v H' => ∃ (D : Addr) (acc : List V) (ps : List PyData), v = .ref D ∧ Kp No H4 H' ∧ H' D = some (.lst acc) ∧ Dats All H' acc ps ∧ mapO rdPart (pr.map TL.tl) = some ps) (fun Z hZ => ?_) ?_
      · refine r_lcL ?_
        walk_at "go"
        refine r_slL (SqL.of p4) fun qs H5 hqs k5 hqs5 => ?_
        have e1 : cutV ((w0 :: pr).map V.str) (some 1) none = pr.map V.str := cutV_from _ 1
        rw [e1] at hqs5
        refine lcL (fun D i acc H' => Kp No H5 H' ∧ H5 D = none ∧ ∃ ps, Dats All H' acc ps ∧ mapO rdPart ((pr.map TL.tl).take i) = some ps) (SqL.of hqs5) (fun D hD => ⟨Kp.new Kp.refl hD, hD, [], .nil, rfl⟩) (fun D i acc H' _ hp => SqL.of (hp.1.lst hqs5)) ?_ ?_
        · rintro D i acc z H' hD hi hacc hl2 ⟨kp, hD3, ps, hps, hm⟩
          obtain ⟨w, hw, rfl⟩ : ∃ w, pr[i]? = some w ∧ z = V.str w := by
            rw [List.getElem?_map] at hi
            cases q : pr[i]? with
            | none => rw [q] at hi; cases hi
            | some w => rw [q] at hi; cases hi; exact ⟨w, rfl, rfl⟩
          have hwm : w ∈ pr := List.mem_of_getElem? hw
          have hw' : (pr.map TL.tl)[i]? = some (TL.tl w) := by rw [List.getElem?_map, hw]; rfl
          have hi2 : i ≤ 900001 := by have := (List.getElem?_eq_some_iff.mp hw).1; simp only [List.length_cons] at cparts; omega
          have hwl := lparts w (List.mem_cons_of_mem _ hwm)
          walk_at "go"
          refine r_split (by decide +kernel) (by omega) fun qw H6 hqw k6 hqw6 => ?_
          walk_at "go"
          refine ⟨qw, _, rfl, hqw6, fsum w hwm, fun ds hds q7 H7 k7 hd7 => ?_, fun hn H7 k7 => ?_⟩
          · have ka : Kp No H' H7 := k6.trans k7
            refine lc_yesB (ka.lst hacc) hl2 (by omega) ⟨Kp.fresh (kp.trans ka) hD3, hD3, ps ++ [.tuple ds], ?_, ?_⟩
            · exact Dats.all (Dats.append (hps.all ka) (Dats.one hd7)) (Kp.app (ka.lst hacc))
            · exact mapO_take hm hw' (by rw [part, hds]; rfl)
          · exact kE (fail2 (mapO_none ⟨_, List.mem_map_of_mem hwm, by rw [part, hn]; rfl⟩)) _ (by walk_at "kp")
        · rintro D acc H' hD hacc hl2 ⟨kp, hD3, ps, hps, hm⟩
          have hl : (pr.map TL.tl).take (pr.map V.str).length = pr.map TL.tl := by
            have e : (pr.map V.str).length = (pr.map TL.tl).length := by rw [List.length_map, List.length_map]
            rw [e, List.take_length]
          rw [hl] at hm
          exact hZ _ _ ⟨D, acc, ps, rfl, k5.trans kp, hacc, hps, hm⟩
      rintro v H5 ⟨D2, acc, ps, rfl, k5, hD2, hps, hpieces⟩
      walk_at "go"
      rename_i pp H6 hpp k6 hpp6
      refine ⟨a3, rfl, (by omega), fun ms hms p7 H7 k7 hd7 => ?_, fun hn H7 k7 => ?_⟩
      · walk_at "go"
        rename_i pz H8 hpz k8 hpz8
        refine k _ (rdMoving_4 emov ewrd hcourse hpieces hms) pz H8 (by walk_at "kp") (.tup hpz8 ?_)
        rw [strD_tl, strD_tl]
        exact .cons (.str a0 (by omega)) (.cons (.str a1 (by omega)) (.cons (.tup ((k5.trans (k6.trans (k7.trans k8))).tup hqt4) (Dats.ints is)) (.cons (hd7.all k8) (.cons (.tup ((k7.trans k8).tup hpp6) (((hps.all k6).all k7).all k8)) .nil))))
      · exact kE (fail3 hn) _ (by walk_at "kp")
  · intro h3
    obtain ⟨a0, a1, a2, rfl⟩ : ∃ a0 a1 a2, ws = [a0, a1, a2] := by
      have e : ws.length = 3 := by omega
      match ws, e with
      | [a0, a1, a2], _ => exact ⟨a0, a1, a2, rfl⟩
    have la2 : a2.length ≤ 900000 := Nat.le_trans (lwords a2 (by simp)) l0
    have la0 : a0.length ≤ 900000 := Nat.le_trans (lwords a0 (by simp)) l0
    have la1 : a1.length ≤ 900000 := Nat.le_trans (lwords a1 (by simp)) l0
    have mv3 := rdMoving_3 emov ewrd
    have fail1 : mapO rdInt (TL.spl [45] 0 [] (TL.tl a2)) = none → rdMoving (TL.tl x) = none := fun e => by rw [mv3, e]; rfl
    walk_at "go"
    refine via (fun v H' => ∃ (D : Addr) (is : List Int), v = .ref D ∧ Kp No H2 H' ∧ H' D = some (.lst (is.map V.int)) ∧ mapO rdInt (TL.spl [45] 0 [] (TL.tl a2)) = some (is.map .int)) (fun Z hZ => ?_) ?_
    · refine r_lcL ?_
      walk_at "go"
      have c2 := split_count a2 (y := Str.ofString "-") (by decide +kernel) (by decide +kernel)
      have c2l : ∀ w ∈ Txt.split a2 (Str.ofString "-"), w.length ≤ (a2).length := fun w hw => split_le a2 (by decide +kernel) (by decide +kernel) hw
      have e2w := split_tl a2 (y := Str.ofString "-") (by decide +kernel) (by decide +kernel)
      rw [dash_tl] at e2w
      refine r_split (by decide +kernel) (by omega) fun qc H3 hqc k3 hq3 => ?_
      obtain ⟨cs, hcs⟩ : ∃ cs, Txt.split a2 (Str.ofString "-") = cs := ⟨_, rfl⟩
      rw [hcs] at c2 c2l e2w hq3
      have bad : ∀ w ∈ cs, rdNum (TL.tl w) = none → mapO rdInt (TL.spl [45] 0 [] (TL.tl a2)) = none := fun w hw e => by
        rw [← e2w]
        exact mapO_none ⟨_, List.mem_map_of_mem hw, by unfold rdInt; rw [e]; rfl⟩
      refine lcL (fun D i acc H' => Kp No H3 H' ∧ H3 D = none ∧ ∃ is : List Int, acc = is.map V.int ∧ mapO rdInt ((cs.map TL.tl).take i) = some (is.map .int)) (SqL.of hq3) (fun D hD => ⟨Kp.new Kp.refl hD, hD, [], rfl, rfl⟩) (fun D i acc H' _ hp => SqL.of (hp.1.lst hq3)) ?_ ?_
      · rintro D i acc z H' hD hi hacc hl2 ⟨kp, hD3, is, rfl, hm⟩
        obtain ⟨w, hw, rfl⟩ : ∃ w, cs[i]? = some w ∧ z = V.str w := by
          rw [List.getElem?_map] at hi
          cases q : cs[i]? with
          | none => rw [q] at hi; cases hi
          | some w => rw [q] at hi; cases hi; exact ⟨w, rfl, rfl⟩
        have hwm : w ∈ cs := List.mem_of_getElem? hw
        have hw' : (cs.map TL.tl)[i]? = some (TL.tl w) := by rw [List.getElem?_map, hw]; rfl
        have hi2 : i ≤ 900001 := by have := (List.getElem?_eq_some_iff.mp hw).1; omega
        have hwl := c2l w hwm
        walk_at "go"
        refine ⟨w, rfl, (by omega), fun n hn H4 k4 => ?_, fun hn H4 k4 => ?_⟩
        · refine lc_yesB (k4.lst hacc) hl2 (by omega) ⟨Kp.fresh (kp.trans k4) hD3, hD3, is ++ [n], by rw [List.map_append]; rfl, ?_⟩
          rw [List.map_append]
          exact mapO_take hm hw' (by unfold rdInt; rw [hn]; rfl)
        · exact kE (fail1 (bad w hwm hn)) _ (by walk_at "kp")
      · rintro D acc H' hD hacc hl2 ⟨kp, hD3, is, rfl, hm⟩
        have hl : (cs.map TL.tl).take (cs.map V.str).length = cs.map TL.tl := by
          have e : (cs.map V.str).length = (cs.map TL.tl).length := by rw [List.length_map, List.length_map]
          rw [e, List.take_length]
        rw [hl, e2w] at hm
        exact hZ _ _ ⟨D, is, rfl, k3.trans kp, hacc, hm⟩
    rintro v H3 ⟨D, is, rfl, k3, hD, hcourse⟩
    walk_at "go"
    rename_i qt H4 hqt k4 hqt4
    refine r_len_l (by walk_at "lst") ?_
    walk_at "go"
    refine r_iteT (by simp) ?_
    walk_at "go"
    rename_i pt H5 hpt k5 hpt5
    refine r_slL (SqL.of ((k2.trans (k3.trans (k4.trans k5))).lst hp1)) fun qs H6 hqs k6 hqs6 => ?_
    walk_at "go"
    rename_i pu H7 hpu k7 hpu7
    have e1 : cutV ((w0 :: pr).map V.str) (some 1) none = pr.map V.str := cutV_from _ 1
    rw [e1] at hpu7
    refine r_catT ((k6.trans k7).tup hpt5) hpu7 (by simp only [List.length_cons, List.length_nil, List.length_map] at cparts ⊢; omega) fun pw H8 k8 hpw => ?_
    walk_at "go"
    have hd8 : Dats All H8 ([V.str a0, V.str a1, V.ref qt] ++ pr.map V.str) ([PyData.str a0, PyData.str a1, .tuple (is.map .int)] ++ pr.map PyData.str) :=
      Dats.append (.cons (.str a0 (by omega)) (.cons (.str a1 (by omega)) (.cons (.tup ((k5.trans (k6.trans (k7.trans k8))).tup hqt4) (Dats.ints is)) .nil))) (Dats.strs pr fun y hy => by have := lparts y (List.mem_cons_of_mem _ hy); omega)
    refine k _ ?_ pw H8 (by walk_at "kp") (.tup hpw hd8)
    rw [mv3, hcourse]
    show some ([strD (TL.tl a0), strD (TL.tl a1), PyData.tuple (is.map .int)] ++ (pr.map TL.tl).map strD) = _
    rw [strD_tl, strD_tl, strD_of]

end

section
variable {P : Program} {w : World} {K : PySem.W.Frag} {mg : Str → Option Value} {base : Heap} {c : Ads}
/-! a letter read -/
abbrev spReadLetter (c : Ads) : Sp := sp1 fun v H Q E => ∃ ex d, Dat ex H v d ∧ cmpD d = true ∧ (∀ x, d = .str x → x.length ≤ 900000) ∧ (∀ x l, d = .str x → rdLetter0 (TL.tl x) = some l → (letterD (.tuple l) = true → rdLetter (TL.tl x) = some l) → (letterD (.tuple l) = false → rdLetter (TL.tl x) = none) → shortP l) ∧
  (∀ x l, d = .str x → rdLetter (TL.tl x) = some l → ∀ p H', Kp No H H' → Dat All H' (.ref p) (.tuple l) → Q (.ref p) H') ∧ ((∀ x, d = .str x → rdLetter (TL.tl x) = none) → ∀ H', Kp No H H' → E (.ref c.NoText) none H')
theorem c_read_letter (T : Txt K mg c) : Cal P w K mg base (L2.CX P w) 7 "read_letter" ["text"] (spReadLetter c) := by
  refine T.d_read_letter.calX sc_read_letter sp1_len (fun f cdv A outer s H vs Q E hr h => ?_)
  obtain ⟨v, rfl, ex, d, hd, hcm, hlen, hsh, k, kE⟩ := h
  refine ⟨_, (pss_cons (ps_set (i := 1) sc_read_letter.nd rfl (by first | exact Or.inl rfl | exact Or.inr rfl) (pe_cal (c_words_of T) (hr.mono (by first | decide | omega)) (passes_call (takes_of rfl rfl rfl rfl) fun _ _ _ _ h => h) (pa_cons (pv 0) (pa_cons pe_str pa_nil))))
    (pss_cons (ps_if (PW.pt (pw_or (pt_cmpR (op_eq2 (K := K) hr.units) (pe_ix (ix_any (K := K)) (pv 1) pe_int (fun _ _ => rfl)) pe_str (nomark _)) (pw_or1 (pt_cmpR (op_eq2 (K := K) hr.units) (pe_ix (ix_any (K := K)) (pv 1) pe_int (fun _ _ => rfl)) pe_str (nomark _))))) (pss_one (ps_ret (pe_tup (pa_cons (pe_ix (ix_any (K := K)) (pv 1) pe_int (fun _ _ => rfl)) (pa_cons (pe_cal (c_read_wish T) (hr.mono (by first | decide | omega)) (passes_call (takes_of rfl rfl rfl rfl) fun _ _ _ _ h => h) (pa_cons (pe_join2 (K := K) pe_str (pe_slice (sl_any (K := K)) (pv 1) (po_some pe_int) po_none)) pa_nil)) pa_nil))))) pss_nil)
    (pss_cons (ps_set (i := 2) sc_read_letter.nd rfl (by first | exact Or.inl rfl | exact Or.inr rfl) (pe_ifExp (pt_cmpR (op_eq2 (K := K) hr.units) (pe_ix (ix_any (K := K)) (pv 1) pe_int (fun _ _ => rfl)) pe_str (nomark _)) (pe_op (op_add2 (K := K)) (pe_tup (pa_cons pe_str pa_nil)) (pe_cal (c_read_news T) (hr.mono (by first | decide | omega)) (passes_call (takes_of rfl rfl rfl rfl) fun _ _ _ _ h => h) (pa_cons (pe_slice (sl_any (K := K)) (pv 1) (po_some pe_int) po_none) pa_nil))) (pe_cal (c_read_moving T) (hr.mono (by first | decide | omega)) (passes_call (takes_of rfl rfl rfl rfl) fun _ _ _ _ h => h) (pa_cons (pv 0) pa_nil))))
    (pss_cons (ps_if (pt_not (pt_val (pe_cal (c_is_letter T) (hr.mono (by first | decide | omega)) pass0 (pa_cons (pv 2) pa_nil)) (by intro _; rfl))) (pss_one (ps_exc2 T.e_NoText rfl (takes_of rfl rfl rfl rfl))) pss_nil)
    (pss_one (ps_ret (pv 2))))))), ?_⟩
  walk_at "go"
  refine ⟨ex, d, _, hd, rfl, by decide +kernel, fun x ex p H1 hp0 k1 hp1 => ?_, fun hn H1 k1 => ?_⟩
  · subst ex
    have hx := hlen x rfl
    obtain ⟨_, rfl, e0, _⟩ := hd.strI rfl
    cases e0
    have kE' : rdLetter (TL.tl x) = none → ∀ H', Kp No H H' → E (.ref c.NoText) none H' := fun e => kE fun y ey => by cases ey; exact e
    have ewords := split_tl x (y := Str.ofString " ") (by decide +kernel) (by decide +kernel)
    rw [blank_tl] at ewords
    have wsum := words_sum x
    obtain ⟨w0, wr, hws⟩ : ∃ w0 wr, Txt.split x (Str.ofString " ") = w0 :: wr := by
      cases h : Txt.split x (Str.ofString " ") with
      | nil => rw [h] at ewords; exact absurd ewords.symm (spl_ne _ _ _ _)
      | cons a r => exact ⟨a, r, rfl⟩
    rw [hws] at ewords hp1 wsum
    have ewrd := ewords.symm
    rw [List.map_cons] at ewrd
    have s1 : (wr.map (·.length)).sum + wr.length ≤ 900001 := by simp only [List.map_cons, List.sum_cons, List.length_cons] at wsum; omega
    have s0 : w0.length ≤ 900001 := by simp only [List.map_cons, List.sum_cons, List.length_cons] at wsum; omega
    have jl := join_len (ws := wr)
    have e1 : cutV ((w0 :: wr).map V.str) (some 1) none = wr.map V.str := cutV_from _ 1
    have lit : ∀ y : Str, decide (w0 = y) = decide (TL.tl w0 = TL.tl y) := fun y => dec_tl
    walk_at "go"
    walk_at "br"
    · intro h1
      have hw : TL.tl w0 = wL "want" ∨ TL.tl w0 = wL "unwant" := .inl (congrArg TL.tl h1)
      walk_at "go"
      refine r_slL (SqL.of hp1) fun q H2 hq k2 hq2 => ?_
      rw [e1] at hq2
      walk_at "go"
      refine r_join (SqL.of hq2) (by rw [l_blank]; omega) ?_
      walk_at "go"
      have val : rdLetter (TL.tl x) = (rdWish (TL.joinL [32] (wr.map TL.tl))).map fun ds => [.str w0, .tuple ds] := by
        unfold rdLetter
        simp only [ewrd, List.headD_cons, List.tail_cons]
        rw [if_pos hw, strD_tl]
      refine ⟨All, _, .str _ (by omega), rfl, fun y ds e hy q3 H3 k3 hd3 => ?_, fun hn H3 k3 => ?_⟩
      · cases e
        rw [join_text] at hy
        walk_at "go"
        rename_i pz H4 hpz k4 hpz4
        exact k x _ rfl (by rw [val, hy]; rfl) pz H4 (by walk_at "kp") (.tup hpz4 (.cons (.str w0 (by omega)) (.cons (hd3.all k4) .nil)))
      · have hn := hn _ rfl
        rw [join_text] at hn
        exact kE' (by rw [val, hn]; rfl) _ (by walk_at "kp")
    · intro h1
      walk_at "go"
      walk_at "br"
      · intro h2
        have hw : TL.tl w0 = wL "want" ∨ TL.tl w0 = wL "unwant" := .inr (congrArg TL.tl h2)
        walk_at "go"
        refine r_slL (SqL.of hp1) fun q H2 hq k2 hq2 => ?_
        rw [e1] at hq2
        walk_at "go"
        refine r_join (SqL.of hq2) (by rw [l_blank]; omega) ?_
        walk_at "go"
        have val : rdLetter (TL.tl x) = (rdWish (TL.joinL [32] (wr.map TL.tl))).map fun ds => [.str w0, .tuple ds] := by
          unfold rdLetter
          simp only [ewrd, List.headD_cons, List.tail_cons]
          rw [if_pos hw, strD_tl]
        refine ⟨All, _, .str _ (by omega), rfl, fun y ds e hy q3 H3 k3 hd3 => ?_, fun hn H3 k3 => ?_⟩
        · cases e
          rw [join_text] at hy
          walk_at "go"
          rename_i pz H4 hpz k4 hpz4
          exact k x _ rfl (by rw [val, hy]; rfl) pz H4 (by walk_at "kp") (.tup hpz4 (.cons (.str w0 (by omega)) (.cons (hd3.all k4) .nil)))
        · have hn := hn _ rfl
          rw [join_text] at hn
          exact kE' (by rw [val, hn]; rfl) _ (by walk_at "kp")
      · intro h2
        have hw : ¬ (TL.tl w0 = wL "want" ∨ TL.tl w0 = wL "unwant") := fun z => z.elim (fun z => h1 (TL.ext_tl z)) fun z => h2 (TL.ext_tl z)
        with_reducible refine r_nx ?_
        with_reducible refine r_seq ?_
        with_reducible refine r_asg ?_
        have val : rdLetter (TL.tl x) = match rdLetter0 (TL.tl x) with
            | some l => if letterD (.tuple l) = true then some l else none
            | none => none := by
          unfold rdLetter
          simp only [ewrd, List.headD_cons]
          rw [if_neg hw]
          first | done | rfl
        refine via (fun v H2 => ∃ q l, v = .ref q ∧ Kp No H1 H2 ∧ Dat All H2 (.ref q) (.tuple l) ∧ rdLetter0 (TL.tl x) = some l) (fun Z hZ => ?_) ?_
        · walk_at "go"
          walk_at "br"
          · intro h3
            walk_at "go"
            rename_i pt H2 hpt k2 hpt2
            refine r_slL (SqL.of (k2.lst hp1)) fun q H3 hq k3 hq3 => ?_
            rw [e1] at hq3
            walk_at "go"
            have v0 : rdLetter0 (TL.tl x) = (rdNews (wr.map TL.tl)).map fun r => .str sNews :: r := by
              unfold rdLetter0
              simp only [ewrd, List.headD_cons, List.tail_cons]
              exact if_pos (congrArg TL.tl h3)
            refine ⟨q, wr, rfl, hq3, s1, fun ds hds q4 H4 k4 hd4 => ?_, fun hn H4 k4 => ?_⟩
            · obtain ⟨b, ys, eb, hb, hys⟩ := hd4.tupE
              cases eb
              have hl3 : ds.length = 3 := by
                revert hds
                unfold rdNews
                split
                · split
                  · intro e; cases e; rfl
                  · intro e; cases e
                · intro e; cases e
              have ly := hys.len
              refine r_catT ((k3.trans k4).tup hpt2) hb (by simp only [List.length_cons, List.length_nil]; omega) fun pw H5 k5 hpw => ?_
              exact hZ _ _ ⟨pw, .str sNews :: ds, rfl, by walk_at "kp", .tup hpw (.cons (.str sNews (by decide +kernel)) (hys.all k5)), by rw [v0, hds]; rfl⟩
            · exact kE' (by rw [val, v0, hn]; rfl) _ (by walk_at "kp")
          · intro h3
            walk_at "go"
            have v0 : rdLetter0 (TL.tl x) = rdMoving (TL.tl x) := by
              unfold rdLetter0
              simp only [ewrd, List.headD_cons]
              exact if_neg fun z => h3 (TL.ext_tl z)
            refine ⟨x, rfl, hx, fun ds hds q H2 k2 hd2 => ?_, fun hn H2 k2 => ?_⟩
            · exact hZ _ _ ⟨q, ds, rfl, k2, hd2, by rw [v0, hds]⟩
            · exact kE' (by rw [val, v0, hn]) _ (by walk_at "kp")
        · rintro v H2 ⟨q, l, rfl, k2, hd2, hl⟩
          rw [hl] at val
          walk_at "go"
          refine ⟨All, _, hd2, fun ds e => by cases e; exact hsh x l rfl hl (fun e => by rw [val]; exact if_pos e) (fun e => by rw [val]; exact if_neg (by rw [e]; exact Bool.false_ne_true)), fun H3 k3 => ?_⟩
          walk_at "go"
          walk_at "br"
          · intro h4
            walk_at "go"
            exact kE' (by rw [val]; exact if_neg (by rw [h4]; exact Bool.false_ne_true)) _ (by walk_at "kp")
          · intro h4
            walk_at "go"
            exact k x l rfl (by rw [val]; exact if_pos h4) q H3 (by walk_at "kp") (hd2.all k3)
  · exact kE (fun y ey => by subst ey; cases hn) _ k1

end

section
variable {P : Program} {w : World} {K : PySem.W.Frag} {mg : Str → Option Value} {base : Heap} {c : Ads}
/-! the law's own reading of a number -/
def numV (l : List Nat) : V := match rdNum l with
  | none => .non
  | some i => .int i
theorem take1_45 {l : List Nat} (h : l.take 1 = [45]) : l.head? = some 45 := by
  cases l with
  | nil => cases h
  | cons a r => exact congrArg some (by simpa using h)
theorem take1_45' {l : List Nat} (h : l.head? = some 45) : l.take 1 = [45] := by
  cases l with
  | nil => cases h
  | cons a r => cases h; rfl
theorem tl_cut01 (z : Str) : TL.tl (cutS z none (some 1)) = (TL.tl z).take 1 := by
  have hz := TL.len_tl z
  show ((TL.tl z).drop (HT.sIx z.length 0 none)).take (HT.sIx z.length z.length (some 1) - HT.sIx z.length 0 none) = _
  have e : HT.sIx z.length z.length (some 1) = min 1 z.length := HT.sIx_nat z.length z.length 1
  rw [e, HT.sIx_none, hz]
  cases h : TL.tl z with
  | nil => rfl
  | cons c r =>
    have e2 : min 1 (c :: r).length = 1 := by rw [List.length_cons]; omega
    rw [e2]
    rfl
theorem ne_lit {x y : Str} {l : List Nat} (e : TL.tl y = l) : decide (x ≠ y) = decide (TL.tl x ≠ l) := by rw [← e]; exact decide_eq_decide.mpr ⟨fun h z => h (TL.ext_tl z), fun h z => h (by rw [z])⟩
theorem kV {l : List Nat} (h : rdNum l = none) : numV l = .non := by unfold numV; rw [h]
theorem kVs {l : List Nat} {i : Int} (h : rdNum l = some i) : numV l = .int i := by unfold numV; rw [h]
abbrev spValue : Sp := sp1 fun v H Q _ => ∃ x, v = .str x ∧ x.length ≤ 1000000 ∧ ∀ H', Kp No H H' → Q (numV (TL.tl x)) H'
theorem c__law_value (T : Txt K mg c) : Cal P w K mg base CX0 1 "_law_value" ["word"] spValue := by
  refine T.d__law_value.cal sc__law_value sp1_len (fun f cdv A outer s H vs Q E hr h => ?_)
  obtain ⟨v, rfl, x, rfl, hx, k⟩ := h
  refine ⟨_, (pss_cons (ps_set (i := 1) sc__law_value.nd rfl (by first | exact Or.inl rfl | exact Or.inr rfl) (pe_ifExp (pt_cmpR (op_eq2 (K := K) hr.units) (pe_slice (sl_any (K := K)) (pv 0) po_none (po_some pe_int)) pe_str (nomark _)) (pe_slice (sl_any (K := K)) (pv 0) (po_some pe_int) po_none) (pv 0)))
    (pss_cons (ps_if (PW.pt (pw_or (pt_cmpR (op_eq2 (K := K) hr.units) (pv 1) pe_str (nomark _)) (pw_or (pt_cmpR op_gt2 (pe_callB (call_len2 (K := K)) (by rfl) T.n_len (by decide +kernel) (pa_cons (pv 1) pa_nil)) pe_int (nomark _)) (pw_or1 (pt_cmpR (op_ne2 (K := K) hr.units) (pe_lc (own := [("sign", 2)]) (by rfl) sc__law_value.nd (pi_any (K := K) (pv 1)) (blkOk_by (own := [("sign", 2)]) (N := ["word", "figures", "sign"]) (sc := defScope s__law_value) (by decide +kernel)) (fun _ _ _ _ _ => (pg_name (i := 2) sc__law_value.nd rfl (by first | exact Or.inl rfl | exact Or.inr rfl))) (fun _ _ _ _ _ => (pts_one (pt_cmpR (op_nin2 (K := K)) (pv 2) pe_str (by rfl)))) (fun _ _ _ _ _ => (pv 2))) (pe_lst pa_nil) (nomark _)))))) (pss_one (ps_ret pe_non)) pss_nil)
    (pss_one (ps_ret (pe_ifExp (PW.pt (pw_or (pt_cmpR (op_ne2 (K := K) hr.units) (pe_ix (ix_any (K := K)) (pv 1) pe_int (fun _ _ => rfl)) pe_str (nomark _)) (pw_or1 (pt_cmpR (op_eq2 (K := K) hr.units) (pv 0) pe_str (nomark _))))) (pe_callTy call_int2 (by rfl) T.n_int (by decide +kernel) (pa_cons (pv 0) pa_nil)) pe_non))))), ?_⟩
  walk_at "go"
  rw [eq_lit (l := [45]) (by decide +kernel), tl_cut01]
  walk_at "br"
  · intro h1'
    have h1 := take1_45 h1'
    have hyt : TL.tl (cutS x (some 1) none) = figsOf (TL.tl x) := by
      unfold figsOf
      rw [if_pos h1, tl_cut1]
    have hyl : (cutS x (some 1) none).length ≤ 1000000 := Nat.le_trans (cutS_length _ _ _) hx
    walk_at "go"
    generalize cutS x (some 1) none = y at *
    rw [eq_lit (l := []) rfl, hyt]
    walk_at "br"
    · intro h2'
      walk_at "go"
      rw [kV (rdNum_no (.inl (of_decide_eq_true h2')))] at k
      exact k _ Kp.refl
    · intro h2'
      have h2 := of_decide_eq_false h2'
      walk_at "go"
      walk_at "br"
      · intro h3
        walk_at "go"
        rw [kV (rdNum_no (.inr (.inl (by rw [← hyt, ← TL.len_tl]; omega))))] at k
        exact k _ Kp.refl
      · intro h3
        obtain ⟨c0, r0, hcr⟩ := List.exists_cons_of_ne_nil h2
        have hc0 : (y).cps.toList[0]? = some c0 := by
          show (TL.tl y)[0]? = _
          rw [hyt, hcr]; rfl
        walk_at "go"
        refine via (fun v H' => ∃ (D : Addr) (acc : List V), v = .ref D ∧ H' D = some (.lst acc) ∧ Kp No H H' ∧ acc.isEmpty = (figsOf (TL.tl x)).all isFig) (fun Z hZ => ?_) ?_
        · refine r_lcS ?_
          walk_at "go"
          refine lcS (fun D i acc H' => Kp No H H' ∧ acc.isEmpty = ((figsOf (TL.tl x)).take i).all isFig) (fun D hD => ⟨by walk_at "kp", rfl⟩) ?_ ?_
          · rintro D i acc d H' hD hi hacc hl ⟨kp, hal⟩
            have hi' : (figsOf (TL.tl x))[i]? = some d := by rw [← hyt]; exact hi
            have hi2 : i < 100000 := by
              have h8 := (List.getElem?_eq_some_iff.mp hi').1
              rw [← hyt, ← TL.len_tl] at h8
              omega
            walk_at "go"
            walk_at "br"
            · intro h7
              walk_at "go"
              refine lc_yes hacc hl hi2 ⟨Kp.fresh kp hD, ?_⟩
              have q : isFig d = false := by
                cases q : isFig d with
                | false => rfl
                | true => exact absurd (isFig_iff.mpr q) h7
              rw [List.take_add_one, hi', List.all_append]
              show _ = (_ && (isFig d && true))
              rw [q]
              cases acc <;> simp
            · intro h7
              refine lc_no hacc hl ⟨kp, ?_⟩
              rw [List.take_add_one, hi', List.all_append, hal]
              show _ = (_ && (isFig d && true))
              rw [isFig_iff.mp h7]; simp
          · rintro D acc H' hD hacc hl ⟨kp, hal⟩
            have hl2 : (figsOf (TL.tl x)).take (y).cps.toList.length = figsOf (TL.tl x) := by
              show (figsOf (TL.tl x)).take (TL.tl y).length = _
              rw [congrArg List.length hyt, List.take_length]
            rw [hl2] at hal
            exact hZ _ _ ⟨D, acc, rfl, hacc, kp, hal⟩
        rintro v H1 ⟨D, acc, rfl, hD, k1, hal⟩
        walk_at "go"
        rename_i q2 H2 hq2 k2 hq22
        refine r_ne_nil2 (k2.lst hD) hq22 ?_
        rw [hal]
        cases hf : (figsOf (TL.tl x)).all isFig with
        | false =>
          refine r_bl (r_iteT rfl ?_)
          walk_at "go"
          obtain ⟨d, hd, hdf⟩ := List.all_eq_false.mp hf
          rw [kV (rdNum_bad hd (by simpa using hdf))] at k
          exact k _ (k1.trans k2)
        | true =>
          refine r_bl (r_iteF rfl ?_)
          walk_at "go"
          refine r_ix_s hyl rfl hc0 ?_
          walk_at "go"
          rw [eq_lit (l := [48]) (by decide +kernel)]
          cases h4' : decide (TL.tl ⟨#[c0]⟩ = [48]) with
          | false =>
            refine r_iteT rfl ?_
            refine r_iteT rfl ?_
            have h6 : ¬ ((figsOf (TL.tl x)).head? = some 48 ∧ TL.tl x ≠ [48]) := fun z => by
              have q : ¬ ([c0] = [48]) := of_decide_eq_false h4'
              rw [hcr] at z
              exact q (by simpa using z.1)
            have e := rdNum_yes h2 (by rw [← hyt, ← TL.len_tl]; omega) h6 hf
            walk_at "go"
            rw [kVs e] at k
            exact r_int_s e (k _ (k1.trans k2))
          | true =>
            refine r_iteF rfl ?_
            have h4 : c0 = 48 := by
              have q : [c0] = [48] := of_decide_eq_true h4'
              simpa using q
            walk_at "go"
            rw [eq_lit (l := [48]) (by decide +kernel)]
            walk_at "br"
            · intro h5'
              have h5 := h5'
              have e := rdNum_yes h2 (by rw [← hyt, ← TL.len_tl]; omega) (fun z => z.2 h5) hf
              walk_at "go"
              rw [kVs e] at k
              exact r_int_s e (k _ (k1.trans k2))
            · intro h5'
              have h5 := h5'
              walk_at "go"
              rw [kV (rdNum_no (.inr (.inr ⟨by rw [hcr, h4]; rfl, h5⟩)))] at k
              exact k _ (k1.trans k2)
  · intro h1'
    have h1 : ¬ (TL.tl x).head? = some 45 := fun z => h1' (take1_45' z)
    have hyt : TL.tl x = figsOf (TL.tl x) := by
      unfold figsOf
      rw [if_neg h1]
    have hyl := hx
    walk_at "go"
    rw [eq_lit (l := []) rfl, hyt]
    walk_at "br"
    · intro h2'
      walk_at "go"
      rw [kV (rdNum_no (.inl (of_decide_eq_true h2')))] at k
      exact k _ Kp.refl
    · intro h2'
      have h2 := of_decide_eq_false h2'
      walk_at "go"
      walk_at "br"
      · intro h3
        walk_at "go"
        rw [kV (rdNum_no (.inr (.inl (by rw [← hyt, ← TL.len_tl]; omega))))] at k
        exact k _ Kp.refl
      · intro h3
        obtain ⟨c0, r0, hcr⟩ := List.exists_cons_of_ne_nil h2
        have hc0 : (x).cps.toList[0]? = some c0 := by
          show (TL.tl x)[0]? = _
          rw [hyt, hcr]; rfl
        walk_at "go"
        refine via (fun v H' => ∃ (D : Addr) (acc : List V), v = .ref D ∧ H' D = some (.lst acc) ∧ Kp No H H' ∧ acc.isEmpty = (figsOf (TL.tl x)).all isFig) (fun Z hZ => ?_) ?_
        · refine r_lcS ?_
          walk_at "go"
          refine lcS (fun D i acc H' => Kp No H H' ∧ acc.isEmpty = ((figsOf (TL.tl x)).take i).all isFig) (fun D hD => ⟨by walk_at "kp", rfl⟩) ?_ ?_
          · rintro D i acc d H' hD hi hacc hl ⟨kp, hal⟩
            have hi' : (figsOf (TL.tl x))[i]? = some d := by rw [← hyt]; exact hi
            have hi2 : i < 100000 := by
              have h8 := (List.getElem?_eq_some_iff.mp hi').1
              rw [← hyt, ← TL.len_tl] at h8
              omega
            walk_at "go"
            walk_at "br"
            · intro h7
              walk_at "go"
              refine lc_yes hacc hl hi2 ⟨Kp.fresh kp hD, ?_⟩
              have q : isFig d = false := by
                cases q : isFig d with
                | false => rfl
                | true => exact absurd (isFig_iff.mpr q) h7
              rw [List.take_add_one, hi', List.all_append]
              show _ = (_ && (isFig d && true))
              rw [q]
              cases acc <;> simp
            · intro h7
              refine lc_no hacc hl ⟨kp, ?_⟩
              rw [List.take_add_one, hi', List.all_append, hal]
              show _ = (_ && (isFig d && true))
              rw [isFig_iff.mp h7]; simp
          · rintro D acc H' hD hacc hl ⟨kp, hal⟩
            have hl2 : (figsOf (TL.tl x)).take (x).cps.toList.length = figsOf (TL.tl x) := by
              show (figsOf (TL.tl x)).take (TL.tl x).length = _
              rw [congrArg List.length hyt, List.take_length]
            rw [hl2] at hal
            exact hZ _ _ ⟨D, acc, rfl, hacc, kp, hal⟩
        rintro v H1 ⟨D, acc, rfl, hD, k1, hal⟩
        walk_at "go"
        rename_i q2 H2 hq2 k2 hq22
        refine r_ne_nil2 (k2.lst hD) hq22 ?_
        rw [hal]
        cases hf : (figsOf (TL.tl x)).all isFig with
        | false =>
          refine r_bl (r_iteT rfl ?_)
          walk_at "go"
          obtain ⟨d, hd, hdf⟩ := List.all_eq_false.mp hf
          rw [kV (rdNum_bad hd (by simpa using hdf))] at k
          exact k _ (k1.trans k2)
        | true =>
          refine r_bl (r_iteF rfl ?_)
          walk_at "go"
          refine r_ix_s hyl rfl hc0 ?_
          walk_at "go"
          rw [eq_lit (l := [48]) (by decide +kernel)]
          cases h4' : decide (TL.tl ⟨#[c0]⟩ = [48]) with
          | false =>
            refine r_iteT rfl ?_
            refine r_iteT rfl ?_
            have h6 : ¬ ((figsOf (TL.tl x)).head? = some 48 ∧ TL.tl x ≠ [48]) := fun z => by
              have q : ¬ ([c0] = [48]) := of_decide_eq_false h4'
              rw [hcr] at z
              exact q (by simpa using z.1)
            have e := rdNum_yes h2 (by rw [← hyt, ← TL.len_tl]; omega) h6 hf
            walk_at "go"
            rw [kVs e] at k
            exact r_int_s e (k _ (k1.trans k2))
          | true =>
            refine r_iteF rfl ?_
            have h4 : c0 = 48 := by
              have q : [c0] = [48] := of_decide_eq_true h4'
              simpa using q
            walk_at "go"
            rw [eq_lit (l := [48]) (by decide +kernel)]
            walk_at "br"
            · intro h5'
              have h5 := h5'
              have e := rdNum_yes h2 (by rw [← hyt, ← TL.len_tl]; omega) (fun z => z.2 h5) hf
              walk_at "go"
              rw [kVs e] at k
              exact r_int_s e (k _ (k1.trans k2))
            · intro h5'
              have h5 := h5'
              walk_at "go"
              rw [kV (rdNum_no (.inr (.inr ⟨by rw [hcr, h4]; rfl, h5⟩)))] at k
              exact k _ (k1.trans k2)

end

section
variable {P : Program} {w : World} {K : PySem.W.Frag} {mg : Str → Option Value} {base : Heap} {c : Ads}
abbrev spPartOf : Sp := sp2 fun v sz H Q _ => ∃ x n, v = .str x ∧ sz = .int n ∧ (n = 2 ∨ n = 3) ∧ x.length ≤ 1000000 ∧ (∀ d, partOf n (TL.tl x) = some d → ∀ v' H', Kp No H H' → Dat All H' v' d → Q v' H') ∧ (partOf n (TL.tl x) = none → ∀ H', Kp No H H' → Q .non H')
/-- what the law keeps of an end -/
def valV (n : Int) (l : List Nat) : V := if l = [42] ∧ n = 3 then .non else numV l
/-- an end that lacks -/
def lackB (n : Int) (l : List Nat) : Bool := decide (valV n l = .non) && (!decide (l = [42]) || decide (n = 2))
theorem numV_non {l : List Nat} : decide (numV l = .non) = (rdNum l).isNone := by
  unfold numV
  cases rdNum l with
  | none => exact decide_eq_true rfl
  | some i => exact decide_eq_false (fun z => nomatch z)
theorem valV_non (n : Int) (l : List Nat) : decide (valV n l = .non) = (decide (l = [42] ∧ n = 3) || (rdNum l).isNone) := by
  unfold valV
  by_cases h : l = [42] ∧ n = 3
  · rw [if_pos h, decide_eq_true h]; rfl
  · rw [if_neg h, decide_eq_false h, Bool.false_or, numV_non]
theorem valV_off {n : Int} {l : List Nat} (h : ¬ (l = [42] ∧ n = 3)) : valV n l = numV l := if_neg h
theorem valV_on {l : List Nat} (h : l = [42]) : valV 3 l = .non := if_pos ⟨h, rfl⟩
theorem parS_cases {x y : Str} {A : Str × Str × Str} {c : Nat} {S : List Nat} (h : parS x y = A) (hy : TL.tl y = c :: S) :
    (TL.par (c :: S) [] (TL.tl x) = none ∧ TL.tl A.2.1 = []) ∨ ∃ u v, TL.par (c :: S) [] (TL.tl x) = some (u, v) ∧ A.1 = ofL u ∧ TL.tl A.2.1 = c :: S ∧ TL.tl A.2.2 = v := by
  subst h
  unfold parS
  rw [hy]
  cases h2 : TL.par (c :: S) [] (TL.tl x) with
  | none => exact .inl ⟨rfl, rfl⟩
  | some p =>
    obtain ⟨u, v⟩ := p
    exact .inr ⟨u, v, rfl, rfl, hy, tl_ofL v⟩
theorem lack2 (l : List Nat) : lackB 2 l = (rdNum l).isNone := by
  unfold lackB
  rw [valV_non]
  simp
theorem val2 (l : List Nat) : valV 2 l = numV l := valV_off fun z => absurd z.2 (by decide)
theorem lack3 (l : List Nat) : lackB 3 l = (rdEnd l).isNone := by
  unfold lackB rdEnd
  rw [valV_non]
  by_cases h : l = [42]
  · rw [if_pos h]; simp [h]
  · rw [if_neg h]; simp [h]
theorem val3 {l : List Nat} {d : PyData} (h : rdEnd l = some d) : valV 3 l = endV d := by
  unfold rdEnd at h
  unfold valV
  by_cases h1 : l = [42]
  · rw [if_pos h1] at h
    cases h
    rw [if_pos ⟨h1, rfl⟩]; rfl
  · rw [if_neg h1] at h
    rw [if_neg fun z => h1 z.1]
    unfold numV
    cases h2 : rdNum l with
    | none => rw [h2] at h; cases h
    | some i => rw [h2] at h; cases h; rfl
theorem c__law_part_of (T : Txt K mg c) : Cal P w K mg base CX0 2 "_law_part_of" ["word", "size"] spPartOf := by
  refine T.d__law_part_of.cal sc__law_part_of sp2_len (fun f cdv A outer s H vs Q E hr h => ?_)
  obtain ⟨v, sz, rfl, x, n, rfl, rfl, hn, hx, k, kN⟩ := h
  refine ⟨_, (pss_cons (ps_asg (pe_partition2 (pv 0) pe_str) (pg_tup2 (K := K) (n := 3) (by rfl) (pgs_cons (pg_name (i := 2) sc__law_part_of.nd rfl (by first | exact Or.inl rfl | exact Or.inr rfl)) (pgs_cons (pg_name (i := 3) sc__law_part_of.nd rfl (by first | exact Or.inl rfl | exact Or.inr rfl)) (pgs_cons (pg_name (i := 4) sc__law_part_of.nd rfl (by first | exact Or.inl rfl | exact Or.inr rfl)) pgs_nil)))))
    (pss_cons (ps_asg (pe_partition2 (pv 4) pe_str) (pg_tup2 (K := K) (n := 3) (by rfl) (pgs_cons (pg_name (i := 5) sc__law_part_of.nd rfl (by first | exact Or.inl rfl | exact Or.inr rfl)) (pgs_cons (pg_name (i := 6) sc__law_part_of.nd rfl (by first | exact Or.inl rfl | exact Or.inr rfl)) (pgs_cons (pg_name (i := 7) sc__law_part_of.nd rfl (by first | exact Or.inl rfl | exact Or.inr rfl)) pgs_nil)))))
    (pss_cons (ps_set (i := 8) sc__law_part_of.nd rfl (by first | exact Or.inl rfl | exact Or.inr rfl) (pe_ifExp (pt_cmpR (op_eq2 (K := K) hr.units) (pv 1) pe_int (nomark _)) (pe_lst (pa_cons (pv 5) (pa_cons (pv 7) pa_nil))) (pe_lst (pa_cons (pv 4) pa_nil))))
    (pss_cons (ps_set (i := 9) sc__law_part_of.nd rfl (by first | exact Or.inl rfl | exact Or.inr rfl) (pe_lc (own := [("end", 10)]) (by rfl) sc__law_part_of.nd (pi_any (K := K) (pv 8)) (blkOk_by (own := [("end", 10)]) (N := ["word", "size", "field", "sign", "rest", "low", "dots", "high", "ends", "values", "end", "lacks", "k"]) (sc := defScope s__law_part_of) (by decide +kernel)) (fun _ _ _ _ _ => (pg_name (i := 10) sc__law_part_of.nd rfl (by first | exact Or.inl rfl | exact Or.inr rfl))) (fun _ _ _ _ _ => pts_nil) (fun _ _ _ _ _ => (pe_ifExp (PW.pt (pw_and (pt_cmpR (op_eq2 (K := K) hr.units) (pv 10) pe_str (nomark _)) (pw_and1 (pt_cmpR (op_eq2 (K := K) hr.units) (pv 1) pe_int (nomark _))))) pe_non (pe_cal (c__law_value T) (hr.mono (by first | decide | omega)) pass0 (pa_cons (pv 10) pa_nil))))))
    (pss_cons (ps_setLc (i := 11) (own := [("k", 12)]) (by rfl) sc__law_part_of.nd rfl rfl (sw_true rfl rfl rfl (by decide +kernel)) (pi_range1 (by rfl) T.n_range (pa_cons (pe_callB (call_len2 (K := K)) (by rfl) T.n_len (by decide +kernel) (pa_cons (pv 8) pa_nil)) pa_nil)) (blkOk_by (own := [("k", 12)]) (N := ["word", "size", "field", "sign", "rest", "low", "dots", "high", "ends", "values", "end", "lacks", "k"]) (sc := defScope s__law_part_of) (by decide +kernel)) (fun _ _ _ _ _ => (pg_name (i := 12) sc__law_part_of.nd rfl (by first | exact Or.inl rfl | exact Or.inr rfl))) (fun _ _ _ _ _ => (pts_one (PW.pt (pw_and (pt_cmp (pc_isN (pe_ix (ix_any (K := K)) (pv 9) (pv 12) (fun _ _ => rfl))) rfl) (pw_and1 (PW.pt (pw_or (pt_cmpR (op_ne2 (K := K) hr.units) (pe_ix (ix_any (K := K)) (pv 8) (pv 12) (fun _ _ => rfl)) pe_str (nomark _)) (pw_or1 (pt_cmpR (op_eq2 (K := K) hr.units) (pv 1) pe_int (nomark _)))))))))) (fun _ _ _ _ _ => (pv 12)))
    (pss_cons (ps_if (PW.pt (pw_or (pt_cmpR (op_eq2 (K := K) hr.units) (pv 3) pe_str (nomark _)) (pw_or (PW.pt (pw_and (pt_cmpR (op_eq2 (K := K) hr.units) (pv 1) pe_int (nomark _)) (pw_and1 (pt_cmpR (op_eq2 (K := K) hr.units) (pv 6) pe_str (nomark _))))) (pw_or1 (pt_cmpR (op_ne2 (K := K) hr.units) (pv 11) (pe_lst pa_nil) (nomark _)))))) (pss_one (ps_ret pe_non)) pss_nil)
    (pss_one (ps_ret (pe_op (op_add2 (K := K)) (pe_tup (pa_cons (pv 2) pa_nil)) (pe_callTy (call_tuple2 (K := K)) (by rfl) T.n_tuple (by decide +kernel) (pa_cons (pv 9) pa_nil))))))))))), ?_⟩
  walk_at "go"
  refine r_part_s (by decide +kernel) (by decide +kernel) hx fun p1 H1 hp1 k1 hp11 => ?_
  walk_at "go"
  have hl1 := (parS_len x (Str.ofString ":")).2
  have hul := Nat.le_trans (parS_len x (Str.ofString ":")).1 hx
  refine r_part_s (by decide +kernel) (by decide +kernel) (Nat.le_trans hl1 hx) fun p2 H2 hp2 k2 hp22 => ?_
  walk_at "go"
  have hl2 := parS_len (parS x (Str.ofString ":")).2.2 (Str.ofString "..")
  generalize hA : parS x (Str.ofString ":") = A1 at *
  obtain ⟨fd, sg, rs⟩ := A1
  generalize hB : parS rs (Str.ofString "..") = B1 at *
  obtain ⟨lo, ds, hi⟩ := B1
  dsimp only at *
  rcases hn with rfl | rfl
  · refine r_iteF (by decide) ?_
    walk_at "go"
    rename_i q3 H3 hq3 k3 hq33
    obtain ⟨es, hes⟩ : ∃ es : List Str, es = [rs] := ⟨_, rfl⟩
    have hE : H3 q3 = some (.lst (es.map V.str)) := by rw [hes]; exact hq33
    have hEl : ∀ e ∈ es, e.length ≤ 1000000 := by
      rw [hes]; intro e he
      simp only [List.mem_cons, List.not_mem_nil, or_false] at he
      first
        | (rcases he with rfl | rfl <;> omega)
        | (subst he; omega)
    have hE2 : es.length ≤ 2 := by rw [hes]; simp
    refine via (fun v H' => ∃ D, v = .ref D ∧ H' D = some (.lst (es.map fun e => valV 2 (TL.tl e))) ∧ Kp No H3 H') (fun Z hZ => ?_) ?_
    · refine r_lcL ?_
      walk_at "go"
      refine lcL (fun D i acc H' => Kp No H3 H' ∧ acc = (es.take i).map fun e => valV 2 (TL.tl e)) (SqL.of hE) (fun D hD => ⟨Kp.new Kp.refl hD, rfl⟩) (fun D i acc H' hD hp => hp.1.sql (SqL.of hE)) ?_ ?_
      · rintro D i acc z H' hD hi hacc hl ⟨kp, rfl⟩
        rw [List.getElem?_map] at hi
        cases hei : es[i]? with
        | none => rw [hei] at hi; cases hi
        | some e =>
        rw [hei] at hi
        cases hi
        have hm := hEl e (List.mem_of_getElem? hei)
        have hi2 : i < 100000 := by have := (List.getElem?_eq_some_iff.mp hei).1; omega
        walk_at "go"
        rw [eq_lit (l := [42]) (by decide +kernel)]
        walk_at "br"
        · intro h1
          walk_at "go"
          refine r_iteF (by decide) ?_
          walk_at "go"
          refine ⟨e, rfl, hm, fun H5 k5 => ?_⟩
          walk_at "go"
          refine lc_yes (k5.lst hacc) hl hi2 ⟨Kp.fresh (kp.trans k5) hD, ?_⟩
          rw [List.take_add_one, hei, List.map_append]
          show _ ++ [_] = _ ++ [valV 2 (TL.tl e)]
          rw [valV_off fun z => absurd z.2 (by decide)]
        · intro h1
          walk_at "go"
          refine ⟨e, rfl, hm, fun H5 k5 => ?_⟩
          walk_at "go"
          refine lc_yes (k5.lst hacc) hl hi2 ⟨Kp.fresh (kp.trans k5) hD, ?_⟩
          rw [List.take_add_one, hei, List.map_append]
          show _ ++ [_] = _ ++ [valV 2 (TL.tl e)]
          rw [valV_off fun z => h1 z.1]
      · rintro D acc H' hD hacc hl ⟨kp, rfl⟩
        rw [List.length_map, List.take_length] at hacc
        exact hZ _ _ ⟨D, rfl, hacc, kp⟩
    rintro v H4 ⟨D, rfl, hD, k4⟩
    walk_at "go"
    refine via (fun v H' => ∃ (D : Addr) (acc : List V), v = .ref D ∧ H' D = some (.lst acc) ∧ Kp No H4 H' ∧ acc.isEmpty = es.all fun e => !lackB 2 (TL.tl e)) (fun Z hZ => ?_) ?_
    · refine r_lcR ?_
      walk_at "go"
      refine r_len_l (k4.lst hE) ?_
      walk_at "go"
      rw [List.length_map]
      refine lcR (n := es.length) (fun D i acc H' => Kp No H4 H' ∧ acc.isEmpty = (es.take i).all fun e => !lackB 2 (TL.tl e)) (by omega) (fun D hD => ⟨Kp.new Kp.refl hD, rfl⟩) ?_ ?_
      · rintro D2 i acc H' hD2 hi hacc hl ⟨kp, hal⟩
        obtain ⟨e, hei⟩ : ∃ e, es[i]? = some e := ⟨_, List.getElem?_eq_getElem hi⟩
        have hv : (es.map fun e => valV 2 (TL.tl e))[i]? = some (valV 2 (TL.tl e)) := by rw [List.getElem?_map, hei]; rfl
        have hv2 : (es.map V.str)[i]? = some (.str e) := by rw [List.getElem?_map, hei]; rfl
        have hi2 : i < 100000 := by omega
        have step : ((es.take (i + 1)).all fun e => !lackB 2 (TL.tl e)) = (acc.isEmpty && !lackB 2 (TL.tl e)) := by
          rw [List.take_add_one, hei, List.all_append, hal]
          show (_ && (!lackB 2 (TL.tl e) && true)) = _
          rw [Bool.and_true]
        walk_at "go"
        refine r_ixl (kp.lst hD) rfl hv ?_
        walk_at "go"
        cases hv0 : decide (valV 2 (TL.tl e) = .non) with
        | false =>
          refine r_iteF rfl ?_
          walk_at "go"
          refine lc_no hacc hl ⟨kp, ?_⟩
          rw [step]; unfold lackB; rw [hv0]; simp
        | true =>
          refine r_iteT rfl ?_
          walk_at "go"
          refine r_ixl (kp.lst (k4.lst hE)) rfl hv2 ?_
          walk_at "go"
          rw [eq_lit (l := [42]) (by decide +kernel)]
          cases h42 : decide (TL.tl e = [42]) with
          | false =>
            refine r_iteT rfl ?_
            refine r_iteT rfl ?_
            walk_at "go"
            refine lc_yes hacc hl hi2 ⟨Kp.fresh kp hD2, ?_⟩
            rw [step]; unfold lackB; rw [hv0, h42]; simp
          | true =>
            refine r_iteF rfl ?_
            walk_at "go"
            refine r_iteT (by decide) ?_
            walk_at "go"
            refine lc_yes hacc hl hi2 ⟨Kp.fresh kp hD2, ?_⟩
            rw [step]; unfold lackB; rw [hv0, h42]; simp
      · rintro D2 acc H' hD2 hacc hl ⟨kp, hal⟩
        rw [List.take_length] at hal
        exact hZ _ _ ⟨D2, acc, rfl, hacc, kp, hal⟩
    rintro v H5 ⟨D2, acc, rfl, hD2, k5, hal⟩
    walk_at "go"
    have e4 : H5 D = some (.lst (es.map fun e => valV 2 (TL.tl e))) := k5.lst hD
    rw [eq_lit (l := []) rfl]
    rcases parS_cases hA (c := 58) (S := []) (by decide +kernel) with ⟨hp, hsg⟩ | ⟨u, v, hp, rfl, hsg, hv⟩
    · refine r_iteT (decide_eq_true hsg) ?_
      refine r_iteT rfl ?_
      walk_at "go"
      refine kN ?_ _ (by walk_at "kp")
      rw [← partA_eq]
      unfold partA
      rw [hp]
    · refine r_iteF (by rw [hsg]; decide) ?_
      walk_at "go"
      refine r_iteF (by decide) ?_
      walk_at "go"
      rename_i q6 H6 hq6 k6 hq66
      refine r_ne_nil2 (k6.lst hD2) hq66 ?_
      have hp2 : partOf 2 (TL.tl x) = (rdNum v).map fun i => .tuple [.str (ofL u), .int i] := by
        rw [← partA_eq]
        unfold partA
        rw [hp]
        rfl
      rw [hes] at hal e4
      have hal2 : acc.isEmpty = !lackB 2 (TL.tl rs) := by rw [hal]; show (_ && true) = _; rw [Bool.and_true]
      have e5 : H5 D = some (.lst [valV 2 (TL.tl rs)]) := e4
      rw [hv] at hal2 e5
      rw [hal2, lack2]
      rw [val2] at e5
      cases hr2 : rdNum v with
      | none =>
        rw [hr2] at hp2
        refine r_bl (r_iteT rfl ?_)
        walk_at "go"
        exact kN hp2 _ (by walk_at "kp")
      | some i =>
        rw [hr2] at hp2
        refine r_bl (r_iteF rfl ?_)
        walk_at "go"
        rename_i pa Ha hpa ka ea la Hb hla kb eb
        refine r_catT (kb.tup ea) eb (by simp) fun pc Hc kc ec => ?_
        have ev : numV v = .int i := kVs hr2
        rw [ev] at ec
        exact k _ hp2 _ _ (by walk_at "kp") (.tup ec (.cons (.str _ hul) (.cons (.int i) .nil)))
  · refine r_iteT (by decide) ?_
    walk_at "go"
    rename_i q3 H3 hq3 k3 hq33
    obtain ⟨es, hes⟩ : ∃ es : List Str, es = [lo, hi] := ⟨_, rfl⟩
    have hE : H3 q3 = some (.lst (es.map V.str)) := by rw [hes]; exact hq33
    have hEl : ∀ e ∈ es, e.length ≤ 1000000 := by
      rw [hes]; intro e he
      simp only [List.mem_cons, List.not_mem_nil, or_false] at he
      first
        | (rcases he with rfl | rfl <;> omega)
        | (subst he; omega)
    have hE2 : es.length ≤ 2 := by rw [hes]; simp
    refine via (fun v H' => ∃ D, v = .ref D ∧ H' D = some (.lst (es.map fun e => valV 3 (TL.tl e))) ∧ Kp No H3 H') (fun Z hZ => ?_) ?_
    · refine r_lcL ?_
      walk_at "go"
      refine lcL (fun D i acc H' => Kp No H3 H' ∧ acc = (es.take i).map fun e => valV 3 (TL.tl e)) (SqL.of hE) (fun D hD => ⟨Kp.new Kp.refl hD, rfl⟩) (fun D i acc H' hD hp => hp.1.sql (SqL.of hE)) ?_ ?_
      · rintro D i acc z H' hD hi hacc hl ⟨kp, rfl⟩
        rw [List.getElem?_map] at hi
        cases hei : es[i]? with
        | none => rw [hei] at hi; cases hi
        | some e =>
        rw [hei] at hi
        cases hi
        have hm := hEl e (List.mem_of_getElem? hei)
        have hi2 : i < 100000 := by have := (List.getElem?_eq_some_iff.mp hei).1; omega
        walk_at "go"
        rw [eq_lit (l := [42]) (by decide +kernel)]
        walk_at "br"
        · intro h1
          walk_at "go"
          refine r_iteT (by decide) ?_
          walk_at "go"
          refine lc_yes hacc hl hi2 ⟨Kp.fresh kp hD, ?_⟩
          rw [List.take_add_one, hei, List.map_append]
          show _ ++ [_] = _ ++ [valV 3 (TL.tl e)]
          rw [valV_on h1]
        · intro h1
          walk_at "go"
          refine ⟨e, rfl, hm, fun H5 k5 => ?_⟩
          walk_at "go"
          refine lc_yes (k5.lst hacc) hl hi2 ⟨Kp.fresh (kp.trans k5) hD, ?_⟩
          rw [List.take_add_one, hei, List.map_append]
          show _ ++ [_] = _ ++ [valV 3 (TL.tl e)]
          rw [valV_off fun z => h1 z.1]
      · rintro D acc H' hD hacc hl ⟨kp, rfl⟩
        rw [List.length_map, List.take_length] at hacc
        exact hZ _ _ ⟨D, rfl, hacc, kp⟩
    rintro v H4 ⟨D, rfl, hD, k4⟩
    walk_at "go"
    refine via (fun v H' => ∃ (D : Addr) (acc : List V), v = .ref D ∧ H' D = some (.lst acc) ∧ Kp No H4 H' ∧ acc.isEmpty = es.all fun e => !lackB 3 (TL.tl e)) (fun Z hZ => ?_) ?_
    · refine r_lcR ?_
      walk_at "go"
      refine r_len_l (k4.lst hE) ?_
      walk_at "go"
      rw [List.length_map]
      refine lcR (n := es.length) (fun D i acc H' => Kp No H4 H' ∧ acc.isEmpty = (es.take i).all fun e => !lackB 3 (TL.tl e)) (by omega) (fun D hD => ⟨Kp.new Kp.refl hD, rfl⟩) ?_ ?_
      · rintro D2 i acc H' hD2 hi hacc hl ⟨kp, hal⟩
        obtain ⟨e, hei⟩ : ∃ e, es[i]? = some e := ⟨_, List.getElem?_eq_getElem hi⟩
        have hv : (es.map fun e => valV 3 (TL.tl e))[i]? = some (valV 3 (TL.tl e)) := by rw [List.getElem?_map, hei]; rfl
        have hv2 : (es.map V.str)[i]? = some (.str e) := by rw [List.getElem?_map, hei]; rfl
        have hi2 : i < 100000 := by omega
        have step : ((es.take (i + 1)).all fun e => !lackB 3 (TL.tl e)) = (acc.isEmpty && !lackB 3 (TL.tl e)) := by
          rw [List.take_add_one, hei, List.all_append, hal]
          show (_ && (!lackB 3 (TL.tl e) && true)) = _
          rw [Bool.and_true]
        walk_at "go"
        refine r_ixl (kp.lst hD) rfl hv ?_
        walk_at "go"
        cases hv0 : decide (valV 3 (TL.tl e) = .non) with
        | false =>
          refine r_iteF rfl ?_
          walk_at "go"
          refine lc_no hacc hl ⟨kp, ?_⟩
          rw [step]; unfold lackB; rw [hv0]; simp
        | true =>
          refine r_iteT rfl ?_
          walk_at "go"
          refine r_ixl (kp.lst (k4.lst hE)) rfl hv2 ?_
          walk_at "go"
          rw [eq_lit (l := [42]) (by decide +kernel)]
          cases h42 : decide (TL.tl e = [42]) with
          | false =>
            refine r_iteT rfl ?_
            refine r_iteT rfl ?_
            walk_at "go"
            refine lc_yes hacc hl hi2 ⟨Kp.fresh kp hD2, ?_⟩
            rw [step]; unfold lackB; rw [hv0, h42]; simp
          | true =>
            refine r_iteF rfl ?_
            walk_at "go"
            refine r_iteF (by decide) ?_
            refine lc_no hacc hl ⟨kp, ?_⟩
            rw [step]; unfold lackB; rw [hv0, h42]; simp
      · rintro D2 acc H' hD2 hacc hl ⟨kp, hal⟩
        rw [List.take_length] at hal
        exact hZ _ _ ⟨D2, acc, rfl, hacc, kp, hal⟩
    rintro v H5 ⟨D2, acc, rfl, hD2, k5, hal⟩
    walk_at "go"
    have e4 : H5 D = some (.lst (es.map fun e => valV 3 (TL.tl e))) := k5.lst hD
    rw [eq_lit (l := []) rfl]
    rcases parS_cases hA (c := 58) (S := []) (by decide +kernel) with ⟨hp, hsg⟩ | ⟨u, v, hp, rfl, hsg, hv⟩
    · refine r_iteT (decide_eq_true hsg) ?_
      refine r_iteT rfl ?_
      walk_at "go"
      refine kN ?_ _ (by walk_at "kp")
      rw [← partA_eq]
      unfold partA
      rw [hp]
    · refine r_iteF (by rw [hsg]; decide) ?_
      walk_at "go"
      refine r_iteT (by decide) ?_
      walk_at "go"
      rw [eq_lit (l := []) rfl]
      have hp2 : partOf 3 (TL.tl x) = match TL.par [46, 46] [] v with
          | none => none
          | some (lo, hi) => (match rdEnd lo, rdEnd hi with
            | some a, some b => some (.tuple [.str (ofL u), a, b])
            | _, _ => none) := by
        rw [← partA_eq]
        unfold partA
        rw [hp]
        rfl
      have hv' : TL.tl rs = v := hv
      rcases parS_cases hB (c := 46) (S := [46]) (by decide +kernel) with ⟨hpd, hds⟩ | ⟨u2, v2, hpd, rfl, hds, hv2⟩
      · rw [hv'] at hpd
        rw [hpd] at hp2
        refine r_iteT (decide_eq_true hds) ?_
        refine r_iteT rfl ?_
        walk_at "go"
        exact kN hp2 _ (by walk_at "kp")
      · rw [hv'] at hpd
        rw [hpd] at hp2
        dsimp only at hp2
        have hv2' : TL.tl hi = v2 := hv2
        refine r_iteF (by rw [hds]; decide) ?_
        walk_at "go"
        rename_i q6 H6 hq6 k6 hq66
        refine r_ne_nil2 (k6.lst hD2) hq66 ?_
        rw [hes] at hal e4
        have hal2 : acc.isEmpty = (!lackB 3 (TL.tl (ofL u2)) && !lackB 3 (TL.tl hi)) := by rw [hal]; show (_ && (_ && true)) = _; rw [Bool.and_true]
        have e5 : H5 D = some (.lst [valV 3 (TL.tl (ofL u2)), valV 3 (TL.tl hi)]) := e4
        rw [tl_ofL, hv2'] at hal2 e5
        rw [hal2, lack3, lack3]
        cases hr1 : rdEnd u2 with
        | none =>
          rw [hr1] at hp2
          refine r_bl (r_iteT rfl ?_)
          walk_at "go"
          exact kN hp2 _ (by walk_at "kp")
        | some d1 =>
          cases hr2 : rdEnd v2 with
          | none =>
            rw [hr1, hr2] at hp2
            refine r_bl (r_iteT rfl ?_)
            walk_at "go"
            exact kN hp2 _ (by walk_at "kp")
          | some d2 =>
            rw [hr1, hr2] at hp2
            rw [val3 hr1, val3 hr2] at e5
            refine r_bl (r_iteF rfl ?_)
            walk_at "go"
            rename_i pa Ha hpa ka ea la Hb hla kb eb
            refine r_catT (kb.tup ea) eb (by simp) fun pc Hc kc ec => ?_
            exact k _ hp2 _ _ (by walk_at "kp") (.tup ec (.cons (.str _ hul) (.cons (endV_dat hr1) (.cons (endV_dat hr2) .nil))))

end

section
variable {P : Program} {w : World} {K : PySem.W.Frag} {mg : Str → Option Value} {base : Heap} {c : Ads}
theorem c__law_whole (T : Txt K mg c) : Cal P w K mg base CX0 1 "_law_whole" ["found"] (spBool1 wholeD) := by
  refine T.d__law_whole.cal sc__law_whole sp1_len (fun f cdv A outer s H vs Q E hr h => ?_)
  obtain ⟨v, rfl, ex, d, hd, k⟩ := h
  refine ⟨_, (pss_one (ps_ret (pe_and (pe_callB (call_isi2 (K := K)) (by rfl) T.n_isinstance (by decide +kernel) (pa_cons (pv 0) (pa_cons (pe_bltn (v := .ty "int") (by rfl) T.n_int (by decide +kernel) rfl) pa_nil))) (pe_one (pe_not (pe_callB (call_isi2 (K := K)) (by rfl) T.n_isinstance (by decide +kernel) (pa_cons (pv 0) (pa_cons (pe_bltn (v := .ty "bool") (by rfl) T.n_bool (by decide +kernel) rfl) pa_nil)))))))), ?_⟩
  walk_at "go"
  walk_at "br"
  · intro h1
    walk_at "go"
    exact fin_b k (by rw [wholeD_eq, h1]; rfl) (by walk_at "kp")
  · intro h1
    exact fin_b k (by rw [wholeD_eq, h1]; rfl) (by walk_at "kp")
theorem c__law_is_field (T : Txt K mg c) : Cal P w K mg base CX0 1 "_law_is_field" ["thing"] (spBool1 fieldD) := by
  refine T.d__law_is_field.cal sc__law_is_field sp1_len (fun f cdv A outer s H vs Q E hr h => ?_)
  obtain ⟨v, rfl, ex, d, hd, k⟩ := h
  refine ⟨_, (pss_cons (ps_if (PW.pt (pw_or (pt_not (pt_val (pe_callB (call_isi2 (K := K)) (by rfl) T.n_isinstance (by decide +kernel) (pa_cons (pv 0) (pa_cons (pe_bltn (v := .ty "str") (by rfl) T.n_str (by decide +kernel) rfl) pa_nil))) (by intro _; rfl))) (pw_or (pt_cmpR op_lt2 (pe_callB (call_len2 (K := K)) (by rfl) T.n_len (by decide +kernel) (pa_cons (pv 0) pa_nil)) pe_int (nomark _)) (pw_or1 (pt_cmpR op_gt2 (pe_callB (call_len2 (K := K)) (by rfl) T.n_len (by decide +kernel) (pa_cons (pv 0) pa_nil)) pe_int (nomark _)))))) (pss_one (ps_ret pe_bl)) pss_nil)
    (pss_one (ps_ret (pe_cmpR (op_eq2 (K := K) hr.units) (pe_lc (own := [("sign", 1)]) (by rfl) sc__law_is_field.nd (pi_any (K := K) (pv 0)) (blkOk_by (own := [("sign", 1)]) (N := ["thing", "sign"]) (sc := defScope s__law_is_field) (by decide +kernel)) (fun _ _ _ _ _ => (pg_name (i := 1) sc__law_is_field.nd rfl (by first | exact Or.inl rfl | exact Or.inr rfl))) (fun _ _ _ _ _ => (pts_one (pt_cmpR (op_nin2 (K := K)) (pv 1) pe_str (by rfl)))) (fun _ _ _ _ _ => (pv 1))) (pe_lst pa_nil) (nomark _))))), ?_⟩
  walk_at "go"
  walk_at "br"
  · intro h1
    walk_at "go"
    have e : fieldD d = false := by cases d <;> first | rfl | cases h1
    exact fin_b k e (by walk_at "kp")
  · intro h1
    obtain ⟨x, rfl, rfl, hx⟩ := hd.strI h1
    have hx2 : x.cps.toList.length = x.length := Array.length_toList
    have key : fieldD (.str x) = (!x.cps.toList.isEmpty && decide (x.cps.toList.length ≤ 8) && x.cps.toList.all fun c => decide (c ∈ lettersL)) := rfl
    walk_at "go"
    walk_at "br"
    · intro h2
      walk_at "go"
      refine fin_b k ?_ (by walk_at "kp")
      have e : x.cps.toList = [] := List.eq_nil_of_length_eq_zero (by omega)
      rw [key, e]; rfl
    · intro h2
      walk_at "go"
      walk_at "br"
      · intro h3
        walk_at "go"
        refine fin_b k ?_ (by walk_at "kp")
        rw [key, decide_eq_false (show ¬ x.cps.toList.length ≤ 8 by omega), Bool.and_false, Bool.false_and]
      · intro h3
        walk_at "go"
        have e1 : (!x.cps.toList.isEmpty) = true := by
          cases e : x.cps.toList with
          | nil => rw [e] at hx2; simp at hx2; omega
          | cons _ _ => rfl
        rw [e1, decide_eq_true (show x.cps.toList.length ≤ 8 by omega), Bool.true_and, Bool.true_and] at key
        refine via (fun v H' => ∃ (D : Addr) (acc : List V), v = .ref D ∧ H' D = some (.lst acc) ∧ Kp No H H' ∧ acc.isEmpty = x.cps.toList.all fun c => decide (c ∈ lettersL)) (fun Z hZ => ?_) ?_
        · refine r_lcS ?_
          walk_at "go"
          refine lcS (fun D i acc H' => Kp No H H' ∧ acc.isEmpty = (x.cps.toList.take i).all fun c => decide (c ∈ lettersL)) (fun D hD => ⟨by walk_at "kp", rfl⟩) ?_ ?_
          · rintro D i acc d H' hD hi hacc hl ⟨kp, hal⟩
            have hi2 : i < 100000 := by
              have h8 := (List.getElem?_eq_some_iff.mp hi).1
              omega
            walk_at "go"
            walk_at "br"
            · intro h7
              walk_at "go"
              refine lc_yes hacc hl hi2 ⟨Kp.fresh kp hD, ?_⟩
              rw [List.take_add_one, hi, List.all_append]
              show _ = (_ && (decide (d ∈ lettersL) && true))
              rw [decide_eq_false (show ¬ d ∈ lettersL from h7)]
              cases acc <;> simp
            · intro h7
              refine lc_no hacc hl ⟨kp, ?_⟩
              rw [List.take_add_one, hi, List.all_append, hal]
              show _ = (_ && (decide (d ∈ lettersL) && true))
              rw [decide_eq_true (show d ∈ lettersL from h7)]; simp
          · rintro D acc H' hD hacc hl ⟨kp, hal⟩
            rw [List.take_length] at hal
            exact hZ _ _ ⟨D, acc, rfl, hacc, kp, hal⟩
        rintro v H1 ⟨D, acc, rfl, hD, k1, hal⟩
        walk_at "go"
        rename_i q2 H2 hq2 k2 hq22
        refine r_eq_nil (SqL.of (k2.lst hD)) hq22 ?_
        exact fin_b k (by rw [key, hal]) (by walk_at "kp")
abbrev spIsSpan : Sp := sp2 fun v u H Q _ => ∃ ex a b, Dat ex H v a ∧ Dat ex H u b ∧ ∀ H', Kp No H H' → Q (.bl (spanD (.tuple [a, b]))) H'
theorem c__law_is_span (T : Txt K mg c) : Cal P w K mg base CX0 2 "_law_is_span" ["low", "high"] spIsSpan := by
  refine T.d__law_is_span.cal sc__law_is_span sp2_len (fun f cdv A outer s H vs Q E hr h => ?_)
  obtain ⟨v, u, rfl, ex, a, b, ha, hb, k⟩ := h
  refine ⟨_, (pss_cons (ps_for PassesOwn.never rfl (pi_any (K := K) (pe_lst (pa_cons (pv 0) (pa_cons (pv 1) pa_nil)))) (pg_name (i := 2) sc__law_is_span.nd rfl (by first | exact Or.inl rfl | exact Or.inr rfl))
      (pss_one (ps_if (PW.pt (pw_and (pt_cmp (pc_notN (pv 2)) rfl) (pw_and1 (pt_not (pt_val (pe_cal (c__law_whole T) (hr.mono (by first | decide | omega)) pass0 (pa_cons (pv 2) pa_nil)) (by intro _; rfl)))))) (pss_one (ps_ret pe_bl)) pss_nil)))
    (pss_one (ps_ret (pe_or (pe_cmp (pc_isN (pv 0)) rfl) (pe_or (pe_cmp (pc_isN (pv 1)) rfl) (pe_one (pe_cmpR op_le2 (pv 0) (pv 1) (nomark _)))))))), ?_⟩
  walk_at "go"
  have hds : Dats ex H [v, u] [a, b] := .cons ha (.cons hb .nil)
  refine r_forL ?_
  walk_at "go"
  rename_i q1 H1 hq1 k1 hq11
  refine lpL (fun i σ' H' => Kp No H1 H' ∧ (∃ o, σ' = [some v, some u, o]) ∧ ([a, b].take i).all endD = true) (SqL.of hq11) ⟨Kp.refl, ⟨none, rfl⟩, rfl⟩ (fun i σ' H' hp => hp.1.sql (SqL.of hq11)) ?_ ?_
  · rintro i z σ' H' hi ⟨kp, ⟨o, rfl⟩, hall⟩
    obtain ⟨dz, hdz, hz0⟩ := hds.get hi
    have hz : Dat ex H' z dz := by walk_at "dat"
    walk_at "go"
    have step : ∀ x, endD dz = x → ([a, b].take (i + 1)).all endD = x := fun x hx => by
      rw [List.take_add_one, hdz, List.all_append, hall, ← hx]
      simp
    have bad : endD dz = false → spanD (.tuple [a, b]) = false := fun hbd => by
      have hm : dz ∈ ([a, b] : List PyData) := List.mem_of_getElem? hdz
      simp only [List.mem_cons, List.not_mem_nil, or_false] at hm
      rcases hm with rfl | rfl <;> simp [spanD, hbd]
    walk_at "br"
    · intro h3
      walk_at "go"
      walk_at "br"
      · intro h4
        walk_at "go"
        refine fin_b k (bad ?_) (by walk_at "kp")
        cases dz <;> first | rfl | (cases hz; exact absurd rfl h3) | cases h4
      · intro h4
        walk_at "go"
        refine ⟨by walk_at "kp", ⟨_, rfl⟩, step true ?_⟩
        cases dz <;> first | rfl | cases h4
    · intro h3
      walk_at "go"
      refine ⟨by walk_at "kp", ⟨_, rfl⟩, step true ?_⟩
      subst h3
      cases hz
      rfl
  · rintro σ' H' ⟨kp, ⟨o, rfl⟩, hall⟩
    have h12 : endD a = true ∧ endD b = true := by simpa using hall
    have endI : ∀ {x : V} {d : PyData}, Dat ex H x d → endD d = true → ¬ x = .non → ∃ i, x = .int i ∧ d = .int i := fun hx he hn => by
      cases hx <;> first | exact ⟨_, rfl, rfl⟩ | exact absurd rfl hn | cases he
    walk_at "go"
    walk_at "br"
    · intro h5
      subst h5
      cases ha
      refine fin_b k ?_ (by walk_at "kp")
      show (endD .none && endD b && leD .none b) = true
      rw [h12.2]; rfl
    · intro h5
      walk_at "go"
      walk_at "br"
      · intro h6
        subst h6
        cases hb
        refine fin_b k ?_ (by walk_at "kp")
        show (endD a && endD .none && leD a .none) = true
        rw [h12.1]
        cases a <;> rfl
      · intro h6
        obtain ⟨i, rfl, rfl⟩ := endI ha h12.1 h5
        obtain ⟨j, rfl, rfl⟩ := endI hb h12.2 h6
        walk_at "go"
        exact fin_b k rfl (by walk_at "kp")
/-- a wish (3), a piece (2) -/
def tailOf (n : Nat) : PyData → Bool := if n = 3 then spanOf else numOf
def madeD (n : Nat) : PyData → Bool
  | .tuple ds => partsGo n Str.empty ds && ds.all (tailOf n)
  | _ => false
theorem madeD3 (d : PyData) : madeD 3 d = wishD d := by cases d <;> rfl
theorem madeD2 (d : PyData) : madeD 2 d = pieceD d := by cases d <;> rfl
abbrev spIsMade : Sp := sp2 fun v z H Q _ => ∃ ex d, ∃ n : Nat, Dat ex H v d ∧ z = .int n ∧ (n = 2 ∨ n = 3) ∧ (∀ ds, d = .tuple ds → ds.length ≤ 2000000) ∧ ∀ H', Kp No H H' → Q (.bl (madeD n d)) H'
def madeGo (n : Nat) (last : Str) (t : List PyData) : Bool := partsGo n last t && t.all (tailOf n)
theorem madeGo_bad {n : Nat} {last : Str} {d : PyData} {t : List PyData} (h : partsGo n last (d :: t) = false) : madeGo n last (d :: t) = false := by unfold madeGo; rw [h]; rfl
theorem madeGo_ok {n : Nat} {last f : Str} {es t : List PyData} (h1 : es.length + 1 = n) (h2 : fieldS f = true) (h3 : ltS last f = true) : madeGo n last (.tuple (.str f :: es) :: t) = (tailOf n (.tuple (.str f :: es)) && madeGo n f t) := by
  unfold madeGo
  rw [partsGo_ok h1 h2 h3, List.all_cons]
  cases partsGo n f t <;> cases tailOf n (.tuple (.str f :: es)) <;> rfl
theorem ltS_emp {f : Str} (h : fieldS f = true) : ltS Str.empty f = true := by
  unfold fieldS at h
  obtain ⟨h1, _⟩ := fieldL_iff.mp h
  unfold ltS
  show decide (([] : List Nat) < f.cps.toList) = true
  cases e : f.cps.toList with
  | nil => exact absurd e h1
  | cons x r => exact decide_eq_true (List.nil_lt_cons x r)
theorem r_ix_t' {K : PySem.W.Frag} {H : Hp} {Q : VK} {p : Addr} {xs : List V} {n : Nat} {v : V} {j : Int} (ej : j = (n : Int)) (e : H p = some (.tup xs)) (hv : xs[n]? = some v) (h : Q v H) : rIx K (.ref p) (.int j) H Q := by subst ej; exact r_ix_t e hv h
theorem c__law_is_made (T : Txt K mg c) : Cal P w K mg base CX0 3 "_law_is_made" ["thing", "size"] spIsMade := by
  refine T.d__law_is_made.cal sc__law_is_made sp2_len (fun f cdv A outer s H vs Q E hr h => ?_)
  obtain ⟨v, _, rfl, ex, d, n, hd, rfl, hn, hsz, k⟩ := h
  refine ⟨_, (pss_cons (ps_if (pt_not (pt_val (pe_callB (call_isi2 (K := K)) (by rfl) T.n_isinstance (by decide +kernel) (pa_cons (pv 0) (pa_cons (pe_bltn (v := .ty "tuple") (by rfl) T.n_tuple (by decide +kernel) rfl) pa_nil))) (by intro _; rfl))) (pss_one (ps_ret pe_bl)) pss_nil)
    (pss_cons (ps_for PassesOwn.never rfl (pi_range1 (by rfl) T.n_range (pa_cons (pe_callB (call_len2 (K := K)) (by rfl) T.n_len (by decide +kernel) (pa_cons (pv 0) pa_nil)) pa_nil)) (pg_name (i := 2) sc__law_is_made.nd rfl (by first | exact Or.inl rfl | exact Or.inr rfl))
      (pss_cons (ps_set (i := 3) sc__law_is_made.nd rfl (by first | exact Or.inl rfl | exact Or.inr rfl) (pe_ix (ix_any (K := K)) (pv 0) (pv 2) (fun _ _ => rfl)))
      (pss_cons (ps_if (PW.pt (pw_or (pt_not (pt_val (pe_callB (call_isi2 (K := K)) (by rfl) T.n_isinstance (by decide +kernel) (pa_cons (pv 3) (pa_cons (pe_bltn (v := .ty "tuple") (by rfl) T.n_tuple (by decide +kernel) rfl) pa_nil))) (by intro _; rfl))) (pw_or (pt_cmpR (op_ne2 (K := K) hr.units) (pe_callB (call_len2 (K := K)) (by rfl) T.n_len (by decide +kernel) (pa_cons (pv 3) pa_nil)) (pv 1) (nomark _)) (pw_or1 (pt_not (pt_val (pe_cal (c__law_is_field T) (hr.mono (by first | decide | omega)) pass0 (pa_cons (pe_ix (ix_any (K := K)) (pv 3) pe_int (fun _ _ => rfl)) pa_nil)) (by intro _; rfl))))))) (pss_one (ps_ret pe_bl)) pss_nil)
      (pss_cons (ps_if (PW.pt (pw_and (pt_cmpR op_gt2 (pv 2) pe_int (nomark _)) (pw_and1 (pt_not (pt_cmpR op_lt2 (pe_ix (ix_any (K := K)) (pe_ix (ix_any (K := K)) (pv 0) (pe_op op_sub (pv 2) pe_int) (fun _ _ => rfl)) pe_int (fun _ _ => rfl)) (pe_ix (ix_any (K := K)) (pv 3) pe_int (fun _ _ => rfl)) (nomark _)))))) (pss_one (ps_ret pe_bl)) pss_nil)
      (pss_one (ps_if (PW.pt (pw_or (PW.pt (pw_and (pt_cmpR (op_eq2 (K := K) hr.units) (pv 1) pe_int (nomark _)) (pw_and1 (pt_not (pt_val (pe_cal (c__law_is_span T) (hr.mono (by first | decide | omega)) pass0 (pa_cons (pe_ix (ix_any (K := K)) (pv 3) pe_int (fun _ _ => rfl)) (pa_cons (pe_ix (ix_any (K := K)) (pv 3) pe_int (fun _ _ => rfl)) pa_nil))) (by intro _; rfl)))))) (pw_or1 (PW.pt (pw_and (pt_cmpR (op_eq2 (K := K) hr.units) (pv 1) pe_int (nomark _)) (pw_and1 (pt_not (pt_val (pe_cal (c__law_whole T) (hr.mono (by first | decide | omega)) pass0 (pa_cons (pe_ix (ix_any (K := K)) (pv 3) pe_int (fun _ _ => rfl)) pa_nil)) (by intro _; rfl))))))))) (pss_one (ps_ret pe_bl)) pss_nil))))))
    (pss_one (ps_ret pe_bl)))), ?_⟩
  walk_at "go"
  walk_at "br"
  · intro h1
    walk_at "go"
    have e : madeD n d = false := by cases d <;> first | rfl | cases h1
    exact fin_b k e (by walk_at "kp")
  · intro h1
    obtain ⟨a, xs, ds, rfl, rfl, ha, hds⟩ := hd.tupI h1
    have hsz := hsz ds rfl
    have hlx := hds.len
    walk_at "go"
    refine r_forR ?_
    walk_at "go"
    refine lpR (n := xs.length) (fun i σ' H' => ∃ last o2 o3, σ' = [some (.ref a), some (.int n), o2, o3] ∧ Kp No H H' ∧ madeD n (.tuple ds) = madeGo n last (ds.drop i) ∧ (i = 0 → last = Str.empty) ∧ (0 < i → ∃ r, ds[i - 1]? = some (.tuple (.str last :: r))))
      (by omega) ⟨Str.empty, none, none, rfl, Kp.refl, rfl, fun _ => rfl, fun z => absurd z (by decide)⟩ ?_ ?_
    · rintro i σ' H' hi ⟨last, o2, o3, rfl, kp, hgo, hl0, hl1⟩
      have hi' : i < ds.length := by omega
      have hdz : ds[i]? = some ds[i] := List.getElem?_eq_getElem hi'
      have hxz : xs[i]? = some xs[i] := List.getElem?_eq_getElem hi
      generalize ds[i] = dz at hdz
      generalize xs[i] = z at hxz
      obtain ⟨dz', hdz', hz0⟩ := hds.get hxz
      rw [hdz] at hdz'
      cases hdz'
      have hz : Dat ex H' z dz := by walk_at "dat"
      have edrop : ds.drop i = dz :: ds.drop (i + 1) := by
        obtain ⟨hlt, e⟩ := List.getElem?_eq_some_iff.mp hdz
        rw [List.drop_eq_getElem_cons hlt, e]
      rw [edrop] at hgo
      walk_at "go"
      refine r_ix_t (kp.tup ha) hxz ?_
      walk_at "go"
      walk_at "br"
      · intro h2
        walk_at "go"
        refine fin_b k ?_ (by walk_at "kp")
        rw [hgo]
        refine madeGo_bad ?_
        cases dz <;> first | rfl | cases h2
      · intro h2
        obtain ⟨b, ys, es, rfl, rfl, hb, hes⟩ := hz.tupI h2
        have hl := hes.len
        walk_at "go"
        walk_at "br"
        · intro h3
          walk_at "go"
          refine fin_b k ?_ (by walk_at "kp")
          rw [hgo]
          exact madeGo_bad (partsGo_len (by omega))
        · intro h3
          obtain ⟨y0, ys', rfl⟩ : ∃ y0 ys', ys = y0 :: ys' := by
            cases ys with
            | nil => simp at h3; omega
            | cons y0 ys' => exact ⟨y0, ys', rfl⟩
          cases hes with
          | @cons _ _ e0 es' he0 hes' =>
            walk_at "go"
            walk_at "br"
            · intro h4
              walk_at "go"
              refine fin_b k ?_ (by walk_at "kp")
              rw [hgo]
              exact madeGo_bad (partsGo_fld h4)
            · intro h4
              have hstr : isStrD e0 = true := by cases e0 <;> first | rfl | cases h4
              obtain ⟨f0, rfl, rfl, hf0⟩ := he0.strI hstr
              have hlen2 : es'.length + 1 = n := by
                have q := hes'.len
                simp at h3
                omega
              walk_at "go"
              by_cases hi0 : i = 0
              · have h5 : ltS last f0 = true := by rw [hl0 hi0]; exact ltS_emp h4
                refine r_iteF (decide_eq_false (by omega)) ?_
                walk_at "go"
                have edr := madeGo_ok (t := ds.drop (i + 1)) hlen2 h4 h5
                rcases hn with rfl | rfl
                · obtain ⟨y1, rfl⟩ : ∃ y1, ys' = [y1] := by
                    have q := hes'.len
                    match ys', q with
                    | [y1], _ => exact ⟨y1, rfl⟩
                    | [], q => simp at q; omega
                    | _ :: _ :: _, q => simp at q; omega
                  obtain ⟨d1, rfl⟩ : ∃ d1, es' = [d1] := by
                    match es', hlen2 with
                    | [d1], _ => exact ⟨d1, rfl⟩
                  cases hes' with
                  | cons hd1 _ =>
                  refine r_iteF (by decide) ?_
                  walk_at "go"
                  refine r_iteT (by decide) ?_
                  walk_at "go"
                  cases hw : wholeD d1 with
                  | false =>
                    refine r_iteT (by rfl) ?_
                    walk_at "go"
                    refine fin_b k ?_ (by walk_at "kp")
                    rw [hgo, edr, show tailOf 2 (.tuple [.str f0, d1]) = wholeD d1 from rfl, hw]
                    rfl
                  | true =>
                    refine r_iteF (by rfl) ?_
                    walk_at "go"
                    refine ⟨_, _, _, rfl, by walk_at "kp", ?_, fun z => absurd z (by omega), fun _ => ⟨_, hdz⟩⟩
                    rw [hgo, edr, show tailOf 2 (.tuple [.str f0, d1]) = wholeD d1 from rfl, hw]
                    rfl
                · obtain ⟨d1, d2, rfl⟩ : ∃ d1 d2, es' = [d1, d2] := by
                    match es', hlen2 with
                    | [d1, d2], _ => exact ⟨d1, d2, rfl⟩
                  obtain ⟨y1, y2, rfl⟩ : ∃ y1 y2, ys' = [y1, y2] := by
                    have q := hes'.len
                    match ys', q with
                    | [y1, y2], _ => exact ⟨y1, y2, rfl⟩
                    | [], q => simp at q
                    | [_], q => simp at q
                    | _ :: _ :: _ :: _, q => simp at q
                  cases hes' with
                  | cons hd1 hes2 =>
                  cases hes2 with
                  | cons hd2 _ =>
                  refine r_iteT (by decide) ?_
                  walk_at "go"
                  refine ⟨ex, d1, d2, by walk_at "dat", by walk_at "dat", fun H8 k8 => ?_⟩
                  walk_at "go"
                  cases hw : spanD (.tuple [d1, d2]) with
                  | false =>
                    refine r_iteT (by rfl) ?_
                    walk_at "go"
                    refine fin_b k ?_ (by walk_at "kp")
                    rw [hgo, edr, show tailOf 3 (.tuple [.str f0, d1, d2]) = spanD (.tuple [d1, d2]) from rfl, hw]
                    rfl
                  | true =>
                    refine r_iteF (by rfl) ?_
                    walk_at "go"
                    refine r_iteF (by decide) ?_
                    walk_at "go"
                    refine ⟨_, _, _, rfl, by walk_at "kp", ?_, fun z => absurd z (by omega), fun _ => ⟨_, hdz⟩⟩
                    rw [hgo, edr, show tailOf 3 (.tuple [.str f0, d1, d2]) = spanD (.tuple [d1, d2]) from rfl, hw]
                    rfl
              · obtain ⟨r1, hr1⟩ := hl1 (by omega)
                refine r_iteT (decide_eq_true (by omega)) ?_
                walk_at "go"
                have hxp : xs[i - 1]? = some xs[i - 1] := List.getElem?_eq_getElem (by omega)
                generalize xs[i - 1] = zp at hxp
                obtain ⟨dp, hdp, hzp⟩ := hds.get hxp
                rw [hr1] at hdp
                cases hdp
                obtain ⟨bp, yp, rfl, hbp, hep⟩ := hzp.tupE
                cases hep with
                | @cons yp0 ypr _ _ hp0 hpr =>
                cases hp0
                refine r_ix_t' (n := i - 1) (by omega) (Kp.tup (H := H) (ex := ex) (by walk_at "kp") ha) hxp ?_
                walk_at "go"
                cases h5 : ltS last f0 with
                | false =>
                  refine r_iteT (by show (!ltS last f0) = true; rw [h5]; rfl) ?_
                  walk_at "go"
                  refine fin_b k ?_ (by walk_at "kp")
                  rw [hgo]
                  exact madeGo_bad (partsGo_le h5)
                | true =>
                  refine r_iteF (by show (!ltS last f0) = false; rw [h5]; rfl) ?_
                  walk_at "go"
                  have edr := madeGo_ok (t := ds.drop (i + 1)) hlen2 h4 h5
                  rcases hn with rfl | rfl
                  · obtain ⟨y1, rfl⟩ : ∃ y1, ys' = [y1] := by
                      have q := hes'.len
                      match ys', q with
                      | [y1], _ => exact ⟨y1, rfl⟩
                      | [], q => simp at q; omega
                      | _ :: _ :: _, q => simp at q; omega
                    obtain ⟨d1, rfl⟩ : ∃ d1, es' = [d1] := by
                      match es', hlen2 with
                      | [d1], _ => exact ⟨d1, rfl⟩
                    cases hes' with
                    | cons hd1 _ =>
                    refine r_iteF (by decide) ?_
                    walk_at "go"
                    refine r_iteT (by decide) ?_
                    walk_at "go"
                    cases hw : wholeD d1 with
                    | false =>
                      refine r_iteT (by rfl) ?_
                      walk_at "go"
                      refine fin_b k ?_ (by walk_at "kp")
                      rw [hgo, edr, show tailOf 2 (.tuple [.str f0, d1]) = wholeD d1 from rfl, hw]
                      rfl
                    | true =>
                      refine r_iteF (by rfl) ?_
                      walk_at "go"
                      refine ⟨_, _, _, rfl, by walk_at "kp", ?_, fun z => absurd z (by omega), fun _ => ⟨_, hdz⟩⟩
                      rw [hgo, edr, show tailOf 2 (.tuple [.str f0, d1]) = wholeD d1 from rfl, hw]
                      rfl
                  · obtain ⟨d1, d2, rfl⟩ : ∃ d1 d2, es' = [d1, d2] := by
                      match es', hlen2 with
                      | [d1, d2], _ => exact ⟨d1, d2, rfl⟩
                    obtain ⟨y1, y2, rfl⟩ : ∃ y1 y2, ys' = [y1, y2] := by
                      have q := hes'.len
                      match ys', q with
                      | [y1, y2], _ => exact ⟨y1, y2, rfl⟩
                      | [], q => simp at q
                      | [_], q => simp at q
                      | _ :: _ :: _ :: _, q => simp at q
                    cases hes' with
                    | cons hd1 hes2 =>
                    cases hes2 with
                    | cons hd2 _ =>
                    refine r_iteT (by decide) ?_
                    walk_at "go"
                    refine ⟨ex, d1, d2, by walk_at "dat", by walk_at "dat", fun H8 k8 => ?_⟩
                    walk_at "go"
                    cases hw : spanD (.tuple [d1, d2]) with
                    | false =>
                      refine r_iteT (by rfl) ?_
                      walk_at "go"
                      refine fin_b k ?_ (by walk_at "kp")
                      rw [hgo, edr, show tailOf 3 (.tuple [.str f0, d1, d2]) = spanD (.tuple [d1, d2]) from rfl, hw]
                      rfl
                    | true =>
                      refine r_iteF (by rfl) ?_
                      walk_at "go"
                      refine r_iteF (by decide) ?_
                      walk_at "go"
                      refine ⟨_, _, _, rfl, by walk_at "kp", ?_, fun z => absurd z (by omega), fun _ => ⟨_, hdz⟩⟩
                      rw [hgo, edr, show tailOf 3 (.tuple [.str f0, d1, d2]) = spanD (.tuple [d1, d2]) from rfl, hw]
                      rfl
    · rintro σ' H' ⟨last, o2, o3, rfl, kp, hgo, hl0, hl1⟩
      walk_at "go"
      refine fin_b k ?_ (by walk_at "kp")
      rw [hgo, hlx, List.drop_length]
      rfl

end

section
variable {P : Program} {w : World} {K : PySem.W.Frag} {mg : Str → Option Value} {base : Heap} {c : Ads}
/-- what a part is -/
theorem partOf_kind {n : Int} {w : List Nat} {d : PyData} (h : partOf n w = some d) : ∃ f r, d = .tuple (.str (ofL f) :: r) ∧ (∀ c ∈ f, c ∈ w) ∧ ∀ e ∈ r, e = .none ∨ ∃ i, e = .int i := by
  rw [← partA_eq] at h
  unfold partA at h
  cases hp : TL.par [58] [] w with
  | none => rw [hp] at h; cases h
  | some q =>
    obtain ⟨f, r⟩ := q
    have hf : ∀ c ∈ f, c ∈ w := fun c hc => by
      have e := par_eq _ _ _ _ hp
      rw [List.nil_append] at e
      rw [e]; exact List.mem_append_left _ hc
    rw [hp] at h
    dsimp only at h
    by_cases hn : n = 3
    · rw [if_pos hn] at h
      cases hq : TL.par [46, 46] [] r with
      | none => rw [hq] at h; cases h
      | some q2 =>
        obtain ⟨lo, hi⟩ := q2
        rw [hq] at h
        dsimp only at h
        cases h1 : rdEnd lo with
        | none => rw [h1] at h; cases h
        | some a =>
          cases h2 : rdEnd hi with
          | none => rw [h1, h2] at h; cases h
          | some b =>
            rw [h1, h2] at h
            cases h
            refine ⟨f, [a, b], rfl, hf, fun e he => ?_⟩
            simp only [List.mem_cons, List.not_mem_nil, or_false] at he
            rcases he with rfl | rfl
            · exact rdEnd_kind h1
            · exact rdEnd_kind h2
    · rw [if_neg hn] at h
      cases h1 : rdNum r with
      | none => rw [h1] at h; cases h
      | some i =>
        rw [h1] at h
        cases h
        exact ⟨f, [.int i], rfl, hf, fun e he => .inr ⟨i, List.mem_singleton.mp he⟩⟩
/-- what the law keeps of a word -/
def partV (n : Int) (w : List Nat) : PyData := (partOf n w).getD .none
theorem flat_lay : ∀ {r : List PyData}, (∀ e ∈ r, e = .none ∨ ∃ i, e = .int i) → PyData.canLayAll0 r = true ∧ PyData.depthAll r ≤ 1
  | [], _ => ⟨by simp [PyData.canLayAll0], by simp [PyData.depthAll]⟩
  | e :: r, h => by
    obtain ⟨h1, h2⟩ := flat_lay fun x hx => h x (List.mem_cons_of_mem _ hx)
    rcases h e List.mem_cons_self with rfl | ⟨i, rfl⟩
    · exact ⟨by simp [PyData.canLayAll0, PyData.canLay0, h1], by simp only [PyData.depthAll, PyData.depth]; omega⟩
    · exact ⟨by simp [PyData.canLayAll0, PyData.canLay0, h1], by simp only [PyData.depthAll, PyData.depth]; omega⟩
theorem strOk_low {l : List Nat} (h : low l) : PyData.strOk (ofL l) = true := by
  unfold PyData.strOk
  rw [← Array.all_toList]
  exact List.all_eq_true.mpr fun c hc => decide_eq_true (Nat.lt_trans (h c (by rw [← tl_ofL l]; exact hc)) (by decide))
theorem partV_lay {n : Int} {w : List Nat} (hw : low w) : (partV n w).canLay0 = true ∧ (partV n w).depth ≤ 2 := by
  unfold partV
  cases h : partOf n w with
  | none => exact ⟨by simp [PyData.canLay0], by simp [PyData.depth]⟩
  | some d =>
    obtain ⟨f, r, rfl, hf, hr⟩ := partOf_kind h
    obtain ⟨h1, h2⟩ := flat_lay hr
    have hs := strOk_low (l := f) fun c hc => hw c (hf c hc)
    exact ⟨by simp [PyData.canLay0, PyData.canLayAll0, hs, h1], by simp only [Option.getD_some, PyData.depth, PyData.depthAll]; omega⟩
theorem pvs_shaped {n : Int} {ws : List (List Nat)} (hw : ∀ w ∈ ws, low w) : SeqAt.shaped (.list (ws.map (partV n))) = true := by
  have go : ∀ ws : List (List Nat), (∀ w ∈ ws, low w) → PyData.canLayAll0 (ws.map (partV n)) = true ∧ PyData.depthAll (ws.map (partV n)) ≤ 2 := fun ws => by
    induction ws with
    | nil => intro _; exact ⟨by simp [PyData.canLayAll0], by simp [PyData.depthAll]⟩
    | cons a r ih =>
      intro h
      obtain ⟨a1, a2⟩ := partV_lay (n := n) (h a List.mem_cons_self)
      obtain ⟨r1, r2⟩ := ih fun x hx => h x (List.mem_cons_of_mem _ hx)
      exact ⟨by simp [PyData.canLayAll0, a1, r1], by simp only [List.map_cons, PyData.depthAll]; omega⟩
  obtain ⟨g1, g2⟩ := go ws hw
  unfold SeqAt.shaped
  rw [show (PyData.list (ws.map (partV n))).canLay0 = true by simp [PyData.canLay0, g1], Bool.true_and]
  exact decide_eq_true (by simp only [PyData.depth]; omega)
def isNoD : PyData → Bool
  | .none => true
  | _ => false
theorem mapO_pv {n : Int} : ∀ ws : List (List Nat), mapO (partOf n) ws = if (ws.map (partV n)).any isNoD = true then none else some (ws.map (partV n))
  | [] => rfl
  | w :: r => by
    rw [mapO, mapO_pv r, List.map_cons, List.any_cons]
    unfold partV
    cases h : partOf n w with
    | none => rfl
    | some d =>
      obtain ⟨f, q, rfl, _⟩ := partOf_kind h
      show _ = if ((false || _) = true) then none else _
      rw [Bool.false_or]
      by_cases hr : ((r.map fun w => (partOf n w).getD .none).any isNoD) = true
      · rw [if_pos hr, if_pos hr]
      · rw [if_neg hr, if_neg hr]
        rfl
/-- what a text writes: the wish (3), the piece (2) -/
def rdOf (n : Nat) (l : List Nat) : Option (List PyData) := if n = 3 then rdWish l else rdPiece l
theorem rdOf_dash {n : Nat} : rdOf n [45] = some [] := by
  unfold rdOf rdWish rdPiece
  by_cases h : n = 3
  · rw [if_pos h]; rfl
  · rw [if_neg h]; rfl
theorem rdOf_eq {n : Nat} (hn : n = 2 ∨ n = 3) {l : List Nat} (h : l ≠ [45]) : rdOf n l = (let ds := (TL.spl [32] 0 [] l).map (partV n); if ds.any isNoD = true then none else if madeD n (.tuple ds) = true then some ds else none) := by
  have hm := mapO_pv (n := (n : Int)) (TL.spl [32] 0 [] l)
  dsimp only
  rcases hn with rfl | rfl
  · show rdPiece l = _
    have e : partOf ((2 : Nat) : Int) = rdPiecePart := funext fun w => if_neg (by decide)
    rw [e] at hm
    unfold rdPiece
    rw [if_neg h, hm, madeD2]
    by_cases h2 : (((TL.spl [32] 0 [] l).map (partV ((2 : Nat) : Int))).any isNoD) = true
    · rw [if_pos h2, if_pos h2]
    · rw [if_neg h2, if_neg h2]
  · show rdWish l = _
    have e : partOf ((3 : Nat) : Int) = rdWishPart := funext fun w => if_pos (by decide)
    rw [e] at hm
    unfold rdWish
    rw [if_neg h, hm, madeD3]
    by_cases h2 : (((TL.spl [32] 0 [] l).map (partV ((3 : Nat) : Int))).any isNoD) = true
    · rw [if_pos h2, if_pos h2]
    · rw [if_neg h2, if_neg h2]

end

section
variable {P : Program} {w : World} {K : PySem.W.Frag} {mg : Str → Option Value} {base : Heap} {c : Ads}
abbrev spLawRead : Sp := sp2 fun v z H Q _ => ∃ x, ∃ n : Nat, v = .str x ∧ z = .int n ∧ (n = 2 ∨ n = 3) ∧ x.length ≤ 900000 ∧ low (TL.tl x) ∧ (∀ ds, rdOf n (TL.tl x) = some ds → ∀ v' H', Kp No H H' → Dat All H' v' (.tuple ds) → Q v' H') ∧ (rdOf n (TL.tl x) = none → ∀ H', Kp No H H' → Q .non H')
theorem any_eqv (ds : List PyData) : (ds.any fun z => PyData.eqv z .none) = ds.any isNoD := congrArg ds.any (funext fun d => by rw [eqv_none]; cases d <;> rfl)
theorem c__law_read (T : Txt K mg c) : Cal P w K mg base CX0 4 "_law_read" ["text", "size"] spLawRead := by
  refine T.d__law_read.cal sc__law_read sp2_len (fun f cdv A outer s H vs Q E hr h => ?_)
  obtain ⟨v, z, rfl, x, n, rfl, rfl, hn, hx, hlow, k, kN⟩ := h
  refine ⟨_, (pss_cons (ps_if (pt_cmpR (op_eq2 (K := K) hr.units) (pv 0) pe_str (nomark _)) (pss_one (ps_ret (pe_tup pa_nil))) pss_nil)
    (pss_cons (ps_setLc (i := 2) (own := [("word", 3)]) (by rfl) sc__law_read.nd rfl rfl (sw_true rfl rfl rfl (by decide +kernel)) (pi_any (K := K) (pe_split2 (pv 0) pe_str)) (blkOk_by (own := [("word", 3)]) (N := ["text", "size", "parts", "word"]) (sc := defScope s__law_read) (by decide +kernel)) (fun _ _ _ _ _ => (pg_name (i := 3) sc__law_read.nd rfl (by first | exact Or.inl rfl | exact Or.inr rfl))) (fun _ _ _ _ _ => pts_nil) (fun _ _ _ _ _ => (pe_cal (c__law_part_of T) (hr.mono (by first | decide | omega)) pass0 (pa_cons (pv 3) (pa_cons (pv 1) pa_nil)))))
    (pss_cons (ps_if (PW.pt (pw_or (pt_cmpR (op_inD2 (K := K) (u65 hr)) pe_non (pv 2) (by rfl)) (pw_or1 (pt_not (pt_val (pe_cal (c__law_is_made T) (hr.mono (by first | decide | omega)) pass0 (pa_cons (pe_callTy (call_tuple2 (K := K)) (by rfl) T.n_tuple (by decide +kernel) (pa_cons (pv 2) pa_nil)) (pa_cons (pv 1) pa_nil))) (by intro _; rfl)))))) (pss_one (ps_ret pe_non)) pss_nil)
    (pss_one (ps_ret (pe_callTy (call_tuple2 (K := K)) (by rfl) T.n_tuple (by decide +kernel) (pa_cons (pv 2) pa_nil))))))), ?_⟩
  walk_at "go"
  rw [eq_lit (l := [45]) (by decide +kernel)]
  walk_at "br"
  · intro h1
    walk_at "go"
    rename_i p1 H1 hp1 k1 hp11
    exact k [] (by rw [h1]; exact rdOf_dash) _ _ (by walk_at "kp") (.tup hp11 .nil)
  · intro h1
    walk_at "go"
    have hws : (Txt.split x (Str.ofString " ")).map TL.tl = TL.spl [32] 0 [] (TL.tl x) := by
      have e : TL.tl (Str.ofString " ") = [32] := by decide +kernel
      rw [split_tl x (by decide +kernel) (by decide +kernel), e]
    have hcount := split_count x (y := Str.ofString " ") (by decide +kernel) (by decide +kernel)
    have hle : ∀ w ∈ Txt.split x (Str.ofString " "), w.length ≤ x.length := fun w hw => split_le x (by decide +kernel) (by decide +kernel) hw
    have hrd := rdOf_eq hn h1
    rw [← hws] at hrd
    have hlo : ∀ w ∈ (Txt.split x (Str.ofString " ")).map TL.tl, low w := fun w hw => by rw [hws] at hw; exact spl_low hlow hw
    obtain ⟨ws, hws0⟩ : ∃ ws, Txt.split x (Str.ofString " ") = ws := ⟨_, rfl⟩
    rw [hws0] at hws hcount hle hrd hlo
    refine via (fun v H' => ∃ (D : Addr) (acc : List V), v = .ref D ∧ H' D = some (.lst acc) ∧ Kp No H H' ∧ Dats All H' acc ((ws.map TL.tl).map (partV n))) (fun Z hZ => ?_) ?_
    · refine r_lcL ?_
      walk_at "go"
      refine r_split (by decide +kernel) (by omega) fun p H1 hp0 k1 hp1 => ?_
      rw [hws0] at hp1
      refine lcL (fun D i acc H' => Kp No H1 H' ∧ Dats All H' acc (((ws.map TL.tl).take i).map (partV n))) (SqL.of hp1) (fun D hD => ⟨Kp.new Kp.refl hD, .nil⟩) (fun D i acc H' hD hp => hp.1.sql (SqL.of hp1)) ?_ ?_
      · rintro D i acc z H' hD hi hacc hl ⟨kp, hds⟩
        rw [List.getElem?_map] at hi
        cases hwi : ws[i]? with
        | none => rw [hwi] at hi; cases hi
        | some e =>
        rw [hwi] at hi
        cases hi
        have hm := hle e (List.mem_of_getElem? hwi)
        have hi2 : i < 10000000 := by have := (List.getElem?_eq_some_iff.mp hwi).1; omega
        have hwi2 : (ws.map TL.tl)[i]? = some (TL.tl e) := by rw [List.getElem?_map, hwi]; rfl
        have hstep : ((ws.map TL.tl).take (i + 1)).map (partV n) = ((ws.map TL.tl).take i).map (partV n) ++ [partV n (TL.tl e)] := by
          rw [List.take_add_one, hwi2, List.map_append]; rfl
        walk_at "go"
        refine ⟨e, n, rfl, rfl, by omega, by omega, fun d hd v' H2 k2 hv => ?_, fun hd H2 k2 => ?_⟩
        · refine lc_yesB (k2.lst hacc) hl hi2 ⟨Kp.fresh (kp.trans k2) hD, ?_⟩
          have e : partV n (TL.tl e) = d := by unfold partV; rw [hd]; rfl
          rw [hstep, e]
          exact Dats.all (Dats.append (hds.all k2) (Dats.one hv)) (Kp.app (k2.lst hacc))
        · refine lc_yesB (k2.lst hacc) hl hi2 ⟨Kp.fresh (kp.trans k2) hD, ?_⟩
          have e : partV n (TL.tl e) = .none := by unfold partV; rw [hd]; rfl
          rw [hstep, e]
          exact Dats.all (Dats.append (hds.all k2) (Dats.one .non)) (Kp.app (k2.lst hacc))
      · rintro D acc H' hD hacc hl ⟨kp, hds⟩
        have e : (ws.map TL.tl).take (ws.map V.str).length = ws.map TL.tl := by
          rw [List.length_map, ← List.length_map (f := TL.tl), List.take_length]
        rw [e] at hds
        exact hZ _ _ ⟨D, acc, rfl, hacc, k1.trans kp, hds⟩
    rintro v H1 ⟨D, acc, rfl, hD, k1, hacc⟩
    walk_at "go"
    have hsh := pvs_shaped (n := (n : Int)) hlo
    have hdl : ((ws.map TL.tl).map (partV n)).length ≤ 2000000 := by rw [List.length_map, List.length_map]; omega
    obtain ⟨ds, hds0⟩ : ∃ ds, (ws.map TL.tl).map (partV n) = ds := ⟨_, rfl⟩
    have hrd : rdOf n (TL.tl x) = if ds.any isNoD = true then none else if madeD n (.tuple ds) = true then some ds else none := by rw [hrd, hds0]
    rw [hds0] at hacc hsh hdl
    refine ⟨.none, ds, Dat.dp (ex := All) .non rfl, Dat.dp (ex := No) (.lst (fun z => z) hD (hacc.weak fun _ _ => trivial)) (noDict hsh), by decide, hsh, ?_⟩
    rw [any_eqv]
    cases h2 : ds.any isNoD with
    | true =>
      refine r_bl (r_iteT rfl ?_)
      refine r_iteT rfl ?_
      walk_at "go"
      exact kN (by rw [hrd, if_pos h2]) _ (by walk_at "kp")
    | false =>
      refine r_bl (r_iteF rfl ?_)
      walk_at "go"
      rename_i q H2 hq k2 hq2
      refine ⟨All, .tuple ds, n, .tup hq2 (hacc.all k2), rfl, hn, fun ds' e => by cases e; exact hdl, fun H3 k3 => ?_⟩
      walk_at "go"
      rw [if_neg (by rw [h2]; decide)] at hrd
      cases h3 : madeD n (.tuple ds) with
      | false =>
        rw [h3, if_neg (by decide)] at hrd
        refine r_iteT rfl ?_
        walk_at "go"
        exact kN hrd _ (by walk_at "kp")
      | true =>
        rw [h3, if_pos rfl] at hrd
        refine r_iteF rfl ?_
        walk_at "go"
        rename_i q2 H4 hq2' k4 hq4
        exact k ds hrd _ _ (by walk_at "kp") (.tup hq4 (((hacc.all k2).all k3).all k4))

end

section
variable {P : Program} {w : World} {K : PySem.W.Frag} {mg : Str → Option Value} {base : Heap} {c : Ads}
abbrev spNumberL : Sp := sp1 fun v H Q _ => ∃ b g l B, v = .ref b ∧ BagL H b g l (B + 3) ∧ ∀ (i : Int) H', i.natAbs < 10 ^ 15 → Kp (bx b g) H H' → BagL H' b g l B → Q (.int i) H'
theorem c__law_numberL (T : Txt K mg c) : Cal P w K mg base CX0 2 "_law_number" ["bag"] spNumberL := by
  refine T.d__law_number.cal sc__law_number sp1_len (fun f cdv A outer s H vs Q E hr h => ?_)
  obtain ⟨v, rfl, b, g, l, B, rfl, hB, k⟩ := h
  have e15 : (10 : Nat) ^ 15 = 1000000000000000 := by decide
  have e15' : (10 : Int) ^ 15 = 1000000000000000 := by decide
  refine ⟨_, (pss_cons (ps_set (i := 1) sc__law_number.nd rfl (by first | exact Or.inl rfl | exact Or.inr rfl) (pe_cal (c__law_drawL T) (hr.mono (by first | decide | omega)) pass0 (pa_cons (pv 0) (pa_cons pe_int pa_nil))))
    (pss_cons (ps_if (pt_cmpR (op_eq2 (K := K) hr.units) (pv 1) pe_int (nomark _)) (pss_one (ps_ret (pe_op op_sub (pe_cal (c__law_drawL T) (hr.mono (by first | decide | omega)) pass0 (pa_cons (pv 0) (pa_cons pe_int pa_nil))) pe_int))) pss_nil)
    (pss_cons (ps_if (pt_cmpR (op_eq2 (K := K) hr.units) (pv 1) pe_int (nomark _)) (pss_one (ps_ret (pe_op op_sub (pe_cal (c__law_drawL T) (hr.mono (by first | decide | omega)) pass0 (pa_cons (pv 0) (pa_cons pe_int pa_nil))) pe_int))) pss_nil)
    (pss_cons (ps_if (pt_cmpR (op_eq2 (K := K) hr.units) (pv 1) pe_int (nomark _)) (pss_one (ps_ret (pe_op op_mul2 (pe_ix (ix_any (K := K)) (pe_lst (pa_cons pe_int (pa_cons (pe_un un_neg pe_int) pa_nil))) (pe_cal (c__law_drawL T) (hr.mono (by first | decide | omega)) pass0 (pa_cons (pv 0) (pa_cons pe_int pa_nil))) (fun _ _ => rfl)) (pe_op op_sub (pe_op op_sub (pe_op op_pow2 pe_int pe_int) pe_int) (pe_cal (c__law_drawL T) (hr.mono (by first | decide | omega)) pass0 (pa_cons (pv 0) (pa_cons pe_int pa_nil))))))) pss_nil)
    (pss_cons (ps_set (i := 2) sc__law_number.nd rfl (by first | exact Or.inl rfl | exact Or.inr rfl) (pe_cal (c__law_drawL T) (hr.mono (by first | decide | omega)) pass0 (pa_cons (pv 0) (pa_cons (pe_op op_pow2 pe_int pe_int) pa_nil))))
    (pss_one (ps_ret (pe_ifExp (pt_cmpR (op_eq2 (K := K) hr.units) (pv 1) pe_int (nomark _)) (pv 2) (pe_op op_sub pe_int (pv 2)))))))))), ?_⟩
  walk_at "go"
  refine ⟨b, g, l, B + 2, 5, rfl, rfl, by decide, by decide, hB, fun r H1 r0 r1 k1 B1 => ?_⟩
  walk_at "go"
  walk_at "br"
  · intro _
    walk_at "go"
    refine ⟨b, g, l, B + 1, 9, rfl, rfl, by decide, by decide, B1, fun r H2 r0 r1 k2 B2 => ?_⟩
    walk_at "go"
    exact k _ _ (by omega) (k1.trans k2) (B2.less (by omega))
  · intro _
    walk_at "go"
    walk_at "br"
    · intro _
      walk_at "go"
      refine ⟨b, g, l, B + 1, 2000, rfl, rfl, by decide, by decide, B1, fun r H2 r0 r1 k2 B2 => ?_⟩
      walk_at "go"
      exact k _ _ (by omega) (k1.trans k2) (B2.less (by omega))
    · intro _
      walk_at "go"
      walk_at "br"
      · intro _
        walk_at "go"
        rename_i p Hp hpn kp hpl
        refine ⟨b, g, l, B + 1, 2, rfl, rfl, by decide, by decide, B1.kp kp, fun r H2 r0 r1 k2 B2 => ?_⟩
        have hp2 : H2 p = some (.lst [.int 1, .int (-1)]) := k2.at hpl (B1.bag.old hpn)
        have key : ∀ s : Int, (s = 1 ∨ s = -1) → ([V.int 1, V.int (-1)] : List V)[r.toNat]? = some (.int s) → rIx K (.ref p) (.int r) H2 = rIx K (.ref p) (.int r) H2 := fun _ _ _ => rfl
        obtain ⟨s, hs, hv⟩ : ∃ s : Int, (s = 1 ∨ s = -1) ∧ ([V.int 1, V.int (-1)] : List V)[r.toNat]? = some (.int s) := by
          have : r = 0 ∨ r = 1 := by omega
          rcases this with rfl | rfl
          · exact ⟨1, .inl rfl, rfl⟩
          · exact ⟨-1, .inr rfl, rfl⟩
        refine r_ixl (n := r.toNat) hp2 (by omega) hv ?_
        walk_at "go"
        refine r_pow (n := 15) (by decide) (by decide) ?_
        walk_at "go"
        refine ⟨b, g, l, B, 3, rfl, rfl, by decide, by decide, B2, fun q H3 q0 q1 k3 B3 => ?_⟩
        walk_at "go"
        have c2 : (2 : Nat) ^ 200 = 1606938044258990275541962092341162602522202993782792835301376 := by decide +kernel
        refine r_mul (by omega) (by omega) ?_
        refine k _ _ ?_ (((k1.trans kp.no).trans k2).trans k3) B3
        rcases hs with rfl | rfl <;> omega
      · intro _
        walk_at "go"
        refine r_pow (n := 15) (by decide) (by decide) ?_
        walk_at "go"
        refine ⟨b, g, l, B + 1, 10 ^ 15, rfl, rfl, by decide, by decide, B1, fun r H2 r0 r1 k2 B2 => ?_⟩
        walk_at "go"
        walk_at "br"
        · intro _
          walk_at "go"
          exact k _ _ (by omega) (k1.trans k2) (B2.less (by omega))
        · intro _
          walk_at "go"
          exact k _ _ (by omega) (k1.trans k2) (B2.less (by omega))
theorem old_kp {H H' : Hp} {b g : Addr} {B : Nat} (k : Kp (bx b g) H H') (hB : Bag H' b g B) {a : Addr} (h : H a ≠ none) : H' a ≠ none := fun z => by
  have nb := hB.old z
  cases q : H a with
  | none => exact h q
  | some o =>
    have := k a o q fun x => absurd x nb
    rw [z] at this
    cases this

end

section
variable {P : Program} {w : World} {K : PySem.W.Frag} {mg : Str → Option Value} {base : Heap} {c : Ads}
def oldH (H : Hp) : Addr → Prop := fun a => H a ≠ none
def wN : Nat → Nat
  | 0 => 60
  | n + 1 => 4 * wN n + 10
def cst : Nat → Nat
  | 0 => 4
  | m + 1 => 2 + 3 * cst m
structure Pl (n : Nat) (d : PyData) : Prop where
  sh : d.showable = true
  lf : d.leavesShort 40 = true
  wt : d.weight ≤ wN n
  dp : d.depth ≤ 2 * n + 1
  tx : ∀ x, d = .str x → TX 1 x
theorem cst_ge : ∀ n, 4 ≤ cst n
  | 0 => Nat.le_refl _
  | n + 1 => by have := cst_ge n; show 4 ≤ 2 + 3 * cst n; omega
theorem wN_ge : ∀ n, 60 ≤ wN n
  | 0 => Nat.le_refl _
  | n + 1 => by have := wN_ge n; show 60 ≤ 4 * wN n + 10; omega
theorem Pl.non {n : Nat} : Pl n .none := ⟨by simp [PyData.showable], by simp [PyData.leavesShort], by simp [PyData.weight], by simp [PyData.depth], fun x e => nomatch e⟩
theorem Pl.bl {n : Nat} {b : Bool} : Pl n (.bool b) := ⟨by simp [PyData.showable], by simp [PyData.leavesShort], by simp [PyData.weight], by simp [PyData.depth], fun x e => nomatch e⟩
theorem Pl.str {n : Nat} {x : Str} (h : TX 1 x) : Pl n (.str x) := ⟨by simp [PyData.showable], by
  rw [PyData.leavesShort]
  exact List.all_eq_true.mpr fun c hc => decide_eq_true (Nat.lt_trans (h.2 c hc) (by decide)), by
  have h1 : x.cps.size ≤ 1 := h.1
  have := wN_ge n
  rw [PyData.weight]; omega, by simp [PyData.depth], fun y e => by cases e; exact h⟩
theorem Pl.emp {n : Nat} : Pl n (.dict []) := ⟨by simp [PyData.showable, PyData.showableKv], by simp [PyData.leavesShort, PyData.leavesShortKv], by simp [PyData.weight, PyData.weightKv], by simp [PyData.depth, PyData.depthKv], fun x e => nomatch e⟩
theorem Pl.int {n : Nat} {i : Int} (h : i.natAbs < 10 ^ 15) : Pl n (.int i) := by
  have hlog : i.natAbs.log2 < 50 := by
    rcases Nat.eq_zero_or_pos i.natAbs with z | z
    · rw [z]; decide
    · exact (Nat.log2_lt (by omega)).mpr (Nat.lt_of_lt_of_le h (by decide))
  refine ⟨?_, ?_, ?_, by simp [PyData.depth], fun x e => nomatch e⟩
  · rw [PyData.showable]; exact decide_eq_true (by omega)
  · rw [PyData.leavesShort]
    refine decide_eq_true ?_
    rw [PyData.shown_int]
    have := numS_len (k := 15) (by decide) h
    exact Nat.le_trans this (by decide)
  · have := wN_ge n
    rw [PyData.weight]
    split <;> omega
theorem Pl.all {n : Nat} : ∀ {ds : List PyData}, (∀ d ∈ ds, Pl n d) → PyData.showableAll ds = true ∧ PyData.leavesShortAll 40 ds = true ∧ PyData.weightAll ds ≤ ds.length * (wN n + 1) ∧ PyData.depthAll ds ≤ 2 * n + 1
  | [], _ => ⟨by simp [PyData.showableAll], by simp [PyData.leavesShortAll], by simp [PyData.weightAll], by simp [PyData.depthAll]⟩
  | d :: r, h => by
    obtain ⟨a1, a2, a3, a4⟩ := Pl.all (n := n) (ds := r) fun x hx => h x (List.mem_cons_of_mem _ hx)
    obtain ⟨b1, b2, b3, b4, _⟩ := h d List.mem_cons_self
    refine ⟨by simp [PyData.showableAll, a1, b1], by simp [PyData.leavesShortAll, a2, b2], ?_, by rw [PyData.depthAll]; omega⟩
    rw [PyData.weightAll, List.length_cons, Nat.succ_mul]
    omega
theorem Pl.lst {n : Nat} {ds : List PyData} (h : ∀ d ∈ ds, Pl n d) (hl : ds.length ≤ 3) : Pl (n + 1) (.list ds) := by
  obtain ⟨a1, a2, a3, a4⟩ := Pl.all h
  have hm : ds.length * (wN n + 1) ≤ 3 * (wN n + 1) := Nat.mul_le_mul_right _ hl
  refine ⟨by rw [PyData.showable]; exact a1, by rw [PyData.leavesShort]; exact a2, ?_, by rw [PyData.depth]; omega, fun x e => nomatch e⟩
  rw [PyData.weight]; show _ ≤ 4 * wN n + 10; omega
theorem Pl.tup {n : Nat} {ds : List PyData} (h : ∀ d ∈ ds, Pl n d) (hl : ds.length ≤ 3) : Pl (n + 1) (.tuple ds) := by
  obtain ⟨a1, a2, a3, a4⟩ := Pl.all h
  have hm : ds.length * (wN n + 1) ≤ 3 * (wN n + 1) := Nat.mul_le_mul_right _ hl
  refine ⟨by rw [PyData.showable]; exact a1, by rw [PyData.leavesShort]; exact a2, ?_, by rw [PyData.depth]; omega, fun x e => nomatch e⟩
  rw [PyData.weight]; show _ ≤ 4 * wN n + 10; omega
theorem Pl.dct {n : Nat} {ds : List PyData} (h : ∀ d ∈ ds, Pl n d) (hl : ds.length ≤ 3) : Pl (n + 1) (.dict [(.str (Str.ofString "a"), .list ds)]) := by
  obtain ⟨a1, a2, a3, a4⟩ := Pl.all h
  have hm : ds.length * (wN n + 1) ≤ 3 * (wN n + 1) := Nat.mul_le_mul_right _ hl
  have hw : (Str.ofString "a").cps.size = 1 := by decide +kernel
  have hs : ((Str.ofString "a").cps.toList.all fun c => decide (c < 16 ^ 8)) = true := by decide +kernel
  refine ⟨by simp [PyData.showable, PyData.showableKv, a1], by simp only [PyData.leavesShort, PyData.leavesShortKv, a2, hs]; rfl, ?_, by simp only [PyData.depth, PyData.depthKv]; omega, fun x e => nomatch e⟩
  simp only [PyData.weight, PyData.weightKv, hw]; show _ ≤ 4 * wN n + 10; omega
def spPlain : Nat → Sp
  | 0 => sp2 fun _ _ _ _ _ => False
  | m + 1 => sp2 fun v z H Q _ => ∃ b g l B, v = .ref b ∧ z = .int (m : Nat) ∧ BagL H b g l (B + cst m) ∧ ∀ y d H', Pl m d → Dat (oldH H) H' y d → Kp (bx b g) H H' → BagL H' b g l B → Q y H'
theorem c__law_plain (T : Txt K mg c) : ∀ n, Cal P w K mg base CX0 (n + 3) "_law_plain" ["bag", "deep"] (spPlain n)
  | 0 => T.d__law_plain.cal sc__law_plain sp2_len (fun f cdv A outer s H vs Q E hr h => by
      obtain ⟨_, _, _, z⟩ := h
      cases z)
  | n + 1 => by
    have ih := c__law_plain T n
    refine T.d__law_plain.cal sc__law_plain sp2_len (fun f cdv A outer s H vs Q E hr h => ?_)
    obtain ⟨v, z, rfl, b, g, l, B, rfl, rfl, hB, k⟩ := h
    refine ⟨_, (pss_cons (ps_set (i := 2) sc__law_plain.nd rfl (by first | exact Or.inl rfl | exact Or.inr rfl) (pe_cal (c__law_drawL T) (hr.mono (by first | decide | omega)) pass0 (pa_cons (pv 0) (pa_cons (pe_op (op_add2 (K := K)) pe_int (pe_op op_mul2 pe_int (pe_callTy call_int2 (by rfl) T.n_int (by decide +kernel) (pa_cons (pe_cmpR op_gt2 (pv 1) pe_int (nomark _)) pa_nil)))) pa_nil))))
    (pss_cons (ps_if (pt_cmpR op_lt2 (pv 2) pe_int (nomark _)) (pss_one (ps_ret (pe_ix (ix_any (K := K)) (pe_lst (pa_cons pe_non (pa_cons pe_bl (pa_cons pe_bl (pa_cons pe_str (pa_cons pe_str (pa_cons pe_dnewK pa_nil))))))) (pv 2) (fun _ _ => rfl)))) pss_nil)
    (pss_cons (ps_if (pt_cmpR (op_eq2 (K := K) hr.units) (pv 2) pe_int (nomark _)) (pss_one (ps_ret (pe_cal (c__law_numberL T) (hr.mono (by first | decide | omega)) pass0 (pa_cons (pv 0) pa_nil)))) pss_nil)
    (pss_cons (ps_setLc (i := 3) (own := [("k", 4)]) (by rfl) sc__law_plain.nd rfl rfl (sw_true rfl rfl rfl (by decide +kernel)) (pi_range1 (by rfl) T.n_range (pa_cons (pe_cal (c__law_drawL T) (hr.mono (by first | decide | omega)) pass0 (pa_cons (pv 0) (pa_cons pe_int pa_nil))) pa_nil)) (blkOk_by (own := [("k", 4)]) (N := ["bag", "deep", "choice", "some", "k"]) (sc := defScope s__law_plain) (by decide +kernel)) (fun _ _ _ _ _ => (pg_name (i := 4) sc__law_plain.nd rfl (by first | exact Or.inl rfl | exact Or.inr rfl))) (fun _ _ _ _ _ => pts_nil) (fun _ _ _ _ _ => (pe_cal ih (hr.mono (by first | decide | omega)) pass0 (pa_cons (pv 0) (pa_cons (pe_op op_sub (pv 1) pe_int) pa_nil)))))
    (pss_cons (ps_if (pt_cmpR (op_eq2 (K := K) hr.units) (pv 2) pe_int (nomark _)) (pss_one (ps_ret (pv 3))) pss_nil)
    (pss_one (ps_ret (pe_ifExp (pt_cmpR (op_eq2 (K := K) hr.units) (pv 2) pe_int (nomark _)) (pe_callTy (call_tuple2 (K := K)) (by rfl) T.n_tuple (by decide +kernel) (pa_cons (pv 3) pa_nil)) (pe_disp (pps_cons pe_str (pv 3) pps_nil) (by rfl) (by rfl) (fun z => by cases z) (by decide)))))))))), ?_⟩
    walk_at "go"
    refine r_int_b ?_
    obtain ⟨e, he⟩ : ∃ e : Int, (if decide (0 < (n : Int)) = true then (1 : Int) else 0) = e := ⟨_, rfl⟩
    rw [he]
    have e01 : 0 ≤ e ∧ e ≤ 1 ∧ (e = 1 → 0 < n) := by
      subst he
      by_cases hn : 0 < n
      · rw [decide_eq_true (show 0 < (n : Int) by omega), if_pos rfl]; omega
      · rw [decide_eq_false (show ¬ 0 < (n : Int) by omega), if_neg (by decide)]; omega
    clear he
    refine r_mul (by omega) (by omega) ?_
    walk_at "go"
    obtain ⟨c1, hc1⟩ : ∃ c1, cst n = c1 + 1 := by
      cases n with
      | zero => exact ⟨3, rfl⟩
      | succ m => exact ⟨1 + 3 * cst m, by show 2 + _ = _; omega⟩
    have hB0 : BagL H b g l ((B + c1) + 1) := hB.less (by omega)
    refine ⟨b, g, l, _, _, rfl, rfl, by omega, by omega, hB0, fun r H1 r0 r1 k1 B1 => ?_⟩
    walk_at "go"
    walk_at "br"
    · intro h1
      walk_at "go"
      rename_i d0 Hd hd0 kd ed p Hq hp kp ep
      have hnd : ¬ oldH H d0 := fun z => z (Kp.free k1 hd0 (B1.bag.old hd0))
      have kk : Kp (bx b g) H Hq := (k1.trans kd.no).trans kp.no
      have BB : BagL Hq b g l B := ((B1.kp kd).kp kp).less (by omega)
      have t0 : TX 1 (Str.ofString "") := TX.lit (by decide +kernel)
      have ta : TX 1 (Str.ofString "a") := TX.lit (by decide +kernel)
      rcases (show r = 0 ∨ r = 1 ∨ r = 2 ∨ r = 3 ∨ r = 4 ∨ r = 5 by omega) with rfl | rfl | rfl | rfl | rfl | rfl
      · exact r_ixl (n := 0) ep rfl rfl (k _ _ _ Pl.non .non kk BB)
      · exact r_ixl (n := 1) ep rfl rfl (k _ _ _ Pl.bl (.bl _) kk BB)
      · exact r_ixl (n := 2) ep rfl rfl (k _ _ _ Pl.bl (.bl _) kk BB)
      · exact r_ixl (n := 3) ep rfl rfl (k _ _ _ (Pl.str t0) (.str _ (Nat.le_trans t0.1 (by decide))) kk BB)
      · exact r_ixl (n := 4) ep rfl rfl (k _ _ _ (Pl.str ta) (.str _ (Nat.le_trans ta.1 (by decide))) kk BB)
      · exact r_ixl (n := 5) ep rfl rfl (k _ _ _ Pl.emp (.dct (kvs := []) hnd (kp.at ed fun z => z) .nil) kk BB)
    · intro h1
      walk_at "go"
      walk_at "br"
      · intro h2
        walk_at "go"
        refine ⟨b, g, l, B, rfl, B1.less (by have := cst_ge n; omega), fun i H2 hi k2 B2 => ?_⟩
        exact k _ _ _ (Pl.int hi) (.int i) (k1.trans k2) B2
      · intro h2
        obtain ⟨m, rfl⟩ : ∃ m, n = m + 1 := ⟨n - 1, by omega⟩
        have hc2 : c1 = 3 * cst m + 1 := by have : cst (m + 1) = 2 + 3 * cst m := rfl; omega
        subst hc2
        walk_at "go"
        refine via (fun v H' => ∃ (D : Addr) (acc : List V) (ds : List PyData), v = .ref D ∧ H' D = some (.lst acc) ∧ Kp (bx b g) H H' ∧ BagL H' b g l B ∧ Dats (oldH H) H' acc ds ∧ ds.length ≤ 3 ∧ H D = none ∧ ∀ d ∈ ds, Pl m d) (fun Z hZ => ?_) ?_
        · refine r_lcR ?_
          walk_at "go"
          refine ⟨b, g, l, B + 3 * cst m, 4, rfl, rfl, by decide, by decide, B1, fun q H2 q0 q1 k2 B2 => ?_⟩
          walk_at "go"
          obtain ⟨zz, rfl⟩ : ∃ z : Nat, q = (z : Int) := ⟨q.toNat, by omega⟩
          have k12 := k1.trans k2
          refine lcR (n := zz) (fun D i acc H' => Kp (bx b g) H2 H' ∧ BagL H' b g l (B + (3 - i) * cst m) ∧ D ≠ l ∧ ∃ ds, Dats (fun a => oldH H a ∨ a = D) H' acc ds ∧ ds.length = i ∧ ∀ d ∈ ds, Pl m d) (by omega)
            (fun D hD => ⟨Kp.new Kp.refl hD, (B2.kp (Kp.new Kp.refl hD)).less (by omega), B2.ne_new hD, [], .nil, rfl, fun d h => by cases h⟩) ?_ ?_
          · rintro D i acc H' hD hi hacc hl ⟨kp, B3, nl, ds, hds, hlen, hall⟩
            obtain ⟨s, hs⟩ : ∃ s, 3 - i = s + 1 := ⟨2 - i, by omega⟩
            have hs2 : (s + 1) * cst m = s * cst m + cst m := Nat.succ_mul ..
            rw [hs, hs2, ← Nat.add_assoc] at B3
            walk_at "go"
            refine ⟨_, _, rfl, b, g, l, B + s * cst m, rfl, by rw [show ((m + 1 : Nat) : Int) - 1 = (m : Int) by omega], B3, fun y d H3 hpl hdat k3 B4 => ?_⟩
            walk_at "go"
            have hDb : ¬ bx b g D := B2.bag.old hD
            have hacc3 : H3 D = some (.lst acc) := k3.at hacc hDb
            have k02 : Kp (bx b g) H H' := k12.trans kp
            have hd2 : Dat (fun a => oldH H a ∨ a = D) H3 y d := hdat.weak fun a ha => by
              rcases ha with ha | rfl
              · exact old_kp k02 B3.bag ha
              · show H' _ ≠ none
                rw [hacc]; exact fun z => nomatch z
            have hds3 : Dats (fun a => oldH H a ∨ a = D) H3 acc ds := hds.mono k3 fun a ha => .inl fun z => hB.bag.old z ha
            refine lc_yes hacc3 hl (by omega) ⟨Kp.fresh (kp.trans k3) hD, ?_, nl, ds ++ [d], (Dats.append hds3 (Dats.one hd2)).mono (ex' := fun a => a = D) (Kp.mut Kp.refl rfl hacc3 rfl) (fun a ha => .inr ha), by rw [List.length_append, hlen]; rfl, fun x hx => ?_⟩
            · have e : 3 - (i + 1) = s := by omega
              rw [e]
              exact B4.wr hDb nl
            · rcases List.mem_append.mp hx with z | z
              · exact hall x z
              · rw [List.mem_singleton.mp z]; exact hpl
          · rintro D acc H' hD hacc hl ⟨kp, B3, nl, ds, hds, hlen, hall⟩
            exact hZ _ _ ⟨D, acc, ds, rfl, hacc, k12.trans kp, B3.less (by omega), hds.weak fun a ha => .inl ha, by omega, Kp.free k12 hD (B2.bag.old hD), hall⟩
        rintro v H2 ⟨D, acc, ds, rfl, hD, k2, B2, hds, hlen, hDn, hall⟩
        have hnD : ¬ oldH H D := fun z => z hDn
        walk_at "go"
        walk_at "br"
        · intro h7
          walk_at "go"
          exact k _ _ _ (Pl.lst hall hlen) (.lst hnD hD hds) k2 B2
        · intro h7
          walk_at "go"
          walk_at "br"
          · intro h8
            walk_at "go"
            rename_i q H3 hq k3 hq3
            exact k _ _ _ (Pl.tup hall hlen) (.tup hq3 (hds.mono k3 fun a ha => ha.elim)) (k2.trans k3.no) (B2.kp k3)
          · intro h8
            walk_at "go"
            intro p hp
            unfold tPairs
            walk_at "go"
            unfold tPairs
            have k3 : Kp No H2 (upd (upd H2 p (.dK [])) p (.dK [(kS (Str.ofString "a"), .ref D)])) := Kp.fresh (Kp.fresh Kp.refl hp) hp
            refine ⟨upd_same, [(kS (Str.ofString "a"), .ref D)], rfl, by show 1 ≤ 15; decide, ?_⟩
            exact k _ (.dict [(.str (Str.ofString "a"), .list ds)]) _ (Pl.dct hall hlen)
              (.dct (kvs := [(kS (Str.ofString "a"), .ref D)]) (ds := [.list ds]) (fun z => z (Kp.free k2 hp (B2.bag.old hp))) upd_same (.cons (.lst hnD (k3.lst hD) (hds.mono k3 fun a ha => ha.elim)) .nil)) (k2.trans k3.no) (B2.kp k3)

end

section
variable {P : Program} {w : World} {K : PySem.W.Frag} {mg : Str → Option Value} {base : Heap} {c : Ads}
/-! the law's own reading of ways, marks and news -/
def lwCounts (S w : List Nat) : Option (List Int) := match mapO rdNum (TL.spl S 0 [] w) with
  | none => none
  | some l => if l.all (fun i => decide (0 ≤ i)) = true then some l else none
def numP (w : List Nat) : PyData := match rdNum w with
  | none => .none
  | some i => .int i
theorem numP_dat {ex : Addr → Prop} {H : Hp} (w : List Nat) : Dat ex H (numV w) (numP w) := by
  unfold numV numP
  cases rdNum w with
  | none => exact .non
  | some i => exact .int i
theorem nums_shaped (ws : List (List Nat)) : SeqAt.shaped (.list (ws.map numP)) = true := by
  obtain ⟨g1, g2⟩ := flat_lay (r := ws.map numP) fun e he => by
    obtain ⟨w, _, rfl⟩ := List.mem_map.mp he
    unfold numP
    cases rdNum w with
    | none => exact .inl rfl
    | some i => exact .inr ⟨i, rfl⟩
  unfold SeqAt.shaped
  rw [show (PyData.list (ws.map numP)).canLay0 = true by simp [PyData.canLay0, g1], Bool.true_and]
  exact decide_eq_true (by simp only [PyData.depth]; omega)
theorem nums_none : ∀ ws : List (List Nat), mapO rdNum ws = if (ws.map numP).any isNoD = true then none else some (ws.map fun w => (rdNum w).getD 0)
  | [] => rfl
  | w :: r => by
    rw [mapO, nums_none r, List.map_cons, List.any_cons, List.map_cons]
    unfold numP
    cases rdNum w with
    | none => rfl
    | some i =>
      show _ = if ((false || _) = true) then none else _
      rw [Bool.false_or]
      by_cases hr : ((r.map fun w => match rdNum w with | none => PyData.none | some i => .int i).any isNoD) = true
      · rw [if_pos hr, if_pos hr]
      · rw [if_neg hr, if_neg hr]; rfl
abbrev spCounts : Sp := sp2 fun v z H Q _ => ∃ x y, v = .str x ∧ z = .str y ∧ x.length ≤ 900000 ∧ TL.tl y ≠ [] ∧ y.cps.all (· < 256) = true ∧ (y.length == 0) = false ∧
  (∀ l, lwCounts (TL.tl y) (TL.tl x) = some l → ∀ p H', H p = none → Kp No H H' → H' p = some (.lst (l.map V.int)) → Q (.ref p) H') ∧ (lwCounts (TL.tl y) (TL.tl x) = none → ∀ H', Kp No H H' → Q .non H')
theorem c__law_counts (T : Txt K mg c) : Cal P w K mg base CX0 2 "_law_counts" ["text", "by"] spCounts := by
  refine T.d__law_counts.cal sc__law_counts sp2_len (fun f cdv A outer s H vs Q E hr h => ?_)
  obtain ⟨v, z, rfl, x, y, rfl, rfl, hx, hy1, hy2, hy3, k, kN⟩ := h
  refine ⟨_, (pss_cons (ps_setLc (i := 2) (own := [("word", 3)]) (by rfl) sc__law_counts.nd rfl rfl (sw_true rfl rfl rfl (by decide +kernel)) (pi_any (K := K) (pe_split2 (pv 0) (pv 1))) (blkOk_by (own := [("word", 3)]) (N := ["text", "by", "found", "word"]) (sc := defScope s__law_counts) (by decide +kernel)) (fun _ _ _ _ _ => (pg_name (i := 3) sc__law_counts.nd rfl (by first | exact Or.inl rfl | exact Or.inr rfl))) (fun _ _ _ _ _ => pts_nil) (fun _ _ _ _ _ => (pe_cal (c__law_value T) (hr.mono (by first | decide | omega)) pass0 (pa_cons (pv 3) pa_nil))))
    (pss_one (ps_ret (pe_ifExp (PW.pt (pw_or (pt_cmpR (op_inD2 (K := K) (u65 hr)) pe_non (pv 2) (by rfl)) (pw_or1 (pt_cmpR op_lt2 (pe_callB (cr_minL (K := K) rfl) (by rfl) T.n_min (by decide +kernel) (pa_cons (pv 2) pa_nil)) pe_int (nomark _))))) pe_non (pv 2))))), ?_⟩
  walk_at "go"
  have hws : (Txt.split x y).map TL.tl = TL.spl (TL.tl y) 0 [] (TL.tl x) := split_tl x hy1 hy2
  have hcount := split_count x (y := y) hy1 hy2
  have hle : ∀ w ∈ Txt.split x y, w.length ≤ x.length := fun w hw => split_le x hy1 hy2 hw
  obtain ⟨ws, hws0⟩ : ∃ ws, Txt.split x y = ws := ⟨_, rfl⟩
  rw [hws0] at hws hcount hle
  refine via (fun v H' => ∃ D : Addr, v = .ref D ∧ H D = none ∧ H' D = some (.lst (ws.map fun w => numV (TL.tl w))) ∧ Kp No H H') (fun Z hZ => ?_) ?_
  · refine r_lcL ?_
    walk_at "go"
    refine r_split hy3 (by omega) fun p H1 hp0 k1 hp1 => ?_
    rw [hws0] at hp1
    refine lcL (fun D i acc H' => Kp No H1 H' ∧ acc = (ws.take i).map fun w => numV (TL.tl w)) (SqL.of hp1) (fun D hD => ⟨Kp.new Kp.refl hD, rfl⟩) (fun D i acc H' hD hp => hp.1.sql (SqL.of hp1)) ?_ ?_
    · rintro D i acc z H' hD hi hacc hl ⟨kp, rfl⟩
      rw [List.getElem?_map] at hi
      cases hwi : ws[i]? with
      | none => rw [hwi] at hi; cases hi
      | some e =>
      rw [hwi] at hi
      cases hi
      have hm := hle e (List.mem_of_getElem? hwi)
      have hi2 : i < 10000000 := by have := (List.getElem?_eq_some_iff.mp hwi).1; omega
      walk_at "go"
      refine ⟨e, rfl, by omega, fun H2 k2 => ?_⟩
      walk_at "go"
      refine lc_yesB (k2.lst hacc) hl hi2 ⟨Kp.fresh (kp.trans k2) hD, ?_⟩
      rw [List.take_add_one, hwi, List.map_append]; rfl
    · rintro D acc H' hD hacc hl ⟨kp, rfl⟩
      rw [List.length_map, List.take_length] at hacc
      exact hZ _ _ ⟨D, rfl, Kp.free k1 hD (fun z => z), hacc, k1.trans kp⟩
  rintro v H1 ⟨D, rfl, hDn, hD, k1⟩
  walk_at "go"
  have hsh := nums_shaped (ws.map TL.tl)
  have hc : lwCounts (TL.tl y) (TL.tl x) = match mapO rdNum (ws.map TL.tl) with
      | none => none
      | some l => if l.all (fun i => decide (0 ≤ i)) = true then some l else none := by
    rw [hws]; rfl
  rw [nums_none] at hc
  have hds : Dats No H1 (ws.map fun w => numV (TL.tl w)) ((ws.map TL.tl).map numP) := by
    rw [List.map_map]
    have go : ∀ l : List Str, Dats No H1 (l.map fun w => numV (TL.tl w)) (l.map (numP ∘ TL.tl)) := fun l => by
      induction l with
      | nil => exact .nil
      | cons a r ih => exact .cons (numP_dat (TL.tl a)) ih
    exact go ws
  refine ⟨.none, (ws.map TL.tl).map numP, Dat.dp (ex := No) .non rfl, Dat.dp (ex := No) (.lst (fun z => z) hD hds) (noDict hsh), by decide, hsh, ?_⟩
  rw [any_eqv]
  cases h2 : ((ws.map TL.tl).map numP).any isNoD with
  | true =>
    rw [h2] at hc
    refine r_bl (r_iteT rfl ?_)
    refine r_iteT rfl ?_
    walk_at "go"
    exact kN hc _ (by walk_at "kp")
  | false =>
    rw [h2, if_neg (by decide)] at hc
    dsimp only at hc
    obtain ⟨l, hl⟩ : ∃ l, ((ws.map TL.tl).map fun w => (rdNum w).getD 0) = l := ⟨_, rfl⟩
    rw [hl] at hc
    have hDl : H1 D = some (.lst (l.map V.int)) := by
      rw [hD, ← hl, List.map_map, List.map_map]
      congr 2
      refine List.map_congr_left fun w hw => ?_
      show numV (TL.tl w) = .int ((rdNum (TL.tl w)).getD 0)
      unfold numV
      cases hr2 : rdNum (TL.tl w) with
      | some i => rfl
      | none =>
        refine absurd h2 ?_
        rw [Bool.not_eq_false]
        exact List.any_eq_true.mpr ⟨.none, List.mem_map.mpr ⟨TL.tl w, List.mem_map_of_mem hw, by unfold numP; rw [hr2]⟩, rfl⟩
    have hne : l ≠ [] := by
      intro z
      rw [z] at hl
      have e1 := List.map_eq_nil_iff.mp hl
      rw [hws] at e1
      exact spl_ne _ _ _ _ e1
    refine r_bl (r_iteF rfl ?_)
    walk_at "go"
    refine ⟨D, l, rfl, SqL.of hDl, List.length_pos_iff.mpr hne, fun m hm1 hm2 => ?_⟩
    walk_at "go"
    by_cases h0 : m < 0
    · refine r_iteT (decide_eq_true h0) ?_
      walk_at "go"
      rw [if_neg fun z => by have := of_decide_eq_true (List.all_eq_true.mp z m hm1); omega] at hc
      exact kN hc _ (by walk_at "kp")
    · refine r_iteF (decide_eq_false h0) ?_
      walk_at "go"
      rw [if_pos (List.all_eq_true.mpr fun i hi => decide_eq_true (by have := hm2 i hi; omega))] at hc
      exact k l hc _ _ hDn k1 hDl

end

section
variable {P : Program} {w : World} {K : PySem.W.Frag} {mg : Str → Option Value} {base : Heap} {c : Ads}
theorem lwCourse_counts (w : List Nat) : lwCourse w = match lwCounts [45] w with
    | none => none
    | some l => if 2 ≤ l.length ∧ l.Nodup then some (l.map PyData.int) else none := by
  unfold lwCourse lwCounts
  have hm : ∀ ws : List (List Nat), mapO rdInt ws = (mapO rdNum ws).map fun l => l.map PyData.int := fun ws => by
    induction ws with
    | nil => rfl
    | cons a r ih =>
      rw [mapO, mapO, ih]
      unfold rdInt
      cases rdNum a with
      | none => rfl
      | some i => cases mapO rdNum r <;> rfl
  rw [hm]
  cases mapO rdNum (TL.spl [45] 0 [] w) with
  | none => rfl
  | some l =>
    have e1 : (l.map PyData.int).all countD = l.all fun i => decide (0 ≤ i) := by rw [List.all_map]; rfl
    have e2 : (l.map PyData.int).map iv = l := by rw [List.map_map]; exact List.map_id l
    show Option.filter _ (some (l.map PyData.int)) = _
    have e3 : wayD (.tuple (l.map PyData.int)) = (decide (2 ≤ l.length) && ((l.all fun i => decide (0 ≤ i)) && decide l.Nodup)) := by
      show (decide (2 ≤ (l.map PyData.int).length) && ((l.map PyData.int).all countD && decide (((l.map PyData.int).map iv).Nodup))) = _
      rw [List.length_map, e1]
      simp only [e2]
    by_cases h0 : (l.all fun i => decide (0 ≤ i)) = true
    · dsimp only
      rw [if_pos h0]
      dsimp only
      by_cases hh : 2 ≤ l.length ∧ l.Nodup
      · rw [if_pos hh]; simp [Option.filter, e3, h0, hh.1, hh.2]
      · rw [if_neg hh]
        have : wayD (.tuple (l.map PyData.int)) = false := by
          rw [e3, h0, Bool.true_and]
          by_cases q : 2 ≤ l.length
          · rw [decide_eq_true q, decide_eq_false fun z => hh ⟨q, z⟩]; rfl
          · rw [decide_eq_false q]; rfl
        simp [Option.filter, this]
    · dsimp only
      rw [if_neg h0]
      have : wayD (.tuple (l.map PyData.int)) = false := by
        rw [e3, Bool.not_eq_true _ |>.mp h0]; simp
      simp [Option.filter, this]
/-- a tuple of what is read, or None -/
abbrev RO (o : Option (List PyData)) (H : Hp) (Q : VK) : Prop := (∀ ds, o = some ds → ∀ p H', Kp No H H' → Dat All H' (.ref p) (.tuple ds) → Q (.ref p) H') ∧ (o = none → ∀ H', Kp No H H' → Q .non H')
abbrev spCourseOf : Sp := sp1 fun v H Q _ => ∃ x, v = .str x ∧ x.length ≤ 7900 ∧ RO (lwCourse (TL.tl x)) H Q
theorem c__law_course_of (T : Txt K mg c) : Cal P w K mg base CX0 3 "_law_course_of" ["word"] spCourseOf := by
  refine T.d__law_course_of.cal sc__law_course_of sp1_len (fun f cdv A outer s H vs Q E hr h => ?_)
  obtain ⟨v, rfl, x, rfl, hx, k, kN⟩ := h
  refine ⟨_, (pss_cons (ps_set (i := 1) sc__law_course_of.nd rfl (by first | exact Or.inl rfl | exact Or.inr rfl) (pe_cal (c__law_counts T) (hr.mono (by first | decide | omega)) pass0 (pa_cons (pv 0) (pa_cons pe_str pa_nil))))
    (pss_one (ps_ret (pe_ifExp (PW.pt (pw_or (pt_cmp (pc_isN (pv 1)) rfl) (pw_or (pt_cmpR op_lt2 (pe_callB (call_len2 (K := K)) (by rfl) T.n_len (by decide +kernel) (pa_cons (pv 1) pa_nil)) pe_int (nomark _)) (pw_or1 (pt_cmpR op_lt2 (pe_lenSetL (K := K) rfl (by rfl) T.n_len (by rfl) T.n_set (pv 1)) (pe_callB (call_len2 (K := K)) (by rfl) T.n_len (by decide +kernel) (pa_cons (pv 1) pa_nil)) (nomark _)))))) pe_non (pe_callTy (call_tuple2 (K := K)) (by rfl) T.n_tuple (by decide +kernel) (pa_cons (pv 1) pa_nil)))))), ?_⟩
  walk_at "go"
  have hcc := lwCourse_counts (TL.tl x)
  have e45 : TL.tl (Str.ofString "-") = [45] := by decide +kernel
  refine ⟨x, _, rfl, rfl, by omega, by decide +kernel, by decide +kernel, by decide +kernel, fun l hl p H1 hp k1 hp1 => ?_, fun hn H1 k1 => ?_⟩
  · rw [e45] at hl
    rw [hl] at hcc
    have hll : l.length ≤ 4000 := by
      unfold lwCounts at hl
      have hc := TL.len_tl x
      cases hm : mapO rdNum (TL.spl [45] 0 [] (TL.tl x)) with
      | none => rw [hm] at hl; cases hl
      | some l2 =>
        have := nums_few hm
        rw [hm] at hl
        dsimp only at hl
        split at hl
        · cases hl; omega
        · cases hl
    walk_at "go"
    refine r_len_l hp1 ?_
    walk_at "go"
    rw [List.length_map]
    by_cases h2 : l.length < 2
    · refine r_iteT (decide_eq_true (by omega)) ?_
      refine r_iteT rfl ?_
      walk_at "go"
      exact kN (by rw [hcc]; exact if_neg fun z => absurd z.1 (by omega)) _ (by walk_at "kp")
    · refine r_iteF (decide_eq_false (by omega)) ?_
      walk_at "go"
      refine r_lenSetL0 ?_
      walk_at "go"
      refine r_lenSetL hp1 hll fun cn hc1 hc2 => ?_
      walk_at "go"
      refine r_len_l hp1 ?_
      walk_at "go"
      rw [List.length_map]
      by_cases h3 : cn < l.length
      · refine r_iteT (decide_eq_true (by omega)) ?_
        walk_at "go"
        exact kN (by rw [hcc]; exact if_neg fun z => absurd (hc1.mpr z.2) (by omega)) _ (by walk_at "kp")
      · refine r_iteF (decide_eq_false (by omega)) ?_
        walk_at "go"
        rename_i q H2 hq k2 hq2
        exact k _ (by rw [hcc]; exact if_pos ⟨by omega, hc1.mp (by omega)⟩) _ _ (k1.trans k2) (.tup hq2 (Dats.ints l))
  · rw [e45] at hn
    rw [hn] at hcc
    walk_at "go"
    exact kN hcc _ (by walk_at "kp")

end

section
variable {P : Program} {w : World} {K : PySem.W.Frag} {mg : Str → Option Value} {base : Heap} {c : Ads}
/-! a part of news, by the law's own reading -/
def cntO (w : List Nat) : Option Int := match rdNum w with
  | some i => if 0 ≤ i then some i else none
  | none => none
def hdD (w : List Nat) : PyData := match cntO w with
  | some i => .list [.int i]
  | none => .none
theorem spl_no {s : Nat} : ∀ (L acc : List Nat), s ∉ acc → ∀ w ∈ TL.spl [s] 0 acc L, s ∉ w
  | [], acc, h, w, hw => by
    rw [TL.spl_nil] at hw
    rw [List.mem_singleton.mp hw]; exact h
  | c :: r, acc, h, w, hw => by
    by_cases hc : c = s
    · subst hc
      rw [TL.spl_hit (show TL.pre [c] (c :: r) = true by simp [TL.pre])] at hw
      rcases List.mem_cons.mp hw with rfl | hw
      · exact h
      · exact spl_no r [] (fun z => nomatch z) w hw
    · rw [TL.spl_miss (TL.pre_of_head [] r hc)] at hw
      refine spl_no r _ (fun z => ?_) w hw
      rcases List.mem_append.mp z with z | z
      · exact h z
      · exact hc (List.mem_singleton.mp z).symm
theorem cutV_to (xs : List V) (n : Nat) : cutV xs none (some (n : Int)) = xs.take n := by
  unfold cutV
  have e := HT.sIx_nat xs.length xs.length n
  rw [e, HT.sIx_none]
  show (xs.drop 0).take (min n xs.length - 0) = _
  rw [List.drop_zero, Nat.sub_zero]
  by_cases h : n ≤ xs.length
  · rw [Nat.min_eq_left h]
  · rw [Nat.min_eq_right (by omega), List.take_length, List.take_of_length_le (by omega)]
theorem spl_free {w : List Nat} (h : 32 ∉ w) : TL.spl [32] 0 [] w = [w] := spl_last0 h
theorem lwCounts_free {w : List Nat} (h : 32 ∉ w) : lwCounts [32] w = (cntO w).map fun i => [i] := by
  unfold lwCounts cntO
  rw [spl_free h]
  cases hr : rdNum w with
  | none => simp [mapO, hr]
  | some i =>
    by_cases h0 : 0 ≤ i <;> simp [mapO, hr, h0]
theorem rdPiece_good {l : List Nat} {ds : List PyData} (h : rdPiece l = some ds) : pieceD (.tuple ds) = true := by
  unfold rdPiece at h
  split at h
  · cases h; rfl
  · split at h
    · split at h
      · cases h; assumption
      · cases h
    · cases h
theorem lwNews_eq (t : List Nat) : lwNews t = match TL.spl [32] 0 [] t with
  | a :: b :: c :: r => (match rdPiece (TL.joinL [32] (c :: r)) with
    | some p => (match cntO a, cntO b with
      | some i, some j => some [.int i, .int j, .tuple p]
      | _, _ => none)
    | none => none)
  | _ => none := by
  unfold lwNews rdNews
  rcases TL.spl [32] 0 [] t with _ | ⟨a, _ | ⟨b, _ | ⟨c, r⟩⟩⟩
  · rfl
  · rfl
  · rfl
  · dsimp only
    cases hp : rdPiece (TL.joinL [32] (c :: r)) with
    | none => cases rdNum a <;> cases rdNum b <;> rfl
    | some p =>
      have hg := rdPiece_good hp
      unfold cntO
      cases rdNum a with
      | none => rfl
      | some i =>
        cases rdNum b with
        | none => by_cases hi : 0 ≤ i <;> simp [hi]
        | some j =>
          have e : newsD (.tuple [.int i, .int j, .tuple p]) = (decide (0 ≤ i) && (decide (0 ≤ j) && true)) := by rw [← hg]; rfl
          by_cases hi : 0 ≤ i <;> by_cases hj : 0 ≤ j <;> simp [Option.filter, e, hi, hj]
theorem hd_shaped (ws : List (List Nat)) : SeqAt.shaped (.list (ws.map hdD)) = true := by
  have go : ∀ ws : List (List Nat), PyData.canLayAll0 (ws.map hdD) = true ∧ PyData.depthAll (ws.map hdD) ≤ 2 := fun ws => by
    induction ws with
    | nil => exact ⟨by simp [PyData.canLayAll0], by simp [PyData.depthAll]⟩
    | cons a r ih =>
      obtain ⟨r1, r2⟩ := ih
      rw [List.map_cons]
      unfold hdD
      cases cntO a with
      | none => exact ⟨by simp only [PyData.canLayAll0, PyData.canLay0, Bool.true_and]; exact r1, by simp only [PyData.depthAll, PyData.depth]; exact Nat.max_le.mpr ⟨by omega, r2⟩⟩
      | some i => exact ⟨by simp only [PyData.canLayAll0, PyData.canLay0, Bool.true_and]; exact r1, by simp only [PyData.depthAll, PyData.depth]; exact Nat.max_le.mpr ⟨by omega, r2⟩⟩
  obtain ⟨g1, g2⟩ := go ws
  unfold SeqAt.shaped
  rw [show (PyData.list (ws.map hdD)).canLay0 = true by simp [PyData.canLay0, g1], Bool.true_and]
  exact decide_eq_true (by simp only [PyData.depth]; omega)
abbrev spNewsOf : Sp := sp1 fun v H Q _ => ∃ x, v = .str x ∧ x.length ≤ 100000 ∧ low (TL.tl x) ∧ RO (lwNews (TL.tl x)) H Q
theorem c__law_news_of (T : Txt K mg c) : Cal P w K mg base CX0 5 "_law_news_of" ["text"] spNewsOf := by
  refine T.d__law_news_of.cal sc__law_news_of sp1_len (fun f cdv A outer s H vs Q E hr h => ?_)
  obtain ⟨v, rfl, x, rfl, hx, hlow, k, kN⟩ := h
  refine ⟨_, (pss_cons (ps_set (i := 1) sc__law_news_of.nd rfl (by first | exact Or.inl rfl | exact Or.inr rfl) (pe_split2 (pv 0) pe_str))
    (pss_cons (ps_setLc (i := 2) (own := [("word", 3)]) (by rfl) sc__law_news_of.nd rfl rfl (sw_true rfl rfl rfl (by decide +kernel)) (pi_any (K := K) (pe_slice (sl_any (K := K)) (pv 1) po_none (po_some pe_int))) (blkOk_by (own := [("word", 3)]) (N := ["text", "words", "heads", "word", "piece"]) (sc := defScope s__law_news_of) (by decide +kernel)) (fun _ _ _ _ _ => (pg_name (i := 3) sc__law_news_of.nd rfl (by first | exact Or.inl rfl | exact Or.inr rfl))) (fun _ _ _ _ _ => pts_nil) (fun _ _ _ _ _ => (pe_cal (c__law_counts T) (hr.mono (by first | decide | omega)) pass0 (pa_cons (pv 3) (pa_cons pe_str pa_nil)))))
    (pss_cons (ps_set (i := 4) sc__law_news_of.nd rfl (by first | exact Or.inl rfl | exact Or.inr rfl) (pe_ifExp (pt_cmpR op_gt2 (pe_callB (call_len2 (K := K)) (by rfl) T.n_len (by decide +kernel) (pa_cons (pv 1) pa_nil)) pe_int (nomark _)) (pe_cal (c__law_read T) (hr.mono (by first | decide | omega)) pass0 (pa_cons (pe_join2 (K := K) pe_str (pe_slice (sl_any (K := K)) (pv 1) (po_some pe_int) po_none)) (pa_cons pe_int pa_nil))) pe_non))
    (pss_one (ps_ret (pe_ifExp (PW.pt (pw_or (pt_cmp (pc_isN (pv 4)) rfl) (pw_or1 (pt_cmpR (op_inD2 (K := K) (u65 hr)) pe_non (pv 2) (by rfl))))) pe_non (pe_tup (pa_cons (pe_ix (ix_any (K := K)) (pe_ix (ix_any (K := K)) (pv 2) pe_int (fun _ _ => rfl)) pe_int (fun _ _ => rfl)) (pa_cons (pe_ix (ix_any (K := K)) (pe_ix (ix_any (K := K)) (pv 2) pe_int (fun _ _ => rfl)) pe_int (fun _ _ => rfl)) (pa_cons (pv 4) pa_nil)))))))))), ?_⟩
  walk_at "go"
  have hws : (Txt.split x (Str.ofString " ")).map TL.tl = TL.spl [32] 0 [] (TL.tl x) := by
    have e : TL.tl (Str.ofString " ") = [32] := by decide +kernel
    rw [split_tl x (by decide +kernel) (by decide +kernel), e]
  have hle : ∀ w ∈ Txt.split x (Str.ofString " "), w.length ≤ x.length := fun w hw => split_le x (by decide +kernel) (by decide +kernel) hw
  have hne := words_ne x
  have hsum := words_ws (n := x.length) ⟨Nat.le_refl _, hlow⟩
  have hfree : ∀ w ∈ Txt.split x (Str.ofString " "), 32 ∉ TL.tl w := fun w hw => spl_no (TL.tl x) [] List.not_mem_nil _ (by rw [← hws]; exact List.mem_map_of_mem hw)
  refine r_split (by decide +kernel) (by omega) fun pw H1 hpw k1 hp1 => ?_
  have hnw := lwNews_eq (TL.tl x)
  rw [← hws] at hnw
  generalize Txt.split x (Str.ofString " ") = ws at hws hle hp1 hsum hfree hnw hne
  walk_at "go"
  have e32 : TL.tl (Str.ofString " ") = [32] := by decide +kernel
  refine via (fun v H' => ∃ (D : Addr) (hs : List V), v = .ref D ∧ H' D = some (.lst hs) ∧ Kp No H1 H' ∧ Dats No H' hs ((ws.take 2).map fun w => hdD (TL.tl w))) (fun Z hZ => ?_) ?_
  · refine r_lcL ?_
    walk_at "go"
    refine r_slL (SqL.of hp1) fun q H2 hq0 k2 hq => ?_
    have ecut : cutV (ws.map V.str) none (some 2) = (ws.take 2).map V.str := by
      rw [show (some (2 : Int)) = some ((2 : Nat) : Int) from rfl, cutV_to, List.map_take]
    rw [ecut] at hq
    refine lcL (fun D i acc H' => Kp No H2 H' ∧ Dats (fun a => a = D) H' acc (((ws.take 2).take i).map fun w => hdD (TL.tl w))) (SqL.of hq) (fun D hD => ⟨Kp.new Kp.refl hD, .nil⟩) (fun D i acc H' hD hp => hp.1.sql (SqL.of hq)) ?_ ?_
    · rintro D i acc z H' hD hi hacc hl ⟨kp, hds⟩
      rw [List.getElem?_map] at hi
      cases hwi : (ws.take 2)[i]? with
      | none => rw [hwi] at hi; cases hi
      | some e =>
      rw [hwi] at hi
      cases hi
      have hmem : e ∈ ws := List.mem_of_mem_take (List.mem_of_getElem? hwi)
      have hm := hle e hmem
      have hi2 : i < 10000000 := by have := (List.getElem?_eq_some_iff.mp hwi).1; rw [List.length_take] at this; omega
      have hc := lwCounts_free (hfree e hmem)
      have hstep : ((ws.take 2).take (i + 1)).map (fun w => hdD (TL.tl w)) = ((ws.take 2).take i).map (fun w => hdD (TL.tl w)) ++ [hdD (TL.tl e)] := by
        rw [List.take_add_one, hwi, List.map_append]; rfl
      walk_at "go"
      refine ⟨e, _, rfl, rfl, by omega, by decide +kernel, by decide +kernel, by decide +kernel, fun l hl2 p H3 hp3 k3 hp31 => ?_, fun hn H3 k3 => ?_⟩
      · rw [e32, hc] at hl2
        cases hcn : cntO (TL.tl e) with
        | none => rw [hcn] at hl2; cases hl2
        | some j =>
          rw [hcn] at hl2
          cases hl2
          have hd : hdD (TL.tl e) = .list [.int j] := by unfold hdD; rw [hcn]
          have h3 := k3.lst hacc
          have hpD : p ≠ D := fun z => by subst z; rw [hacc] at hp3; cases hp3
          refine lc_yesB h3 hl hi2 ⟨Kp.fresh (kp.trans k3) hD, ?_⟩
          rw [hstep, hd]
          exact Dats.mono (ex' := fun a => a = D) (Kp.mut Kp.refl rfl h3 rfl) (fun a ha => ha) (Dats.append (hds.mono k3 fun _ z => z.elim) (Dats.one (.lst hpD hp31 (.cons (.int j) .nil))))
      · rw [e32, hc] at hn
        have hcn : cntO (TL.tl e) = none := by
          cases hcn : cntO (TL.tl e) with
          | none => rfl
          | some j => rw [hcn] at hn; cases hn
        have hd : hdD (TL.tl e) = .none := by unfold hdD; rw [hcn]
        have h3 := k3.lst hacc
        refine lc_yesB h3 hl hi2 ⟨Kp.fresh (kp.trans k3) hD, ?_⟩
        rw [hstep, hd]
        exact Dats.mono (ex' := fun a => a = D) (Kp.mut Kp.refl rfl h3 rfl) (fun a ha => ha) (Dats.append (hds.mono k3 fun _ z => z.elim) (Dats.one .non))
    · rintro D acc H' hD hacc hl ⟨kp, hds⟩
      rw [List.length_map, List.take_length] at hds
      exact hZ _ _ ⟨D, acc, rfl, hacc, k2.trans kp, hds.weak fun _ z => z.elim⟩
  rintro v H2 ⟨D, hs, rfl, hD, k2, hds⟩
  walk_at "go"
  have hp2 := k2.lst hp1
  have hDH := hds
  refine r_len_l hp2 ?_
  walk_at "go"
  rw [List.length_map]
  have hno : ∀ l : List Str, ws = l → l.length ≤ 2 → lwNews (TL.tl x) = none := by
    rintro l rfl hl
    rw [hnw]
    match ws, hl with
    | [], _ => rfl
    | [_], _ => rfl
    | [_, _], _ => rfl
  by_cases hl : ws.length ≤ 2
  · refine r_iteF (decide_eq_false (by omega)) ?_
    walk_at "go"
    exact kN (hno ws rfl hl) _ (k1.trans k2)
  obtain ⟨a, b, cc, r, rfl⟩ : ∃ a b cc r, ws = a :: b :: cc :: r := by
    match ws, hl with
    | a :: b :: cc :: r, _ => exact ⟨a, b, cc, r, rfl⟩
    | [], h => exact absurd (by decide) h
    | [_], h => exact absurd (Nat.le_of_ble_eq_true rfl) h
    | [_, _], h => exact absurd (Nat.le_of_ble_eq_true rfl) h
  refine r_iteT (decide_eq_true (by omega)) ?_
  walk_at "go"
  refine r_slL (SqL.of hp2) fun q H3 hq0 k3 hq => ?_
  have ecut : cutV ((a :: b :: cc :: r).map V.str) (some 2) none = (cc :: r).map V.str := by
    rw [show (some (2 : Int)) = some ((2 : Nat) : Int) from rfl, cutV_from]; rfl
  rw [ecut] at hq
  have hws2 : WS x.length (cc :: r) := by
    refine ⟨?_, fun z hz => hsum.2 z (List.mem_cons_of_mem _ (List.mem_cons_of_mem _ hz))⟩
    have := hsum.1
    simp only [List.map_cons, List.sum_cons, List.length_cons] at this ⊢
    omega
  have htx := hws2.join
  have hjl := htx.1
  have hl1 := hws2.1
  walk_at "go"
  refine r_join (SqL.of hq) (by rw [l_blank]; omega) ?_
  have ejn : TL.tl (Txt.join (Str.ofString " ") (cc :: r)) = TL.joinL [32] ((cc :: r).map TL.tl) := by rw [TL.join_eq, TL.tl_join, e32]
  walk_at "go"
  have hn2 : lwNews (TL.tl x) = (match rdPiece (TL.joinL [32] ((cc :: r).map TL.tl)) with
      | some p => (match cntO (TL.tl a), cntO (TL.tl b) with
        | some i, some j => some [PyData.int i, .int j, .tuple p]
        | _, _ => none)
      | none => none) := hnw
  refine ⟨_, 2, rfl, rfl, .inl rfl, by omega, htx.2, fun ds hd v' H4 k4 hv => ?_, fun hd H4 k4 => ?_⟩
  · rw [ejn, show rdOf 2 = rdPiece from rfl] at hd
    rw [hd] at hn2
    dsimp only at hn2
    obtain ⟨ap, xs, rfl, hap, hxs⟩ := hv.tupE
    walk_at "go"
    have hD4 := k4.lst (k3.lst hD)
    have hds4 := (hds.kp k3).kp k4
    have hsh := hd_shaped ([a, b].map TL.tl)
    rw [List.map_map] at hsh
    refine ⟨.none, [a, b].map (hdD ∘ TL.tl), Dat.dp (ex := No) .non rfl, Dat.dp (ex := No) (.lst (fun z => z) hD4 hds4) (noDict hsh), by decide, hsh, ?_⟩
    rw [any_eqv]
    have hds5 : Dats No H4 hs [hdD (TL.tl a), hdD (TL.tl b)] := hds4
    show ∃ k, V.bl ([hdD (TL.tl a), hdD (TL.tl b)].any isNoD) = .bl k ∧ _
    obtain ⟨v1, v2, rfl, hv1, hv2⟩ := hds5.inv2
    cases h1 : cntO (TL.tl a) with
    | none =>
      have e1 : hdD (TL.tl a) = .none := by unfold hdD; rw [h1]
      rw [h1] at hn2
      rw [e1]
      refine r_bl (r_iteT rfl ?_)
      walk_at "go"
      exact kN hn2 _ (((k1.trans k2).trans k3).trans k4)
    | some i =>
      have e1 : hdD (TL.tl a) = .list [.int i] := by unfold hdD; rw [h1]
      rw [h1] at hn2
      rw [e1] at hv1 ⊢
      cases h2 : cntO (TL.tl b) with
      | none =>
        have e2 : hdD (TL.tl b) = .none := by unfold hdD; rw [h2]
        rw [h2] at hn2
        rw [e2]
        refine r_bl (r_iteT rfl ?_)
        walk_at "go"
        exact kN hn2 _ (((k1.trans k2).trans k3).trans k4)
      | some j =>
        have e2 : hdD (TL.tl b) = .list [.int j] := by unfold hdD; rw [h2]
        rw [h2] at hn2
        rw [e2] at hv2 ⊢
        refine r_bl (r_iteF rfl ?_)
        obtain ⟨a1, y1, _, rfl, q1, _, hy1, hd1⟩ := hv1.listI rfl
        cases q1
        obtain ⟨z1, rfl, hz1⟩ := hd1.inv1
        obtain ⟨_, rfl, q2⟩ := hz1.wholeI rfl
        cases q2
        obtain ⟨a2, y2, _, rfl, q1, _, hy2, hd2⟩ := hv2.listI rfl
        cases q1
        obtain ⟨z2, rfl, hz2⟩ := hd2.inv1
        obtain ⟨_, rfl, q2⟩ := hz2.wholeI rfl
        cases q2
        walk_at "go"
        rename_i pt Ht hpt kt et
        exact k _ hn2 pt Ht ((((k1.trans k2).trans k3).trans k4).trans kt) (.tup et (.cons (.int i) (.cons (.int j) (.cons ((Dat.tup hap hxs).all kt) .nil))))
  · rw [ejn, show rdOf 2 = rdPiece from rfl] at hd
    rw [hd] at hn2
    walk_at "go"
    exact kN hn2 _ (((k1.trans k2).trans k3).trans k4)

end

section
variable {P : Program} {w : World} {K : PySem.W.Frag} {mg : Str → Option Value} {base : Heap} {c : Ads}
/-! marks, by the law's own reading -/
theorem eqvAll_ints : ∀ ns ms : List Int, PyData.eqvAll (ns.map PyData.int) (ms.map PyData.int) = decide (ns = ms)
  | [], [] => by simp [PyData.eqvAll]
  | [], m :: ms => by simp [PyData.eqvAll]
  | n :: ns, [] => by simp [PyData.eqvAll]
  | n :: ns, m :: ms => by
    have ih := eqvAll_ints ns ms
    simp only [List.map_cons, PyData.eqvAll, ih]
    have e : PyData.eqv (.int n) (.int m) = decide (n = m) := by
      simp only [PyData.eqv]
      by_cases h : n = m <;> simp [h]
    rw [e]
    by_cases h : n = m <;> by_cases h2 : ns = ms <;> simp [h, h2]
theorem ints_shaped (ns : List Int) : SeqAt.shaped (.list (ns.map PyData.int)) = true := by
  obtain ⟨g1, g2⟩ := flat_lay (r := ns.map PyData.int) fun e he => by
    obtain ⟨i, _, rfl⟩ := List.mem_map.mp he
    exact .inr ⟨i, rfl⟩
  unfold SeqAt.shaped
  rw [show (PyData.list (ns.map PyData.int)).canLay0 = true by simp [PyData.canLay0, g1], Bool.true_and]
  exact decide_eq_true (by simp only [PyData.depth]; omega)
theorem r_eq_ints {K : PySem.W.Frag} {H : Hp} {Q : VK} {p q : Addr} {ns ms : List Int} (h1 : H p = some (.lst (ns.map V.int))) (h2 : H q = some (.lst (ms.map V.int))) (k : Q (.bl (decide (ns = ms))) H) : rEq2 K (.ref p) (.ref q) H Q :=
  .inr (.inl ⟨.list (ns.map PyData.int), .list (ms.map PyData.int), Dat.dp (ex := No) (.lst (fun z => z) h1 (Dats.ints ns)) (noDict (ints_shaped ns)), Dat.dp (ex := No) (.lst (fun z => z) h2 (Dats.ints ms)) (noDict (ints_shaped ms)), ints_shaped ns, ints_shaped ms, by
    have e : PyData.eqv (.list (ns.map PyData.int)) (.list (ms.map PyData.int)) = decide (ns = ms) := by
      simp only [PyData.eqv]; exact eqvAll_ints ns ms
    rw [e]; exact k⟩)
theorem asc_same : ∀ {ms ns : List Int}, ms.Pairwise (· < ·) → ns.Pairwise (· < ·) → (∀ k, k ∈ ms ↔ k ∈ ns) → ms = ns
  | [], [], _, _, _ => rfl
  | [], n :: ns, _, _, h => absurd ((h n).mpr List.mem_cons_self) (fun z => nomatch z)
  | m :: ms, [], _, _, h => absurd ((h m).mp List.mem_cons_self) (fun z => nomatch z)
  | m :: ms, n :: ns, h1, h2, h => by
    rw [List.pairwise_cons] at h1 h2
    have e : m = n := by
      rcases List.mem_cons.mp ((h m).mp List.mem_cons_self) with e | hm
      · exact e
      · rcases List.mem_cons.mp ((h n).mpr List.mem_cons_self) with e | hn
        · exact e.symm
        · have := h1.1 n hn
          have := h2.1 m hm
          omega
    subst e
    rw [asc_same h1.2 h2.2 fun k => ?_]
    constructor
    · intro hk
      rcases List.mem_cons.mp ((h k).mp (List.mem_cons_of_mem _ hk)) with z | z
      · have := h1.1 k hk; omega
      · exact z
    · intro hk
      rcases List.mem_cons.mp ((h k).mpr (List.mem_cons_of_mem _ hk)) with z | z
      · have := h2.1 k hk; omega
      · exact z
/-- what the law keeps of a mark -/
def prO (m : List Nat) : Option (Int × Int) := match lwCounts [58] m with
  | some [i, j] => some (i, j)
  | _ => none
def prD (m : List Nat) : PyData := match lwCounts [58] m with
  | some l => .list (l.map .int)
  | none => .none
def prP (p : Int × Int) : PyData := .tuple [.int p.1, .int p.2]
theorem mark_prO (m : List Nat) : (∃ i j, rdMark m = some (.tuple [.int i, .int j]) ∧ prO m = if 0 ≤ i ∧ 0 ≤ j then some (i, j) else none) ∨ (rdMark m = none ∧ prO m = none) := by
  unfold rdMark prO lwCounts two
  rcases TL.spl [58] 0 [] m with _ | ⟨a, _ | ⟨b, _ | ⟨c, r⟩⟩⟩
  · exact .inr ⟨rfl, rfl⟩
  · refine .inr ⟨rfl, ?_⟩
    cases h : rdNum a with
    | none => simp [mapO, h]
    | some i => by_cases h0 : 0 ≤ i <;> simp [mapO, h, h0]
  · cases h : rdNum a with
    | none => exact .inr ⟨by simp [h], by simp [mapO, h]⟩
    | some i =>
      cases h2 : rdNum b with
      | none => exact .inr ⟨by simp [h, h2], by simp [mapO, h, h2]⟩
      | some j =>
        refine .inl ⟨i, j, by simp [h, h2], ?_⟩
        by_cases h0 : 0 ≤ i <;> by_cases h1 : 0 ≤ j <;> simp [mapO, h, h2, h0, h1]
  · refine .inr ⟨rfl, ?_⟩
    cases h : rdNum a with
    | none => simp [mapO, h]
    | some i =>
      cases h2 : rdNum b with
      | none => simp [mapO, h, h2]
      | some j =>
        cases h3 : rdNum c with
        | none => simp [mapO, h, h2, h3]
        | some q =>
          cases h4 : mapO rdNum r with
          | none => simp [mapO, h, h2, h3, h4]
          | some t =>
            simp only [mapO, h, h2, h3, h4]
            split
            · rename_i e
              split at e
              · cases e
              · cases e
            · rfl
theorem marks_prO : ∀ L : List (List Nat), (∃ ps : List (Int × Int), mapO rdMark L = some (ps.map prP) ∧ mapO prO L = if (∀ p ∈ ps, 0 ≤ p.1 ∧ 0 ≤ p.2) then some ps else none) ∨ (mapO rdMark L = none ∧ mapO prO L = none)
  | [] => .inl ⟨[], rfl, by simp [mapO]⟩
  | m :: r => by
    rcases mark_prO m with ⟨i, j, e1, e2⟩ | ⟨e1, e2⟩
    · rcases marks_prO r with ⟨ps, q1, q2⟩ | ⟨q1, q2⟩
      · refine .inl ⟨(i, j) :: ps, by simp [mapO, e1, q1, prP], ?_⟩
        by_cases h0 : 0 ≤ i ∧ 0 ≤ j
        · by_cases h1 : ∀ p ∈ ps, 0 ≤ p.1 ∧ 0 ≤ p.2
          · rw [if_pos (fun p hp => by
              rcases List.mem_cons.mp hp with rfl | hp
              · exact h0
              · exact h1 p hp)]
            simp only [mapO, e2, q2, if_pos h0, if_pos h1]
          · rw [if_neg (fun z => h1 fun p hp => z p (List.mem_cons_of_mem _ hp))]
            simp only [mapO, e2, q2, if_pos h0, if_neg h1]
        · rw [if_neg (fun z => h0 (z (i, j) List.mem_cons_self))]
          simp only [mapO, e2, if_neg h0]
      · exact .inr ⟨by simp [mapO, e1, q1], by
          by_cases h0 : 0 ≤ i ∧ 0 ≤ j
          · simp only [mapO, e2, q2, if_pos h0]
          · simp only [mapO, e2, if_neg h0]⟩
    · exact .inr ⟨by simp [mapO, e1], by simp [mapO, e2]⟩
theorem marksGo_iff : ∀ (ps : List (Int × Int)) (least : Int), marksGo least (ps.map prP) = true ↔ (∀ p ∈ ps, 0 ≤ p.1 ∧ 0 ≤ p.2) ∧ (∀ p ∈ ps, least ≤ p.1) ∧ (ps.map (·.1)).Pairwise (· < ·)
  | [], _ => by simp [marksGo]
  | (i, j) :: r, least => by
    have e : marksGo least (((i, j) :: r).map prP) = (decide (0 ≤ i) && (decide (0 ≤ j) && (decide (least ≤ i) && marksGo (i + 1) (r.map prP)))) := rfl
    rw [e]
    simp only [Bool.and_eq_true, decide_eq_true_eq, marksGo_iff r (i + 1), List.map_cons, List.pairwise_cons, List.mem_cons, List.mem_map]
    constructor
    · rintro ⟨h1, h2, h3, h4, h5, h6⟩
      refine ⟨?_, ?_, ?_, h6⟩
      · rintro p (rfl | hp)
        · exact ⟨h1, h2⟩
        · exact h4 p hp
      · rintro p (rfl | hp)
        · exact h3
        · have := h5 p hp; omega
      · rintro a ⟨p, hp, rfl⟩
        have := h5 p hp; omega
    · rintro ⟨h1, h2, h3, h4⟩
      refine ⟨(h1 _ (.inl rfl)).1, (h1 _ (.inl rfl)).2, h2 _ (.inl rfl), fun p hp => h1 p (.inr hp), fun p hp => ?_, h4⟩
      have := h3 p.1 ⟨p, hp, rfl⟩
      omega
theorem lwMarks_eq {w : List Nat} (h : w ≠ [45]) : lwMarks w = match mapO prO (TL.spl [44] 0 [] w) with
    | none => none
    | some ps => if (ps.map (·.1)).Pairwise (· < ·) then some (ps.map prP) else none := by
  unfold lwMarks rdMarks
  rw [if_neg h]
  rcases marks_prO (TL.spl [44] 0 [] w) with ⟨ps, q1, q2⟩ | ⟨q1, q2⟩
  · rw [q1, q2]
    have e := marksGo_iff ps 0
    have e0 : marksD (.tuple (ps.map prP)) = marksGo 0 (ps.map prP) := rfl
    by_cases h1 : ∀ p ∈ ps, 0 ≤ p.1 ∧ 0 ≤ p.2
    · rw [if_pos h1]
      by_cases h2 : (ps.map (·.1)).Pairwise (· < ·)
      · have : marksD (.tuple (ps.map prP)) = true := e0.trans (e.mpr ⟨h1, fun p hp => (h1 p hp).1, h2⟩)
        simp only [Option.filter, this, if_pos h2, if_true]
      · have : marksD (.tuple (ps.map prP)) = false := by
          rw [e0, ← Bool.not_eq_true, e]; exact fun z => h2 z.2.2
        simp only [Option.filter, this, if_neg h2]; rfl
    · rw [if_neg h1]
      have : marksD (.tuple (ps.map prP)) = false := by
        rw [e0, ← Bool.not_eq_true, e]; exact fun z => h1 z.1
      simp only [Option.filter, this]; rfl
  · rw [q1, q2]; rfl
abbrev spMarksOf : Sp := sp1 fun v H Q _ => ∃ x, v = .str x ∧ x.length ≤ 100000 ∧ (TL.tl x).count 44 ≤ 62 ∧ RO (lwMarks (TL.tl x)) H Q
theorem prD_bad {m : List Nat} : (match prD m with | .list [_, _] => true | _ => false) = (prO m).isSome := by
  unfold prD prO
  cases lwCounts [58] m with
  | none => rfl
  | some l => match l with
    | [] => rfl
    | [_] => rfl
    | [_, _] => rfl
    | _ :: _ :: _ :: _ => rfl
theorem spl_commas : ∀ (L acc : List Nat), (TL.spl [44] 0 acc L).length = L.count 44 + 1
  | [], acc => by rw [TL.spl_nil]; rfl
  | c :: r, acc => by
    by_cases hc : c = 44
    · subst hc
      rw [TL.spl_hit (show TL.pre [44] (44 :: r) = true by simp [TL.pre]), List.length_cons, List.count_cons_self]
      exact congrArg (· + 1) (spl_commas r [])
    · rw [TL.spl_miss (TL.pre_of_head [] r hc), spl_commas r, List.count_cons_of_ne (by omega)]
theorem c__law_marks_of (T : Txt K mg c) : Cal P w K mg base CX0 3 "_law_marks_of" ["word"] spMarksOf := by
  refine T.d__law_marks_of.cal sc__law_marks_of sp1_len (fun f cdv A outer s H vs Q E hr h => ?_)
  obtain ⟨v, rfl, x, rfl, hx, hfew, k, kN⟩ := h
  refine ⟨_, (pss_cons (ps_if (pt_cmpR (op_eq2 (K := K) hr.units) (pv 0) pe_str (nomark _)) (pss_one (ps_ret (pe_tup pa_nil))) pss_nil)
    (pss_cons (ps_setLc (i := 1) (own := [("mark", 2)]) (by rfl) sc__law_marks_of.nd rfl rfl (sw_true rfl rfl rfl (by decide +kernel)) (pi_any (K := K) (pe_split2 (pv 0) pe_str)) (blkOk_by (own := [("mark", 2)]) (N := ["word", "pairs", "mark", "pair", "tellers"]) (sc := defScope s__law_marks_of) (by decide +kernel)) (fun _ _ _ _ _ => (pg_name (i := 2) sc__law_marks_of.nd rfl (by first | exact Or.inl rfl | exact Or.inr rfl))) (fun _ _ _ _ _ => pts_nil) (fun _ _ _ _ _ => (pe_cal (c__law_counts T) (hr.mono (by first | decide | omega)) pass0 (pa_cons (pv 2) (pa_cons pe_str pa_nil)))))
    (pss_cons (ps_if (pt_cmpR (op_ne2 (K := K) hr.units) (pe_lc (own := [("pair", 3)]) (by rfl) sc__law_marks_of.nd (pi_any (K := K) (pv 1)) (blkOk_by (own := [("pair", 3)]) (N := ["word", "pairs", "mark", "pair", "tellers"]) (sc := defScope s__law_marks_of) (by decide +kernel)) (fun _ _ _ _ _ => (pg_name (i := 3) sc__law_marks_of.nd rfl (by first | exact Or.inl rfl | exact Or.inr rfl))) (fun _ _ _ _ _ => (pts_one (PW.pt (pw_or (pt_cmp (pc_isN (pv 3)) rfl) (pw_or1 (pt_cmpR (op_ne2 (K := K) hr.units) (pe_callB (call_len2 (K := K)) (by rfl) T.n_len (by decide +kernel) (pa_cons (pv 3) pa_nil)) pe_int (nomark _))))))) (fun _ _ _ _ _ => (pv 3))) (pe_lst pa_nil) (nomark _)) (pss_one (ps_ret pe_non)) pss_nil)
    (pss_cons (ps_setLc (i := 4) (own := [("pair", 3)]) (by rfl) sc__law_marks_of.nd rfl rfl (sw_true rfl rfl rfl (by decide +kernel)) (pi_any (K := K) (pv 1)) (blkOk_by (own := [("pair", 3)]) (N := ["word", "pairs", "mark", "pair", "tellers"]) (sc := defScope s__law_marks_of) (by decide +kernel)) (fun _ _ _ _ _ => (pg_name (i := 3) sc__law_marks_of.nd rfl (by first | exact Or.inl rfl | exact Or.inr rfl))) (fun _ _ _ _ _ => pts_nil) (fun _ _ _ _ _ => (pe_ix (ix_any (K := K)) (pv 3) pe_int (fun _ _ => rfl))))
    (pss_one (ps_ret (pe_ifExp (pt_cmpR (op_eq2 (K := K) hr.units) (pe_sortSetL (K := K) rfl (by rfl) T.n_sorted (by rfl) T.n_set (pv 4)) (pv 4) (nomark _)) (pe_callTy (call_tuple2 (K := K)) (by rfl) T.n_tuple (by decide +kernel) (pa_cons (pe_lc (own := [("pair", 3)]) (by rfl) sc__law_marks_of.nd (pi_any (K := K) (pv 1)) (blkOk_by (own := [("pair", 3)]) (N := ["word", "pairs", "mark", "pair", "tellers"]) (sc := defScope s__law_marks_of) (by decide +kernel)) (fun _ _ _ _ _ => (pg_name (i := 3) sc__law_marks_of.nd rfl (by first | exact Or.inl rfl | exact Or.inr rfl))) (fun _ _ _ _ _ => pts_nil) (fun _ _ _ _ _ => (pe_callTy (call_tuple2 (K := K)) (by rfl) T.n_tuple (by decide +kernel) (pa_cons (pv 3) pa_nil)))) pa_nil)) pe_non))))))), ?_⟩
  walk_at "go"
  rw [eq_lit (l := [45]) (by decide +kernel)]
  walk_at "br"
  · intro h1
    walk_at "go"
    rename_i p1 H1 hp1 k1 hp11
    exact k [] (by rw [h1]; rfl) _ _ (by walk_at "kp") (.tup hp11 .nil)
  intro h1
  walk_at "go"
  have e44 : TL.tl (Str.ofString ",") = [44] := by decide +kernel
  have e58 : TL.tl (Str.ofString ":") = [58] := by decide +kernel
  have hws : (Txt.split x (Str.ofString ",")).map TL.tl = TL.spl [44] 0 [] (TL.tl x) := by
    rw [split_tl x (by decide +kernel) (by decide +kernel), e44]
  have hle : ∀ w ∈ Txt.split x (Str.ofString ","), w.length ≤ x.length := fun w hw => split_le x (by decide +kernel) (by decide +kernel) hw
  have hlen : (Txt.split x (Str.ofString ",")).length ≤ 63 := by
    have := congrArg List.length hws
    rw [List.length_map, spl_commas] at this
    omega
  have hlm := lwMarks_eq h1
  rw [← hws] at hlm
  obtain ⟨ws, hws0⟩ : ∃ ws, Txt.split x (Str.ofString ",") = ws := ⟨_, rfl⟩
  rw [hws0] at hws hle hlen hlm
  refine via (fun v H' => ∃ (D : Addr) (hs : List V), v = .ref D ∧ H' D = some (.lst hs) ∧ Kp No H H' ∧ Dats No H' hs (ws.map fun w => prD (TL.tl w))) (fun Z hZ => ?_) ?_
  · refine r_lcL ?_
    walk_at "go"
    refine r_split (by decide +kernel) (by omega) fun p H1 hp0 k1 hp1 => ?_
    rw [hws0] at hp1
    refine lcL (fun D i acc H' => Kp No H1 H' ∧ Dats (fun a => a = D) H' acc ((ws.take i).map fun w => prD (TL.tl w))) (SqL.of hp1) (fun D hD => ⟨Kp.new Kp.refl hD, .nil⟩) (fun D i acc H' hD hp => hp.1.sql (SqL.of hp1)) ?_ ?_
    · rintro D i acc z H' hD hi hacc hl ⟨kp, hds⟩
      rw [List.getElem?_map] at hi
      cases hwi : ws[i]? with
      | none => rw [hwi] at hi; cases hi
      | some e =>
      rw [hwi] at hi
      cases hi
      have hm := hle e (List.mem_of_getElem? hwi)
      have hi2 : i < 10000000 := by have := (List.getElem?_eq_some_iff.mp hwi).1; omega
      have hstep : (ws.take (i + 1)).map (fun w => prD (TL.tl w)) = (ws.take i).map (fun w => prD (TL.tl w)) ++ [prD (TL.tl e)] := by
        rw [List.take_add_one, hwi, List.map_append]; rfl
      walk_at "go"
      refine ⟨e, _, rfl, rfl, by omega, by decide +kernel, by decide +kernel, by decide +kernel, fun l hl2 p H3 hp3 k3 hp31 => ?_, fun hn H3 k3 => ?_⟩
      · rw [e58] at hl2
        have hd : prD (TL.tl e) = .list (l.map .int) := by unfold prD; rw [hl2]
        have h3 := k3.lst hacc
        have hpD : p ≠ D := fun z => by subst z; rw [hacc] at hp3; cases hp3
        refine lc_yesB h3 hl hi2 ⟨Kp.fresh (kp.trans k3) hD, ?_⟩
        rw [hstep, hd]
        exact Dats.mono (ex' := fun a => a = D) (Kp.mut Kp.refl rfl h3 rfl) (fun a ha => ha) (Dats.append (hds.mono k3 fun _ z => z.elim) (Dats.one (.lst hpD hp31 (Dats.ints l))))
      · rw [e58] at hn
        have hd : prD (TL.tl e) = .none := by unfold prD; rw [hn]
        have h3 := k3.lst hacc
        refine lc_yesB h3 hl hi2 ⟨Kp.fresh (kp.trans k3) hD, ?_⟩
        rw [hstep, hd]
        exact Dats.mono (ex' := fun a => a = D) (Kp.mut Kp.refl rfl h3 rfl) (fun a ha => ha) (Dats.append (hds.mono k3 fun _ z => z.elim) (Dats.one .non))
    · rintro D acc H' hD hacc hl ⟨kp, hds⟩
      rw [List.length_map, List.take_length] at hds
      exact hZ _ _ ⟨D, acc, rfl, hacc, k1.trans kp, hds.weak fun _ z => z.elim⟩
  rintro v H2 ⟨D, hs, rfl, hD, k2, hds⟩
  walk_at "go"
  have hhl := hds.len
  rw [List.length_map] at hhl
  refine via (fun v H' => ∃ (B : Addr) (bs : List V), v = .ref B ∧ H' B = some (.lst bs) ∧ Kp No H2 H' ∧ bs.isEmpty = ws.all fun w => (prO (TL.tl w)).isSome) (fun Z hZ => ?_) ?_
  · refine r_lcL ?_
    walk_at "go"
    refine lcL (fun B i acc H' => Kp No H2 H' ∧ acc.isEmpty = (ws.take i).all fun w => (prO (TL.tl w)).isSome) (SqL.of hD) (fun B hB => ⟨Kp.new Kp.refl hB, rfl⟩) (fun B i acc H' hB hp => hp.1.sql (SqL.of hD)) ?_ ?_
    · rintro B i acc z H' hB hi hacc hl ⟨kp, hem⟩
      obtain ⟨d, hd0, hdz0⟩ := hds.get hi
      rw [List.getElem?_map] at hd0
      cases hwi : ws[i]? with
      | none => rw [hwi] at hd0; cases hd0
      | some e =>
      rw [hwi] at hd0
      cases hd0
      have hdz := hdz0.kp kp
      have hi2 : i < 10000000 := by have := (List.getElem?_eq_some_iff.mp hwi).1; omega
      have hstep : (ws.take (i + 1)).all (fun w => (prO (TL.tl w)).isSome) = ((ws.take i).all (fun w => (prO (TL.tl w)).isSome) && (prO (TL.tl e)).isSome) := by
        rw [List.take_add_one, hwi, List.all_append]; simp
      walk_at "go"
      have good : (prO (TL.tl e)).isSome = true → LcAll B (fun i acc H' => Kp No H2 H' ∧ acc.isEmpty = (ws.take i).all fun w => (prO (TL.tl w)).isSome) (i + 1) H' := fun g => lc_no hacc hl ⟨kp, by rw [hstep, g, Bool.and_true]; exact hem⟩
      have bad : ∀ o : L2.St, (prO (TL.tl e)).isSome = false → ∀ y, ∃ acc, H' B = some (.lst acc) ∧ acc.length < sizeLine ∧ LcAll B (fun i acc H' => Kp No H2 H' ∧ acc.isEmpty = (ws.take i).all fun w => (prO (TL.tl w)).isSome) (i + 1) (upd H' B (.lst (acc ++ [y]))) := fun _ g y =>
        lc_yesB hacc hl hi2 ⟨Kp.fresh kp hB, by rw [hstep, g, Bool.and_false]; simp⟩
      have hbad := prD_bad (m := TL.tl e)
      cases hq : lwCounts [58] (TL.tl e) with
      | none =>
        have hd : prD (TL.tl e) = .none := by unfold prD; rw [hq]
        have hb : (prO (TL.tl e)).isSome = false := by unfold prO; rw [hq]; rfl
        have hdz : Dat No H' z .none := by rw [← hd]; exact hdz
        cases hdz
        refine r_iteT rfl ?_
        refine r_iteT rfl ?_
        walk_at "go"
        exact bad [] hb _
      | some l =>
        have hd : prD (TL.tl e) = .list (l.map .int) := by unfold prD; rw [hq]
        have hdz : Dat No H' z (.list (l.map .int)) := by rw [← hd]; exact hdz
        obtain ⟨a1, y1, _, rfl, q1, _, hy1, hd1⟩ := hdz.listI rfl
        cases q1
        have hyl := hd1.len
        rw [List.length_map] at hyl
        refine r_iteF rfl ?_
        walk_at "go"
        refine r_len_l hy1 ?_
        walk_at "go"
        rw [hyl]
        by_cases h2 : (l.length : Int) = 2
        · have hb : (prO (TL.tl e)).isSome = true := by
            unfold prO
            rw [hq]
            match l, h2 with
            | [_, _], _ => rfl
            | [], h => exact absurd h (by decide)
            | [_], h => exact absurd h (by simp)
            | _ :: _ :: _ :: _, h => simp only [List.length_cons] at h; omega
          refine r_iteF (by simp [h2]) ?_
          exact good hb
        · have hb : (prO (TL.tl e)).isSome = false := by
            unfold prO
            rw [hq]
            match l, h2 with
            | [_, _], h => exact absurd rfl h
            | [], _ => rfl
            | [_], _ => rfl
            | _ :: _ :: _ :: _, _ => rfl
          refine r_iteT (by simp [h2]) ?_
          walk_at "go"
          exact bad [] hb _
    · rintro B acc H' hB hacc hl ⟨kp, hem⟩
      rw [hhl, List.take_length] at hem
      exact hZ _ _ ⟨B, acc, rfl, hacc, kp, hem⟩
  rintro v H3 ⟨B, bs, rfl, hB, k3, hem⟩
  walk_at "go"
  rename_i pe He hpe ke ee
  refine r_ne_nil (SqL.of (ke.lst hB)) ee ?_
  rw [hem]
  cases hall : ws.all fun w => (prO (TL.tl w)).isSome with
  | false =>
    refine r_bl (r_iteT rfl ?_)
    walk_at "go"
    refine kN ?_ _ (((k2.trans k3).trans ke))
    have : mapO prO (ws.map TL.tl) = none := by
      rw [List.all_eq_false] at hall
      obtain ⟨w, hw, hw2⟩ := hall
      have hw3 : prO (TL.tl w) = none := by
        cases h : prO (TL.tl w) with
        | none => rfl
        | some p => rw [h] at hw2; exact absurd rfl hw2
      have go : ∀ l : List Str, w ∈ l → mapO prO (l.map TL.tl) = none := fun l => by
        induction l with
        | nil => intro h; cases h
        | cons a r ih =>
          intro h
          rw [List.map_cons, mapO]
          rcases List.mem_cons.mp h with rfl | h
          · rw [hw3]
          · rw [ih h]; cases prO (TL.tl a) <;> rfl
      exact go ws hw
    rw [hlm, this]
  | true =>
    refine r_bl (r_iteF rfl ?_)
    obtain ⟨ps, hps, hpd⟩ : ∃ ps : List (Int × Int), mapO prO (ws.map TL.tl) = some ps ∧ ws.map (fun w => prD (TL.tl w)) = ps.map fun p => .list [.int p.1, .int p.2] := by
      have go : ∀ l : List Str, (∀ w ∈ l, (prO (TL.tl w)).isSome = true) → ∃ ps : List (Int × Int), mapO prO (l.map TL.tl) = some ps ∧ l.map (fun w => prD (TL.tl w)) = ps.map fun p => .list [.int p.1, .int p.2] := fun l => by
        induction l with
        | nil => intro _; exact ⟨[], rfl, rfl⟩
        | cons a r ih =>
          intro h
          obtain ⟨ps, e1, e2⟩ := ih fun w hw => h w (List.mem_cons_of_mem _ hw)
          have ha := h a List.mem_cons_self
          obtain ⟨p, hp⟩ := Option.isSome_iff_exists.mp ha
          refine ⟨p :: ps, by rw [List.map_cons, mapO, hp, e1], ?_⟩
          rw [List.map_cons, e2, List.map_cons]
          congr 1
          unfold prO at hp
          unfold prD
          cases hc : lwCounts [58] (TL.tl a) with
          | none => rw [hc] at hp; cases hp
          | some l =>
            rw [hc] at hp
            match l, hp with
            | [i, j], hp => cases hp; rfl
      exact go ws fun w hw => List.all_eq_true.mp hall w hw
    rw [hps] at hlm
    dsimp only at hlm
    rw [hpd] at hds
    have hpl : ps.length ≤ 63 := by
      have := hds.len
      rw [List.length_map] at this
      omega
    have k23 : Kp No H2 He := k3.trans ke
    have hds3 := hds.kp k23
    have hD3 : He D = some (.lst hs) := k23.lst hD
    walk_at "go"
    refine via (fun v H' => ∃ (C : Addr), v = .ref C ∧ H' C = some (.lst (ps.map fun p => V.int p.1)) ∧ Kp No He H') (fun Z hZ => ?_) ?_
    · refine r_lcL ?_
      walk_at "go"
      refine lcL (fun C i acc H' => Kp No He H' ∧ acc = (ps.take i).map fun p => V.int p.1) (SqL.of hD3) (fun C hC => ⟨Kp.new Kp.refl hC, rfl⟩) (fun C i acc H' hC hp => hp.1.sql (SqL.of hD3)) ?_ ?_
      · rintro C i acc z H' hC hi hacc hl ⟨kp, rfl⟩
        obtain ⟨d, hd0, hdz0⟩ := hds3.get hi
        rw [List.getElem?_map] at hd0
        cases hpi : ps[i]? with
        | none => rw [hpi] at hd0; cases hd0
        | some p =>
        rw [hpi] at hd0
        cases hd0
        have hi2 : i < 10000000 := by have := (List.getElem?_eq_some_iff.mp hpi).1; omega
        obtain ⟨a1, y1, _, rfl, q1, _, hy1, hd1⟩ := (hdz0.kp kp).listI rfl
        cases q1
        obtain ⟨z1, z2, rfl, hz1, hz2⟩ := hd1.inv2
        obtain ⟨_, rfl, q2⟩ := hz1.wholeI rfl
        cases q2
        walk_at "go"
        refine lc_yesB hacc hl hi2 ⟨Kp.fresh kp hC, ?_⟩
        rw [List.take_add_one, hpi, List.map_append]; rfl
      · rintro C acc H' hC hacc hl ⟨kp, rfl⟩
        have := hds3.len
        rw [List.length_map] at this
        rw [this, List.take_length] at hacc
        exact hZ _ _ ⟨C, rfl, hacc, kp⟩
    rintro v H5 ⟨C, rfl, hC, k5⟩
    walk_at "go"
    have hns : ps.map (fun p => V.int p.1) = (ps.map (·.1)).map V.int := by rw [List.map_map]; rfl
    rw [hns] at hC
    refine r_sortSetL0 ?_
    walk_at "go"
    refine r_sortSetL hC (by rw [List.length_map]; omega) fun ms q hms hmem hq => ?_
    have k6 : Kp No H5 (upd H5 q (.lst (ms.map V.int))) := Kp.new Kp.refl hq
    walk_at "go"
    refine r_eq_ints upd_same (k6.lst hC) ?_
    refine r_bl ?_
    by_cases hasc : ms = ps.map (·.1)
    · refine r_iteT (decide_eq_true hasc) ?_
      rw [if_pos (hasc ▸ hms)] at hlm
      have k25 : Kp No H2 (upd H5 q (.lst (ms.map V.int))) := (k23.trans k5).trans k6
      have hds6 := hds.kp k25
      have hD6 := k25.lst hD
      generalize upd H5 q (.lst (ms.map V.int)) = H6 at k25 hds6 hD6
      walk_at "go"
      refine via (fun v H' => ∃ (G : Addr) (gs : List V), v = .ref G ∧ H' G = some (.lst gs) ∧ Kp No H6 H' ∧ Dats All H' gs (ps.map prP)) (fun Z hZ => ?_) ?_
      · refine r_lcL ?_
        walk_at "go"
        refine lcL (fun C i acc H' => Kp No H6 H' ∧ Dats All H' acc ((ps.take i).map prP)) (SqL.of hD6) (fun C hC => ⟨Kp.new Kp.refl hC, .nil⟩) (fun C i acc H' hC hp => hp.1.sql (SqL.of hD6)) ?_ ?_
        · rintro C i acc z H' hC hi hacc hl ⟨kp, hac⟩
          obtain ⟨d, hd0, hdz0⟩ := hds6.get hi
          rw [List.getElem?_map] at hd0
          cases hpi : ps[i]? with
          | none => rw [hpi] at hd0; cases hd0
          | some p =>
          rw [hpi] at hd0
          cases hd0
          have hi2 : i < 10000000 := by have := (List.getElem?_eq_some_iff.mp hpi).1; omega
          obtain ⟨a1, y1, _, rfl, q1, _, hy1, hd1⟩ := (hdz0.kp kp).listI rfl
          cases q1
          obtain ⟨z1, z2, rfl, hz1, hz2⟩ := hd1.inv2
          obtain ⟨_, rfl, q2⟩ := hz1.wholeI rfl
          cases q2
          obtain ⟨_, rfl, q2⟩ := hz2.wholeI rfl
          cases q2
          walk_at "go"
          rename_i pt Ht hpt kt et
          refine lc_yesB (kt.lst hacc) hl hi2 ⟨Kp.fresh (kp.trans kt) hC, ?_⟩
          rw [List.take_add_one, hpi, List.map_append]
          exact Dats.all (Dats.append (hac.all kt) (Dats.one (.tup et (.cons (.int p.1) (.cons (.int p.2) .nil))))) (Kp.app (kt.lst hacc))
        · rintro C acc H' hC hacc hl ⟨kp, hac⟩
          have := hds6.len
          rw [List.length_map] at this
          rw [this, List.take_length] at hac
          exact hZ _ _ ⟨C, acc, rfl, hacc, kp, hac⟩
      rintro v H7 ⟨G, gs, rfl, hG, k7, hgs⟩
      walk_at "go"
      rename_i pt Ht hpt kt et
      exact k _ hlm pt Ht (((k2.trans k25).trans k7).trans kt) (.tup et (hgs.all kt))
    · refine r_iteF (decide_eq_false hasc) ?_
      walk_at "go"
      refine kN ?_ _ (((k2.trans k23).trans k5).trans k6)
      rw [hlm]
      refine if_neg fun z => hasc (asc_same hms z hmem)

end

section
variable {P : Program} {w : World} {K : PySem.W.Frag} {mg : Str → Option Value} {base : Heap} {c : Ads}
/-! the letter that a text writes, by the law's own reading -/
theorem lwRest_want {w rest : List Nat} {bl : Bool} (h : w = wL "want" ∨ w = wL "unwant") : lwRest w bl rest = if bl = true then (rdWish rest).map fun ds => [strD w, .tuple ds] else none := by
  unfold lwRest; rw [if_pos h]
theorem lwRest_news {w rest : List Nat} {bl : Bool} (h : w = wL "news") : lwRest w bl rest = (lwNews rest).map fun r => .str sNews :: r := by
  unfold lwRest; rw [if_neg (fun z => by rcases z with z | z <;> exact absurd (h.symm.trans z) (by decide +kernel)), if_pos h]
theorem lwRest_other {w rest : List Nat} {bl : Bool} (h1 : ¬ (w = wL "want" ∨ w = wL "unwant")) (h3 : w ≠ wL "news") : lwRest w bl rest =
    (let parts := TL.spl bar3 0 [] rest
    let words := TL.spl [32] 0 [] (parts.headD [])
    if w = wL "here" then (match words with
      | [h, c] => if fieldL h = true then (match lwCourse c with
        | some ds => if parts.tail = [] then some [strD w, strD h, .tuple ds] else none
        | none => none) else none
      | _ => none)
    else if w = wL "kept" then (match words with
      | [h, c, m] => if fieldL h = true then (match lwCourse c, lwMarks m, mapO lwPart parts.tail with
        | some ds, some ms, some ps => some [strD w, strD h, .tuple ds, .tuple ms, .tuple ps]
        | _, _, _ => none) else none
      | _ => none)
    else none) := by
  unfold lwRest; rw [if_neg h1, if_neg h3]; try rfl
theorem wL_eq {x : Str} {s : String} : TL.tl x = wL s ↔ x = Str.ofString s := ⟨fun h => TL.ext_tl h, fun h => by rw [h]; rfl⟩
theorem parS_lw (x : Str) : ∃ W B R : Str, parS x (Str.ofString " ") = (W, B, R) ∧ lwLetter (TL.tl x) = lwRest (TL.tl W) (decide (B ≠ Str.ofString "")) (TL.tl R) ∧ (TL.tl W).count 44 ≤ (TL.tl x).count 44 ∧ (TL.tl R).count 44 ≤ (TL.tl x).count 44 := by
  unfold parS lwLetter
  have e32 : TL.tl (Str.ofString " ") = [32] := by decide +kernel
  rw [e32]
  cases hp : TL.par [32] [] (TL.tl x) with
  | none => exact ⟨x, Str.empty, Str.empty, rfl, by rw [decide_eq_false (fun z => z (by decide +kernel))]; rfl, Nat.le_refl _, Nat.zero_le _⟩
  | some q =>
    obtain ⟨u, v⟩ := q
    have e := par_eq _ _ _ _ hp
    rw [List.nil_append] at e
    refine ⟨ofL u, Str.ofString " ", ofL v, rfl, ?_, ?_, ?_⟩
    · rw [decide_eq_true (by decide +kernel), tl_ofL, tl_ofL]
    · rw [tl_ofL, e, List.count_append]; omega
    · rw [tl_ofL, e, List.count_append, List.count_append]; omega
theorem strD_tl (W : Str) : strD (TL.tl W) = .str W := by unfold strD; rw [ofL_tl]
theorem r_ninS {K : PySem.W.Frag} {H : Hp} {Q : VK} {p : Addr} {x : Str} (ws : List Str) (h : H p = some (.lst (ws.map V.str))) (q : Q (.bl (!decide (x ∈ ws))) H) : rIn2 K true (.str x) (.ref p) H Q :=
  .inr ⟨p, ws.map V.str, rfl, .inl (SqL.of h), rfl, by
    rw [List.all_eq_true]
    intro y hy
    obtain ⟨w, _, rfl⟩ := List.mem_map.mp hy
    rfl, by
    have e : inV (.str x) (ws.map V.str) = decide (x ∈ ws) := by
      unfold inV
      rw [List.any_map]
      by_cases hx : x ∈ ws
      · rw [decide_eq_true hx, List.any_eq_true]
        exact ⟨x, hx, by simp [eqV]⟩
      · rw [decide_eq_false hx, List.any_eq_false]
        intro y hy
        have : y ≠ x := fun z => hx (z ▸ hy)
        simp [eqV, this]
    show Q (.bl (!inV (.str x) (ws.map V.str))) H
    rw [e]; exact q⟩
def pcD (t : List Nat) : PyData := (lwPart t).getD .none
theorem mapO_any {α : Type} {f : α → Option PyData} (hf : ∀ a d, f a = some d → isNoD d = false) : ∀ ws : List α, mapO f ws = if (ws.map fun a => (f a).getD .none).any isNoD = true then none else some (ws.map fun a => (f a).getD .none)
  | [] => rfl
  | w :: r => by
    rw [mapO, mapO_any hf r, List.map_cons, List.any_cons]
    cases h : f w with
    | none => rfl
    | some d =>
      rw [Option.getD_some, hf w d h, Bool.false_or]
      by_cases hr : ((r.map fun w => (f w).getD .none).any isNoD) = true
      · rw [if_pos hr, if_pos hr]
      · rw [if_neg hr, if_neg hr]
theorem lwPart_no (t : List Nat) (d : PyData) (h : lwPart t = some d) : isNoD d = false := by
  unfold lwPart at h
  cases hn : lwNews t with
  | none => rw [hn] at h; cases h
  | some l => rw [hn] at h; cases h; rfl
theorem rdPiece_lay {l : List Nat} {p : List PyData} (hl : low l) (h : rdPiece l = some p) : PyData.canLayAll0 p = true ∧ PyData.depthAll p ≤ 2 := by
  by_cases h1 : l = [45]
  · rw [h1] at h
    cases h
    exact ⟨by simp [PyData.canLayAll0], by simp [PyData.depthAll]⟩
  · have e : rdOf 2 l = some p := h
    rw [rdOf_eq (.inl rfl) h1] at e
    dsimp only at e
    split at e
    · cases e
    · split at e
      · cases e
        have go : ∀ ws : List (List Nat), (∀ w ∈ ws, low w) → PyData.canLayAll0 (ws.map (partV (2 : Nat))) = true ∧ PyData.depthAll (ws.map (partV (2 : Nat))) ≤ 2 := fun ws => by
          induction ws with
          | nil => intro _; exact ⟨by simp [PyData.canLayAll0], by simp [PyData.depthAll]⟩
          | cons a r ih =>
            intro h
            obtain ⟨a1, a2⟩ := partV_lay (n := (2 : Nat)) (h a List.mem_cons_self)
            obtain ⟨r1, r2⟩ := ih fun x hx => h x (List.mem_cons_of_mem _ hx)
            exact ⟨by rw [List.map_cons, PyData.canLayAll0, a1, r1]; rfl, by rw [List.map_cons, PyData.depthAll]; exact Nat.max_le.mpr ⟨a2, r2⟩⟩
        exact go _ fun w hw => spl_low hl hw
      · cases e
theorem low_join {s : Nat} (hs : s < 256) : ∀ ps : List (List Nat), (∀ p ∈ ps, low p) → low (TL.joinL [s] ps) := fun ps h => low_joinL (fun c hc => by rw [List.mem_singleton.mp hc]; exact hs) ps h
theorem pcD_lay {t : List Nat} (ht : low t) : (pcD t).canLay0 = true ∧ (pcD t).depth ≤ 4 := by
  unfold pcD lwPart
  cases h : lwNews t with
  | none => exact ⟨by simp [PyData.canLay0], by simp [PyData.depth]⟩
  | some l =>
    rw [lwNews_eq] at h
    split at h
    · rename_i a b c r hsp
      split at h
      · rename_i p hp
        have hlow : low (TL.joinL [32] (c :: r)) := low_join (by decide) _ fun w hw => spl_low ht (by rw [hsp]; exact List.mem_cons_of_mem _ (List.mem_cons_of_mem _ hw))
        obtain ⟨h1, h2⟩ := rdPiece_lay hlow hp
        split at h
        · cases h
          exact ⟨by simp [PyData.canLay0, PyData.canLayAll0, h1], by simp only [Option.map_some, Option.getD_some, PyData.depth, PyData.depthAll]; omega⟩
        · cases h
      · cases h
    · cases h
theorem pcs_shaped {ws : List (List Nat)} (hw : ∀ w ∈ ws, low w) : SeqAt.shaped (.list (ws.map pcD)) = true := by
  have go : ∀ ws : List (List Nat), (∀ w ∈ ws, low w) → PyData.canLayAll0 (ws.map pcD) = true ∧ PyData.depthAll (ws.map pcD) ≤ 4 := fun ws => by
    induction ws with
    | nil => intro _; exact ⟨by simp [PyData.canLayAll0], by simp [PyData.depthAll]⟩
    | cons a r ih =>
      intro h
      obtain ⟨a1, a2⟩ := pcD_lay (h a List.mem_cons_self)
      obtain ⟨r1, r2⟩ := ih fun x hx => h x (List.mem_cons_of_mem _ hx)
      exact ⟨by simp [PyData.canLayAll0, a1, r1], by simp only [List.map_cons, PyData.depthAll]; omega⟩
  obtain ⟨g1, g2⟩ := go ws hw
  unfold SeqAt.shaped
  rw [show (PyData.list (ws.map pcD)).canLay0 = true by simp [PyData.canLay0, g1], Bool.true_and]
  exact decide_eq_true (by simp only [PyData.depth]; omega)
theorem spl_cnt {S : List Nat} {c : Nat} : ∀ (L : List Nat) (k : Nat) (acc : List Nat), ∀ w ∈ TL.spl S k acc L, w.count c ≤ acc.count c + L.count c
  | [], k, acc, w, h => by
    rw [TL.spl_nil] at h
    rw [List.mem_singleton.mp h]; simp
  | a :: r, 0, acc, w, h => by
    cases hp : TL.pre S (a :: r) with
    | true =>
      rw [TL.spl_hit hp] at h
      rcases List.mem_cons.mp h with rfl | h
      · exact Nat.le_add_right _ _
      · have := spl_cnt (c := c) r _ _ w h
        rw [List.count_nil, Nat.zero_add] at this
        have e : r.count c ≤ (a :: r).count c := (List.sublist_cons_self a r).count_le c
        omega
    | false =>
      rw [TL.spl_miss hp] at h
      have := spl_cnt (c := c) r _ _ w h
      rw [List.count_append, List.count_cons, List.count_nil] at this
      rw [List.count_cons]
      omega
  | a :: r, k + 1, acc, w, h => by
    have := spl_cnt (c := c) r k acc w h
    have e : r.count c ≤ (a :: r).count c := (List.sublist_cons_self a r).count_le c
    omega
/-- the parts of a text are no greater than it -/
theorem spl_tc {n m : Nat} {x y : Str} (hx : TC n m x) (hy1 : TL.tl y ≠ []) (hy2 : y.cps.all (· < 256) = true) : ∀ w ∈ Txt.split x y, TC n m w := fun w hw => by
  have e := split_tl x hy1 hy2
  have hm : TL.tl w ∈ TL.spl (TL.tl y) 0 [] (TL.tl x) := by rw [← e]; exact List.mem_map_of_mem hw
  have hl := split_le x hy1 hy2 hw
  refine TC.of ⟨Nat.le_trans hl hx.tx.1, spl_low hx.tx.2 hm⟩ ?_
  have := spl_cnt (c := 44) _ _ _ _ hm
  rw [List.count_nil, Nat.zero_add] at this
  exact Nat.le_trans this hx.cm
def OutO (o : Option (List PyData)) (v : V) (H : Hp) : Prop := (o = none ∧ v = .non) ∨ ∃ ds p, o = some ds ∧ v = .ref p ∧ Dat All H (.ref p) (.tuple ds)
theorem outO {a : Option (List PyData)} {H : Hp} {Q : VK} (h : ∀ v H', Kp No H H' → OutO a v H' → Q v H') : RO a H Q :=
  ⟨fun ds hd p H' k hv => h _ _ k (.inr ⟨ds, p, hd, rfl, hv⟩), fun hd H' k => h _ _ k (.inl ⟨hd, rfl⟩)⟩
def ooD : Option (List PyData) → PyData
  | some ds => .tuple ds
  | none => .none
theorem OutO.dat {o : Option (List PyData)} {v : V} {H : Hp} (h : OutO o v H) : Dat All H v (ooD o) := by
  rcases h with ⟨rfl, rfl⟩ | ⟨ds, p, rfl, rfl, h⟩
  · exact .non
  · exact h
theorem OutO.all {o : Option (List PyData)} {v : V} {H H' : Hp} {ex : Addr → Prop} (h : OutO o v H) (k : Kp ex H H') : OutO o v H' := by
  rcases h with ⟨rfl, rfl⟩ | ⟨ds, p, rfl, rfl, h⟩
  · exact .inl ⟨rfl, rfl⟩
  · exact .inr ⟨ds, p, rfl, rfl, h.all k⟩
theorem OutO.non {o : Option (List PyData)} {v : V} {H : Hp} (h : OutO o v H) : decide (v = .non) = o.isNone := by
  rcases h with ⟨rfl, rfl⟩ | ⟨ds, p, rfl, rfl, h⟩ <;> rfl
abbrev spLetterOf : Sp := sp1 fun v H Q _ => ∃ x, v = .str x ∧ TC 7000 62 x ∧ RO (lwLetter (TL.tl x)) H Q
theorem c__law_letter_of (T : Txt K mg c) : Cal P w K mg base CX0 6 "_law_letter_of" ["text"] spLetterOf := by
  refine T.d__law_letter_of.cal sc__law_letter_of sp1_len (fun f cdv A outer s H vs Q E hr h => ?_)
  obtain ⟨v, rfl, x, rfl, hx, k, kN⟩ := h
  refine ⟨_, (pss_cons (ps_asg (pe_partition2 (pv 0) pe_str) (pg_tup2 (K := K) (n := 3) (by rfl) (pgs_cons (pg_name (i := 1) sc__law_letter_of.nd rfl (by first | exact Or.inl rfl | exact Or.inr rfl)) (pgs_cons (pg_name (i := 2) sc__law_letter_of.nd rfl (by first | exact Or.inl rfl | exact Or.inr rfl)) (pgs_cons (pg_name (i := 3) sc__law_letter_of.nd rfl (by first | exact Or.inl rfl | exact Or.inr rfl)) pgs_nil)))))
    (pss_cons (ps_if (PW.pt (pw_or (pt_cmpR (op_eq2 (K := K) hr.units) (pv 1) pe_str (nomark _)) (pw_or1 (pt_cmpR (op_eq2 (K := K) hr.units) (pv 1) pe_str (nomark _))))) (pss_cons (ps_set (i := 4) sc__law_letter_of.nd rfl (by first | exact Or.inl rfl | exact Or.inr rfl) (pe_ifExp (pt_cmpR (op_ne2 (K := K) hr.units) (pv 2) pe_str (nomark _)) (pe_cal (c__law_read T) (hr.mono (by first | decide | omega)) pass0 (pa_cons (pv 3) (pa_cons pe_int pa_nil))) pe_non))
      (pss_one (ps_ret (pe_ifExp (pt_cmp (pc_isN (pv 4)) rfl) pe_non (pe_tup (pa_cons (pv 1) (pa_cons (pv 4) pa_nil))))))) pss_nil)
    (pss_cons (ps_if (pt_cmpR (op_eq2 (K := K) hr.units) (pv 1) pe_str (nomark _)) (pss_cons (ps_set (i := 5) sc__law_letter_of.nd rfl (by first | exact Or.inl rfl | exact Or.inr rfl) (pe_cal (c__law_news_of T) (hr.mono (by first | decide | omega)) pass0 (pa_cons (pv 3) pa_nil)))
      (pss_one (ps_ret (pe_ifExp (pt_cmp (pc_isN (pv 5)) rfl) pe_non (pe_op (op_add2 (K := K)) (pe_tup (pa_cons pe_str pa_nil)) (pv 5)))))) pss_nil)
    (pss_cons (ps_set (i := 6) sc__law_letter_of.nd rfl (by first | exact Or.inl rfl | exact Or.inr rfl) (pe_split2 (pv 3) pe_str))
    (pss_cons (ps_set (i := 7) sc__law_letter_of.nd rfl (by first | exact Or.inl rfl | exact Or.inr rfl) (pe_split2 (pe_ix (ix_any (K := K)) (pv 6) pe_int (fun _ _ => rfl)) pe_str))
    (pss_cons (ps_if (PW.pt (pw_or (pt_cmpR (op_nin2 (K := K)) (pv 1) (pe_lst (pa_cons pe_str (pa_cons pe_str pa_nil))) (by rfl)) (pw_or (pt_cmpR (op_ne2 (K := K) hr.units) (pe_callB (call_len2 (K := K)) (by rfl) T.n_len (by decide +kernel) (pa_cons (pv 7) pa_nil)) (pe_op (op_add2 (K := K)) pe_int (pe_callTy call_int2 (by rfl) T.n_int (by decide +kernel) (pa_cons (pe_cmpR (op_eq2 (K := K) hr.units) (pv 1) pe_str (nomark _)) pa_nil))) (nomark _)) (pw_or1 (pt_not (pt_val (pe_cal (c__law_is_field T) (hr.mono (by first | decide | omega)) pass0 (pa_cons (pe_ix (ix_any (K := K)) (pv 7) pe_int (fun _ _ => rfl)) pa_nil)) (by intro _; rfl))))))) (pss_one (ps_ret pe_non)) pss_nil)
    (pss_cons (ps_set (i := 8) sc__law_letter_of.nd rfl (by first | exact Or.inl rfl | exact Or.inr rfl) (pe_cal (c__law_course_of T) (hr.mono (by first | decide | omega)) pass0 (pa_cons (pe_ix (ix_any (K := K)) (pv 7) pe_int (fun _ _ => rfl)) pa_nil)))
    (pss_cons (ps_if (pt_cmpR (op_eq2 (K := K) hr.units) (pv 1) pe_str (nomark _)) (pss_one (ps_ret (pe_ifExp (PW.pt (pw_or (pt_cmp (pc_isN (pv 8)) rfl) (pw_or1 (pt_cmpR op_gt2 (pe_callB (call_len2 (K := K)) (by rfl) T.n_len (by decide +kernel) (pa_cons (pv 6) pa_nil)) pe_int (nomark _))))) pe_non (pe_tup (pa_cons (pv 1) (pa_cons (pe_ix (ix_any (K := K)) (pv 7) pe_int (fun _ _ => rfl)) (pa_cons (pv 8) pa_nil))))))) pss_nil)
    (pss_cons (ps_set (i := 9) sc__law_letter_of.nd rfl (by first | exact Or.inl rfl | exact Or.inr rfl) (pe_cal (c__law_marks_of T) (hr.mono (by first | decide | omega)) pass0 (pa_cons (pe_ix (ix_any (K := K)) (pv 7) pe_int (fun _ _ => rfl)) pa_nil)))
    (pss_cons (ps_setLc (i := 10) (own := [("part", 11)]) (by rfl) sc__law_letter_of.nd rfl rfl (sw_true rfl rfl rfl (by decide +kernel)) (pi_any (K := K) (pe_slice (sl_any (K := K)) (pv 6) (po_some pe_int) po_none)) (blkOk_by (own := [("part", 11)]) (N := ["text", "word", "blank", "rest", "wish", "news", "parts", "words", "course", "marks", "pieces", "part"]) (sc := defScope s__law_letter_of) (by decide +kernel)) (fun _ _ _ _ _ => (pg_name (i := 11) sc__law_letter_of.nd rfl (by first | exact Or.inl rfl | exact Or.inr rfl))) (fun _ _ _ _ _ => pts_nil) (fun _ _ _ _ _ => (pe_cal (c__law_news_of T) (hr.mono (by first | decide | omega)) pass0 (pa_cons (pv 11) pa_nil))))
    (pss_one (ps_ret (pe_ifExp (PW.pt (pw_or (pt_cmp (pc_isN (pv 8)) rfl) (pw_or (pt_cmp (pc_isN (pv 9)) rfl) (pw_or1 (pt_cmpR (op_inD2 (K := K) (u65 hr)) pe_non (pv 10) (by rfl)))))) pe_non (pe_tup (pa_cons (pv 1) (pa_cons (pe_ix (ix_any (K := K)) (pv 7) pe_int (fun _ _ => rfl)) (pa_cons (pv 8) (pa_cons (pv 9) (pa_cons (pe_callTy (call_tuple2 (K := K)) (by rfl) T.n_tuple (by decide +kernel) (pa_cons (pv 10) pa_nil)) pa_nil))))))))))))))))))), ?_⟩
  walk_at "go"
  obtain ⟨W, B, R, hpar, hlw, hcW, hcR⟩ := parS_lw x
  obtain ⟨tW, tR⟩ := parS_tx (b := Str.ofString " ") hx.tx
  refine r_part_s (by decide +kernel) (by decide +kernel) (Nat.le_trans hx.tx.1 (by decide)) fun p1 H1 hp1 k1 ep1 => ?_
  rw [hpar] at ep1 tW tR
  dsimp only at ep1 tW tR
  rw [hlw] at k kN
  have hcx := hx.cm
  walk_at "go"
  have lW : W.length ≤ 1000000 := Nat.le_trans tW.1 (by decide)
  have lR : R.length ≤ 7000 := tR.1
  walk_at "br"
  · intro h1
    have hw : TL.tl W = wL "want" ∨ TL.tl W = wL "unwant" := .inl (wL_eq.mpr h1)
    walk_at "go"
    rw [lwRest_want hw] at k kN
    by_cases hb : B = Str.ofString ""
    · refine r_iteF (by rw [decide_eq_true hb]; rfl) ?_
      walk_at "go"
      rw [decide_eq_false (fun z => z hb)] at kN
      exact kN rfl _ k1
    · refine r_iteT (by rw [decide_eq_false hb]; rfl) ?_
      rw [decide_eq_true hb, if_pos rfl] at k kN
      walk_at "go"
      refine ⟨R, 3, rfl, rfl, .inr rfl, by omega, tR.2, fun ds hd v' H2 k2 hv => ?_, fun hd H2 k2 => ?_⟩
      · rw [show rdOf 3 = rdWish from rfl] at hd
        obtain ⟨ap, xs, rfl, hap, hxs⟩ := hv.tupE
        walk_at "go"
        rename_i pt Ht hpt kt et
        exact k [strD (TL.tl W), .tuple ds] (by rw [hd]; rfl) pt Ht ((k1.trans k2).trans kt) (.tup et (.cons (by rw [strD_tl]; exact .str W lW) (.cons ((Dat.tup hap hxs).all kt) .nil)))
      · rw [show rdOf 3 = rdWish from rfl] at hd
        walk_at "go"
        exact kN (by rw [hd]; rfl) _ (k1.trans k2)
  intro h1
  walk_at "go"
  walk_at "br"
  · intro h2
    have hw : TL.tl W = wL "want" ∨ TL.tl W = wL "unwant" := .inr (wL_eq.mpr h2)
    walk_at "go"
    rw [lwRest_want hw] at k kN
    by_cases hb : B = Str.ofString ""
    · refine r_iteF (by rw [decide_eq_true hb]; rfl) ?_
      walk_at "go"
      rw [decide_eq_false (fun z => z hb)] at kN
      exact kN rfl _ k1
    · refine r_iteT (by rw [decide_eq_false hb]; rfl) ?_
      rw [decide_eq_true hb, if_pos rfl] at k kN
      walk_at "go"
      refine ⟨R, 3, rfl, rfl, .inr rfl, by omega, tR.2, fun ds hd v' H2 k2 hv => ?_, fun hd H2 k2 => ?_⟩
      · rw [show rdOf 3 = rdWish from rfl] at hd
        obtain ⟨ap, xs, rfl, hap, hxs⟩ := hv.tupE
        walk_at "go"
        rename_i pt Ht hpt kt et
        exact k [strD (TL.tl W), .tuple ds] (by rw [hd]; rfl) pt Ht ((k1.trans k2).trans kt) (.tup et (.cons (by rw [strD_tl]; exact .str W lW) (.cons ((Dat.tup hap hxs).all kt) .nil)))
      · rw [show rdOf 3 = rdWish from rfl] at hd
        walk_at "go"
        exact kN (by rw [hd]; rfl) _ (k1.trans k2)
  intro h2
  walk_at "go"
  walk_at "br"
  · intro h3
    rw [lwRest_news (wL_eq.mpr h3)] at k kN
    walk_at "go"
    refine ⟨R, rfl, by omega, tR.2, fun ds hd p H2 k2 hv => ?_, fun hd H2 k2 => ?_⟩
    · obtain ⟨ap, xs, e, hap, hxs⟩ := hv.tupE
      cases e
      walk_at "go"
      rename_i pt Ht hpt kt et
      refine r_catT et (kt.tup hap) ?_ fun pu Hu ku eu => ?_
      · have := hxs.len
        rw [lwNews_eq] at hd
        have : ds.length ≤ 3 := by
          split at hd
          · split at hd
            · split at hd
              · cases hd; exact Nat.le_refl _
              · cases hd
            · cases hd
          · cases hd
        simp only [List.length_cons, List.length_nil]; omega
      exact k (.str sNews :: ds) (by rw [hd]; rfl) pu Hu (((k1.trans k2).trans kt).trans ku) (.tup eu (.cons (.str sNews (by decide +kernel)) ((hxs.all kt).all ku)))
    · walk_at "go"
      exact kN (by rw [hd]; rfl) _ (k1.trans k2)
  intro h3
  rw [lwRest_other (fun z => z.elim (fun z => h1 (wL_eq.mp z)) fun z => h2 (wL_eq.mp z)) (fun z => h3 (wL_eq.mp z))] at k kN
  dsimp only at k kN
  walk_at "go"
  have tcR : TC 7000 62 R := TC.of tR (by omega)
  have ebar : TL.tl (Str.ofString " | ") = bar3 := by decide +kernel
  have e32 : TL.tl (Str.ofString " ") = [32] := by decide +kernel
  have hpt := split_tl R (y := Str.ofString " | ") (by decide +kernel) (by decide +kernel)
  rw [ebar] at hpt
  have tpt := spl_tc tcR (y := Str.ofString " | ") (by decide +kernel) (by decide +kernel)
  have hpc := split_count R (y := Str.ofString " | ") (by decide +kernel) (by decide +kernel)
  refine r_split (by decide +kernel) (by omega) fun pp H2 hpp k2 epp => ?_
  rw [← hpt] at k kN
  generalize hpts : Txt.split R (Str.ofString " | ") = pts at hpt tpt epp hpc k kN
  obtain ⟨t0, ts, rfl⟩ : ∃ t0 ts, pts = t0 :: ts := by
    cases pts with
    | nil => exact absurd hpt.symm (spl_ne _ _ _ _)
    | cons a r => exact ⟨a, r, rfl⟩
  walk_at "go"
  have tt0 := tpt t0 List.mem_cons_self
  have lt0 : t0.length ≤ 7000 := tt0.tx.1
  have hwt := split_tl t0 (y := Str.ofString " ") (by decide +kernel) (by decide +kernel)
  rw [e32] at hwt
  have twt := spl_tc tt0 (y := Str.ofString " ") (by decide +kernel) (by decide +kernel)
  have hwc := split_count t0 (y := Str.ofString " ") (by decide +kernel) (by decide +kernel)
  refine r_split (by decide +kernel) (by omega) fun pw H3 hpw k3 epw => ?_
  have ek : ((t0 :: ts).map TL.tl).headD [] = TL.tl t0 := rfl
  have ekt : ((t0 :: ts).map TL.tl).tail = ts.map TL.tl := rfl
  rw [ek, ekt, ← hwt] at k kN
  generalize hwts : Txt.split t0 (Str.ofString " ") = ws at hwt twt epw hwc k kN
  walk_at "go"
  rename_i pl Hl hpl kl el
  have k04 : Kp No H Hl := ((k1.trans k2).trans k3).trans kl
  have epw1 := kl.lst epw
  have epp1 := kl.lst (k3.lst epp)
  refine r_ninS [sHere, sKept] el ?_
  by_cases hH : W = sHere
  · subst hH
    rw [if_pos (show TL.tl sHere = wL "here" from rfl)] at k kN
    refine r_bl (r_iteF (by decide +kernel) ?_)
    walk_at "go"
    refine r_len_l epw1 ?_
    walk_at "go"
    rw [List.length_map]
    refine r_int_b ?_
    walk_at "go"
    rw [show ((2 : Int) + if decide (sHere = Str.ofString "kept") = true then 1 else 0) = 2 by decide +kernel]
    by_cases hl : ws.length = 2
    case neg =>
      refine r_iteT (by rw [decide_eq_false (by omega)]; rfl) ?_
      walk_at "go"
      refine kN ?_ _ k04
      match ws, hl with
      | [], _ => rfl
      | [_], _ => rfl
      | [_, _], h => exact absurd rfl h
      | _ :: _ :: _ :: _, _ => rfl
    obtain ⟨wa, wb, rfl⟩ : ∃ a b, ws = [a, b] := by
      match ws, hl with
      | [a, b], _ => exact ⟨a, b, rfl⟩
    refine r_iteF (by rw [decide_eq_true (by simp)]; rfl) ?_
    have ta := twt wa List.mem_cons_self
    have tb := twt wb (List.mem_cons_of_mem _ List.mem_cons_self)
    have la : wa.length ≤ 1000000 := Nat.le_trans ta.tx.1 (by decide)
    have lb : wb.length ≤ 7000 := tb.tx.1
    rw [show [wa, wb].map TL.tl = [TL.tl wa, TL.tl wb] from rfl] at k kN
    dsimp only at k kN
    walk_at "go"
    refine ⟨_, rfl, No, .str wa, .str wa la, fun H4 k4 => ?_⟩
    walk_at "go"
    have ef : fieldD (.str wa) = fieldL (TL.tl wa) := rfl
    rw [ef]
    have epw2 := k4.lst epw1
    have epp2 := k4.lst epp1
    have k05 := k04.trans k4
    cases hf : fieldL (TL.tl wa) with
    | false =>
      rw [hf, if_neg (by decide)] at kN
      refine r_iteT rfl ?_
      walk_at "go"
      exact kN rfl _ k05
    | true =>
    rw [hf, if_pos rfl] at k kN
    refine r_iteF rfl ?_
    walk_at "go"
    refine ⟨wb, rfl, by omega, fun ds hd p H5 k5 hv => ?_, fun hd H5 k5 => ?_⟩
    · rw [hd] at k kN
      dsimp only at k kN
      obtain ⟨ap, xs, e, hap, hxs⟩ := hv.tupE
      cases e
      walk_at "go"
      refine r_iteT (by decide +kernel) ?_
      walk_at "go"
      refine r_len_l (k5.lst epp2) ?_
      walk_at "go"
      rw [List.length_map, List.length_cons]
      by_cases ht : ts = []
      · subst ht
        refine r_iteF (by decide) ?_
        walk_at "go"
        rename_i pt Ht hpt2 kt et
        exact k _ rfl pt Ht ((k05.trans k5).trans kt) (.tup et (.cons (.str sHere (by decide +kernel)) (.cons (by rw [strD_tl]; exact .str wa la) (.cons ((Dat.tup hap hxs).all kt) .nil))))
      · refine r_iteT (decide_eq_true (by have := List.length_pos_iff.mpr ht; omega)) ?_
        walk_at "go"
        refine kN ?_ _ (k05.trans k5)
        rw [if_neg (fun z => ht (List.map_eq_nil_iff.mp z))]
    · rw [hd] at kN
      walk_at "go"
      refine r_iteT (by decide +kernel) ?_
      walk_at "go"
      exact kN rfl _ (k05.trans k5)
  rw [if_neg (show ¬ TL.tl W = wL "here" from fun z => hH (wL_eq.mp z))] at k kN
  by_cases hK : W = sKept
  case neg =>
    rw [if_neg (show ¬ TL.tl W = wL "kept" from fun z => hK (wL_eq.mp z))] at kN
    refine r_bl (r_iteT ?_ ?_)
    · rw [decide_eq_false (by simp [hH, hK])]; rfl
    walk_at "go"
    exact kN rfl _ k04
  subst hK
  rw [if_pos (show TL.tl sKept = wL "kept" from rfl)] at k kN
  refine r_bl (r_iteF (by decide +kernel) ?_)
  walk_at "go"
  refine r_len_l epw1 ?_
  walk_at "go"
  rw [List.length_map]
  refine r_int_b ?_
  walk_at "go"
  rw [show ((2 : Int) + if decide (sKept = Str.ofString "kept") = true then 1 else 0) = 3 by decide +kernel]
  by_cases hl : ws.length = 3
  case neg =>
    refine r_iteT (by rw [decide_eq_false (by omega)]; rfl) ?_
    walk_at "go"
    refine kN ?_ _ k04
    match ws, hl with
    | [], _ => rfl
    | [_], _ => rfl
    | [_, _], _ => rfl
    | [_, _, _], h => exact absurd rfl h
    | _ :: _ :: _ :: _ :: _, _ => rfl
  obtain ⟨wa, wb, wc, rfl⟩ : ∃ a b c, ws = [a, b, c] := by
    match ws, hl with
    | [a, b, c], _ => exact ⟨a, b, c, rfl⟩
  refine r_iteF (by rw [decide_eq_true (by simp)]; rfl) ?_
  have ta := twt wa List.mem_cons_self
  have tb := twt wb (List.mem_cons_of_mem _ List.mem_cons_self)
  have tc := twt wc (List.mem_cons_of_mem _ (List.mem_cons_of_mem _ List.mem_cons_self))
  have la : wa.length ≤ 1000000 := Nat.le_trans ta.tx.1 (by decide)
  have lb : wb.length ≤ 7000 := tb.tx.1
  have lc : wc.length ≤ 7000 := tc.tx.1
  rw [show [wa, wb, wc].map TL.tl = [TL.tl wa, TL.tl wb, TL.tl wc] from rfl] at k kN
  dsimp only at k kN
  walk_at "go"
  refine ⟨_, rfl, No, .str wa, .str wa la, fun H4 k4 => ?_⟩
  walk_at "go"
  have ef : fieldD (.str wa) = fieldL (TL.tl wa) := rfl
  rw [ef]
  have epw2 := k4.lst epw1
  have epp2 := k4.lst epp1
  have k05 := k04.trans k4
  cases hf : fieldL (TL.tl wa) with
  | false =>
    rw [hf, if_neg (by decide)] at kN
    refine r_iteT rfl ?_
    walk_at "go"
    exact kN rfl _ k05
  | true =>
  rw [hf, if_pos rfl] at k kN
  refine r_iteF rfl ?_
  walk_at "go"
  have tts : ∀ z ∈ ts, TC 7000 62 z := fun z hz => tpt z (List.mem_cons_of_mem _ hz)
  have htl : ts.length ≤ 7000 := by rw [List.length_cons] at hpc; omega
  refine ⟨wb, rfl, by omega, outO fun v1 H5 k5 hv1 => ?_⟩
  walk_at "go"
  refine r_iteF (by decide +kernel) ?_
  walk_at "go"
  refine ⟨wc, rfl, by omega, tc.cm, outO fun v2 H6 k6 hv2 => ?_⟩
  walk_at "go"
  refine via (fun v H' => ∃ (D : Addr) (hs : List V), v = .ref D ∧ H' D = some (.lst hs) ∧ Kp No H6 H' ∧ Dats All H' hs (ts.map fun w => pcD (TL.tl w))) (fun Z hZ => ?_) ?_
  · refine r_lcL ?_
    walk_at "go"
    refine r_slL (SqL.of (k6.lst (k5.lst epp2))) fun q H7 hq0 k7 hq => ?_
    rw [show (some (1 : Int)) = some ((1 : Nat) : Int) from rfl, cutV_from] at hq
    have hq : H7 q = some (.lst (ts.map V.str)) := hq
    refine lcL (fun D i acc H' => Kp No H7 H' ∧ Dats All H' acc ((ts.take i).map fun w => pcD (TL.tl w))) (SqL.of hq) (fun D hD => ⟨Kp.new Kp.refl hD, .nil⟩) (fun D i acc H' hD hp => hp.1.sql (SqL.of hq)) ?_ ?_
    · rintro D i acc z H' hD hi hacc hl ⟨kp, hds⟩
      rw [List.getElem?_map] at hi
      cases hwi : ts[i]? with
      | none => rw [hwi] at hi; cases hi
      | some e =>
      rw [hwi] at hi
      cases hi
      have te := tts e (List.mem_of_getElem? hwi)
      have hi2 : i < 10000000 := by have := (List.getElem?_eq_some_iff.mp hwi).1; omega
      have hstep : (ts.take (i + 1)).map (fun w => pcD (TL.tl w)) = (ts.take i).map (fun w => pcD (TL.tl w)) ++ [pcD (TL.tl e)] := by
        rw [List.take_add_one, hwi, List.map_append]; rfl
      walk_at "go"
      refine ⟨e, rfl, Nat.le_trans te.tx.1 (by decide), te.tx.2, outO fun v3 H8 k8 hv3 => ?_⟩
      have ed : pcD (TL.tl e) = ooD (lwNews (TL.tl e)) := by
        unfold pcD lwPart
        cases lwNews (TL.tl e) <;> rfl
      refine lc_yesB (k8.lst hacc) hl hi2 ⟨Kp.fresh (kp.trans k8) hD, ?_⟩
      rw [hstep, ed]
      exact Dats.all (Dats.append (hds.all k8) (Dats.one hv3.dat)) (Kp.app (k8.lst hacc))
    · rintro D acc H' hD hacc hl ⟨kp, hds⟩
      rw [List.length_map, List.take_length] at hds
      exact hZ _ _ ⟨D, acc, rfl, hacc, k7.trans kp, hds⟩
  rintro v H7 ⟨D, hs, rfl, hD, k7, hds⟩
  walk_at "go"
  have hmo : mapO lwPart (ts.map TL.tl) = if ((ts.map TL.tl).map pcD).any isNoD = true then none else some ((ts.map TL.tl).map pcD) := mapO_any lwPart_no _
  have hmm : (ts.map TL.tl).map pcD = ts.map fun w => pcD (TL.tl w) := by rw [List.map_map]; rfl
  have hsh : SeqAt.shaped (.list (ts.map fun w => pcD (TL.tl w))) = true := by
    rw [← hmm]
    exact pcs_shaped fun w hw => by
      obtain ⟨z, hz, rfl⟩ := List.mem_map.mp hw
      exact (tts z hz).tx.2
  rw [hmm] at hmo
  rw [hmo] at k kN
  have k67 := k6.trans k7
  have k57 := k5.trans k67
  have hv1' := hv1.all k67
  have hv2' := hv2.all k7
  have kall : Kp No H H7 := k05.trans k57
  have epw3 := k57.lst epw2
  rw [hv1'.non]
  cases h1 : lwCourse (TL.tl wb) with
  | none =>
    rw [h1] at kN
    refine r_iteT rfl ?_
    walk_at "go"
    refine kN ?_ _ kall
    cases lwMarks (TL.tl wc) <;> (split <;> first | rfl | contradiction)
  | some ds1 =>
  rw [h1] at k kN hv1'
  refine r_iteF rfl ?_
  walk_at "go"
  rw [hv2'.non]
  cases h2 : lwMarks (TL.tl wc) with
  | none =>
    rw [h2] at kN
    refine r_iteT rfl ?_
    walk_at "go"
    exact kN (by split <;> first | rfl | contradiction) _ kall
  | some ds2 =>
  rw [h2] at k kN hv2'
  refine r_iteF rfl ?_
  walk_at "go"
  refine ⟨.none, _, Dat.dp (ex := All) .non rfl, Dat.dp (ex := No) (.lst (fun z => z) hD (hds.weak fun _ _ => trivial)) (noDict hsh), by decide, hsh, ?_⟩
  rw [any_eqv]
  cases h3 : (ts.map fun w => pcD (TL.tl w)).any isNoD with
  | true =>
    rw [h3] at kN
    refine r_bl (r_iteT rfl ?_)
    walk_at "go"
    exact kN rfl _ kall
  | false =>
    rw [h3, if_neg (by decide)] at k
    refine r_bl (r_iteF rfl ?_)
    walk_at "go"
    rename_i pu Hu hpu ku eu pt Ht hpt2 kt et
    obtain hv1d := hv1'.dat
    obtain hv2d := hv2'.dat
    exact k _ rfl pt Ht ((kall.trans ku).trans kt) (.tup et (.cons (.str sKept (by decide +kernel)) (.cons (by rw [strD_tl]; exact .str wa la) (.cons ((hv1d.all ku).all kt) (.cons ((hv2d.all ku).all kt) (.cons (.tup (kt.tup eu) ((hds.all ku).all kt)) .nil))))))

end

section
variable {P : Program} {w : World} {K : PySem.W.Frag} {mg : Str → Option Value} {base : Heap} {c : Ads}
/-! the law draws letters -/
abbrev spCount : Sp := sp1 fun v H Q _ => ∃ b g B, v = .ref b ∧ Bag H b g (B + 2) ∧ ∀ (i : Int) H', inR i → Kp (bx b g) H H' → Bag H' b g B → Q (.int i) H'
theorem c__law_count (T : Txt K mg c) : Cal P w K mg base CX0 2 "_law_count" ["bag"] spCount := by
  refine T.d__law_count.cal sc__law_count sp1_len (fun f cdv A outer s H vs Q E hr h => ?_)
  obtain ⟨v, rfl, b, g, B, rfl, hB, k⟩ := h
  have e15' : (10 : Int) ^ 15 = 1000000000000000 := by decide
  refine ⟨_, (pss_cons (ps_set (i := 1) sc__law_count.nd rfl (by first | exact Or.inl rfl | exact Or.inr rfl) (pe_cmpR op_lt2 (pe_cal (c__law_draw T) (hr.mono (by first | decide | omega)) pass0 (pa_cons (pv 0) (pa_cons pe_int pa_nil))) pe_int (nomark _)))
    (pss_one (ps_ret (pe_cal (c__law_draw T) (hr.mono (by first | decide | omega)) pass0 (pa_cons (pv 0) (pa_cons (pe_ifExp (pt_val (pv 1) (by intro _; rfl)) pe_int (pe_op op_pow2 pe_int pe_int)) pa_nil)))))), ?_⟩
  walk_at "go"
  refine ⟨b, g, B + 1, 4, rfl, rfl, by decide, by decide, hB, fun r H1 r0 r1 k1 B1 => ?_⟩
  walk_at "go"
  walk_at "br"
  · intro _
    walk_at "go"
    refine ⟨b, g, B, 24, rfl, rfl, by decide, by decide, B1, fun q H2 q0 q1 k2 B2 => ?_⟩
    exact k _ _ ⟨q0, by omega⟩ (k1.trans k2) B2
  · intro _
    walk_at "go"
    refine r_pow (n := 15) (by decide) (by decide) ?_
    walk_at "go"
    refine ⟨b, g, B, 10 ^ 15, rfl, rfl, by decide, by decide, B1, fun q H2 q0 q1 k2 B2 => ?_⟩
    exact k _ _ ⟨q0, q1⟩ (k1.trans k2) B2
abbrev spRising : Sp := sp2 fun v m H Q _ => ∃ b g B, ∃ n : Nat, v = .ref b ∧ m = .int (n : Nat) ∧ n ≤ 25 ∧ Bag H b g (B + 60) ∧
  ∀ (p : Addr) (is : List Int) (H' : Hp), H p = none → H' p = some (.lst (is.map V.int)) → is.length = n → is.Pairwise (· < ·) → (∀ x ∈ is, inR x) → Kp (bx b g) H H' → Bag H' b g B → Q (.ref p) H'
theorem c__law_rising (T : Txt K mg c) : Cal P w K mg base CX0 2 "_law_rising" ["bag", "many"] spRising := by
  refine T.d__law_rising.cal sc__law_rising sp2_len (fun f cdv A outer s H vs Q E hr h => ?_)
  obtain ⟨_, _, rfl, b, g, B, n, rfl, rfl, hn, hB0, k⟩ := h
  obtain ⟨l, hB⟩ : ∃ l, BagL H b g l (B + 60) := hB0
  have e15' : (10 : Int) ^ 15 = 1000000000000000 := by decide
  have e13' : (10 : Int) ^ 13 = 10000000000000 := by decide
  refine ⟨_, (pss_cons (ps_set (i := 2) sc__law_rising.nd rfl (by first | exact Or.inl rfl | exact Or.inr rfl) (pe_lst pa_nil))
    (pss_cons (ps_set (i := 3) sc__law_rising.nd rfl (by first | exact Or.inl rfl | exact Or.inr rfl) (pe_cal (c__law_drawL T) (hr.mono (by first | decide | omega)) pass0 (pa_cons (pv 0) (pa_cons pe_int pa_nil))))
    (pss_cons (ps_for PassesOwn.never rfl (pi_range1 (by rfl) T.n_range (pa_cons (pv 1) pa_nil)) (pg_name (i := 4) sc__law_rising.nd rfl (by first | exact Or.inl rfl | exact Or.inr rfl))
      (pss_cons (ps_expr (pe_bm PySem.F.plainAttrs_list PySem.F.slot_list_append PySem.F.type_list_append mt_append (pv 2) (pa_cons (pv 3) pa_nil)))
      (pss_one (ps_set (i := 3) sc__law_rising.nd rfl (by first | exact Or.inl rfl | exact Or.inr rfl) (pe_op (op_add2 (K := K)) (pe_op (op_add2 (K := K)) (pv 3) pe_int) (pe_cal (c__law_drawL T) (hr.mono (by first | decide | omega)) pass0 (pa_cons (pv 0) (pa_cons (pe_ix (ix_any (K := K)) (pe_lst (pa_cons pe_int (pa_cons pe_int (pa_cons (pe_op op_pow2 pe_int pe_int) pa_nil)))) (pe_cal (c__law_drawL T) (hr.mono (by first | decide | omega)) pass0 (pa_cons (pv 0) (pa_cons pe_int pa_nil))) (fun _ _ => rfl)) pa_nil))))))))
    (pss_one (ps_ret (pv 2)))))), ?_⟩
  walk_at "go"
  rename_i p H1 hp k1 hp1
  have pb : ¬ bx b g p := hB.bag.old hp
  have pl : p ≠ l := hB.ne_new hp
  refine ⟨b, g, l, B + 59, 24, rfl, rfl, by decide, by decide, hB.kp k1, fun r H2 r0 r1 k2 B2 => ?_⟩
  walk_at "go"
  refine r_forR ?_
  walk_at "go"
  have p2 : H2 p = some (.lst []) := k2.at hp1 pb
  refine lpR (n := n) (fun i σ' H' => ∃ (is : List Int) (at' : Int) (o : Option V), σ' = [some (.ref b), some (.int (n : Nat)), some (.ref p), some (.int at'), o] ∧ H' p = some (.lst (is.map V.int)) ∧ is.length = i ∧ is.Pairwise (· < ·) ∧ (∀ x ∈ is, 0 ≤ x ∧ x < at') ∧ 0 ≤ at' ∧ at' ≤ 24 + i * (10 ^ 13 + 1) ∧ Kp (bx b g) H H' ∧ BagL H' b g l (B + 2 * (25 - i) + 1))
    (by omega) ⟨[], r, none, rfl, p2, rfl, .nil, (fun x h => by cases h), r0, by omega, (k1.no).trans k2, B2.less (by omega)⟩ ?_ ?_
  · rintro i σ' H' hi ⟨is, at', o, rfl, hpi, hl, hpw, hall, a0, a1, kp, Bi⟩
    walk_at "go"
    refine r_append hpi (by rw [List.length_map]; omega) ?_
    have B3 := Bi.wr (o := .lst (is.map V.int ++ [V.int at'])) pb pl
    have kp3 : Kp (bx b g) H (upd H' p (.lst (is.map V.int ++ [V.int at']))) := Kp.fresh kp hp
    have hp3 : upd H' p (.lst (is.map V.int ++ [V.int at'])) p = some (.lst ((is ++ [at']).map V.int)) := by rw [upd_same, List.map_append]; rfl
    generalize upd H' p (.lst (is.map V.int ++ [V.int at'])) = H3 at B3 kp3 hp3 ⊢
    walk_at "go"
    refine r_pow (n := 13) (by decide) (by decide) ?_
    walk_at "go"
    rename_i q H4 hq k4 hq4
    have eB : B + 2 * (25 - i) + 1 = (B + 2 * (25 - i)) + 1 := rfl
    rw [eB] at B3
    refine ⟨b, g, l, _, 3, rfl, rfl, by decide, by decide, B3.kp k4, fun u H5 u0 u1 k5 B5 => ?_⟩
    have hq5 : H5 q = some (.lst [V.int 3, V.int 30, V.int (10 ^ 13)]) := k5.at hq4 (B3.bag.old hq)
    refine r_pick [3, 30, 10 ^ 13] hq5 u0 (by simpa using u1) fun m hm => ?_
    have hm2 : 1 ≤ m ∧ m ≤ 10 ^ 13 := by
      simp only [List.mem_cons, List.not_mem_nil, or_false] at hm
      rcases hm with rfl | rfl | rfl <;> decide
    have eB2 : B + 2 * (25 - i) = (B + 2 * (25 - (i + 1)) + 1) + 1 := by omega
    rw [eB2] at B5
    walk_at "go"
    refine ⟨b, g, l, _, m, rfl, rfl, hm2.1, by omega, B5, fun z H6 z0 z1 k6 B6 => ?_⟩
    walk_at "go"
    have hp6 : H6 p = some (.lst ((is ++ [at']).map V.int)) := k6.at (k5.at (k4.lst hp3) pb) pb
    refine ⟨is ++ [at'], at' + 1 + z, _, rfl, hp6, by rw [List.length_append, hl]; rfl, ?_, fun x hx => ?_, by omega, ?_, ((kp3.trans k4.no).trans k5).trans k6, B6⟩
    · refine List.pairwise_append.mpr ⟨hpw, List.pairwise_singleton _ _, fun x hx y hy => ?_⟩
      rw [List.mem_singleton.mp hy]
      exact (hall x hx).2
    · rcases List.mem_append.mp hx with q | q
      · have := hall x q; omega
      · rw [List.mem_singleton.mp q]; omega
    · rw [e13'] at a1 hm2 ⊢
      push_cast
      rw [Int.add_mul]
      omega
  · rintro σ' H' ⟨is, at', o, rfl, hpi, hl, hpw, hall, a0, a1, kp, Bi⟩
    walk_at "go"
    refine k p is H' hp hpi hl hpw (fun x hx => ?_) kp (Bi.bag.less (by omega))
    have := hall x hx
    exact ⟨this.1, by rw [e13'] at a1; rw [e15']; omega⟩
abbrev spCourse : Sp := sp1 fun v H Q _ => ∃ b g B, v = .ref b ∧ Bag H b g (B + 120) ∧
  ∀ (p : Addr) (is : List Int) (H' : Hp), H' p = some (.tup (is.map V.int)) → is.Nodup → 2 ≤ is.length → is.length ≤ 7 → (∀ x ∈ is, inR x) → Kp (bx b g) H H' → Bag H' b g B → Q (.ref p) H'
theorem c__law_course (T : Txt K mg c) : Cal P w K mg base CX0 3 "_law_course" ["bag"] spCourse := by
  refine T.d__law_course.cal sc__law_course sp1_len (fun f cdv A outer s H vs Q E hr h => ?_)
  obtain ⟨_, rfl, b, g, B, rfl, hB, k⟩ := h
  refine ⟨_, (pss_cons (ps_set (i := 1) sc__law_course.nd rfl (by first | exact Or.inl rfl | exact Or.inr rfl) (pe_lst pa_nil))
    (pss_cons (ps_for PassesOwn.never rfl (pi_any (K := K) (pe_cal (c__law_rising T) (hr.mono (by first | decide | omega)) pass0 (pa_cons (pv 0) (pa_cons (pe_op (op_add2 (K := K)) pe_int (pe_cal (c__law_drawL T) (hr.mono (by first | decide | omega)) pass0 (pa_cons (pv 0) (pa_cons pe_int pa_nil)))) pa_nil)))) (pg_name (i := 2) sc__law_course.nd rfl (by first | exact Or.inl rfl | exact Or.inr rfl))
      (pss_one (ps_expr (pe_bm PySem.F.plainAttrs_list PySem.F.slot_list_insert PySem.F.type_list_insert mt_insert2 (pv 1) (pa_cons (pe_cal (c__law_drawL T) (hr.mono (by first | decide | omega)) pass0 (pa_cons (pv 0) (pa_cons (pe_op (op_add2 (K := K)) (pe_callB (call_len2 (K := K)) (by rfl) T.n_len (by decide +kernel) (pa_cons (pv 1) pa_nil)) pe_int) pa_nil))) (pa_cons (pv 2) pa_nil))))))
    (pss_one (ps_ret (pe_callTy (call_tuple2 (K := K)) (by rfl) T.n_tuple (by decide +kernel) (pa_cons (pv 1) pa_nil)))))), ?_⟩
  walk_at "go"
  rename_i p H1 hp k1 hp1
  have pb : ¬ bx b g p := hB.old hp
  refine r_forL ?_
  walk_at "go"
  obtain ⟨l, B2⟩ : ∃ l, BagL H1 b g l (B + 120) := hB.kp k1
  refine ⟨b, g, l, B + 118, 6, rfl, rfl, by decide, by omega, B2.less (by omega), fun u H4 u0 u1 k4 B4 => ?_⟩
  walk_at "go"
  obtain ⟨n, hn⟩ : ∃ n : Nat, 2 + u = (n : Int) := ⟨(2 + u).toNat, by omega⟩
  rw [hn]
  refine ⟨b, g, B + 58, n, rfl, rfl, by omega, B4.bag, fun a is H5 ha5 ha hlen hpw hin k5 B5 => ?_⟩
  obtain ⟨l5, B5⟩ : ∃ l, BagL H5 b g l (B + 58) := B5
  have p4 : H4 p = some (.lst []) := k4.at hp1 pb
  have p5 : H5 p = some (.lst []) := k5.at p4 pb
  have pl : p ≠ l5 := B5.ne_nil p5
  have ap : a ≠ p := fun z => by subst z; rw [p4] at ha5; cases ha5
  have ab : ¬ bx b g a := Bag.old B4.bag ha5
  have kp5 : Kp (bx b g) H H5 := k1.no.trans (k4.trans k5)
  have nd : is.Nodup := hpw.imp fun h => Int.ne_of_lt h
  refine lpL (fun i σ' H' => ∃ (fs : List Int) (o : Option V), σ' = [some (.ref b), some (.ref p), o] ∧ H' p = some (.lst (fs.map V.int)) ∧ H' a = some (.lst (is.map V.int)) ∧ fs.length = i ∧ fs.Nodup ∧ (∀ x ∈ fs, x ∈ is.take i) ∧ Kp (bx b g) H H' ∧ BagL H' b g l5 (B + (58 - i)))
    (SqL.of ha) ⟨[], none, rfl, p5, ha, rfl, .nil, (fun x h => by cases h), kp5, B5⟩ (fun i σ' H' ⟨_, _, _, _, h, _⟩ => SqL.of h) ?_ ?_
  · rintro i z σ' H' hi ⟨fs, o, rfl, hpi, hai, hl, hnd, hsub, kp, Bi⟩
    obtain ⟨x, hx, rfl⟩ : ∃ x, is[i]? = some x ∧ z = .int x := by
      rw [List.getElem?_map] at hi
      cases e : is[i]? with
      | none => rw [e] at hi; cases hi
      | some x => rw [e] at hi; cases hi; exact ⟨x, rfl, rfl⟩
    have hi2 := (List.getElem?_eq_some_iff.mp hx).1
    have hnew : x ∉ fs := fun hm => by
      have h1 := hsub x hm
      obtain ⟨j, hj, e⟩ := List.mem_take_iff_getElem.mp h1
      obtain ⟨h2, e2⟩ := List.getElem?_eq_some_iff.mp hx
      have := (List.getElem_inj nd).mp (e.trans e2.symm)
      omega
    have eB : B + (58 - i) = (B + (58 - (i + 1))) + 1 := by omega
    rw [eB] at Bi
    walk_at "go"
    refine r_len_l hpi ?_
    walk_at "go"
    rw [List.length_map]
    refine ⟨b, g, l5, _, (fs.length : Int) + 1, rfl, rfl, by omega, by omega, Bi, fun y H6 y0 y1 k6 B6 => ?_⟩
    walk_at "go"
    have p6 := k6.at hpi pb
    refine r_insert p6 (by rw [List.length_map]; omega) y0 (by omega) ?_
    rw [ins_map]
    refine ⟨fs.take y.toNat ++ [x] ++ fs.drop y.toNat, _, rfl, upd_same, by rw [upd_ne ap]; exact k6.at hai ab, by rw [insert_len, hl], insert_nodup hnd hnew, fun u hu => ?_, Kp.fresh (kp.trans k6) hp, B6.wr pb pl⟩
    rcases insert_mem.mp hu with rfl | h
    · rw [List.take_add_one, hx]; simp
    · rw [List.take_add_one]; exact List.mem_append_left _ (hsub u h)
  · rintro σ' H' ⟨fs, o, rfl, hpi, hai, hl, hnd, hsub, kp, Bi⟩
    rw [List.length_map] at hl
    walk_at "go"
    rename_i t H6 ht k6 ht6
    refine k t fs H6 ht6 hnd (by omega) (by omega) (fun x hx => ?_) (kp.trans k6.no) (((Bi.kp k6).bag).less (by omega))
    exact hin x (List.mem_of_mem_take (hsub x hx))

end

section
variable {P : Program} {w : World} {K : PySem.W.Frag} {mg : Str → Option Value} {base : Heap} {c : Ads}
/-! a letter drawn -/
theorem few_kept {n : Str} {is : List Int} {ms : List (Int × Int)} {qs : List (Int × Int × List (Str × List PyData))} (h1 : is.length ≤ 7) (h2 : ms.length ≤ 4) (h3 : qs.length ≤ 3) (h4 : ∀ q ∈ qs, q.2.2.length ≤ 2) :
    FewL [.str sKept, .str n, .tuple (is.map .int), .tuple (ms.map markD), .tuple (qs.map newsP)] := by
  refine ⟨by show (is.map PyData.int).length ≤ 7; rw [List.length_map]; exact h1, by show (ms.map markD).length ≤ 4; rw [List.length_map]; exact h2, by show (qs.map newsP).length ≤ 3; rw [List.length_map]; exact h3, fun d hd a b p e => ?_⟩
  obtain ⟨q, hq, rfl⟩ := List.mem_map.mp hd
  cases e
  rw [List.length_map]
  exact h4 q hq
abbrev spLawLetter : Sp := sp2 fun v m H Q _ => ∃ b g B, ∃ most : Int, v = .ref b ∧ m = .int most ∧ 0 ≤ most ∧ most ≤ 2 ∧ Bag H b g (B + 9000) ∧
  ∀ (p : Addr) (l : List PyData) (H' : Hp), GoodL l → FewL l → Dat All H' (.ref p) (.tuple l) → Kp (bx b g) H H' → Bag H' b g B → Q (.ref p) H'
theorem c__law_letter (T : Txt K mg c) : Cal P w K mg base CX0 5 "_law_letter" ["bag", "most"] spLawLetter := by
  refine T.d__law_letter.cal sc__law_letter sp2_len (fun f cdv A outer s H vs Q E hr h => ?_)
  obtain ⟨_, _, rfl, b, g, B, most, rfl, rfl, m0, m1, hB, k⟩ := h
  refine ⟨_, (pss_cons (ps_set (i := 2) sc__law_letter.nd rfl (by first | exact Or.inl rfl | exact Or.inr rfl) (pe_ix (ix_any (K := K)) (pe_lst (pa_cons pe_str (pa_cons pe_str (pa_cons pe_str (pa_cons pe_str (pa_cons pe_str (pa_cons pe_str pa_nil))))))) (pe_cal (c__law_draw T) (hr.mono (by first | decide | omega)) pass0 (pa_cons (pv 0) (pa_cons pe_int pa_nil))) (fun _ _ => rfl)))
    (pss_cons (ps_if (PW.pt (pw_or (pt_cmpR (op_eq2 (K := K) hr.units) (pv 2) pe_str (nomark _)) (pw_or1 (pt_cmpR (op_eq2 (K := K) hr.units) (pv 2) pe_str (nomark _))))) (pss_one (ps_ret (pe_tup (pa_cons (pv 2) (pa_cons (pe_cal (c__law_made T) (hr.mono (by first | decide | omega)) pass0 (pa_cons (pv 0) (pa_cons pe_int (pa_cons (pv 1) pa_nil)))) pa_nil))))) pss_nil)
    (pss_cons (ps_if (pt_cmpR (op_eq2 (K := K) hr.units) (pv 2) pe_str (nomark _)) (pss_one (ps_ret (pe_tup (pa_cons (pv 2) (pa_cons (pe_cal (c__law_count T) (hr.mono (by first | decide | omega)) pass0 (pa_cons (pv 0) pa_nil)) (pa_cons (pe_cal (c__law_count T) (hr.mono (by first | decide | omega)) pass0 (pa_cons (pv 0) pa_nil)) (pa_cons (pe_cal (c__law_made T) (hr.mono (by first | decide | omega)) pass0 (pa_cons (pv 0) (pa_cons pe_int (pa_cons (pv 1) pa_nil)))) pa_nil))))))) pss_nil)
    (pss_cons (ps_set (i := 3) sc__law_letter.nd rfl (by first | exact Or.inl rfl | exact Or.inr rfl) (pe_cal (c__law_field T) (hr.mono (by first | decide | omega)) pass0 (pa_cons (pv 0) pa_nil)))
    (pss_cons (ps_set (i := 4) sc__law_letter.nd rfl (by first | exact Or.inl rfl | exact Or.inr rfl) (pe_cal (c__law_course T) (hr.mono (by first | decide | omega)) pass0 (pa_cons (pv 0) pa_nil)))
    (pss_cons (ps_if (pt_cmpR (op_eq2 (K := K) hr.units) (pv 2) pe_str (nomark _)) (pss_one (ps_ret (pe_tup (pa_cons (pv 2) (pa_cons (pv 3) (pa_cons (pv 4) pa_nil)))))) pss_nil)
    (pss_cons (ps_setLc (i := 5) (own := [("teller", 6)]) (by rfl) sc__law_letter.nd rfl rfl (sw_true rfl rfl rfl (by decide +kernel)) (pi_any (K := K) (pe_cal (c__law_rising T) (hr.mono (by first | decide | omega)) pass0 (pa_cons (pv 0) (pa_cons (pe_cal (c__law_draw T) (hr.mono (by first | decide | omega)) pass0 (pa_cons (pv 0) (pa_cons pe_int pa_nil))) pa_nil)))) (blkOk_by (own := [("teller", 6)]) (N := ["bag", "most", "word", "hand", "course", "marks", "teller", "pieces", "k"]) (sc := defScope s__law_letter) (by decide +kernel)) (fun _ _ _ _ _ => (pg_name (i := 6) sc__law_letter.nd rfl (by first | exact Or.inl rfl | exact Or.inr rfl))) (fun _ _ _ _ _ => pts_nil) (fun _ _ _ _ _ => (pe_tup (pa_cons (pv 6) (pa_cons (pe_cal (c__law_count T) (hr.mono (by first | decide | omega)) pass0 (pa_cons (pv 0) pa_nil)) pa_nil)))))
    (pss_cons (ps_set (i := 7) sc__law_letter.nd rfl (by first | exact Or.inl rfl | exact Or.inr rfl) (pe_lst pa_nil))
    (pss_cons (ps_for PassesOwn.never rfl (pi_range1 (by rfl) T.n_range (pa_cons (pe_cal (c__law_draw T) (hr.mono (by first | decide | omega)) pass0 (pa_cons (pv 0) (pa_cons pe_int pa_nil))) pa_nil)) (pg_name (i := 8) sc__law_letter.nd rfl (by first | exact Or.inl rfl | exact Or.inr rfl))
      (pss_one (ps_expr (pe_bm PySem.F.plainAttrs_list PySem.F.slot_list_append PySem.F.type_list_append mt_append (pv 7) (pa_cons (pe_tup (pa_cons (pe_cal (c__law_count T) (hr.mono (by first | decide | omega)) pass0 (pa_cons (pv 0) pa_nil)) (pa_cons (pe_cal (c__law_count T) (hr.mono (by first | decide | omega)) pass0 (pa_cons (pv 0) pa_nil)) (pa_cons (pe_cal (c__law_made T) (hr.mono (by first | decide | omega)) pass0 (pa_cons (pv 0) (pa_cons pe_int (pa_cons (pv 1) pa_nil)))) pa_nil)))) pa_nil)))))
    (pss_one (ps_ret (pe_tup (pa_cons (pv 2) (pa_cons (pv 3) (pa_cons (pv 4) (pa_cons (pe_callTy (call_tuple2 (K := K)) (by rfl) T.n_tuple (by decide +kernel) (pa_cons (pv 5) pa_nil)) (pa_cons (pe_callTy (call_tuple2 (K := K)) (by rfl) T.n_tuple (by decide +kernel) (pa_cons (pv 7) pa_nil)) pa_nil))))))))))))))))), ?_⟩
  walk_at "go"
  rename_i p0 H1 hp0 k1 hp01
  refine ⟨b, g, B + 8999, 6, rfl, rfl, by decide, by decide, hB.kp k1, fun r H2 r0 r1 k2 B2 => ?_⟩
  have hq2 : H2 p0 = some (.lst ([sWant, sUnwant, sNews, sHere, sKept, sKept].map V.str)) := k2.at hp01 (hB.old hp0)
  have kk2 : Kp (bx b g) H H2 := k1.no.trans k2
  refine r_pickS [sWant, sUnwant, sNews, sHere, sKept, sKept] hq2 r0 (by simpa using r1) fun w0 hw0 => ?_
  clear hq2 hp01
  have wlen : w0.length ≤ 1000000 := by
    simp only [List.mem_cons, List.not_mem_nil, or_false] at hw0
    rcases hw0 with rfl | rfl | rfl | rfl | rfl | rfl <;> decide +kernel
  walk_at "go"
  walk_at "br"
  · intro h1
    have hw : w0 = sWant ∨ w0 = sUnwant := .inl h1
    walk_at "go"
    refine ⟨b, g, B + 8699, 3, most, rfl, rfl, rfl, .inr rfl, m0, by omega, B2, fun p ps H3 ha hg hl hd k3 B3 => ?_⟩
    walk_at "go"
    rename_i p4 H4 hp4 k4 hp44
    exact k p4 _ H4 (good_want hw ha hg (by omega)) (show (ps.map mk1).length ≤ 2 by rw [List.length_map]; omega) (.tup hp44 (.cons (.str w0 wlen) (.cons (hd.all k4) .nil))) (kk2.trans (k3.trans k4.no)) ((B3.kp k4).less (by omega))
  · intro h1
    walk_at "go"
    walk_at "br"
    · intro h2
      have hw : w0 = sWant ∨ w0 = sUnwant := .inr h2
      walk_at "go"
      refine ⟨b, g, B + 8699, 3, most, rfl, rfl, rfl, .inr rfl, m0, by omega, B2, fun p ps H3 ha hg hl hd k3 B3 => ?_⟩
      walk_at "go"
      rename_i p4 H4 hp4 k4 hp44
      exact k p4 _ H4 (good_want hw ha hg (by omega)) (show (ps.map mk1).length ≤ 2 by rw [List.length_map]; omega) (.tup hp44 (.cons (.str w0 wlen) (.cons (hd.all k4) .nil))) (kk2.trans (k3.trans k4.no)) ((B3.kp k4).less (by omega))
    · intro h2
      walk_at "go"
      walk_at "br"
      · intro h3
        obtain rfl : w0 = sNews := h3
        walk_at "go"
        refine ⟨b, g, B + 8997, rfl, B2, fun i1 H3 hi1 k3 B3 => ?_⟩
        walk_at "go"
        refine ⟨b, g, B + 8995, rfl, B3, fun i2 H4 hi2 k4 B4 => ?_⟩
        walk_at "go"
        refine ⟨b, g, B + 8695, 2, most, rfl, rfl, rfl, .inl rfl, m0, by omega, B4, fun p ps H5 ha hg hl hd k5 B5 => ?_⟩
        walk_at "go"
        rename_i p6 H6 hp6 k6 hp66
        exact k p6 _ H6 (good_news hi1 hi2 ha hg (by omega)) (show (ps.map mk1).length ≤ 2 by rw [List.length_map]; omega) (.tup hp66 (.cons (.str sNews wlen) (.cons (.int i1) (.cons (.int i2) (.cons (hd.all k6) .nil))))) (kk2.trans (k3.trans (k4.trans (k5.trans k6.no)))) ((B5.kp k6).less (by omega))
      · intro h3
        walk_at "go"
        refine ⟨b, g, B + 8989, rfl, B2, fun fl H3 hfl k3 B3 => ?_⟩
        have fll : fl.length ≤ 1000000 := by have := (fieldL_iff.mp hfl).2.1; rw [TL.len_tl]; exact Nat.le_trans this (by decide)
        walk_at "go"
        refine ⟨b, g, B + 8869, rfl, B3, fun pc is H4 hpc nd h2l hl25 hin k4 B4 => ?_⟩
        walk_at "go"
        have kk4 := kk2.trans (k3.trans k4)
        walk_at "br"
        · intro h4
          obtain rfl : w0 = sHere := h4
          walk_at "go"
          rename_i p6 H6 hp6 k6 hp66
          exact k p6 _ H6 (good_here hfl nd h2l (by omega) hin) (show (is.map PyData.int).length ≤ 7 by rw [List.length_map]; exact hl25) (.tup hp66 (.cons (.str sHere wlen) (.cons (.str fl fll) (.cons (.tup (k6.tup hpc) (Dats.ints is)) .nil)))) (kk4.trans k6.no) ((B4.kp k6).less (by omega))
        · intro h4
          obtain rfl : w0 = sKept := by
            simp only [List.mem_cons, List.not_mem_nil, or_false] at hw0
            rcases hw0 with rfl | rfl | rfl | rfl | rfl | rfl
            · exact absurd rfl h1
            · exact absurd rfl h2
            · exact absurd rfl h3
            · exact absurd rfl h4
            · rfl
            · rfl
          walk_at "go"
          have B6 : Bag H4 b g (B + 8868) := B4.less (by omega)
          have kk6 := kk4
          have hpc6 := hpc
          refine via (fun v H' => ∃ (D : Addr) (acc : List V) (ms : List (Int × Int)), v = .ref D ∧ ¬ bx b g D ∧ Kp (bx b g) H4 H' ∧ Bag H' b g (B + 8000) ∧ H' D = some (.lst acc) ∧ Dats All H' acc (ms.map markD) ∧ (ms.map (·.1)).Pairwise (· < ·) ∧ (∀ q ∈ ms, inR q.1 ∧ inR q.2) ∧ ms.length ≤ 4) (fun Z hZ => ?_) ?_
          · refine r_lcL ?_
            walk_at "go"
            refine ⟨b, g, B + 8867, 5, rfl, rfl, by decide, by decide, B6, fun z H7 z0 z1 k7 B7 => ?_⟩
            walk_at "go"
            obtain ⟨n, rfl⟩ : ∃ n : Nat, z = (n : Int) := ⟨z.toNat, by omega⟩
            refine ⟨b, g, B + 8807, n, rfl, rfl, by omega, B7.less (by omega), fun a ts H8 ha8 ha hlen hpw hts k8 B8 => ?_⟩
            have ab : ¬ bx b g a := Bag.old B7 ha8
            refine lcL (fun D i acc H' => Kp (bx b g) H8 H' ∧ Bag H' b g (B + 8000 + 2 * (100 - i)) ∧ H' a = some (.lst (ts.map V.int)) ∧ ∃ ms : List (Int × Int), Dats All H' acc (ms.map markD) ∧ ms.map (·.1) = ts.take i ∧ (∀ q ∈ ms, inR q.1 ∧ inR q.2)) (SqL.of ha)
              (fun D hD => ⟨Kp.new Kp.refl hD, (B8.kp (Kp.new Kp.refl hD)).less (by omega), (Kp.new (ex := No) Kp.refl hD).lst ha, [], .nil, rfl, fun q h => by cases h⟩) (fun D i acc H' _ hp => SqL.of hp.2.2.1) ?_ ?_
            · rintro D i acc z H' hD hi hacc hl ⟨kp, Bi, hai, ms, hms, hmt, hin2⟩
              obtain ⟨x, hx, rfl⟩ : ∃ x, ts[i]? = some x ∧ z = .int x := by
                rw [List.getElem?_map] at hi
                cases e : ts[i]? with
                | none => rw [e] at hi; cases hi
                | some x => rw [e] at hi; cases hi; exact ⟨x, rfl, rfl⟩
              have hi2 := (List.getElem?_eq_some_iff.mp hx).1
              have hDb : ¬ bx b g D := Bag.old B8 hD
              have Da : D ≠ a := fun z => by subst z; rw [ha] at hD; cases hD
              have eB : B + 8000 + 2 * (100 - i) = (B + 8000 + 2 * (100 - (i + 1))) + 2 := by omega
              rw [eB] at Bi
              walk_at "go"
              refine ⟨b, g, _, rfl, Bi, fun y H9 hy k9 B9 => ?_⟩
              walk_at "go"
              rename_i t H10 ht k10 ht10
              have h10 : H10 D = some (.lst acc) := k10.lst (k9.at hacc hDb)
              have nohead : ∀ j : Int, acc.head? ≠ some (.int j) := fun j e => by
                cases acc with
                | nil => cases e
                | cons a0 r =>
                  cases e
                  cases ms with
                  | nil => cases hms
                  | cons m0 ms0 => cases hms with | cons h1 _ => cases h1
              refine lc_yes h10 hl (by omega) ⟨Kp.fresh ((kp.trans k9).trans k10.no) hD, (B9.kp k10).wr h10 hDb nohead, by rw [upd_ne Da.symm]; exact k10.lst (k9.at hai ab), ms ++ [(x, y)], ?_, ?_, fun q hq => ?_⟩
              · rw [List.map_append]
                exact Dats.all (Dats.append ((hms.all k9).all k10) (Dats.one (.tup ht10 (.cons (.int x) (.cons (.int y) .nil))))) (Kp.app h10)
              · rw [List.map_append, hmt, List.take_add_one, hx]; rfl
              · rcases List.mem_append.mp hq with h | h
                · exact hin2 q h
                · rw [List.mem_singleton.mp h]; exact ⟨hts x (List.mem_of_getElem? hx), hy⟩
            · rintro D acc H' hD hacc hl ⟨kp, Bi, hai, ms, hms, hmt, hin2⟩
              rw [List.length_map, List.take_length] at hmt
              refine hZ _ _ ⟨D, acc, ms, rfl, Bag.old B8 hD, k7.trans (k8.trans kp), Bag.less Bi (by omega), hacc, hms, by rw [hmt]; exact hpw, hin2, ?_⟩
              have e := congrArg List.length hmt
              rw [List.length_map] at e
              omega
          rintro v H7 ⟨D, acc, ms, rfl, nD, k7, B7, hD, hms, hmp, hmin, hml⟩
          walk_at "go"
          rename_i pl H8 hpl k8 hpl8
          have npl : ¬ bx b g pl := Bag.old B7 hpl
          have Dpl : D ≠ pl := fun z => by subst z; rw [hD] at hpl; cases hpl
          have hpl6 : H4 pl = none := k7.free hpl npl
          refine r_forR ?_
          walk_at "go"
          refine ⟨b, g, B + 7999, 4, rfl, rfl, by decide, by decide, B7.kp k8, fun z H9 z0 z1 k9 B9 => ?_⟩
          walk_at "go"
          obtain ⟨n, rfl⟩ : ∃ n : Nat, z = (n : Int) := ⟨z.toNat, by omega⟩
          have kk9 := k7.trans (k8.no.trans k9)
          refine lpR (n := n) (fun i σ' H' => ∃ (ac : List V) (qs : List (Int × Int × List (Str × List PyData))) (o : Option V), σ' = [some (.ref b), some (.int most), some (.str sKept), some (.str fl), some (.ref pc), some (.ref D), none, some (.ref pl), o] ∧
            H' pl = some (.lst ac) ∧ Dats All H' ac (qs.map newsP) ∧ qs.length = i ∧ (∀ q ∈ qs, goodN q ∧ q.2.2.length ≤ 2) ∧ H' D = some (.lst acc) ∧ Dats All H' acc (ms.map markD) ∧ Kp (bx b g) H4 H' ∧ Bag H' b g (B + 304 * (25 - i)))
            (by omega) ⟨[], [], none, rfl, k9.at hpl8 npl, .nil, rfl, (fun q h => by cases h), k9.at (k8.lst hD) nD, (hms.all k8).all k9, kk9, Bag.less B9 (by omega)⟩ ?_ ?_
          · rintro i σ' H' hi ⟨ac, qs, o, rfl, hpi, hds, hql, hgood, hDi, hmsi, kp, Bi⟩
            have eB : B + 304 * (25 - i) = ((B + 304 * (25 - (i + 1)) + 300) + 2) + 2 := by omega
            rw [eB] at Bi
            walk_at "go"
            refine ⟨b, g, _, rfl, Bi, fun i1 Ha hi1 ka Ba => ?_⟩
            walk_at "go"
            refine ⟨b, g, _, rfl, Ba, fun i2 Hb hi2 kb Bb => ?_⟩
            walk_at "go"
            refine ⟨b, g, _, 2, most, rfl, rfl, rfl, .inl rfl, m0, by omega, Bb, fun p ps Hc ha hg hl hd kc Bc => ?_⟩
            walk_at "go"
            rename_i t Hd ht kd htd
            have kabc := ka.trans (kb.trans (kc.trans kd.no))
            have hpd : Hd pl = some (.lst ac) := kabc.at hpi npl
            have hacl : ac.length ≤ 25 := by rw [hds.len, List.length_map]; omega
            refine r_append hpd (by omega) ?_
            have nohead : ∀ j : Int, ac.head? ≠ some (.int j) := fun j e => by
              cases ac with
              | nil => cases e
              | cons a0 r =>
                cases e
                cases qs with
                | nil => cases hds
                | cons m0 ms0 => cases hds with | cons h1 _ => cases h1
            refine ⟨ac ++ [.ref t], qs ++ [(i1, i2, ps)], _, rfl, upd_same, ?_, by rw [List.length_append, hql]; rfl, fun q hq => ?_, by rw [upd_ne Dpl]; exact kabc.at hDi nD, (hmsi.all kabc).all (Kp.app hpd), Kp.fresh (kp.trans kabc) hpl6, ((Bag.kp Bc kd).wr hpd npl nohead).less (by omega)⟩
            · rw [List.map_append]
              exact Dats.all (Dats.append (hds.all kabc) (Dats.one (.tup htd (.cons (.int i1) (.cons (.int i2) (.cons (hd.all kd) .nil)))))) (Kp.app hpd)
            · rcases List.mem_append.mp hq with h | h
              · exact hgood q h
              · rw [List.mem_singleton.mp h]; exact ⟨⟨hi1, hi2, ha, hg, show ps.length ≤ 8 by omega⟩, show ps.length ≤ 2 by omega⟩
          · rintro σ' H' ⟨ac, qs, o, rfl, hpi, hds, hql, hgood, hDi, hmsi, kp, Bi⟩
            walk_at "go"
            rename_i t1 Ha ht1 ka hta t2 Hb ht2 kb htb t3 Hc ht3 kc htc
            have kab : Kp No H' Hc := ka.trans (kb.trans kc)
            refine k t3 _ Hc (good_kept hfl nd h2l (by omega) hin hmp hmin (by omega) (fun q hq => (hgood q hq).1) (by omega)) (few_kept (by omega) (by omega) (by omega) fun q hq => (hgood q hq).2) (.tup htc (.cons (.str sKept wlen) (.cons (.str fl fll) (.cons (.tup (kab.tup (kp.tup hpc6)) (Dats.ints is)) (.cons (.tup ((kb.trans kc).tup hta) (hmsi.all kab)) (.cons (.tup (kc.tup htb) (hds.all kab)) .nil)))))) (kk6.trans (kp.trans kab.no)) ((Bag.kp Bi kab).less (by omega))

end

section
variable {P : Program} {w : World} {K : PySem.W.Frag} {mg : Str → Option Value} {base : Heap} {c : Ads}
theorem field_len {f : Str} (h : fieldS f = true) : (TL.tl f).length ≤ 8 := (fieldL_iff.mp h).2.1
/-! the law's own writing of letters -/
abbrev spLawShown : Sp := sp1 fun v H Q _ => ∃ ex l, Dat ex H v (.tuple l) ∧ letterD (.tuple l) = true ∧ SmallL l ∧ ∀ H', Kp No H H' → Q (.str (ofL (shLetter l))) H'
/-- the text so far -/
def tx (w : Str) (ps : List (List Nat)) : Str := ofL (TL.tl w ++ (ps.map fun p => 32 :: p).flatten)
theorem tx_add {w : Str} {ps : List (List Nat)} {p : List Nat} {y : Str} (h : TL.tl y = p) : (tx w ps ++ Str.ofString " ") ++ y = tx w (ps ++ [p]) := by
  refine TL.ext_tl ?_
  unfold tx
  rw [TL.tl_append, TL.tl_append, tl_ofL, tl_ofL, blank_tl, h, List.map_append, List.flatten_append]
  simp
theorem tx_len {w : Str} {ps : List (List Nat)} : (tx w ps).length = w.length + (ps.map fun p => p.length + 1).sum := by
  unfold tx
  rw [TL.len_tl, tl_ofL, List.length_append, TL.len_tl, List.length_flatten, List.map_map]
  rfl
theorem c__law_shown (T : Txt K mg c) : Cal P w K mg base CX0 2 "_law_shown" ["thing"] spLawShown := by
  refine T.d__law_shown.cal sc__law_shown sp1_len (fun f cdv A outer s H vs Q E hr h => ?_)
  obtain ⟨v, rfl, ex, l, hd, hok, hsm, k⟩ := h
  refine ⟨_, (pss_cons (ps_set (i := 1) sc__law_shown.nd rfl (by first | exact Or.inl rfl | exact Or.inr rfl) (pe_ix (ix_any (K := K)) (pv 0) pe_int (fun _ _ => rfl)))
    (pss_cons (ps_for PassesOwn.never rfl (pi_any (K := K) (pe_slice (sl_any (K := K)) (pv 0) (po_some pe_int) (po_some pe_int))) (pg_name (i := 2) sc__law_shown.nd rfl (by first | exact Or.inl rfl | exact Or.inr rfl))
      (pss_one (ps_if (PW.pt (pw_and (pt_val (pe_callB (call_isi2 (K := K)) (by rfl) T.n_isinstance (by decide +kernel) (pa_cons (pv 2) (pa_cons (pe_bltn (v := .ty "tuple") (by rfl) T.n_tuple (by decide +kernel) rfl) pa_nil))) (by intro _; rfl)) (pw_and1 (pt_cmpR (op_in2 (K := K)) (pe_ix (ix_any (K := K)) (pv 0) pe_int (fun _ _ => rfl)) (pe_lst (pa_cons pe_str (pa_cons pe_str pa_nil))) (by rfl))))) (pss_one (ps_set (i := 1) sc__law_shown.nd rfl (by first | exact Or.inl rfl | exact Or.inr rfl) (pe_op (op_add2 (K := K)) (pe_op (op_add2 (K := K)) (pv 1) pe_str) (pe_join2 (K := K) pe_str (pe_lc (own := [("post", 3)]) (by rfl) sc__law_shown.nd (pi_any (K := K) (pv 2)) (blkOk_by (own := [("post", 3)]) (N := ["thing", "text", "part", "post", "marks", "teller", "number", "piece"]) (sc := defScope s__law_shown) (by decide +kernel)) (fun _ _ _ _ _ => (pg_name (i := 3) sc__law_shown.nd rfl (by first | exact Or.inl rfl | exact Or.inr rfl))) (fun _ _ _ _ _ => pts_nil) (fun _ _ _ _ _ => (pe_callTy call_str3 (by rfl) T.n_str (by decide +kernel) (pa_cons (pv 3) pa_nil)))))))) (pss_one (ps_if (pt_val (pe_callB (call_isi2 (K := K)) (by rfl) T.n_isinstance (by decide +kernel) (pa_cons (pv 2) (pa_cons (pe_bltn (v := .ty "tuple") (by rfl) T.n_tuple (by decide +kernel) rfl) pa_nil))) (by intro _; rfl)) (pss_one (ps_set (i := 1) sc__law_shown.nd rfl (by first | exact Or.inl rfl | exact Or.inr rfl) (pe_op (op_add2 (K := K)) (pe_op (op_add2 (K := K)) (pv 1) pe_str) (pe_cal (c__law_written T) (hr.mono (by first | decide | omega)) pass0 (pa_cons (pv 2) pa_nil))))) (pss_one (ps_set (i := 1) sc__law_shown.nd rfl (by first | exact Or.inl rfl | exact Or.inr rfl) (pe_op (op_add2 (K := K)) (pe_op (op_add2 (K := K)) (pv 1) pe_str) (pe_callTy call_str3 (by rfl) T.n_str (by decide +kernel) (pa_cons (pv 2) pa_nil))))))))))
    (pss_cons (ps_if (pt_cmpR (op_eq2 (K := K) hr.units) (pe_ix (ix_any (K := K)) (pv 0) pe_int (fun _ _ => rfl)) pe_str (nomark _)) (pss_one (ps_set (i := 1) sc__law_shown.nd rfl (by first | exact Or.inl rfl | exact Or.inr rfl) (pe_op (op_add2 (K := K)) (pe_op (op_add2 (K := K)) (pv 1) pe_str) (pe_cal (c__law_written T) (hr.mono (by first | decide | omega)) pass0 (pa_cons (pe_ix (ix_any (K := K)) (pv 0) pe_int (fun _ _ => rfl)) pa_nil))))) pss_nil)
    (pss_cons (ps_if (pt_cmpR (op_eq2 (K := K) hr.units) (pe_ix (ix_any (K := K)) (pv 0) pe_int (fun _ _ => rfl)) pe_str (nomark _)) (pss_cons (ps_set (i := 4) sc__law_shown.nd rfl (by first | exact Or.inl rfl | exact Or.inr rfl) (pe_join2 (K := K) pe_str (pe_lc (own := [("teller", 5), ("number", 6)]) (by rfl) sc__law_shown.nd (pi_any (K := K) (pe_ix (ix_any (K := K)) (pv 0) pe_int (fun _ _ => rfl))) (blkOk_by (own := [("teller", 5), ("number", 6)]) (N := ["thing", "text", "part", "post", "marks", "teller", "number", "piece"]) (sc := defScope s__law_shown) (by decide +kernel)) (fun _ _ _ _ _ => (pg_tup2 (K := K) (n := 2) (by rfl) (pgs_cons (pg_name (i := 5) sc__law_shown.nd rfl (by first | exact Or.inl rfl | exact Or.inr rfl)) (pgs_cons (pg_name (i := 6) sc__law_shown.nd rfl (by first | exact Or.inl rfl | exact Or.inr rfl)) pgs_nil)))) (fun _ _ _ _ _ => pts_nil) (fun _ _ _ _ _ => (pe_op (op_add2 (K := K)) (pe_op (op_add2 (K := K)) (pe_callTy call_str3 (by rfl) T.n_str (by decide +kernel) (pa_cons (pv 5) pa_nil)) pe_str) (pe_callTy call_str3 (by rfl) T.n_str (by decide +kernel) (pa_cons (pv 6) pa_nil)))))))
      (pss_cons (ps_set (i := 1) sc__law_shown.nd rfl (by first | exact Or.inl rfl | exact Or.inr rfl) (pe_op (op_add2 (K := K)) (pe_op (op_add2 (K := K)) (pv 1) pe_str) (pe_ifExp (pt_cmpR (op_eq2 (K := K) hr.units) (pv 4) pe_str (nomark _)) pe_str (pv 4))))
      (pss_one (ps_for PassesOwn.never rfl (pi_any (K := K) (pe_ix (ix_any (K := K)) (pv 0) pe_int (fun _ _ => rfl))) (pg_tup2 (K := K) (n := 3) (by rfl) (pgs_cons (pg_name (i := 5) sc__law_shown.nd rfl (by first | exact Or.inl rfl | exact Or.inr rfl)) (pgs_cons (pg_name (i := 6) sc__law_shown.nd rfl (by first | exact Or.inl rfl | exact Or.inr rfl)) (pgs_cons (pg_name (i := 7) sc__law_shown.nd rfl (by first | exact Or.inl rfl | exact Or.inr rfl)) pgs_nil))))
        (pss_cons (ps_set (i := 1) sc__law_shown.nd rfl (by first | exact Or.inl rfl | exact Or.inr rfl) (pe_op (op_add2 (K := K)) (pe_op (op_add2 (K := K)) (pv 1) pe_str) (pe_callTy call_str3 (by rfl) T.n_str (by decide +kernel) (pa_cons (pv 5) pa_nil))))
        (pss_one (ps_set (i := 1) sc__law_shown.nd rfl (by first | exact Or.inl rfl | exact Or.inr rfl) (pe_op (op_add2 (K := K)) (pe_op (op_add2 (K := K)) (pe_op (op_add2 (K := K)) (pe_op (op_add2 (K := K)) (pv 1) pe_str) (pe_callTy call_str3 (by rfl) T.n_str (by decide +kernel) (pa_cons (pv 6) pa_nil))) pe_str) (pe_cal (c__law_written T) (hr.mono (by first | decide | omega)) pass0 (pa_cons (pv 7) pa_nil)))))))))) pss_nil)
    (pss_one (ps_ret (pv 1))))))), ?_⟩
  obtain ⟨a, xs, rfl, ha, hxs⟩ := hd.tupE
  rcases letter_forms hok with ⟨w0, ds, hw, rfl, hwish⟩ | ⟨p1, p2, p, rfl, hp1, hp2, hp⟩ | ⟨n, cs, rfl, hn, hc⟩ | ⟨n, cs, ms, ps, rfl, hn, hc, hm, hp⟩
  · obtain ⟨y0, y1, rfl, hy0, hy1⟩ := hxs.inv2
    obtain ⟨_, rfl, e0, hwl⟩ := hy0.strI rfl
    cases e0
    obtain ⟨qs, rfl, hqs, ew⟩ := wish_ps hwish hsm.1
    have hql : qs.length ≤ 1000 := by have := hsm.2; rw [show tupL (.tuple (qs.map mk1)) = qs.map mk1 from rfl, List.length_map] at this; exact this
    obtain ⟨b, ys, rfl, hb, hys⟩ := hy1.tupE
    have notin : decide (w0 ∈ [sHere, sKept]) = false := by rcases hw with rfl | rfl <;> decide +kernel
    have w6 : w0.length ≤ 6 := by rcases hw with rfl | rfl <;> decide +kernel
    have wl : (ofL (wrL qs)).length ≤ 94 * qs.length + 1 := by
      rw [TL.len_tl, tl_ofL, ew]
      have := shWish_len hwish hsm.1
      rwa [List.length_map] at this
    walk_at "go"
    refine r_forT ?_
    walk_at "go"
    refine r_slT13 ha fun q H1 k1 hq1 => ?_
    refine lpT No (fun i σ' H' => Kp No H H' ∧ ∃ (o2 o3 o4 o5 o6 o7 : Option V), σ' = [some (.ref a), some (.str (tx w0 ([wrL qs].take i))), o2, o3, o4, o5, o6, o7]) hq1 ⟨k1, none, none, none, none, none, none, by unfold tx; simp; rfl⟩ ?_ ?_
    · rintro i z σ' H' hi kp0 ⟨kp, o2, o3, o4, o5, o6, o7, rfl⟩
      match i, hi with
      | 0, hi =>
        cases hi
        have tl0 : (tx w0 (([wrL qs]).take 0)).length = w0.length := by rw [tx_len]; rfl
        walk_at "go"
        refine r_iteT rfl ?_
        walk_at "go"
        rename_i ql Hl hql1 kl hql2
        refine r_inS [sHere, sKept] hql2 ?_
        refine r_bl (r_iteF notin ?_)
        walk_at "go"
        refine r_iteT rfl ?_
        walk_at "go"
        refine ⟨ex, qs, (by walk_at "dat"), hqs, hql, fun Hw kw => ?_⟩
        walk_at "go"
        rw [tx_add (tl_ofL _)]
        exact ⟨by walk_at "kp", by walk_at "kp", _, _, _, _, _, _, rfl⟩
      | i + 1, hi => cases hi
    · rintro σ' H' kp0 ⟨kp, o2, o3, o4, o5, o6, o7, rfl⟩
      have n1 : decide (w0 = Str.ofString "news") = false := by rcases hw with rfl | rfl <;> decide +kernel
      have n2 : decide (w0 = Str.ofString "kept") = false := by rcases hw with rfl | rfl <;> decide +kernel
      walk_at "go"
      refine r_iteF n1 ?_
      walk_at "go"
      refine r_iteF n2 ?_
      walk_at "go"
      have e : tx w0 (([wrL qs]).take 1) = ofL (shLetter [.str w0, .tuple (qs.map mk1)]) := by
        rw [ew]
        refine TL.ext_tl ?_
        unfold tx
        rw [tl_ofL, tl_ofL]
        show _ = TL.tl w0 ++ ([32] ++ shWish (qs.map mk1))
        simp
      rw [← e] at k
      exact k _ kp
  · cases hxs with
    | cons hy0 hr3 =>
    obtain ⟨y1, y2, y3, rfl, hy1, hy2, hy3⟩ := hr3.inv3
    obtain ⟨_, rfl, e0, hwl⟩ := hy0.strI rfl
    cases e0
    obtain ⟨x1, rfl, _⟩ := countD_int hp1
    obtain ⟨x2, rfl, _⟩ := countD_int hp2
    cases hy1
    cases hy2
    obtain ⟨q1, q2, q3, q4⟩ := hsm
    have q1 : x1.natAbs < 10 ^ 40 := of_decide_eq_true q1
    have q2 : x2.natAbs < 10 ^ 40 := of_decide_eq_true q2
    obtain ⟨qs, rfl, hqs, ew⟩ := piece_ps hp q3
    have hql : qs.length ≤ 1000 := by rw [show tupL (.tuple (qs.map mk1)) = qs.map mk1 from rfl, List.length_map] at q4; exact q4
    have n1 := numS_len (k := 40) (by decide) q1
    have n2 := numS_len (k := 40) (by decide) q2
    have w4 : sNews.length = 4 := by decide +kernel
    have wl : (ofL (wrL qs)).length ≤ 51 * qs.length + 1 := by
      rw [TL.len_tl, tl_ofL, ew]
      have := shPiece_len hp q3
      rwa [List.length_map] at this
    have t0 : ∀ ps, ps = [] → (tx sNews ps).length = 4 := fun ps e => by rw [e, tx_len, w4]; rfl
    have t1 : (tx sNews [numLI x1]).length ≤ 46 := by
      have e := tx_add (w := sNews) (ps := []) (y := numS x1) (tl_numS _)
      rw [show [numLI x1] = [] ++ [numLI x1] from rfl, ← e, len_app, len_app, t0 _ rfl, l_blank]; omega
    have t2 : (tx sNews [numLI x1, numLI x2]).length ≤ 90 := by
      have e := tx_add (w := sNews) (ps := [numLI x1]) (y := numS x2) (tl_numS _)
      rw [show [numLI x1, numLI x2] = [numLI x1] ++ [numLI x2] from rfl, ← e, len_app, len_app, l_blank]; omega
    walk_at "go"
    refine r_forT ?_
    walk_at "go"
    refine r_slT13 ha fun q H1 k1 hq1 => ?_
    refine lpT No (fun i σ' H' => Kp No H H' ∧ ∃ (o2 o3 o4 o5 o6 o7 : Option V), σ' = [some (.ref a), some (.str (tx sNews ([numLI x1, numLI x2].take i))), o2, o3, o4, o5, o6, o7]) hq1 ⟨k1, none, none, none, none, none, none, by unfold tx; simp; rfl⟩ ?_ ?_
    · rintro i z σ' H' hi kp0 ⟨kp, o2, o3, o4, o5, o6, o7, rfl⟩
      match i, hi with
      | 0, hi =>
        cases hi
        have tl0 := t0 (([numLI x1, numLI x2]).take 0) rfl
        walk_at "go"
        refine r_iteF rfl ?_
        walk_at "go"
        refine r_iteF rfl ?_
        walk_at "go"
        rw [tx_add (tl_numS _)]
        exact ⟨by walk_at "kp", by walk_at "kp", _, _, _, _, _, _, rfl⟩
      | 1, hi =>
        cases hi
        have tl0 : (tx sNews (([numLI x1, numLI x2]).take 1)).length ≤ 46 := t1
        walk_at "go"
        refine r_iteF rfl ?_
        walk_at "go"
        refine r_iteF rfl ?_
        walk_at "go"
        rw [tx_add (tl_numS _)]
        exact ⟨by walk_at "kp", by walk_at "kp", _, _, _, _, _, _, rfl⟩
      | i + 2, hi => cases hi
    · rintro σ' H' kp0 ⟨kp, o2, o3, o4, o5, o6, o7, rfl⟩
      have tl0 : (tx sNews (([numLI x1, numLI x2]).take ([V.int x1, V.int x2, y3].take 2).length)).length ≤ 90 := t2
      walk_at "go"
      refine r_iteT (by decide +kernel) ?_
      walk_at "go"
      refine ⟨ex, qs, (by walk_at "dat"), hqs, hql, fun Hw kw => ?_⟩
      walk_at "go"
      refine r_iteF (by decide +kernel) ?_
      walk_at "go"
      rw [tx_add (tl_ofL _)]
      have e : tx sNews (([numLI x1, numLI x2]).take ([V.int x1, V.int x2, y3].take 2).length ++ [wrL qs]) = ofL (shLetter [.str sNews, .int x1, .int x2, .tuple (qs.map mk1)]) := by
        rw [ew]
        refine TL.ext_tl ?_
        unfold tx
        rw [tl_ofL, tl_ofL]
        show _ = TL.tl sNews ++ ([32] ++ (numLI x1 ++ ([32] ++ (numLI x2 ++ ([32] ++ shPiece (qs.map mk1))))))
        simp
      rw [e]
      exact k _ (by walk_at "kp")
  · obtain ⟨y0, y1, y2, rfl, hy0, hy1, hy2⟩ := hxs.inv3
    have hway : wayS (.tuple cs) := hsm
    obtain ⟨_, rfl, e0, hwl⟩ := hy0.strI rfl
    cases e0
    obtain ⟨_, rfl, e1, hnl⟩ := hy1.strI rfl
    cases e1
    obtain ⟨b, ys, rfl, hb, hys⟩ := hy2.tupE
    have ly := hys.len
    obtain ⟨hc2, hcc, _⟩ := wayD_parts hc
    have hcl : cs.length ≤ 1000 := hway.2
    have hck : cs.all (okNum 40) = true := hway.1
    have n8 : n.length ≤ 8 := by rw [TL.len_tl]; exact field_len hn
    have w4 : (sHere).length = 4 := by decide +kernel
    have wl : (ofL (wayLs cs)).length ≤ 42 * cs.length := by rw [TL.len_tl, tl_ofL]; exact wayLs_len hck
    have t0 : ∀ ps, ps = [] → (tx sHere ps).length = 4 := fun ps e => by rw [e, tx_len, w4]; rfl
    have t1 : (tx sHere [TL.tl n]).length ≤ 13 := by
      have e := tx_add (w := sHere) (ps := []) (y := n) rfl
      rw [show [TL.tl n] = [] ++ [TL.tl n] from rfl, ← e, len_app, len_app, t0 _ rfl, l_blank]; omega
    have t2 : (tx sHere [TL.tl n, wayLs cs]).length ≤ 42100 := by
      have e := tx_add (w := sHere) (ps := [TL.tl n]) (y := ofL (wayLs cs)) (tl_ofL _)
      rw [show [TL.tl n, wayLs cs] = [TL.tl n] ++ [wayLs cs] from rfl, ← e, len_app, len_app, l_blank]; omega
    walk_at "go"
    refine r_forT ?_
    walk_at "go"
    refine r_slT13 ha fun q H1 k1 hq1 => ?_
    refine lpT No (fun i σ' H' => Kp No H H' ∧ ∃ (o2 o3 o4 o5 o6 o7 : Option V), σ' = [some (.ref a), some (.str (tx sHere ([TL.tl n, wayLs cs].take i))), o2, o3, o4, o5, o6, o7]) hq1 ⟨k1, none, none, none, none, none, none, by unfold tx; simp; rfl⟩ ?_ ?_
    · rintro i z σ' H' hi kp0 ⟨kp, o2, o3, o4, o5, o6, o7, rfl⟩
      match i, hi with
      | 0, hi =>
        cases hi
        have tl0 := t0 (([TL.tl n, wayLs cs]).take 0) rfl
        walk_at "go"
        refine r_iteF rfl ?_
        walk_at "go"
        refine r_iteF rfl ?_
        walk_at "go"
        rw [tx_add rfl]
        exact ⟨by walk_at "kp", by walk_at "kp", _, _, _, _, _, _, rfl⟩
      | 1, hi =>
        cases hi
        have tl0 : (tx sHere (([TL.tl n, wayLs cs]).take 1)).length ≤ 13 := t1
        walk_at "go"
        refine r_iteT rfl ?_
        walk_at "go"
        rename_i ql Hl hql1 kl hql2
        refine r_inS [sHere, sKept] hql2 ?_
        refine r_bl (r_iteT (by decide +kernel) ?_)
        walk_at "go"
        refine r_lcT ?_
        walk_at "go"
        refine lcT (fun D i acc H' => Kp No Hl H' ∧ acc = ((cs.take i).map fun d => ofL (numD d)).map V.str) ((kp.trans kl).tup hb) (fun D hD => ⟨Kp.new Kp.refl hD, rfl⟩) (fun D i acc H' hp => ((kp.trans kl).trans hp.1).tup hb) ?_ ?_
        · rintro D i acc z H' hD hi hacc hl2 ⟨kp, rfl⟩
          obtain ⟨dz, hdz, hz⟩ := hys.get hi
          have hdm : dz ∈ cs := List.mem_of_getElem? hdz
          obtain ⟨x1, rfl, _⟩ := countD_int (List.all_eq_true.mp hcc dz hdm)
          have o1 : x1.natAbs < 10 ^ 40 := of_decide_eq_true (List.all_eq_true.mp hck _ hdm)
          cases hz
          have hi2 : i < 1001 := by have := (List.getElem?_eq_some_iff.mp hi).1; omega
          walk_at "go"
          refine lc_yes hacc hl2 (by omega) ⟨Kp.fresh kp hD, ?_⟩
          have e : numS x1 = ofL (numD (.int x1)) := TL.ext_tl (by rw [tl_ofL, tl_numS]; rfl)
          rw [List.take_add_one, hdz, List.map_append, List.map_append, e]
          rfl
        · rintro D acc H9 hD hacc hl2 ⟨kp9, rfl⟩
          rw [ly, List.take_length] at hacc
          walk_at "go"
          have sum1 : ((cs.map fun d => ofL (numD d)).map (·.length)).sum ≤ 41 * cs.length := by
            rw [List.map_map]
            exact sum_le' cs fun d hd => by
              show (ofL (numD d)).length ≤ 41
              rw [TL.len_tl, tl_ofL]
              exact numD_len (List.all_eq_true.mp hck _ hd)
          refine r_join (SqL.of hacc) (by rw [List.length_map, l_dash]; omega) ?_
          have ej : Txt.join (Str.ofString "-") (cs.map fun d => ofL (numD d)) = ofL (wayLs cs) := TL.ext_tl (by
            have e2 : cs.map (TL.tl ∘ fun d => ofL (numD d)) = cs.map numD := List.map_congr_left fun e _ => tl_ofL _
            rw [TL.join_eq, TL.tl_join, tl_ofL, dash_tl, List.map_map, e2]
            rfl)
          rw [ej]
          walk_at "go"
          rw [tx_add (tl_ofL _)]
          exact ⟨by walk_at "kp", by walk_at "kp", _, _, _, _, _, _, rfl⟩
      | i + 2, hi => cases hi
    · rintro σ' H' kp0 ⟨kp, o2, o3, o4, o5, o6, o7, rfl⟩
      walk_at "go"
      refine r_iteF (by decide +kernel) ?_
      walk_at "go"
      refine r_iteF (by decide +kernel) ?_
      walk_at "go"
      have e : tx sHere (([TL.tl n, wayLs cs]).take ([V.str n, V.ref b].take 2).length) = ofL (shLetter [.str sHere, .str n, .tuple cs]) := by
        refine TL.ext_tl ?_
        unfold tx
        rw [tl_ofL, tl_ofL]
        show _ = TL.tl sHere ++ ([32] ++ (TL.tl n ++ ([32] ++ wayLs cs)))
        simp
      rw [← e] at k
      exact k _ kp
  · cases hxs with
    | cons hy0 hr4 =>
    cases hr4 with
    | cons hy1 hr3 =>
    obtain ⟨y2, y3, y4, rfl, hy2, hy3, hy4⟩ := hr3.inv3
    have hway : wayS (.tuple cs) := hsm.1
    have hks : KeptSmall ms ps := hsm.2
    obtain ⟨_, rfl, e0, hwl⟩ := hy0.strI rfl
    cases e0
    obtain ⟨_, rfl, e1, hnl⟩ := hy1.strI rfl
    cases e1
    obtain ⟨b, ys, rfl, hb, hys⟩ := hy2.tupE
    have ly := hys.len
    obtain ⟨hc2, hcc, _⟩ := wayD_parts hc
    have hcl : cs.length ≤ 1000 := hway.2
    have hck : cs.all (okNum 40) = true := hway.1
    have n8 : n.length ≤ 8 := by rw [TL.len_tl]; exact field_len hn
    have w4 : (sKept).length = 4 := by decide +kernel
    have wl : (ofL (wayLs cs)).length ≤ 42 * cs.length := by rw [TL.len_tl, tl_ofL]; exact wayLs_len hck
    have t0 : ∀ ps, ps = [] → (tx sKept ps).length = 4 := fun ps e => by rw [e, tx_len, w4]; rfl
    have t1 : (tx sKept [TL.tl n]).length ≤ 13 := by
      have e := tx_add (w := sKept) (ps := []) (y := n) rfl
      rw [show [TL.tl n] = [] ++ [TL.tl n] from rfl, ← e, len_app, len_app, t0 _ rfl, l_blank]; omega
    have t2 : (tx sKept [TL.tl n, wayLs cs]).length ≤ 42100 := by
      have e := tx_add (w := sKept) (ps := [TL.tl n]) (y := ofL (wayLs cs)) (tl_ofL _)
      rw [show [TL.tl n, wayLs cs] = [TL.tl n] ++ [wayLs cs] from rfl, ← e, len_app, len_app, l_blank]; omega
    walk_at "go"
    refine r_forT ?_
    walk_at "go"
    refine r_slT13 ha fun q H1 k1 hq1 => ?_
    refine lpT No (fun i σ' H' => Kp No H H' ∧ ∃ (o2 o3 o4 o5 o6 o7 : Option V), σ' = [some (.ref a), some (.str (tx sKept ([TL.tl n, wayLs cs].take i))), o2, o3, o4, o5, o6, o7]) hq1 ⟨k1, none, none, none, none, none, none, by unfold tx; simp; rfl⟩ ?_ ?_
    · rintro i z σ' H' hi kp0 ⟨kp, o2, o3, o4, o5, o6, o7, rfl⟩
      match i, hi with
      | 0, hi =>
        cases hi
        have tl0 := t0 (([TL.tl n, wayLs cs]).take 0) rfl
        walk_at "go"
        refine r_iteF rfl ?_
        walk_at "go"
        refine r_iteF rfl ?_
        walk_at "go"
        rw [tx_add rfl]
        exact ⟨by walk_at "kp", by walk_at "kp", _, _, _, _, _, _, rfl⟩
      | 1, hi =>
        cases hi
        have tl0 : (tx sKept (([TL.tl n, wayLs cs]).take 1)).length ≤ 13 := t1
        walk_at "go"
        refine r_iteT rfl ?_
        walk_at "go"
        rename_i ql Hl hql1 kl hql2
        refine r_inS [sHere, sKept] hql2 ?_
        refine r_bl (r_iteT (by decide +kernel) ?_)
        walk_at "go"
        refine r_lcT ?_
        walk_at "go"
        refine lcT (fun D i acc H' => Kp No Hl H' ∧ acc = ((cs.take i).map fun d => ofL (numD d)).map V.str) ((kp.trans kl).tup hb) (fun D hD => ⟨Kp.new Kp.refl hD, rfl⟩) (fun D i acc H' hp => ((kp.trans kl).trans hp.1).tup hb) ?_ ?_
        · rintro D i acc z H' hD hi hacc hl2 ⟨kp, rfl⟩
          obtain ⟨dz, hdz, hz⟩ := hys.get hi
          have hdm : dz ∈ cs := List.mem_of_getElem? hdz
          obtain ⟨x1, rfl, _⟩ := countD_int (List.all_eq_true.mp hcc dz hdm)
          have o1 : x1.natAbs < 10 ^ 40 := of_decide_eq_true (List.all_eq_true.mp hck _ hdm)
          cases hz
          have hi2 : i < 1001 := by have := (List.getElem?_eq_some_iff.mp hi).1; omega
          walk_at "go"
          refine lc_yes hacc hl2 (by omega) ⟨Kp.fresh kp hD, ?_⟩
          have e : numS x1 = ofL (numD (.int x1)) := TL.ext_tl (by rw [tl_ofL, tl_numS]; rfl)
          rw [List.take_add_one, hdz, List.map_append, List.map_append, e]
          rfl
        · rintro D acc H9 hD hacc hl2 ⟨kp9, rfl⟩
          rw [ly, List.take_length] at hacc
          walk_at "go"
          have sum1 : ((cs.map fun d => ofL (numD d)).map (·.length)).sum ≤ 41 * cs.length := by
            rw [List.map_map]
            exact sum_le' cs fun d hd => by
              show (ofL (numD d)).length ≤ 41
              rw [TL.len_tl, tl_ofL]
              exact numD_len (List.all_eq_true.mp hck _ hd)
          refine r_join (SqL.of hacc) (by rw [List.length_map, l_dash]; omega) ?_
          have ej : Txt.join (Str.ofString "-") (cs.map fun d => ofL (numD d)) = ofL (wayLs cs) := TL.ext_tl (by
            have e2 : cs.map (TL.tl ∘ fun d => ofL (numD d)) = cs.map numD := List.map_congr_left fun e _ => tl_ofL _
            rw [TL.join_eq, TL.tl_join, tl_ofL, dash_tl, List.map_map, e2]
            rfl)
          rw [ej]
          walk_at "go"
          rw [tx_add (tl_ofL _)]
          exact ⟨by walk_at "kp", by walk_at "kp", _, _, _, _, _, _, rfl⟩
      | i + 2, hi => cases hi
    · rintro σ' H' kp0 ⟨kp, o2, o3, o4, o5, o6, o7, rfl⟩
      obtain ⟨e3, zs3, rfl, he3, hzs3⟩ := hy3.tupE
      obtain ⟨e4, zs4, rfl, he4, hzs4⟩ := hy4.tupE
      walk_at "go"
      refine r_iteF (by decide +kernel) ?_
      walk_at "go"
      refine r_iteT (by decide +kernel) ?_
      walk_at "go"
      have lx3 := hzs3.len
      have lx4 := hzs4.len
      have tl0 : (tx sKept (([TL.tl n, wayLs cs]).take ([V.str n, V.ref b, V.ref e3, V.ref e4].take 2).length)).length ≤ 42100 := t2
      have lm := shMarks_len hks.mn hm
      have hml := hks.ml
      have hpl := hks.pl
      refine via (fun v H1 => ∃ D, v = .ref D ∧ H1 D = some (.lst ((ms.map fun d => ofL (shMark d)).map V.str)) ∧ Kp No H' H1) (fun Z hZ => ?_) ?_
      · refine r_lcT ?_
        walk_at "go"
        refine lcT (fun D i acc H9 => Kp No H' H9 ∧ acc = ((ms.take i).map fun d => ofL (shMark d)).map V.str) (kp.tup he3) (fun D hD => ⟨Kp.new Kp.refl hD, rfl⟩) (fun D i acc H9 hp => (kp.trans hp.1).tup he3) ?_ ?_
        · rintro D i acc z H9 hD hi hacc hl ⟨kp9, rfl⟩
          obtain ⟨dz, hdz, hz⟩ := hzs3.get hi
          have hdm : dz ∈ ms := List.mem_of_getElem? hdz
          obtain ⟨m1, m2, rfl, c1, c2⟩ := marksGo_mem hm dz hdm
          obtain ⟨x1, rfl, _⟩ := countD_int c1
          obtain ⟨x2, rfl, _⟩ := countD_int c2
          obtain ⟨o1, o2⟩ := okPart2 (List.all_eq_true.mp hks.mn _ hdm)
          have o1 : x1.natAbs < 10 ^ 40 := of_decide_eq_true o1
          have o2 : x2.natAbs < 10 ^ 40 := of_decide_eq_true o2
          obtain ⟨e, es, rfl, he, hes⟩ := hz.tupE
          obtain ⟨y0, y1, rfl, hy0, hy1⟩ := hes.inv2
          cases hy0
          cases hy1
          have hi2 : i < 1001 := by have := (List.getElem?_eq_some_iff.mp hi).1; omega
          have n1 := numS_len (k := 40) (by decide) o1
          have n2 := numS_len (k := 40) (by decide) o2
          have he' : H9 e = some (.tup [.int x1, .int x2]) := (kp.trans kp9).tup he
          walk_at "go"
          refine lc_yes hacc hl (by omega) ⟨Kp.fresh kp9 hD, ?_⟩
          have em : ((numS x1 ++ Str.ofString ":") ++ numS x2) = ofL (shMark (.tuple [.int x1, .int x2])) := TL.ext_tl (by
            have e1 : TL.tl (Str.ofString ":") = [58] := by decide +kernel
            rw [TL.tl_append, TL.tl_append, tl_ofL, e1, tl_numS, tl_numS, List.append_assoc]
            rfl)
          rw [List.take_add_one, hdz, List.map_append, List.map_append, em]
          rfl
        · rintro D acc H9 hD hacc hl ⟨kp9, rfl⟩
          rw [lx3, List.take_length] at hacc
          exact hZ _ _ ⟨D, rfl, hacc, kp9⟩
      rintro v Hm ⟨D, rfl, hDm, km⟩
      walk_at "go"
      have sum1 : ((ms.map fun d => ofL (shMark d)).map (·.length)).sum ≤ 83 * ms.length := by
        rw [List.map_map]
        exact sum_le' ms fun d hd => by
          obtain ⟨m1, m2, rfl, c1, c2⟩ := marksGo_mem hm d hd
          obtain ⟨o1, o2⟩ := okPart2 (List.all_eq_true.mp hks.mn _ hd)
          have h3 := numD_len o1
          have h4 := numD_len o2
          show (ofL (shMark (.tuple [m1, m2]))).length ≤ 83
          rw [TL.len_tl, tl_ofL]
          show (numD m1 ++ ([58] ++ numD m2)).length ≤ 83
          simp only [List.length_append, List.length_cons, List.length_nil]
          omega
      refine r_join (SqL.of hDm) (by rw [List.length_map, l_comma]; omega) ?_
      have jt : TL.tl (Txt.join (Str.ofString ",") (ms.map fun d => ofL (shMark d))) = TL.joinL [44] (ms.map shMark) := by
        have e1 : TL.tl (Str.ofString ",") = [44] := by decide +kernel
        have e2 : ms.map (TL.tl ∘ fun d => ofL (shMark d)) = ms.map shMark := List.map_congr_left fun e _ => tl_ofL _
        rw [TL.join_eq, TL.tl_join, e1, List.map_map, e2]
      walk_at "go"
      have wlm : (ofL (shMarks ms)).length ≤ 84001 := by rw [TL.len_tl, tl_ofL]; omega
      rw [eq_lit (l := []) rfl, jt]
      by_cases hne : ms = []
      · have hx : TL.tl (Str.ofString "-") = shMarks ms := by rw [hne]; decide +kernel
        refine r_iteT (by rw [hne]; decide +kernel) ?_
        walk_at "go"
        rw [tx_add hx]
        obtain ⟨hd0, ehd⟩ : ∃ h, h = TL.tl sKept ++ ([32] ++ (TL.tl n ++ ([32] ++ (wayLs cs ++ ([32] ++ shMarks ms))))) := ⟨_, rfl⟩
        have et : tx sKept (([TL.tl n, wayLs cs]).take ([V.str n, V.ref b, V.ref e3, V.ref e4].take 2).length ++ [shMarks ms]) = ofL hd0 := by
          rw [ehd]
          refine TL.ext_tl ?_
          unfold tx
          rw [tl_ofL, tl_ofL]
          show TL.tl sKept ++ (([TL.tl n, wayLs cs, shMarks ms]).map fun p => 32 :: p).flatten = _
          simp
        rw [et]
        have hd0l : hd0.length ≤ 126200 := by
          rw [← tl_ofL hd0, ← TL.len_tl, ← et, ← tx_add (tl_ofL _), len_app, len_app, l_blank]; omega
        walk_at "go"
        refine r_forT ?_
        walk_at "go"
        refine lpT No (fun i σ' H9 => Kp No H H9 ∧ ∃ (o2 o3 o4 o5 o6 o7 : Option V), σ' = [some (.ref a), some (.str (ofL (hd0 ++ ((ps.take i).map fun p => bar3 ++ shNews p).flatten))), o2, o3, o4, o5, o6, o7]) ((kp.trans km).tup he4) ⟨kp.trans km, _, _, _, _, _, _, by rw [show (hd0 ++ ((ps.take 0).map fun p => bar3 ++ shNews p).flatten) = hd0 from List.append_nil _]; rfl⟩ ?_ ?_
        · rintro i z σ' H9 hi kp0 ⟨kp9, o2, o3, o4, o5, o6, o7, rfl⟩
          obtain ⟨dz, hdz, hz⟩ := hzs4.get hi
          have hdm : dz ∈ ps := List.mem_of_getElem? hdz
          obtain ⟨d1, d2, pc, rfl, c1, c2, hpc⟩ := newsD_parts (List.all_eq_true.mp hp _ hdm)
          obtain ⟨x1, rfl, _⟩ := countD_int c1
          obtain ⟨x2, rfl, _⟩ := countD_int c2
          obtain ⟨q1, q2, q3, q4⟩ := hks.pk _ hdm _ _ _ rfl
          have q1 : x1.natAbs < 10 ^ 40 := of_decide_eq_true q1
          have q2 : x2.natAbs < 10 ^ 40 := of_decide_eq_true q2
          obtain ⟨qs, rfl, hqs, ew⟩ := piece_ps hpc q3
          have hql : qs.length ≤ 64 := by rw [List.length_map] at q4; exact q4
          obtain ⟨e, es, rfl, he, hes⟩ := hz.tupE
          obtain ⟨y0, y1, y2, rfl, hy0, hy1, hy2⟩ := hes.inv3
          cases hy0
          cases hy1
          have he' : H9 e = some (.tup [.int x1, .int x2, y2]) := kp9.tup he
          have n1 := numS_len (k := 40) (by decide) q1
          have n2 := numS_len (k := 40) (by decide) q2
          have n3 : (ofL (wrL qs)).length ≤ 51 * qs.length + 1 := by
            rw [TL.len_tl, tl_ofL, ew]
            have := shPiece_len hpc q3
            rwa [List.length_map] at this
          have n4 := flat_len (f := fun p => bar3 ++ shNews p) (n := 3352) (l := ps.take i) fun p hpm => by
            have hpm := List.mem_of_mem_take hpm
            have := shNews_len (List.all_eq_true.mp hp p hpm) (hks.pk p hpm)
            show (bar3 ++ shNews p).length ≤ 3352
            rw [List.length_append]
            show 3 + _ ≤ _
            omega
          have n5 : (ps.take i).length ≤ 200 := Nat.le_trans (by rw [List.length_take]; omega) hpl
          have n6 : (ofL (hd0 ++ ((ps.take i).map fun p => bar3 ++ shNews p).flatten)).length ≤ 796600 := by
            rw [TL.len_tl, tl_ofL, List.length_append]
            omega
          walk_at "go"
          refine ⟨ex, qs, (by walk_at "dat"), hqs, by omega, fun Hw kw => ?_⟩
          walk_at "go"
          have ez : ((((((ofL (hd0 ++ ((ps.take i).map fun p => bar3 ++ shNews p).flatten) ++ Str.ofString " | ") ++ numS x1) ++ Str.ofString " ") ++ numS x2) ++ Str.ofString " ") ++ ofL (wrL qs)) = ofL (hd0 ++ ((ps.take (i + 1)).map fun p => bar3 ++ shNews p).flatten) := by
            refine TL.ext_tl ?_
            rw [ew, TL.tl_append, TL.tl_append, TL.tl_append, TL.tl_append, TL.tl_append, TL.tl_append, tl_ofL, tl_ofL, tl_ofL, bar_tl, blank_tl, tl_numS, tl_numS, List.take_add_one, hdz, List.map_append, List.flatten_append]
            show _ = hd0 ++ (_ ++ ((bar3 ++ (numLI x1 ++ ([32] ++ (numLI x2 ++ ([32] ++ shPiece (qs.map mk1)))))) ++ []))
            simp only [List.append_assoc, List.append_nil]
          rw [ez]
          exact ⟨by walk_at "kp", by walk_at "kp", _, _, _, _, _, _, rfl⟩
        · rintro σ' H9 kp0 ⟨kp9, o2, o3, o4, o5, o6, o7, rfl⟩
          rw [lx4, List.take_length]
          walk_at "go"
          have ef : ofL (hd0 ++ (ps.map fun p => bar3 ++ shNews p).flatten) = ofL (shLetter [.str sKept, .str n, .tuple cs, .tuple ms, .tuple ps]) := by
            rw [ehd]
            refine TL.ext_tl ?_
            rw [tl_ofL, tl_ofL]
            show _ = TL.tl sKept ++ ([32] ++ (TL.tl n ++ ([32] ++ (wayLs cs ++ ([32] ++ (shMarks ms ++ (ps.map fun p => bar3 ++ shNews p).flatten))))))
            simp only [List.append_assoc]
          rw [ef]
          exact k _ kp9
      · have hx : TL.tl (Txt.join (Str.ofString ",") (ms.map fun d => ofL (shMark d))) = shMarks ms := by rw [jt]; exact (if_neg hne).symm
        have hxl : (Txt.join (Str.ofString ",") (ms.map fun d => ofL (shMark d))).length ≤ 84001 := by rw [TL.len_tl, hx]; omega
        refine r_iteF (decide_eq_false fun z => ?_) ?_
        · obtain ⟨d0, r0, rfl⟩ := List.exists_cons_of_ne_nil hne
          obtain ⟨m1, m2, rfl, c1, c2⟩ := marksGo_mem hm d0 (by simp)
          have h58 : (58 : Nat) ∈ TL.joinL [44] ((PyData.tuple [m1, m2] :: r0).map shMark) := by
            rw [List.map_cons, join_tail]
            exact List.mem_append_left _ (by show 58 ∈ numD m1 ++ ([58] ++ numD m2); simp)
          rw [z] at h58
          cases h58
        · walk_at "go"
          rw [tx_add hx]
          obtain ⟨hd0, ehd⟩ : ∃ h, h = TL.tl sKept ++ ([32] ++ (TL.tl n ++ ([32] ++ (wayLs cs ++ ([32] ++ shMarks ms))))) := ⟨_, rfl⟩
          have et : tx sKept (([TL.tl n, wayLs cs]).take ([V.str n, V.ref b, V.ref e3, V.ref e4].take 2).length ++ [shMarks ms]) = ofL hd0 := by
            rw [ehd]
            refine TL.ext_tl ?_
            unfold tx
            rw [tl_ofL, tl_ofL]
            show TL.tl sKept ++ (([TL.tl n, wayLs cs, shMarks ms]).map fun p => 32 :: p).flatten = _
            simp
          rw [et]
          have hd0l : hd0.length ≤ 126200 := by
            rw [← tl_ofL hd0, ← TL.len_tl, ← et, ← tx_add (tl_ofL _), len_app, len_app, l_blank]; omega
          walk_at "go"
          refine r_forT ?_
          walk_at "go"
          refine lpT No (fun i σ' H9 => Kp No H H9 ∧ ∃ (o2 o3 o4 o5 o6 o7 : Option V), σ' = [some (.ref a), some (.str (ofL (hd0 ++ ((ps.take i).map fun p => bar3 ++ shNews p).flatten))), o2, o3, o4, o5, o6, o7]) ((kp.trans km).tup he4) ⟨kp.trans km, _, _, _, _, _, _, by rw [show (hd0 ++ ((ps.take 0).map fun p => bar3 ++ shNews p).flatten) = hd0 from List.append_nil _]; rfl⟩ ?_ ?_
          · rintro i z σ' H9 hi kp0 ⟨kp9, o2, o3, o4, o5, o6, o7, rfl⟩
            obtain ⟨dz, hdz, hz⟩ := hzs4.get hi
            have hdm : dz ∈ ps := List.mem_of_getElem? hdz
            obtain ⟨d1, d2, pc, rfl, c1, c2, hpc⟩ := newsD_parts (List.all_eq_true.mp hp _ hdm)
            obtain ⟨x1, rfl, _⟩ := countD_int c1
            obtain ⟨x2, rfl, _⟩ := countD_int c2
            obtain ⟨q1, q2, q3, q4⟩ := hks.pk _ hdm _ _ _ rfl
            have q1 : x1.natAbs < 10 ^ 40 := of_decide_eq_true q1
            have q2 : x2.natAbs < 10 ^ 40 := of_decide_eq_true q2
            obtain ⟨qs, rfl, hqs, ew⟩ := piece_ps hpc q3
            have hql : qs.length ≤ 64 := by rw [List.length_map] at q4; exact q4
            obtain ⟨e, es, rfl, he, hes⟩ := hz.tupE
            obtain ⟨y0, y1, y2, rfl, hy0, hy1, hy2⟩ := hes.inv3
            cases hy0
            cases hy1
            have he' : H9 e = some (.tup [.int x1, .int x2, y2]) := kp9.tup he
            have n1 := numS_len (k := 40) (by decide) q1
            have n2 := numS_len (k := 40) (by decide) q2
            have n3 : (ofL (wrL qs)).length ≤ 51 * qs.length + 1 := by
              rw [TL.len_tl, tl_ofL, ew]
              have := shPiece_len hpc q3
              rwa [List.length_map] at this
            have n4 := flat_len (f := fun p => bar3 ++ shNews p) (n := 3352) (l := ps.take i) fun p hpm => by
              have hpm := List.mem_of_mem_take hpm
              have := shNews_len (List.all_eq_true.mp hp p hpm) (hks.pk p hpm)
              show (bar3 ++ shNews p).length ≤ 3352
              rw [List.length_append]
              show 3 + _ ≤ _
              omega
            have n5 : (ps.take i).length ≤ 200 := Nat.le_trans (by rw [List.length_take]; omega) hpl
            have n6 : (ofL (hd0 ++ ((ps.take i).map fun p => bar3 ++ shNews p).flatten)).length ≤ 796600 := by
              rw [TL.len_tl, tl_ofL, List.length_append]
              omega
            walk_at "go"
            refine ⟨ex, qs, (by walk_at "dat"), hqs, by omega, fun Hw kw => ?_⟩
            walk_at "go"
            have ez : ((((((ofL (hd0 ++ ((ps.take i).map fun p => bar3 ++ shNews p).flatten) ++ Str.ofString " | ") ++ numS x1) ++ Str.ofString " ") ++ numS x2) ++ Str.ofString " ") ++ ofL (wrL qs)) = ofL (hd0 ++ ((ps.take (i + 1)).map fun p => bar3 ++ shNews p).flatten) := by
              refine TL.ext_tl ?_
              rw [ew, TL.tl_append, TL.tl_append, TL.tl_append, TL.tl_append, TL.tl_append, TL.tl_append, tl_ofL, tl_ofL, tl_ofL, bar_tl, blank_tl, tl_numS, tl_numS, List.take_add_one, hdz, List.map_append, List.flatten_append]
              show _ = hd0 ++ (_ ++ ((bar3 ++ (numLI x1 ++ ([32] ++ (numLI x2 ++ ([32] ++ shPiece (qs.map mk1)))))) ++ []))
              simp only [List.append_assoc, List.append_nil]
            rw [ez]
            exact ⟨by walk_at "kp", by walk_at "kp", _, _, _, _, _, _, rfl⟩
          · rintro σ' H9 kp0 ⟨kp9, o2, o3, o4, o5, o6, o7, rfl⟩
            rw [lx4, List.take_length]
            walk_at "go"
            have ef : ofL (hd0 ++ (ps.map fun p => bar3 ++ shNews p).flatten) = ofL (shLetter [.str sKept, .str n, .tuple cs, .tuple ms, .tuple ps]) := by
              rw [ehd]
              refine TL.ext_tl ?_
              rw [tl_ofL, tl_ofL]
              show _ = TL.tl sKept ++ ([32] ++ (TL.tl n ++ ([32] ++ (wayLs cs ++ ([32] ++ (shMarks ms ++ (ps.map fun p => bar3 ++ shNews p).flatten))))))
              simp only [List.append_assoc]
            rw [ef]
            exact k _ kp9

end

section
variable {P : Program} {w : World} {K : PySem.W.Frag} {mg : Str → Option Value} {base : Heap} {c : Ads}
/-! another word, a text bent -/
abbrev spOther : Sp := sp2 fun v x H Q _ => ∃ b g B n m, ∃ w : Str, v = .ref b ∧ x = .str w ∧ TC n m w ∧ n ≤ 100000 ∧ Bag H b g (B + 3) ∧ ∀ y H', TC (2 * n + 20) (2 * m + 1) y → Kp (bx b g) H H' → Bag H' b g B → Q (.str y) H'
theorem c__law_other_word (T : Txt K mg c) : Cal P w K mg base CX0 2 "_law_other_word" ["bag", "word"] spOther := by
  refine T.d__law_other_word.cal sc__law_other_word sp2_len (fun f cdv A outer s H vs Q E hr h => ?_)
  obtain ⟨v, x, rfl, b, g, B, n, m, wd, rfl, rfl, hw, hn, hB, k⟩ := h
  refine ⟨_, (pss_cons (ps_set (i := 2) sc__law_other_word.nd rfl (by first | exact Or.inl rfl | exact Or.inr rfl) (pe_lst (pa_cons pe_str (pa_cons pe_str (pa_cons pe_str (pa_cons pe_str (pa_cons pe_str (pa_cons pe_str (pa_cons pe_str (pa_cons pe_str (pa_cons pe_str (pa_cons pe_str (pa_cons pe_str (pa_cons pe_str (pa_cons pe_str (pa_cons pe_str (pa_cons pe_str (pa_cons pe_str pa_nil))))))))))))))))))
    (pss_cons (ps_set (i := 2) sc__law_other_word.nd rfl (by first | exact Or.inl rfl | exact Or.inr rfl) (pe_op (op_add2 (K := K)) (pv 2) (pe_lst (pa_cons pe_str (pa_cons pe_str (pa_cons pe_str (pa_cons pe_str (pa_cons pe_str (pa_cons pe_str (pa_cons pe_str (pa_cons pe_str (pa_cons pe_str (pa_cons pe_str (pa_cons pe_str (pa_cons pe_str pa_nil)))))))))))))))
    (pss_cons (ps_set (i := 2) sc__law_other_word.nd rfl (by first | exact Or.inl rfl | exact Or.inr rfl) (pe_op (op_add2 (K := K)) (pv 2) (pe_lst (pa_cons pe_str (pa_cons pe_str (pa_cons pe_str (pa_cons pe_str (pa_cons pe_str (pa_cons (pe_op op_mulS pe_str pe_int) (pa_cons (pe_op op_mulS pe_str pe_int) (pa_cons pe_str (pa_cons pe_str (pa_cons pe_str pa_nil)))))))))))))
    (pss_cons (ps_set (i := 3) sc__law_other_word.nd rfl (by first | exact Or.inl rfl | exact Or.inr rfl) (pe_cal (c__law_draw T) (hr.mono (by first | decide | omega)) pass0 (pa_cons (pv 0) (pa_cons (pe_op (op_add2 (K := K)) (pe_callB (call_len2 (K := K)) (by rfl) T.n_len (by decide +kernel) (pa_cons (pv 1) pa_nil)) pe_int) pa_nil))))
    (pss_cons (ps_set (i := 4) sc__law_other_word.nd rfl (by first | exact Or.inl rfl | exact Or.inr rfl) (pe_ix (ix_any (K := K)) (pv 2) (pe_cal (c__law_draw T) (hr.mono (by first | decide | omega)) pass0 (pa_cons (pv 0) (pa_cons pe_int pa_nil))) (fun _ _ => rfl)))
    (pss_one (ps_ret (pe_ix (ix_any (K := K)) (pe_lst (pa_cons (pv 4) (pa_cons (pv 4) (pa_cons (pe_op (op_add2 (K := K)) (pe_op (op_add2 (K := K)) (pe_slice (sl_any (K := K)) (pv 1) po_none (po_some (pv 3))) pe_str) (pe_slice (sl_any (K := K)) (pv 1) (po_some (pv 3)) po_none)) (pa_cons (pe_op (op_add2 (K := K)) (pv 1) (pv 1)) (pa_cons (pe_op (op_add2 (K := K)) (pv 4) (pv 1)) pa_nil)))))) (pe_cal (c__law_draw T) (hr.mono (by first | decide | omega)) pass0 (pa_cons (pv 0) (pa_cons pe_int pa_nil))) (fun _ _ => rfl))))))))), ?_⟩
  walk_at "go"
  rename_i p1 H1 hp1 k1 e1 p2 H2 hp2 k2 e2
  refine r_cat (k2.lst e1) e2 (by decide) fun p3 H3 hp3 k3 e3 => ?_
  walk_at "go"
  refine ⟨Str.ofString "9", 15, rfl, rfl, by decide, by decide, by decide +kernel, ?_⟩
  walk_at "go"
  refine ⟨Str.ofString "9", 16, rfl, rfl, by decide, by decide, by decide +kernel, ?_⟩
  walk_at "go"
  rename_i p4 H4 hp4 k4 e4
  refine r_cat (k4.lst e3) e4 (by decide) fun p5 H5 hp5 k5 e5 => ?_
  have k05 : Kp No H H5 := (((k1.trans k2).trans k3).trans k4).trans k5
  have l3 : wd.length ≤ n := hw.tx.1
  have hw1 : wd.length ≤ 1000000 := by omega
  have B5 := hB.kp k05
  walk_at "go"
  refine ⟨b, g, B + 2, _, rfl, rfl, by omega, by omega, B5, fun at0 H6 a0 a1 k6 B6 => ?_⟩
  walk_at "go"
  have nb : ¬ bx b g p5 := (hB.kp (((k1.trans k2).trans k3).trans k4)).old hp5
  refine ⟨b, g, B + 1, 38, rfl, rfl, by decide, by decide, B6, fun u H7 u0 u1 k7 B7 => ?_⟩
  walk_at "go"
  have e7 := k7.at (k6.at e5 nb) nb
  refine r_pickC 16 1 e7 (by decide +kernel) u0 (by simp only [List.map_append, List.length_append, List.length_cons, List.length_nil]; omega) fun oth hoth => ?_
  walk_at "go"
  obtain ⟨ai, rfl⟩ : ∃ ai : Nat, at0 = (ai : Int) := ⟨at0.toNat, by omega⟩
  have t1 := cut_tx (lo := none) (hi := some (ai : Int)) hw.tx
  have t2 := cut_tx (lo := some (ai : Int)) (hi := none) hw.tx
  have c12 := cut_cm2 (x := wd) (Nat.le_refl ai)
  have l4 := t1.1
  have l5 := t2.1
  have l6 := hoth.tx.1
  have lz : (Str.ofString "0").length = 1 := by decide +kernel
  refine r_add_s ?_ ?_
  · omega
  walk_at "go"
  rename_i pl H8 hpl k8 e8
  refine ⟨b, g, B, 5, rfl, rfl, by decide, by decide, (B7.kp k8).less (by omega), fun r H9 r0 r1 k9 B9 => ?_⟩
  have e9 := k9.at e8 (B7.old hpl)
  refine r_pickS [oth, oth, cutS wd none (some (ai : Int)) ++ Str.ofString "0" ++ cutS wd (some (ai : Int)) none, wd ++ wd, oth ++ wd] e9 r0 (by simpa using r1) fun y hy => ?_
  have hcm := hw.cm
  have tz : TC 1 0 (Str.ofString "0") := TC.lit (by decide +kernel)
  have hz := tz.cm
  refine k y _ ?_ ((((k05.no.trans k6).trans k7).trans k8.no).trans k9) B9
  simp only [List.mem_cons, List.not_mem_nil, or_false] at hy
  rcases hy with rfl | rfl | rfl | rfl | rfl
  · exact hoth.le (by omega) (by omega)
  · exact hoth.le (by omega) (by omega)
  · refine TC.of (((t1.app tz.tx).app t2).le ?_) ?_
    · show n + 1 + n ≤ _
      omega
    · rw [TL.tl_append, TL.tl_append, List.count_append, List.count_append]; omega
  · exact (hw.app hw).le (by omega) (by omega)
  · exact (hoth.app hw).le (by omega) (by omega)

end

section
variable {P : Program} {w : World} {K : PySem.W.Frag} {mg : Str → Option Value} {base : Heap} {c : Ads}
theorem pick_le {m : Int} {L : Nat} (h : (decide (18 ≤ L) && decide (L ≤ 100)) = true) (hm : m ∈ [18, (L : Int)]) : 1 ≤ m ∧ m ≤ 100 ∧ m ≤ L := by
  rw [Bool.and_eq_true, decide_eq_true_eq, decide_eq_true_eq] at h
  simp only [List.mem_cons, List.not_mem_nil, or_false] at hm
  omega
theorem cm_len {n : Nat} {x : Str} (h : TX n x) : TC n n x := TC.of h (Nat.le_trans (List.count_le_length) (by rw [← TL.len_tl]; exact h.1))
abbrev spBent : Sp := sp2 fun v x H Q _ => ∃ b g B n m, ∃ t : Str, v = .ref b ∧ x = .str t ∧ TC n m t ∧ n ≤ 10000 ∧ Bag H b g (B + 9) ∧ ∀ y H', TC (2 * n + 60) (2 * m + 1) y → Kp (bx b g) H H' → Bag H' b g B → Q (.str y) H'
theorem c__law_bent (T : Txt K mg c) : Cal P w K mg base CX0 3 "_law_bent" ["bag", "text"] spBent := by
  refine T.d__law_bent.cal sc__law_bent sp2_len (fun f cdv A outer s H vs Q E hr h => ?_)
  obtain ⟨v, x, rfl, b, g, B, n, m, t, rfl, rfl, ht0, hn, hB, k⟩ := h
  have ht := ht0.tx
  have hcm := ht0.cm
  refine ⟨_, (pss_cons (ps_set (i := 2) sc__law_bent.nd rfl (by first | exact Or.inl rfl | exact Or.inr rfl) pe_str)
    (pss_cons (ps_set (i := 3) sc__law_bent.nd rfl (by first | exact Or.inl rfl | exact Or.inr rfl) (pe_cal (c__law_draw T) (hr.mono (by first | decide | omega)) pass0 (pa_cons (pv 0) (pa_cons pe_int pa_nil))))
    (pss_cons (ps_set (i := 4) sc__law_bent.nd rfl (by first | exact Or.inl rfl | exact Or.inr rfl) (pe_ix (ix_any (K := K)) (pv 2) (pe_cal (c__law_draw T) (hr.mono (by first | decide | omega)) pass0 (pa_cons (pv 0) (pa_cons (pe_ix (ix_any (K := K)) (pe_lst (pa_cons pe_int (pa_cons (pe_callB (call_len2 (K := K)) (by rfl) T.n_len (by decide +kernel) (pa_cons (pv 2) pa_nil)) pa_nil))) (pe_cal (c__law_draw T) (hr.mono (by first | decide | omega)) pass0 (pa_cons (pv 0) (pa_cons pe_int pa_nil))) (fun _ _ => rfl)) pa_nil))) (fun _ _ => rfl)))
    (pss_cons (ps_set (i := 5) sc__law_bent.nd rfl (by first | exact Or.inl rfl | exact Or.inr rfl) (pe_cal (c__law_draw T) (hr.mono (by first | decide | omega)) pass0 (pa_cons (pv 0) (pa_cons (pe_op (op_add2 (K := K)) (pe_callB (call_len2 (K := K)) (by rfl) T.n_len (by decide +kernel) (pa_cons (pv 1) pa_nil)) pe_int) pa_nil))))
    (pss_cons (ps_set (i := 6) sc__law_bent.nd rfl (by first | exact Or.inl rfl | exact Or.inr rfl) (pe_split2 (pv 1) pe_str))
    (pss_cons (ps_set (i := 7) sc__law_bent.nd rfl (by first | exact Or.inl rfl | exact Or.inr rfl) (pe_cal (c__law_draw T) (hr.mono (by first | decide | omega)) pass0 (pa_cons (pv 0) (pa_cons (pe_callB (call_len2 (K := K)) (by rfl) T.n_len (by decide +kernel) (pa_cons (pv 6) pa_nil)) pa_nil))))
    (pss_cons (ps_set (i := 8) sc__law_bent.nd rfl (by first | exact Or.inl rfl | exact Or.inr rfl) (pe_cal (c__law_draw T) (hr.mono (by first | decide | omega)) pass0 (pa_cons (pv 0) (pa_cons (pe_op (op_add2 (K := K)) (pe_callB (call_len2 (K := K)) (by rfl) T.n_len (by decide +kernel) (pa_cons (pv 6) pa_nil)) pe_int) pa_nil))))
    (pss_cons (ps_if (pt_cmpR op_lt2 (pv 3) pe_int (nomark _)) (pss_one (ps_ret (pe_op (op_add2 (K := K)) (pe_op (op_add2 (K := K)) (pe_slice (sl_any (K := K)) (pv 1) po_none (po_some (pv 5))) (pe_op op_mulS (pv 4) (pe_callTy call_int2 (by rfl) T.n_int (by decide +kernel) (pa_cons (pe_cmpR op_gt2 (pv 3) pe_int (nomark _)) pa_nil)))) (pe_slice (sl_any (K := K)) (pv 1) (po_some (pe_op (op_add2 (K := K)) (pv 5) (pe_callTy call_int2 (by rfl) T.n_int (by decide +kernel) (pa_cons (pe_cmpR op_lt2 (pv 3) pe_int (nomark _)) pa_nil)))) po_none)))) pss_nil)
    (pss_cons (ps_if (pt_cmpR op_lt2 (pv 3) pe_int (nomark _)) (pss_one (ps_asg (pe_cal (c__law_other_word T) (hr.mono (by first | decide | omega)) pass0 (pa_cons (pv 0) (pa_cons (pe_ix (ix_any (K := K)) (pv 6) (pv 7) (fun _ _ => rfl)) pa_nil))) (pg_sub (pv 6) (pv 7) set_list))) (pss_one (ps_if (pt_cmpR (op_eq2 (K := K) hr.units) (pv 3) pe_int (nomark _)) (pss_one (ps_expr (pe_bm PySem.F.plainAttrs_list PySem.F.slot_list_insert PySem.F.type_list_insert mt_insert2 (pv 6) (pa_cons (pv 8) (pa_cons (pe_ix (ix_any (K := K)) (pv 6) (pv 7) (fun _ _ => rfl)) pa_nil))))) (pss_one (ps_if (pt_cmpR (op_eq2 (K := K) hr.units) (pv 3) pe_int (nomark _)) (pss_one (ps_expr (pe_bm PySem.F.plainAttrs_list PySem.F.slot_list_insert PySem.F.type_list_insert mt_insert2 (pv 6) (pa_cons (pv 8) (pa_cons (pe_bm PySem.F.plainAttrs_list PySem.F.slot_list_pop PySem.F.type_list_pop mt_popAt (pv 6) (pa_cons (pv 7) pa_nil)) pa_nil))))) (pss_one (ps_if (pt_cmpR (op_eq2 (K := K) hr.units) (pv 3) pe_int (nomark _)) (pss_one (ps_expr (pe_bm PySem.F.plainAttrs_list PySem.F.slot_list_pop PySem.F.type_list_pop mt_popAt (pv 6) (pa_cons (pv 7) pa_nil)))) (pss_one (ps_ret (pe_ix (ix_any (K := K)) (pe_lst (pa_cons (pe_op (op_add2 (K := K)) pe_str (pv 1)) (pa_cons (pe_op (op_add2 (K := K)) (pv 1) pe_str) (pa_cons (pe_op (op_add2 (K := K)) (pv 1) pe_str) (pa_cons (pe_op (op_add2 (K := K)) (pv 1) pe_str) (pa_cons (pe_op (op_add2 (K := K)) (pv 1) pe_str) pa_nil)))))) (pe_cal (c__law_draw T) (hr.mono (by first | decide | omega)) pass0 (pa_cons (pv 0) (pa_cons pe_int pa_nil))) (fun _ _ => rfl)))))))))))
    (pss_one (ps_ret (pe_join2 (K := K) pe_str (pv 6))))))))))))), ?_⟩
  walk_at "go"
  refine ⟨b, g, B + 8, 10, rfl, rfl, by decide, by decide, hB, fun r H1 r0 r1 k1 B1 => ?_⟩
  walk_at "go"
  refine r_len_ss (by decide +kernel) ?_
  walk_at "go"
  rename_i pl0 Ha hpl0 ka ea
  refine ⟨b, g, B + 7, 2, rfl, rfl, by decide, by decide, B1.kp ka, fun r2 Hb r20 r21 kb Bb => ?_⟩
  refine r_pick [18, _] (kb.at ea (B1.old hpl0)) r20 (by simpa using r21) fun ml hml => ?_
  have hml2 := pick_le (by decide +kernel) hml
  clear hml ea
  walk_at "go"
  refine ⟨b, g, B + 6, ml, rfl, rfl, hml2.1, by omega, Bb, fun r3 H2 r30 r31 kc B2 => ?_⟩
  have k2 : Kp (bx b g) H1 H2 := ka.no.trans (kb.trans kc)
  refine r_sign (n := 100) (TX.lit (by decide +kernel)) (by decide) r30 (by omega) fun sg hsg => ?_
  clear hml2
  have hl := ht.1
  have hl2 : t.length ≤ 1000000 := by omega
  walk_at "go"
  refine ⟨b, g, B + 5, _, rfl, rfl, by omega, by omega, B2, fun at0 H3 a0 a1 k3 B3 => ?_⟩
  walk_at "go"
  refine r_split (by decide +kernel) hl2 fun pw H4 hpw k4 ew => ?_
  have hws := words_ws ht
  have hne := words_ne t
  have hcw := cm_split t
  generalize Txt.split t (Str.ofString " ") = ws at ew hws hne hcw
  have hB4 := B3.kp k4
  walk_at "go"
  refine r_len_l ew ?_
  walk_at "go"
  rw [List.length_map]
  have hwl : ws.length ≤ n + 1 := by have := hws.1; omega
  refine ⟨b, g, B + 4, _, rfl, rfl, by omega, by omega, hB4, fun ki H5 ki0 ki1 k5 B5 => ?_⟩
  walk_at "go"
  have ew5 := k5.at ew (B3.old hpw)
  refine r_len_l ew5 ?_
  walk_at "go"
  rw [List.length_map]
  refine ⟨b, g, B + 3, _, rfl, rfl, by omega, by omega, B5, fun to H6 to0 to1 k6 B6 => ?_⟩
  walk_at "go"
  have ew6 := k6.at ew5 (B3.old hpw)
  have k06 : Kp (bx b g) H H6 := ((((k1.trans k2).trans k3).trans k4.no).trans k5).trans k6
  have hB6 := B6
  have l2 := hsg.1
  have ki1' : ki.toNat < ws.length := by omega
  have hwk : (ws.map V.str)[ki.toNat]? = some (.str ws[ki.toNat]) := by rw [List.getElem?_map, List.getElem?_eq_getElem ki1']; rfl
  have twk : TX (n + 1) ws[ki.toNat] := hws.mem (List.getElem_mem ki1')
  have cwk : (TL.tl ws[ki.toNat]).count 44 ≤ cmW ws := cm_mem (List.getElem_mem ki1')
  have hwk0 : ws[ki.toNat]? = some ws[ki.toNat] := List.getElem?_eq_getElem ki1'
  generalize ws[ki.toNat] = wk at hwk twk hwk0 cwk
  have nbw : ¬ bx b g pw := B3.old hpw
  rw [← hcw] at hcm
  walk_at "br"
  · intro h1
    walk_at "go"
    have t1 := cut_tx (lo := none) (hi := some at0) ht
    have l3 := t1.1
    refine r_int_b ?_
    refine r_mul_b hsg fun y hy => ?_
    have l4 := hy.1
    have cy := (cm_len hy).cm
    walk_at "go"
    refine r_int_b ?_
    walk_at "go"
    obtain ⟨b1, hb1⟩ : ∃ b1 : Nat, at0 + (if decide (r < 2) = true then (1 : Int) else 0) = (b1 : Int) ∧ at0.toNat ≤ b1 := by
      refine ⟨(at0 + (if decide (r < 2) = true then (1 : Int) else 0)).toNat, ?_⟩
      split <;> omega
    rw [hb1.1]
    have t5 := cut_tx (lo := some (b1 : Int)) (hi := none) ht
    have l5 := t5.1
    obtain ⟨ai, rfl⟩ : ∃ ai : Nat, at0 = (ai : Int) := ⟨at0.toNat, by omega⟩
    have c2 := cut_cm2 (x := t) (a := ai) (b := b1) (by have := hb1.2; omega)
    walk_at "go"
    refine k _ _ (TC.of (((t1.app hy).app t5).le (by omega)) ?_) k06 (B6.less (by omega))
    rw [TL.tl_append, TL.tl_append, List.count_append, List.count_append]; omega
  have pwH : H pw = none := Kp.free ((k1.trans k2).trans k3) hpw nbw
  · intro h1
    walk_at "go"
    walk_at "br"
    · intro h2
      walk_at "go"
      refine r_ixl (n := ki.toNat) ew6 (by omega) hwk ?_
      walk_at "go"
      refine ⟨b, g, B, wk.length, (TL.tl wk).count 44, wk, rfl, rfl, TC.of ⟨Nat.le_refl _, twk.2⟩ (Nat.le_refl _), by have := twk.1; omega, B6.less (by omega), fun y H7 hy k7 B7 => ?_⟩
      walk_at "go"
      have ew7 := k7.at ew6 nbw
      refine r_setL (n := ki.toNat) ew7 (by omega) (by rw [List.length_map]; omega) ?_
      walk_at "go"
      have hz : (ws.map V.str).set ki.toNat (.str y) = (ws.set ki.toNat y).map V.str := by rw [List.map_set]
      have hwz := hws.set2 hwk0 (hy.tx.le (by omega))
      have hwkl := twk.1
      have hcs := cm_set (y := y) hwk0
      have hyc := hy.cm
      have hcj := cm_joinS (ws.set ki.toNat y)
      rw [hz]
      refine r_join (SqL.of upd_same) (by rw [l_blank]; have := hwz.1; omega) ?_
      exact k _ _ (TC.of (hwz.join.le (by omega)) (by omega)) (Kp.fresh (k06.trans k7) pwH) (B7.wr ew7 nbw head_str)
    · intro h2
      walk_at "go"
      walk_at "br"
      · intro h3
        walk_at "go"
        refine r_ixl (n := ki.toNat) ew6 (by omega) hwk ?_
        walk_at "go"
        refine r_insert ew6 (by rw [List.length_map]; omega) to0 (by omega) ?_
        walk_at "go"
        have hz : (ws.map V.str).take to.toNat ++ [.str wk] ++ (ws.map V.str).drop to.toNat = (ws.take to.toNat ++ [wk] ++ ws.drop to.toNat).map V.str := by
          rw [List.map_append, List.map_append, List.map_take, List.map_drop]; rfl
        have hwz := hws.insert (k := to.toNat) twk
        have hci := cm_insert ws to.toNat wk
        have hcj := cm_joinS (ws.take to.toNat ++ [wk] ++ ws.drop to.toNat)
        rw [hz]
        refine r_join (SqL.of upd_same) (by rw [l_blank]; have := hwz.1; omega) ?_
        exact k _ _ (TC.of (hwz.join.le (by omega)) (by omega)) (Kp.fresh k06 pwH) ((B6.wr ew6 nbw head_str).less (by omega))
      · intro h3
        walk_at "go"
        walk_at "br"
        · intro h4
          walk_at "go"
          refine r_popAt ew6 (by rw [List.length_map]; omega) ki0 (by rw [List.length_map]; omega) hwk ?_
          walk_at "go"
          have hz1 : (ws.map V.str).eraseIdx ki.toNat = (ws.eraseIdx ki.toNat).map V.str := map_erase ws _
          rw [hz1]
          have hle : (ws.eraseIdx ki.toNat).length ≤ ws.length := List.length_eraseIdx_le ..
          refine r_insert upd_same (by rw [List.length_map]; omega) to0 (by omega) ?_
          walk_at "go"
          have hz : ((ws.eraseIdx ki.toNat).map V.str).take to.toNat ++ [.str wk] ++ ((ws.eraseIdx ki.toNat).map V.str).drop to.toNat = ((ws.eraseIdx ki.toNat).take to.toNat ++ [wk] ++ (ws.eraseIdx ki.toNat).drop to.toNat).map V.str := by
            rw [List.map_append, List.map_append, List.map_take, List.map_drop]; rfl
          have hwz := (hws.erase (k := ki.toNat)).insert (k := to.toNat) twk
          have hce := cm_erase hwk0
          have hci := cm_insert (ws.eraseIdx ki.toNat) to.toNat wk
          have hcj := cm_joinS ((ws.eraseIdx ki.toNat).take to.toNat ++ [wk] ++ (ws.eraseIdx ki.toNat).drop to.toNat)
          rw [hz]
          refine r_join (SqL.of upd_same) (by rw [l_blank]; have := hwz.1; omega) ?_
          exact k _ _ (TC.of (hwz.join.le (by omega)) (by omega)) (Kp.fresh (Kp.fresh k06 pwH) pwH) (((B6.wr ew6 nbw head_str).wr upd_same nbw head_str).less (by omega))
        · intro h4
          walk_at "go"
          walk_at "br"
          · intro h5
            walk_at "go"
            refine r_popAt ew6 (by rw [List.length_map]; omega) ki0 (by rw [List.length_map]; omega) hwk ?_
            walk_at "go"
            have hz1 : (ws.map V.str).eraseIdx ki.toNat = (ws.eraseIdx ki.toNat).map V.str := map_erase ws _
            rw [hz1]
            have hwz := hws.erase (k := ki.toNat)
            have hce := cm_erase hwk0
            have hcj := cm_joinS (ws.eraseIdx ki.toNat)
            refine r_join (SqL.of upd_same) (by rw [l_blank]; have := hwz.1; omega) ?_
            exact k _ _ (TC.of (hwz.join.le (by omega)) (by omega)) (Kp.fresh k06 pwH) ((B6.wr ew6 nbw head_str).less (by omega))
          · intro h5
            have tb : TC 1 0 (Str.ofString " ") := TC.lit (by decide +kernel)
            have tn : TC 1 0 (Str.ofString "\n") := TC.lit (by decide +kernel)
            have ts : TC 2 0 (Str.ofString " |") := TC.lit (by decide +kernel)
            have tz : TC 3 0 (Str.ofString " | ") := TC.lit (by decide +kernel)
            have ln := tn.tx.1
            have ls := ts.tx.1
            have lz := tz.tx.1
            have ht1 : TC n (cmW ws) t := TC.of ht (by omega)
            walk_at "go"
            rename_i pl H7 hpl k7 el
            refine ⟨b, g, B + 2, 5, rfl, rfl, by decide, by decide, B6.kp k7, fun u H8 u0 u1 k8 B8 => ?_⟩
            walk_at "go"
            have el8 := k8.at el (B6.old hpl)
            refine r_pickS [Str.ofString " " ++ t, t ++ Str.ofString " ", t ++ Str.ofString "\n", t ++ Str.ofString " |", t ++ Str.ofString " | "] el8 u0 u1 fun y hy => ?_
            refine k _ _ ?_ ((k06.trans k7.no).trans k8) (B8.less (by omega))
            simp only [List.mem_cons, List.not_mem_nil, or_false] at hy
            rcases hy with rfl | rfl | rfl | rfl | rfl
            · exact (tb.app ht1).le (by omega) (by omega)
            · exact (ht1.app tb).le (by omega) (by omega)
            · exact (ht1.app tn).le (by omega) (by omega)
            · exact (ht1.app ts).le (by omega) (by omega)
            · exact (ht1.app tz).le (by omega) (by omega)

end

section
variable {P : Program} {w : World} {K : PySem.W.Frag} {mg : Str → Option Value} {base : Heap} {c : Ads}
/-- what is asked of errors that are caught -/
structure Exs (K : PySem.W.Frag) (c : Ads) : Prop where
  o_NoText : _root_.L2.ExcC K c.NoText
  v_NoText : PySem.W.kitOne K (.ref c.NoText) (.type "ValueError") = some true
  w_NoText : PySem.W.exmOne K (.ref c.NoText) (.ref c.NewsError) = some true
  q_NoText_NoSpan : PySem.W.kitOne K (.ref c.NoText) (.ref c.NoSpan) = some false
  q_NoText_NoNumber : PySem.W.kitOne K (.ref c.NoText) (.ref c.NoNumber) = some false
  q_NoText_NoField : PySem.W.kitOne K (.ref c.NoText) (.ref c.NoField) = some false
  q_NoText_NoWish : PySem.W.kitOne K (.ref c.NoText) (.ref c.NoWish) = some false
  q_NoText_NoPiece : PySem.W.kitOne K (.ref c.NoText) (.ref c.NoPiece) = some false
  q_NoText_TooMany : PySem.W.kitOne K (.ref c.NoText) (.ref c.TooMany) = some false
  q_NoText_NoName : PySem.W.kitOne K (.ref c.NoText) (.ref c.NoName) = some false
  q_NoText_Twice : PySem.W.kitOne K (.ref c.NoText) (.ref c.Twice) = some false
  q_NoText_NotWanted : PySem.W.kitOne K (.ref c.NoText) (.ref c.NotWanted) = some false
  q_NoText_NoWeb : PySem.W.kitOne K (.ref c.NoText) (.ref c.NoWeb) = some false
  q_NoText_NoPost : PySem.W.kitOne K (.ref c.NoText) (.ref c.NoPost) = some false
  q_NoText_NoRoad : PySem.W.kitOne K (.ref c.NoText) (.ref c.NoRoad) = some false
  q_NoText_NoHand : PySem.W.kitOne K (.ref c.NoText) (.ref c.NoHand) = some false
  q_NoText_NoLetter : PySem.W.kitOne K (.ref c.NoText) (.ref c.NoLetter) = some false
  q_NoText_OnTheWay : PySem.W.kitOne K (.ref c.NoText) (.ref c.OnTheWay) = some false
  q_NoText_Full : PySem.W.kitOne K (.ref c.NoText) (.ref c.Full) = some false
  q_NoText_NoStands : PySem.W.kitOne K (.ref c.NoText) (.ref c.NoStands) = some false
  q_NoText_NoDeed : PySem.W.kitOne K (.ref c.NoText) (.ref c.NoDeed) = some false
  q_NoText_Stuck : PySem.W.kitOne K (.ref c.NoText) (.ref c.Stuck) = some false
  q_NoText_NoText : PySem.W.kitOne K (.ref c.NoText) (.ref c.NoText) = some true
  q_NoText_NoRow : PySem.W.kitOne K (.ref c.NoText) (.ref c.NoRow) = some false
theorem pre_len {S L : List Nat} (h : TL.pre S L = true) : S.length ≤ L.length := by
  unfold TL.pre at h
  have := congrArg List.length (eq_of_beq h)
  rw [List.length_take] at this
  omega
theorem spl_parts {S : List Nat} (hS : 0 < S.length) : ∀ (L acc : List Nat) (k : Nat), k ≤ L.length → S.length * (TL.spl S k acc L).length + k ≤ L.length + S.length
  | [], acc, k, h => by
    have : k = 0 := Nat.le_zero.mp h
    subst this
    rw [TL.spl_nil]
    simp
  | a :: r, acc, k + 1, h => by
    have := spl_parts hS r acc k (by rw [List.length_cons] at h; omega)
    show S.length * (TL.spl S k acc r).length + (k + 1) ≤ _
    rw [List.length_cons]; omega
  | a :: r, acc, 0, h => by
    cases hp : TL.pre S (a :: r) with
    | true =>
      rw [TL.spl_hit hp, List.length_cons, Nat.mul_add, Nat.mul_one]
      have h1 := pre_len hp
      rw [List.length_cons] at h1 ⊢
      have := spl_parts hS r [] (S.length - 1) (by omega)
      omega
    | false =>
      rw [TL.spl_miss hp]
      have := spl_parts hS r (acc ++ [a]) 0 (Nat.zero_le _)
      rw [List.length_cons]; omega
theorem mapO_few {α : Type} {f : List Nat → Option α} (h0 : f [] = none) : ∀ {ws : List (List Nat)} {l : List α}, mapO f ws = some l → l.length = ws.length ∧ ws.length ≤ (ws.map List.length).sum
  | [], l, h => by cases h; exact ⟨rfl, Nat.le_refl _⟩
  | w :: r, l, h => by
    rw [mapO] at h
    cases hw : f w with
    | none => rw [hw] at h; cases h
    | some i =>
      cases hr : mapO f r with
      | none => rw [hw, hr] at h; cases h
      | some t =>
        rw [hw, hr] at h
        cases h
        obtain ⟨e1, e2⟩ := mapO_few h0 hr
        have : 0 < w.length := by
          cases w with
          | nil => rw [h0] at hw; cases hw
          | cons a b => simp
        rw [List.length_cons, List.length_cons, List.map_cons, List.sum_cons]
        omega
theorem few_of {α : Type} {f : List Nat → Option α} (h0 : f [] = none) {s : Nat} {w : List Nat} {l : List α} (h : mapO f (TL.spl [s] 0 [] w) = some l) : 2 * l.length ≤ w.length + 1 := by
  obtain ⟨e1, e2⟩ := mapO_few h0 h
  have := spl_sum (s := s) w []
  rw [List.length_nil, Nat.zero_add] at this
  omega
theorem joinL_lenS {s : Nat} : ∀ (ps : List (List Nat)), (TL.joinL [s] ps).length + 1 ≤ (ps.map List.length).sum + ps.length + 1
  | [] => by simp [TL.joinL]
  | [p] => by simp [TL.joinL]
  | p :: q :: r => by
    rw [joinL_cons2]
    have := joinL_lenS (s := s) (q :: r)
    simp only [List.length_append, List.map_cons, List.sum_cons, List.length_cons, List.length_nil] at this ⊢
    omega
theorem piece_few {l : List Nat} {p : List PyData} (h : rdPiece l = some p) : 2 * p.length ≤ l.length + 1 := by
  unfold rdPiece at h
  split at h
  · cases h; simp
  · split at h
    · rename_i ds hd
      split at h
      · cases h
        exact few_of (by decide +kernel) hd
      · cases h
    · cases h
theorem letter0_short {x : Str} (hx : x.length ≤ 7000) {l : List PyData} (h : rdLetter0 (TL.tl x) = some l) : shortP l := by
  have hlen := TL.len_tl x
  have hl : (TL.tl x).length ≤ 7000 := by rw [← hlen]; exact hx
  generalize TL.tl x = y at h hl
  unfold rdLetter0 at h
  dsimp only at h
  have hsum := spl_sum (s := 32) y []
  rw [List.length_nil, Nat.zero_add] at hsum
  split at h
  · cases hn : rdNews (TL.spl [32] 0 [] y).tail with
    | none => rw [hn] at h; cases h
    | some r =>
      rw [hn] at h
      cases h
      unfold rdNews at hn
      split at hn
      · rename_i a b c r hsp
        split at hn
        · rename_i i j p hi hj hp
          cases hn
          have q := piece_few hp
          have q2 := joinL_lenS (s := 32) (c :: r)
          have q3 : (((TL.spl [32] 0 [] y).tail.map List.length).sum + (TL.spl [32] 0 [] y).tail.length) ≤ y.length + 1 := by
            cases hs : TL.spl [32] 0 [] y with
            | nil => simp
            | cons u v =>
              rw [hs] at hsum
              simp only [List.map_cons, List.sum_cons, List.length_cons, List.tail_cons] at hsum ⊢
              omega
          rw [hsp] at q3
          simp only [List.map_cons, List.sum_cons, List.length_cons] at q2 q3
          intro e he es ee
          simp only [List.mem_cons, List.not_mem_nil, or_false] at he
          rcases he with rfl | rfl | rfl | rfl <;> cases ee
          omega
        · cases hn
      · cases hn
  · unfold rdMoving at h
    dsimp only at h
    have hparts := spl_parts (S := bar3) (by decide) y [] 0 (Nat.zero_le _)
    have hb : bar3.length = 3 := rfl
    rw [hb] at hparts
    have hw : ∀ p ∈ TL.spl bar3 0 [] y, p.length ≤ 7000 := fun p hp => by
      have := spl_le bar3 y 0 [] p hp
      rw [List.length_nil] at this; omega
    have hh : ((TL.spl bar3 0 [] y).headD []).length ≤ 7000 := by
      cases hs : TL.spl bar3 0 [] y with
      | nil => exact Nat.zero_le _
      | cons u v => exact hw u (by rw [hs]; exact List.mem_cons_self)
    have hww : ∀ w ∈ TL.spl [32] 0 [] ((TL.spl bar3 0 [] y).headD []), w.length ≤ 7000 := fun w hw => by
      have := spl_le [32] _ 0 [] w hw
      rw [List.length_nil] at this; omega
    split at h
    · rename_i w hh2 cw hsp
      have hc := hww cw (by rw [hsp]; simp)
      cases hm : mapO rdInt (TL.spl [45] 0 [] cw) with
      | none => rw [hm] at h; cases h
      | some ds =>
        rw [hm] at h
        cases h
        have q := few_of (by decide +kernel) hm
        intro e he es ee
        subst ee
        simp only [List.cons_append, List.nil_append, List.mem_cons, List.mem_map] at he
        rcases he with he | he | he | ⟨a, _, he⟩
        · cases he
        · cases he
        · cases he; omega
        · cases he
    · rename_i w hh2 cw m hsp
      have hc := hww cw (by rw [hsp]; simp)
      have hmm := hww m (by rw [hsp]; simp)
      split at h
      · rename_i ds ps ms h1 h2 h3
        cases h
        have q1 := few_of (by decide +kernel) h1
        have q2 := mapO_len h2
        rw [List.length_tail] at q2
        have q3 : ms.length ≤ 4000 := by
          unfold rdMarks at h3
          split at h3
          · cases h3; exact Nat.zero_le _
          · have := few_of (by decide +kernel) h3
            omega
        intro e he es ee
        subst ee
        simp only [List.mem_cons, List.not_mem_nil, or_false] at he
        rcases he with he | he | he | he | he
        · cases he
        · cases he
        · cases he; omega
        · cases he; exact q3
        · cases he; omega
      · cases h
    · cases h
/-- what reading a thing tells: what it writes, or none -/
def rdD : PyData → Option (List PyData)
  | .str x => rdLetter (TL.tl x)
  | _ => none
def dueD (d : PyData) : PyData := match rdD d with
  | some ds => .tuple ds
  | none => .none
def kindsD (d : PyData) : PyData := match rdD d with
  | some _ => .list []
  | none => .list [.bool true, .bool true, .bool false]
abbrev spTold : Sp := sp1 fun v H Q _ => ∃ ex d, Dat ex H v d ∧ (∀ x, d = .str x → x.length ≤ 7000) ∧ ∀ v' H', Kp No H H' → Dat No H' v' (.tuple [dueD d, kindsD d]) → Q v' H'
theorem due_some {d : PyData} {ds : List PyData} (h : rdD d = some ds) : dueD d = .tuple ds ∧ kindsD d = .list [] := by
  unfold dueD kindsD
  rw [h]
  exact ⟨rfl, rfl⟩
theorem due_none {d : PyData} (h : rdD d = none) : dueD d = .none ∧ kindsD d = .list [.bool true, .bool true, .bool false] := by
  unfold dueD kindsD
  rw [h]
  exact ⟨rfl, rfl⟩
theorem c__law_told (T : Txt K mg c) (X : Exs K c) : Cal P w K mg base CX0 8 "_law_told" ["text"] spTold := by
  refine T.d__law_told.cal sc__law_told sp1_len (fun f cdv A outer s H vs Q E hr h => ?_)
  obtain ⟨v, rfl, ex, d, hd, hlen, k⟩ := h
  refine ⟨_, (pss_cons (ps_set (i := 1) sc__law_told.nd rfl (by first | exact Or.inl rfl | exact Or.inr rfl) pe_non)
    (pss_cons (ps_set (i := 2) sc__law_told.nd rfl (by first | exact Or.inl rfl | exact Or.inr rfl) (pe_lst pa_nil))
    (pss_cons (ps_try_as (i := 3) rfl rfl sc__law_told.nd rfl rfl ⟨rfl, by decide, .inl T.e_NewsError.gC⟩ takes0 (fun W pn xe tk _ => (pss_one (ps_set (i := 1) sc__law_told.nd rfl (by first | exact Or.inl rfl | exact Or.inr rfl) (pe_calS (c_read_letter T) (hr.mono (by first | decide | omega)) (fun σ => passAt tk σ) (pa_cons (pv 0) pa_nil))))) (fun a oe cls d pn hz hf => (pss_cons (ps_set (i := 4) sc__law_told.nd rfl (by first | exact Or.inl rfl | exact Or.inr rfl) (pe_callB (call_isX (K := K) hz hf) (by rfl) T.n_isinstance (by decide +kernel) (pa_cons (pv 3) (pa_cons (pe_tup (pa_cons (pe_glob (v := .ref c.Full) (by rfl) T.e_Full.gC rfl) (pa_cons (pe_glob (v := .ref c.NoDeed) (by rfl) T.e_NoDeed.gC rfl) (pa_cons (pe_glob (v := .ref c.NoField) (by rfl) T.e_NoField.gC rfl) (pa_cons (pe_glob (v := .ref c.NoHand) (by rfl) T.e_NoHand.gC rfl) (pa_cons (pe_glob (v := .ref c.NoLetter) (by rfl) T.e_NoLetter.gC rfl) (pa_cons (pe_glob (v := .ref c.NoName) (by rfl) T.e_NoName.gC rfl) (pa_cons (pe_glob (v := .ref c.NoNumber) (by rfl) T.e_NoNumber.gC rfl) (pa_cons (pe_glob (v := .ref c.NoPiece) (by rfl) T.e_NoPiece.gC rfl) (pa_cons (pe_glob (v := .ref c.NoPost) (by rfl) T.e_NoPost.gC rfl) (pa_cons (pe_glob (v := .ref c.NoRoad) (by rfl) T.e_NoRoad.gC rfl) pa_nil))))))))))) pa_nil))))
      (pss_cons (ps_set (i := 4) sc__law_told.nd rfl (by first | exact Or.inl rfl | exact Or.inr rfl) (pe_or (pv 4) (pe_one (pe_callB (call_isX (K := K) hz hf) (by rfl) T.n_isinstance (by decide +kernel) (pa_cons (pv 3) (pa_cons (pe_tup (pa_cons (pe_glob (v := .ref c.NoRow) (by rfl) T.e_NoRow.gC rfl) (pa_cons (pe_glob (v := .ref c.NoSpan) (by rfl) T.e_NoSpan.gC rfl) (pa_cons (pe_glob (v := .ref c.NoStands) (by rfl) T.e_NoStands.gC rfl) (pa_cons (pe_glob (v := .ref c.NotWanted) (by rfl) T.e_NotWanted.gC rfl) (pa_cons (pe_glob (v := .ref c.NoWeb) (by rfl) T.e_NoWeb.gC rfl) (pa_cons (pe_glob (v := .ref c.NoWish) (by rfl) T.e_NoWish.gC rfl) (pa_cons (pe_glob (v := .ref c.OnTheWay) (by rfl) T.e_OnTheWay.gC rfl) (pa_cons (pe_glob (v := .ref c.Stuck) (by rfl) T.e_Stuck.gC rfl) pa_nil))))))))) pa_nil))))))
      (pss_cons (ps_set (i := 4) sc__law_told.nd rfl (by first | exact Or.inl rfl | exact Or.inr rfl) (pe_or (pv 4) (pe_one (pe_callB (call_isX (K := K) hz hf) (by rfl) T.n_isinstance (by decide +kernel) (pa_cons (pv 3) (pa_cons (pe_tup (pa_cons (pe_glob (v := .ref c.TooMany) (by rfl) T.e_TooMany.gC rfl) (pa_cons (pe_glob (v := .ref c.Twice) (by rfl) T.e_Twice.gC rfl) pa_nil))) pa_nil))))))
      (pss_one (ps_set (i := 2) sc__law_told.nd rfl (by first | exact Or.inl rfl | exact Or.inr rfl) (pe_lst (pa_cons (pe_callB (call_isX (K := K) hz hf) (by rfl) T.n_isinstance (by decide +kernel) (pa_cons (pv 3) (pa_cons (pe_glob (v := .ref c.NoText) (by rfl) T.e_NoText.gC rfl) pa_nil))) (pa_cons (pe_callB (call_isX (K := K) hz hf) (by rfl) T.n_isinstance (by decide +kernel) (pa_cons (pv 3) (pa_cons (pe_bltn (v := .ty "ValueError") (by rfl) T.n_ValueError (by decide +kernel) rfl) pa_nil))) (pa_cons (pv 4) pa_nil)))))))))))
    (pss_one (ps_ret (pe_tup (pa_cons (pv 1) (pa_cons (pv 2) pa_nil)))))))), ?_⟩
  walk_at "go"
  have hcm : cmpD d = true := by cases d <;> rfl
  refine ⟨ex, d, (by walk_at "dat"), hcm, fun x hdx => Nat.le_trans (hlen x hdx) (by decide), fun x l hdx h0 _ _ => letter0_short (hlen x hdx) h0, fun x ds hdx hrd p H3 k3 hp => ?_, fun hno H3 k3 => ?_⟩
  · walk_at "go"
    rename_i kl Hk hkl kk ek pt Ht hpt kt et
    obtain ⟨e1, e2⟩ := due_some (d := d) (ds := ds) (by rw [hdx]; exact hrd)
    rw [e1, e2] at k
    exact k _ _ ((kk.trans k3).trans kt) (.tup et (.cons ((hp.all kt).weak fun _ z => z.elim) (.cons (.lst (fun z => z) (kt.lst (k3.lst ek)) .nil) .nil)))
  · obtain ⟨e1, e2⟩ := due_none (d := d) (by cases d <;> first | rfl | exact hno _ rfl)
    rw [e1, e2] at k
    refine ⟨true, X.w_NoText, fun _ a ha => ?_, fun z => nomatch z⟩
    walk_at "go"
    have hk0 : Kp No H _ := (by assumption : Kp No H _)
    rename_i t1 H4 h14 k4 e4
    refine r_isXT [c.Full, c.NoDeed, c.NoField, c.NoHand, c.NoLetter, c.NoName, c.NoNumber, c.NoPiece, c.NoPost, c.NoRoad] e4 X.o_NoText (fun x hx => ?_) ?_
    · simp only [List.mem_cons, List.not_mem_nil, or_false] at hx
      rcases hx with rfl | rfl | rfl | rfl | rfl | rfl | rfl | rfl | rfl | rfl <;> first | exact X.q_NoText_Full | exact X.q_NoText_NoDeed | exact X.q_NoText_NoField | exact X.q_NoText_NoHand | exact X.q_NoText_NoLetter | exact X.q_NoText_NoName | exact X.q_NoText_NoNumber | exact X.q_NoText_NoPiece | exact X.q_NoText_NoPost | exact X.q_NoText_NoRoad
    walk_at "go"
    rename_i t2 H5 h2 k5 e5
    refine r_isXT [c.NoRow, c.NoSpan, c.NoStands, c.NotWanted, c.NoWeb, c.NoWish, c.OnTheWay, c.Stuck] e5 X.o_NoText (fun x hx => ?_) ?_
    · simp only [List.mem_cons, List.not_mem_nil, or_false] at hx
      rcases hx with rfl | rfl | rfl | rfl | rfl | rfl | rfl | rfl <;> first | exact X.q_NoText_NoRow | exact X.q_NoText_NoSpan | exact X.q_NoText_NoStands | exact X.q_NoText_NotWanted | exact X.q_NoText_NoWeb | exact X.q_NoText_NoWish | exact X.q_NoText_OnTheWay | exact X.q_NoText_Stuck
    walk_at "go"
    rename_i t3 H6 h3 k6 e6
    refine r_isXT [c.TooMany, c.Twice] e6 X.o_NoText (fun x hx => ?_) ?_
    · simp only [List.mem_cons, List.not_mem_nil, or_false] at hx
      rcases hx with rfl | rfl <;> first | exact X.q_NoText_TooMany | exact X.q_NoText_Twice
    walk_at "go"
    refine r_isX1 X.o_NoText X.q_NoText_NoText ?_
    walk_at "go"
    refine r_isXB X.o_NoText X.v_NoText ?_
    walk_at "go"
    rename_i k2 H7 h27 k7 e7 pt Ht hpt kt et
    exact k _ _ (((((hk0.trans k3).trans k4).trans k5).trans k6).trans k7 |>.trans kt) (.tup et (.cons .non (.cons (.lst (fun z => z) (kt.lst e7) (.cons (.bl _) (.cons (.bl _) (.cons (.bl _) .nil)))) .nil)))

end

section
variable {P : Program} {w : World} {K : PySem.W.Frag} {mg : Str → Option Value} {base : Heap} {c : Ads}
/-! what the law's things are like -/
structure Pq (w n : Nat) (d : PyData) : Prop where
  sh : d.showable = true
  lf : d.leavesShort 40 = true
  wt : d.weight ≤ w
  dp : d.depth ≤ n
theorem Pq.all {w n : Nat} : ∀ {ds : List PyData}, (∀ d ∈ ds, Pq w n d) → PyData.showableAll ds = true ∧ PyData.leavesShortAll 40 ds = true ∧ PyData.weightAll ds ≤ ds.length * (w + 1) ∧ PyData.depthAll ds ≤ n
  | [], _ => ⟨by simp [PyData.showableAll], by simp [PyData.leavesShortAll], by simp [PyData.weightAll], by simp [PyData.depthAll]⟩
  | d :: r, h => by
    obtain ⟨a1, a2, a3, a4⟩ := Pq.all (w := w) (n := n) (ds := r) fun x hx => h x (List.mem_cons_of_mem _ hx)
    obtain ⟨b1, b2, b3, b4⟩ := h d List.mem_cons_self
    refine ⟨by simp [PyData.showableAll, a1, b1], by simp [PyData.leavesShortAll, a2, b2], ?_, by rw [PyData.depthAll]; omega⟩
    rw [PyData.weightAll, List.length_cons, Nat.succ_mul]
    omega
theorem Pq.tup {w n m w' : Nat} {ds : List PyData} (h : ∀ d ∈ ds, Pq w n d) (hl : ds.length ≤ m) (hw : m * (w + 1) ≤ w') : Pq w' (n + 1) (.tuple ds) := by
  obtain ⟨a1, a2, a3, a4⟩ := Pq.all h
  have hm : ds.length * (w + 1) ≤ m * (w + 1) := Nat.mul_le_mul_right _ hl
  exact ⟨by rw [PyData.showable]; exact a1, by rw [PyData.leavesShort]; exact a2, by rw [PyData.weight]; omega, by rw [PyData.depth]; omega⟩
theorem Pq.lst {w n m w' : Nat} {ds : List PyData} (h : ∀ d ∈ ds, Pq w n d) (hl : ds.length ≤ m) (hw : m * (w + 1) ≤ w') : Pq w' (n + 1) (.list ds) := by
  obtain ⟨a1, a2, a3, a4⟩ := Pq.all h
  have hm : ds.length * (w + 1) ≤ m * (w + 1) := Nat.mul_le_mul_right _ hl
  exact ⟨by rw [PyData.showable]; exact a1, by rw [PyData.leavesShort]; exact a2, by rw [PyData.weight]; omega, by rw [PyData.depth]; omega⟩
theorem Pq.le {w n w' n' : Nat} {d : PyData} (h : Pq w n d) (a : w ≤ w') (b : n ≤ n') : Pq w' n' d := ⟨h.sh, h.lf, Nat.le_trans h.wt a, Nat.le_trans h.dp b⟩
theorem Pq.pl {d : PyData} (h : Pl 0 d) : Pq 60 1 d := ⟨h.sh, h.lf, h.wt, h.dp⟩
theorem Pq.str {x : Str} {m : Nat} (h : TX m x) (hm : m ≤ 60) : Pq 60 1 (.str x) := ⟨by simp [PyData.showable], by
  rw [PyData.leavesShort]
  exact List.all_eq_true.mpr fun c hc => decide_eq_true (Nat.lt_trans (h.2 c hc) (by decide)), by
  have h1 : x.cps.size ≤ m := h.1
  rw [PyData.weight]; omega, by simp [PyData.depth]⟩
theorem pq_num {d : PyData} (h : okNum 15 d = true) (h2 : d = .none ∨ ∃ i, d = .int i) : Pq 60 1 d := by
  rcases h2 with rfl | ⟨i, rfl⟩
  · exact .pl .non
  · exact .pl (.int (of_decide_eq_true h))
theorem pq_cnt {d : PyData} (h : okNum 15 d = true) (h2 : countD d = true) : Pq 60 1 d := by
  obtain ⟨i, rfl, _⟩ := countD_int h2
  exact pq_num h (.inr ⟨i, rfl⟩)
theorem pq_field {f : Str} (h : fieldS f = true) : Pq 60 1 (.str f) := Pq.str (show TC 8 0 f from lc_field h).tx (by decide)
theorem pq_piece {ds : List PyData} (h : pieceD (.tuple ds) = true) (hk : ds.all (okPart 15) = true) (hl : ds.length ≤ 2) : Pq 400 3 (.tuple ds) := Pq.tup (w := 199) (m := 2) (n := 2) (fun d hd => by
  obtain ⟨f, i, rfl, hf⟩ := piece_part h hd
  obtain ⟨_, h2⟩ := okPart2 (List.all_eq_true.mp hk _ hd)
  refine (Pq.tup (w := 60) (n := 1) (m := 2) (fun e he => ?_) (Nat.le_refl _) (Nat.le_refl _)).le (by decide) (by decide)
  simp only [List.mem_cons, List.not_mem_nil, or_false] at he
  rcases he with rfl | rfl
  · exact pq_field hf
  · exact pq_num h2 (.inr ⟨i, rfl⟩)) hl (by decide)
theorem pq_wish {ds : List PyData} (h : wishD (.tuple ds) = true) (hk : ds.all (okPart 15) = true) (hl : ds.length ≤ 2) : Pq 400 3 (.tuple ds) := Pq.tup (w := 199) (m := 2) (n := 2) (fun d hd => by
  obtain ⟨f, lo, hi, rfl, hf, e1, e2, _⟩ := wish_part h hd
  have hk2 : (okNum 15 (.str f) && (okNum 15 lo && (okNum 15 hi && true))) = true := List.all_eq_true.mp hk _ hd
  simp only [Bool.and_eq_true] at hk2
  refine (Pq.tup (w := 60) (n := 1) (m := 3) (fun e he => ?_) (Nat.le_refl _) (Nat.le_refl _)).le (by decide) (by decide)
  simp only [List.mem_cons, List.not_mem_nil, or_false] at he
  rcases he with rfl | rfl | rfl
  · exact pq_field hf
  · exact pq_num hk2.2.1 (end_num e1)
  · exact pq_num hk2.2.2.1 (end_num e2)) hl (by decide)
theorem pq_way {ds : List PyData} (h : ds.all countD = true) (hk : ds.all (okNum 15) = true) (hl : ds.length ≤ 7) : Pq 500 2 (.tuple ds) := Pq.tup (w := 60) (m := 7) (n := 1) (fun d hd => pq_cnt (List.all_eq_true.mp hk d hd) (List.all_eq_true.mp h d hd)) hl (by decide)
theorem pq_news {d : PyData} (h : newsD d = true) (hs : okNews 15 d = true) (hf : FewN d) : Pq 1300 4 d := by
  obtain ⟨a, b, p, rfl, ha, hb, hp⟩ := newsD_parts h
  have hs : (okNum 15 a && (okNum 15 b && p.all (okPart 15))) = true := hs
  simp only [Bool.and_eq_true] at hs
  refine Pq.tup (w := 400) (n := 3) (m := 3) (fun e he => ?_) (Nat.le_refl _) (by decide)
  simp only [List.mem_cons, List.not_mem_nil, or_false] at he
  rcases he with rfl | rfl | rfl
  · exact (pq_cnt hs.1 ha).le (by decide) (by decide)
  · exact (pq_cnt hs.2.1 hb).le (by decide) (by decide)
  · exact pq_piece hp hs.2.2 (hf a b p rfl)
theorem pq_word {w : Str} (h : w = sWant ∨ w = sUnwant ∨ w = sNews ∨ w = sHere ∨ w = sKept) : Pq 60 1 (.str w) := Pq.str (show TC 6 0 w from lc_word h).tx (by decide)
theorem way_cnt {c : List PyData} (h : wayD (.tuple c) = true) : c.all countD = true := by
  have h : (decide (2 ≤ c.length) && (c.all countD && decide ((c.map iv).Nodup))) = true := h
  simp only [Bool.and_eq_true] at h
  exact h.2.1
/-- a letter of few parts, its parts -/
theorem pq_letter {l : List PyData} (h : letterD (.tuple l) = true) (hk : okLet 15 l = true) (hf : FewL l) : (∀ d ∈ l, Pq 4000 5 d) ∧ l.length ≤ 5 := by
  rcases letter_forms h with ⟨w, ds, hw, rfl, hds⟩ | ⟨a, b, p, rfl, ha, hb, hp⟩ | ⟨n, c, rfl, hn, hc⟩ | ⟨n, c, ms, ps, rfl, hn, hc, hm, hp⟩
  · have hf : ds.length ≤ 2 := hf
    refine ⟨fun e he => ?_, by simp⟩
    simp only [List.mem_cons, List.not_mem_nil, or_false] at he
    rcases he with rfl | rfl
    · exact (pq_word (hw.elim .inl fun z => .inr (.inl z))).le (by decide) (by decide)
    · exact (pq_wish hds hk hf).le (by decide) (by decide)
  · have hk : (okNum 15 a && (okNum 15 b && p.all (okPart 15))) = true := hk
    simp only [Bool.and_eq_true] at hk
    have hf : p.length ≤ 2 := hf
    refine ⟨fun e he => ?_, by simp⟩
    simp only [List.mem_cons, List.not_mem_nil, or_false] at he
    rcases he with rfl | rfl | rfl | rfl
    · exact (pq_word (.inr (.inr (.inl rfl)))).le (by decide) (by decide)
    · exact (pq_cnt hk.1 ha).le (by decide) (by decide)
    · exact (pq_cnt hk.2.1 hb).le (by decide) (by decide)
    · exact (pq_piece hp hk.2.2 hf).le (by decide) (by decide)
  · have hf : c.length ≤ 7 := hf
    refine ⟨fun e he => ?_, by simp⟩
    simp only [List.mem_cons, List.not_mem_nil, or_false] at he
    rcases he with rfl | rfl | rfl
    · exact (pq_word (.inr (.inr (.inr (.inl rfl))))).le (by decide) (by decide)
    · exact (pq_field hn).le (by decide) (by decide)
    · exact (pq_way (way_cnt hc) hk hf).le (by decide) (by decide)
  · have hk : (c.all (okNum 15) && (ms.all (okPart 15) && ps.all (okNews 15))) = true := hk
    simp only [Bool.and_eq_true] at hk
    obtain ⟨f1, f2, f3, f4⟩ : c.length ≤ 7 ∧ ms.length ≤ 4 ∧ ps.length ≤ 3 ∧ ∀ d ∈ ps, FewN d := hf
    refine ⟨fun e he => ?_, by simp⟩
    simp only [List.mem_cons, List.not_mem_nil, or_false] at he
    rcases he with rfl | rfl | rfl | rfl | rfl
    · exact (pq_word (.inr (.inr (.inr (.inr rfl))))).le (by decide) (by decide)
    · exact (pq_field hn).le (by decide) (by decide)
    · exact (pq_way (way_cnt hc) hk.1 f1).le (by decide) (by decide)
    · refine (Pq.tup (w := 200) (n := 2) (m := 4) (fun d hd => ?_) f2 (Nat.le_refl _)).le (by decide) (by decide)
      obtain ⟨a, b, rfl, ha, hb⟩ := marksGo_mem hm d hd
      obtain ⟨h1, h2⟩ := okPart2 (List.all_eq_true.mp hk.2.1 _ hd)
      refine (Pq.tup (w := 60) (n := 1) (m := 2) (fun e he => ?_) (Nat.le_refl _) (Nat.le_refl _)).le (by decide) (by decide)
      simp only [List.mem_cons, List.not_mem_nil, or_false] at he
      rcases he with rfl | rfl
      · exact pq_cnt h1 ha
      · exact pq_cnt h2 hb
    · refine Pq.tup (w := 1300) (n := 4) (m := 3) (fun d hd => ?_) f3 (by decide)
      exact pq_news (List.all_eq_true.mp hp d hd) (List.all_eq_true.mp hk.2.2 d hd) (f4 d hd)
/-- what the law asks about -/
structure PT (d : PyData) : Prop where
  sh : d.showable = true
  len : d.shown.length ≤ 10000000
  dp : d.depth ≤ 60
  tx : ∀ x, d = .str x → TC 7000 62 x
theorem PT.str {x : Str} (h : TC 7000 62 x) : PT (.str x) := by
  have hl : PyData.leavesShort 40 (.str x) = true := by
    rw [PyData.leavesShort]
    exact List.all_eq_true.mpr fun c hc => decide_eq_true (Nat.lt_trans (h.tx.2 c hc) (by decide))
  have hs := PyData.shown_le 40 (by decide) _ hl
  have hw : (PyData.str x).weight ≤ 7000 := by rw [PyData.weight]; exact h.tx.1
  exact ⟨by simp [PyData.showable], by omega, by simp [PyData.depth], fun y e => by cases e; exact h⟩
theorem PT.plain {d : PyData} (h : Pl 2 d) : PT d := by
  have hs := PyData.shown_le 40 (by decide) _ h.lf
  have hw : d.weight ≤ 1010 := h.wt
  have hd := h.dp
  exact ⟨h.sh, by omega, by omega, fun x e => (TC.of (h.tx x e) (Nat.le_trans List.count_le_length (by rw [← TL.len_tl]; exact (h.tx x e).1))).le (by decide) (by decide)⟩
theorem PT.pq {d : PyData} {w n : Nat} (h : Pq w n d) (hw : w ≤ 30000) (hn : n ≤ 60) (hs : isStrD d = false) : PT d := by
  have hs2 := PyData.shown_le 40 (by decide) _ h.lf
  have := h.wt
  have := h.dp
  exact ⟨h.sh, by omega, by omega, fun x e => by subst e; cases hs⟩
theorem PT.letter {l : List PyData} (h : GoodL l) (hf : FewL l) : PT (.tuple l) ∧ PT (.list l) := by
  obtain ⟨q, hl⟩ := pq_letter h.ok h.n15 hf
  exact ⟨PT.pq (Pq.tup q hl (w' := 25000) (by decide)) (by decide) (by decide) rfl, PT.pq (Pq.lst q hl (w' := 25000) (by decide)) (by decide) (by decide) rfl⟩
/-! what is read is no deeper than a letter -/
theorem rdWish_good {l : List Nat} {ds : List PyData} (h : rdWish l = some ds) : wishD (.tuple ds) = true ∧ 2 * ds.length ≤ l.length + 1 := by
  unfold rdWish at h
  split at h
  · cases h; exact ⟨rfl, by simp⟩
  · split at h
    · rename_i ds0 hd
      split at h
      · cases h
        exact ⟨by assumption, few_of (by decide +kernel) hd⟩
      · cases h
    · cases h
theorem mapO_mem {α β : Type} {f : α → Option β} : ∀ {ws : List α} {l : List β}, mapO f ws = some l → ∀ d ∈ l, ∃ w ∈ ws, f w = some d
  | [], l, h, d, hd => by cases h; cases hd
  | w :: r, l, h, d, hd => by
    rw [mapO] at h
    cases hw : f w with
    | none => rw [hw] at h; cases h
    | some i =>
      cases hr : mapO f r with
      | none => rw [hw, hr] at h; cases h
      | some t =>
        rw [hw, hr] at h
        cases h
        rcases List.mem_cons.mp hd with rfl | hd
        · exact ⟨w, List.mem_cons_self, hw⟩
        · obtain ⟨v, hv, e⟩ := mapO_mem hr d hd
          exact ⟨v, List.mem_cons_of_mem _ hv, e⟩
theorem part_up {w : List Nat} (hw : w.length ≤ 7000) {d : PyData} (h : rdPart w = some d) : upTo 4 d = true := by
  unfold rdPart at h
  cases hn : rdNews (TL.spl [32] 0 [] w) with
  | none => rw [hn] at h; cases h
  | some r =>
    rw [hn] at h
    cases h
    have hsum := spl_sum (s := 32) w []
    rw [List.length_nil, Nat.zero_add] at hsum
    unfold rdNews at hn
    split at hn
    · rename_i a b c r hsp
      split at hn
      · rename_i i j p hi hj hp
        cases hn
        have q := piece_few hp
        have q2 := joinL_lenS (s := 32) (c :: r)
        rw [hsp] at hsum
        simp only [List.map_cons, List.sum_cons, List.length_cons] at q2 hsum
        refine upTo_tup (by simp) fun e he => ?_
        simp only [List.mem_cons, List.not_mem_nil, or_false] at he
        rcases he with rfl | rfl | rfl
        · rfl
        · rfl
        · exact piece_up (rdPiece_good hp) (by omega)
      · cases hn
    · cases hn
theorem rdLetter_up {x : Str} (hx : x.length ≤ 7000) {l : List PyData} (h : rdLetter (TL.tl x) = some l) : upTo 6 (.tuple l) = true := by
  have hl : (TL.tl x).length ≤ 7000 := by rw [← TL.len_tl]; exact hx
  unfold rdLetter at h
  dsimp only at h
  have hsum := spl_sum (s := 32) (TL.tl x) []
  rw [List.length_nil, Nat.zero_add] at hsum
  split at h
  · have q3 : (((TL.spl [32] 0 [] (TL.tl x)).tail.map List.length).sum + (TL.spl [32] 0 [] (TL.tl x)).tail.length) ≤ (TL.tl x).length + 1 := by
      cases hs : TL.spl [32] 0 [] (TL.tl x) with
      | nil => simp
      | cons u v =>
        rw [hs] at hsum
        simp only [List.map_cons, List.sum_cons, List.length_cons, List.tail_cons] at hsum ⊢
        omega
    have q2 := joinL_lenS (s := 32) (TL.spl [32] 0 [] (TL.tl x)).tail
    cases hw : rdWish (TL.joinL [32] (TL.spl [32] 0 [] (TL.tl x)).tail) with
    | none => rw [hw] at h; cases h
    | some ds =>
      rw [hw] at h
      cases h
      obtain ⟨g1, g2⟩ := rdWish_good hw
      refine upTo_tup (by simp) fun e he => ?_
      simp only [List.mem_cons, List.not_mem_nil, or_false] at he
      rcases he with rfl | rfl
      · rfl
      · exact upTo_le (wish_up g1 (by omega)) (by decide)
  · cases h0 : rdLetter0 (TL.tl x) with
    | none => rw [h0] at h; cases h
    | some l0 =>
      rw [h0] at h
      dsimp only at h
      split at h
      · rename_i hok
        cases h
        have hsh := letter0_short hx h0
        have sh : ∀ {es : List PyData}, .tuple es ∈ l → es.length ≤ 10000 := fun {es} he => Nat.le_trans (hsh _ he es rfl) (by decide)
        rcases letter_forms hok with ⟨w, ds, hw, rfl, hds⟩ | ⟨a, b, p, rfl, ha, hb, hp⟩ | ⟨n, c, rfl, hn, hc⟩ | ⟨n, c, ms, ps, rfl, hn, hc, hm, hp⟩
        · refine upTo_tup (by simp) fun e he => ?_
          have := sh (es := ds) (by simp)
          simp only [List.mem_cons, List.not_mem_nil, or_false] at he
          rcases he with rfl | rfl
          · rfl
          · exact upTo_le (wish_up hds this) (by decide)
        · refine upTo_tup (by simp) fun e he => ?_
          have := sh (es := p) (by simp)
          simp only [List.mem_cons, List.not_mem_nil, or_false] at he
          rcases he with rfl | rfl | rfl | rfl
          · rfl
          · exact upTo_int ha
          · exact upTo_int hb
          · exact upTo_le (piece_up hp this) (by decide)
        · refine upTo_tup (by simp) fun e he => ?_
          have := sh (es := c) (by simp)
          simp only [List.mem_cons, List.not_mem_nil, or_false] at he
          rcases he with rfl | rfl | rfl
          · rfl
          · rfl
          · exact upTo_le (way_up (way_cnt hc) this) (by decide)
        · have h1 := sh (es := c) (by simp)
          have h2 := sh (es := ms) (by simp)
          have h3 := sh (es := ps) (by simp)
          -- each piece was read from a part
          have hps : ∀ d ∈ ps, upTo 4 d = true := by
            unfold rdLetter0 at h0
            dsimp only at h0
            split at h0
            · cases hn2 : rdNews (TL.spl [32] 0 [] (TL.tl x)).tail with
              | none => rw [hn2] at h0; cases h0
              | some r =>
                rw [hn2] at h0
                obtain ⟨i, j, p, rfl⟩ := rdNews_kind hn2
                cases h0
            · unfold rdMoving at h0
              dsimp only at h0
              split at h0
              · rename_i w hh2 cw hsp
                cases hm2 : mapO rdInt (TL.spl [45] 0 [] cw) with
                | none => rw [hm2] at h0; cases h0
                | some ds =>
                  rw [hm2] at h0
                  injection h0 with h0
                  exfalso
                  have e := congrArg (fun l => l[3]?) h0
                  simp only [List.cons_append, List.nil_append, List.getElem?_cons_succ, List.getElem?_cons_zero, List.getElem?_map] at e
                  cases hz : (TL.spl bar3 0 [] (TL.tl x)).tail[0]? with
                  | none => rw [hz] at e; cases e
                  | some z => rw [hz] at e; cases e
              · split at h0
                · rename_i q1 q2 q3
                  cases h0
                  intro d hd
                  obtain ⟨w, hw, e⟩ := mapO_mem q2 d hd
                  refine part_up ?_ e
                  have := spl_le bar3 (TL.tl x) 0 [] w (List.mem_of_mem_tail hw)
                  rw [List.length_nil] at this; omega
                · cases h0
              · cases h0
          refine upTo_tup (by simp) fun e he => ?_
          simp only [List.mem_cons, List.not_mem_nil, or_false] at he
          rcases he with rfl | rfl | rfl | rfl | rfl
          · rfl
          · rfl
          · exact upTo_le (way_up (way_cnt hc) h1) (by decide)
          · exact upTo_le (marks_up hm h2) (by decide)
          · exact upTo_tup h3 hps
      · cases h
theorem due_up {d : PyData} (h : PT d) : upTo 8 (.tuple [dueD d, kindsD d]) = true := by
  refine upTo_tup (by simp) fun e he => ?_
  cases q : rdD d with
  | none =>
    obtain ⟨e1, e2⟩ := due_none q
    rw [e1, e2] at he
    simp only [List.mem_cons, List.not_mem_nil, or_false] at he
    rcases he with rfl | rfl <;> rfl
  | some ds =>
    obtain ⟨e1, e2⟩ := due_some q
    rw [e1, e2] at he
    simp only [List.mem_cons, List.not_mem_nil, or_false] at he
    rcases he with rfl | rfl
    · cases d <;> first | cases q | skip
      rename_i x
      exact upTo_succ (rdLetter_up ((h.tx x rfl).tx.1) q)
    · rfl

end

section
variable {P : Program} {w : World} {K : PySem.W.Frag} {mg : Str → Option Value} {base : Heap} {c : Ads}
def fB : Nat → Nat
  | 0 => 700
  | j + 1 => 2 * fB j + 60
def fC : Nat → Nat
  | 0 => 4
  | j + 1 => 2 * fC j + 1
theorem law_run (T : Txt K mg c) (X : Exs K c) : ∃ f, mg "law" = some (.ref f) ∧ RunC P w K mg base f (spLaw K) := by
  have hsame := c__law_same (P := P) (w := w) (K := K) (base := base) T 8
  refine T.d_law.runC sc_law (k := 13) ⟨rfl, by decide, by decide⟩ fun f cdv A outer s H vs Q E hgd hr h => ?_
  obtain ⟨v, rfl, a, ns, rfl, hs, hl63, k⟩ := h
  refine ⟨_, (pss_cons (ps_set (i := 1) sc_law.nd rfl (by first | exact Or.inl rfl | exact Or.inr rfl) (pe_cal (c__law_bag T) (hr.mono (by first | decide | omega)) pass0 (pa_cons (pv 0) pa_nil)))
    (pss_cons (ps_set (i := 2) sc_law.nd rfl (by first | exact Or.inl rfl | exact Or.inr rfl) pe_str)
    (pss_cons (ps_for PassesOwn.never rfl (pi_range1 (by rfl) T.n_range (pa_cons pe_int pa_nil)) (pg_name (i := 3) sc_law.nd rfl (by first | exact Or.inl rfl | exact Or.inr rfl))
      (pss_cons (ps_set (i := 4) sc_law.nd rfl (by first | exact Or.inl rfl | exact Or.inr rfl) (pe_cal (c__law_draw T) (hr.mono (by first | decide | omega)) pass0 (pa_cons (pv 1) (pa_cons pe_int pa_nil))))
      (pss_cons (ps_set (i := 5) sc_law.nd rfl (by first | exact Or.inl rfl | exact Or.inr rfl) (pe_cal (c__law_letter T) (hr.mono (by first | decide | omega)) pass0 (pa_cons (pv 1) (pa_cons pe_int pa_nil))))
      (pss_cons (ps_set (i := 6) sc_law.nd rfl (by first | exact Or.inl rfl | exact Or.inr rfl) (pe_cal (c__law_shown T) (hr.mono (by first | decide | omega)) pass0 (pa_cons (pv 5) pa_nil)))
      (pss_cons (ps_for PassesOwn.never rfl (pi_range1 (by rfl) T.n_range (pa_cons (pe_op op_mod (pv 4) pe_int) pa_nil)) (pg_name (i := 7) sc_law.nd rfl (by first | exact Or.inl rfl | exact Or.inr rfl))
        (pss_one (ps_set (i := 6) sc_law.nd rfl (by first | exact Or.inl rfl | exact Or.inr rfl) (pe_cal (c__law_bent T) (hr.mono (by first | decide | omega)) pass0 (pa_cons (pv 1) (pa_cons (pv 6) pa_nil))))))
      (pss_cons (ps_if (pt_cmpR (op_eq2 (K := K) hr.units) (pv 4) pe_int (nomark _)) (pss_one (ps_set (i := 6) sc_law.nd rfl (by first | exact Or.inl rfl | exact Or.inr rfl) (pe_cal (c__law_plain T 3) (hr.mono (by first | decide | omega)) pass0 (pa_cons (pv 1) (pa_cons pe_int pa_nil))))) pss_nil)
      (pss_cons (ps_for PassesOwn.never rfl (pi_any (K := K) (pe_lst (pa_cons (pv 6) (pa_cons (pv 2) (pa_cons (pv 5) (pa_cons (pe_callTy (call_list2 (K := K)) (by rfl) T.n_list (by decide +kernel) (pa_cons (pv 5) pa_nil)) (pa_cons (pv 6) pa_nil))))))) (pg_name (i := 8) sc_law.nd rfl (by first | exact Or.inl rfl | exact Or.inr rfl))
        (pss_cons (ps_set (i := 9) sc_law.nd rfl (by first | exact Or.inl rfl | exact Or.inr rfl) (pe_ifExp (pt_val (pe_callB (call_isi2 (K := K)) (by rfl) T.n_isinstance (by decide +kernel) (pa_cons (pv 8) (pa_cons (pe_bltn (v := .ty "str") (by rfl) T.n_str (by decide +kernel) rfl) pa_nil))) (by intro _; rfl)) (pe_cal (c__law_letter_of T) (hr.mono (by first | decide | omega)) pass0 (pa_cons (pv 8) pa_nil)) pe_non))
        (pss_cons (ps_set (i := 10) sc_law.nd rfl (by first | exact Or.inl rfl | exact Or.inr rfl) (pe_callB (call_reprD (by exact hgd) hr.units) (by rfl) T.n_repr (by decide +kernel) (pa_cons (pv 8) pa_nil)))
        (pss_cons (ps_if (pt_not (pt_val (pe_cal hsame (hr.mono (by first | decide | omega)) pass0 (pa_cons (pe_cal (c__law_told T X) (hr.mono (by first | decide | omega)) pass0 (pa_cons (pv 8) pa_nil)) (pa_cons (pe_tup (pa_cons (pv 9) (pa_cons (pe_ifExp (pt_cmp (pc_isN (pv 9)) rfl) (pe_lst (pa_cons pe_bl (pa_cons pe_bl (pa_cons pe_bl pa_nil)))) (pe_lst pa_nil)) pa_nil))) pa_nil))) (by intro _; rfl))) (pss_one (ps_ret pe_bl)) pss_nil)
        (pss_one (ps_if (pt_cmpR (op_ne2 (K := K) hr.units) (pe_callB (call_reprD (by exact hgd) hr.units) (by rfl) T.n_repr (by decide +kernel) (pa_cons (pv 8) pa_nil)) (pv 10) (nomark _)) (pss_one (ps_ret pe_bl)) pss_nil))))))
      (pss_one (ps_set (i := 2) sc_law.nd rfl (by first | exact Or.inl rfl | exact Or.inr rfl) (pe_ifExp (pt_val (pe_callB (call_isi2 (K := K)) (by rfl) T.n_isinstance (by decide +kernel) (pa_cons (pv 6) (pa_cons (pe_bltn (v := .ty "str") (by rfl) T.n_str (by decide +kernel) rfl) pa_nil))) (by intro _; rfl)) (pv 6) (pv 2)))))))))))
    (pss_one (ps_ret pe_bl))))), ?_⟩
  walk_at "go"
  refine ⟨a, ns, rfl, hs, hl63, fun b g H1 hb1 hg1 k1 B1 => ?_⟩
  walk_at "go"
  refine r_forR ?_
  walk_at "go"
  have t12 : TC 7000 62 (Str.ofString "want -") := TC.lit (by decide +kernel)
  refine lpR (n := 8) (fun i σ' H' => Bag H' b g (10 + 9300 * (8 - i)) ∧ ∃ (la : Str) (o3 o4 o5 o6 o7 o8 o9 o10 : Option V), TC 7000 62 la ∧ σ' = [some (.ref a), some (.ref b), some (.str la), o3, o4, o5, o6, o7, o8, o9, o10])
    (by decide) ⟨B1.less (by omega), _, none, none, none, none, none, none, none, none, t12, rfl⟩ ?_ ?_
  · rintro i σ' H' hi ⟨Bi, la, o3, o4, o5, o6, o7, o8, o9, o10, hla, rfl⟩
    have eB : 10 + 9300 * (8 - i) = ((((10 + 9300 * (8 - (i + 1))) + 299) + 9000) + 1) := by omega
    rw [eB] at Bi
    generalize hBB : 10 + 9300 * (8 - (i + 1)) = BB at *
    walk_at "go"
    refine ⟨b, g, _, 5, rfl, rfl, by decide, by decide, Bi, fun sp H3 sp0 sp1 k3 B3 => ?_⟩
    walk_at "go"
    refine ⟨b, g, BB + 299, 2, rfl, rfl, by decide, by decide, B3, fun p l H5 hgood hfew hdatl k5 B5 => ?_⟩
    walk_at "go"
    refine ⟨All, l, hdatl, hgood.ok, hgood.sm, fun H6 k6 => ?_⟩
    have htx : TC 700 4 (ofL (shLetter l)) := by unfold TC; rw [tl_ofL]; exact lc_letter hgood.ok hgood.n15 hfew
    obtain ⟨hpl1, hpl2⟩ := PT.letter hgood hfew
    generalize ofL (shLetter l) = t0 at *
    have hdl6 : Dat All H6 (.ref p) (.tuple l) := hdatl.all k6
    walk_at "go"
    refine r_forR ?_
    walk_at "go"
    refine r_mod (by decide) ?_
    walk_at "go"
    obtain ⟨m, hm⟩ : ∃ m : Nat, sp % 4 = (m : Int) := ⟨(sp % 4).toNat, by omega⟩
    have hm3 : m ≤ 3 := by omega
    rw [hm]
    refine lpR (n := m) (fun j σ' H' => Bag H' b g ((BB + 150) + 9 * (3 - j)) ∧ Dat All H' (.ref p) (.tuple l) ∧ ∃ (t : Str) (o7 : Option V), TC (fB j) (fC j) t ∧ σ' = [some (.ref a), some (.ref b), some (.str la), some (.int (i : Int)), some (.int sp), some (.ref p), some (.str t), o7, o8, o9, o10])
      (by omega) ⟨(B5.kp k6).less (by omega), hdl6, t0, o7, htx, rfl⟩ ?_ ?_
    · rintro j σ' H' hj ⟨Bj, hdj, t, o7, ht, rfl⟩
      have hf : fB j ≤ 10000 := by
        rcases (show j = 0 ∨ j = 1 ∨ j = 2 by omega) with rfl | rfl | rfl <;> decide
      have e9 : (BB + 150) + 9 * (3 - j) = ((BB + 150) + 9 * (3 - (j + 1))) + 9 := by omega
      rw [e9] at Bj
      walk_at "go"
      refine ⟨b, g, _, fB j, fC j, t, rfl, rfl, ht, hf, Bj, fun y H7 hy k7 B7 => ?_⟩
      walk_at "go"
      exact ⟨B7, hdj.all k7, y, _, hy, rfl⟩
    · rintro σ' H7 ⟨B7, hdl, t, o7, ht, rfl⟩
      have ht' : TC 7000 62 t := ht.le (by
        rcases (show m = 0 ∨ m = 1 ∨ m = 2 ∨ m = 3 by omega) with rfl | rfl | rfl | rfl <;> decide) (by
        rcases (show m = 0 ∨ m = 1 ∨ m = 2 ∨ m = 3 by omega) with rfl | rfl | rfl | rfl <;> decide)
      have B7' : Bag H7 b g (BB + 100) := B7.less (by omega)
      walk_at "go"
      walk_at "br"
      · intro h4
        walk_at "go"
        obtain ⟨l0, B7l⟩ := B7'.opn
        refine ⟨_, _, rfl, b, g, l0, BB + 46, rfl, rfl, B7l.less (by show BB + 46 + 44 ≤ BB + 100; omega), fun tv td H8 hpl hdat k8 B8 => ?_⟩
        have hpt := PT.plain hpl
        have hdl8 : Dat All H8 (.ref p) (.tuple l) := hdl.all k8
        have BR : Bag H8 b g BB := B8.bag.less (by omega)
        walk_at "go"
        obtain ⟨ap, xsl, eap, hap, hxsl⟩ := hdl8.tupE
        cases eap
        refine r_forL ?_
        walk_at "go"
        refine ⟨p, xsl, rfl, .inr (SqT.of hap), fun q hq => ?_⟩
        have kq : Kp No H8 (upd H8 q (.lst xsl)) := Kp.new Kp.refl hq
        have hq2 : upd H8 q (.lst xsl) q = some (.lst xsl) := upd_same
        generalize upd H8 q (.lst xsl) = Hq at kq hq2
        walk_at "go"
        rename_i pl Hl hpl kl el
        have kql := kq.trans kl
        have hdlx : Dat (oldH H7) Hl (.ref p) (.tuple l) := (hdl8.all kql).weak fun _ _ => trivial
        have hdq : Dat (oldH H7) Hl (.ref q) (.list l) := .lst (fun z => by exact z (Kp.free k8 hq (B8.bag.old hq))) (kl.lst hq2) ((hxsl.all kql).weak fun _ _ => trivial)
        have items : Dats (oldH H7) Hl [tv, .str la, .ref p, .ref q, tv] [td, .str la, .tuple l, .list l, td] := .cons (hdat.mono kql fun _ z => z.elim) (.cons (.str la (Nat.le_trans hla.tx.1 (by decide))) (.cons hdlx (.cons hdq (.cons (hdat.mono kql fun _ z => z.elim) .nil))))
        refine lpL (fun j σ' H' => Kp No Hl H' ∧ ∃ (p8 p9 p10 : Option V), σ' = [some (.ref a), some (.ref b), some (.str la), some (.int (i : Int)), some (.int sp), some (.ref p), some tv, o7, p8, p9, p10])
          (SqL.of el) ⟨Kp.refl, _, _, _, rfl⟩ (fun j σ' H' hp => hp.1.sql (SqL.of el)) ?_ ?_
        · rintro j z σ' H' hj ⟨kp, p8, p9, p10, rfl⟩
          obtain ⟨dz, hdz, hz0⟩ := items.get hj
          have hz : Dat (oldH H7) H' z dz := hz0.mono kp fun _ z => z.elim
          have hpz : PT dz := by
            have hm : dz ∈ [td, .str la, .tuple l, .list l, td] := List.mem_of_getElem? hdz
            simp only [List.mem_cons, List.not_mem_nil, or_false] at hm
            rcases hm with rfl | rfl | rfl | rfl | rfl
            · exact hpt
            · exact PT.str hla
            · exact hpl1
            · exact hpl2
            · exact hpt
          walk_at "go"
          refine viaI (S := fun v H1 => Dat All H1 v (dueD dz) ∧ Kp No H' H1) (R := fun Z => if isStrD dz = true then tCall _ _ _ _ _ _ Z else tC _ _ _ Z) (fun Z hZ => ?_) ?_
          · walk_at "br"
            · intro h5
              obtain ⟨x, rfl, rfl, _⟩ := hz.strI h5
              have hx := hpz.tx x rfl
              walk_at "go"
              refine ⟨x, rfl, hx, fun ds hds v' H9 k9 hv => ?_, fun hds H9 k9 => ?_⟩
              · rw [lwLetter_eq] at hds
                exact hZ _ _ ⟨by rw [(due_some (d := .str x) hds).1]; exact hv, k9⟩
              · rw [lwLetter_eq] at hds
                exact hZ _ _ ⟨by rw [(due_none (d := .str x) hds).1]; exact .non, k9⟩
            · intro h5
              walk_at "go"
              have e : dueD dz = .none := by cases dz <;> first | rfl | cases h5
              exact hZ _ _ ⟨by rw [e]; exact .non, Kp.refl⟩
          rintro v H8' ⟨hdue, k8'⟩
          have hz8 : Dat (oldH H7) H8' z dz := hz.mono k8' fun _ z => z.elim
          walk_at "go"
          refine r_repr hz8 hpz.sh hpz.len hpz.dp ?_
          walk_at "go"
          refine ⟨(oldH H7), dz, hz8, fun x ex => (hpz.tx x ex).tx.1, fun v' H9 k9 hv' => ?_⟩
          walk_at "go"
          refine viaI (S := fun y H1 => Dat No H1 y (kindsD dz) ∧ Kp No H9 H1) (R := fun Z => if decide (v = V.non) = true then tLst _ _ _ Z else tLst _ _ _ Z) (fun Z hZ => ?_) ?_
          · cases q : rdD dz with
            | none =>
              obtain ⟨e1, e2⟩ := due_none q
              rw [e1] at hdue
              cases hdue
              refine r_iteT rfl ?_
              walk_at "go"
              rename_i q1 Hq hq1 kq eq1
              exact hZ _ _ ⟨by rw [e2]; exact .lst (fun z => z) eq1 (.cons (.bl _) (.cons (.bl _) (.cons (.bl _) .nil))), kq⟩
            | some ds =>
              obtain ⟨e1, e2⟩ := due_some q
              rw [e1] at hdue
              obtain ⟨aa, xs, rfl, _, _⟩ := hdue.tupE
              refine r_iteF rfl ?_
              walk_at "go"
              rename_i q1 Hq hq1 kq eq1
              exact hZ _ _ ⟨by rw [e2]; exact .lst (fun z => z) eq1 .nil, kq⟩
          rintro y H10 ⟨hkd, k10⟩
          walk_at "go"
          rename_i pt H11 hpt0 k11 et
          refine ⟨No, No, _, (hv'.kp k10).kp k11, .tup et (.cons ((((hdue.all k9).all k10).all k11).weak fun _ z => z.elim) (.cons (hkd.kp k11) .nil)), due_up hpz, fun H12 k12 => ?_⟩
          have hz12 : Dat (oldH H7) H12 z dz := ((((hz8.mono k9 fun _ z => z.elim).mono k10 fun _ z => z.elim).mono k11 fun _ z => z.elim)).mono k12 fun _ z => z.elim
          refine r_bl (r_iteF rfl ?_)
          walk_at "go"
          refine r_repr hz12 hpz.sh hpz.len hpz.dp ?_
          walk_at "go"
          refine r_iteF (by simp) ?_
          walk_at "go"
          exact ⟨((((kp.trans k8').trans k9).trans k10).trans k11).trans k12, _, _, _, rfl⟩
        · rintro σ' H' ⟨kp, p8, p9, p10, rfl⟩
          have hend : Dat (oldH H7) H' tv td := (hdat.mono kql fun _ z => z.elim).mono kp fun _ z => z.elim
          have BE := (BR.kp kql).kp kp
          walk_at "go"
          walk_at "br"
          · intro h5
            obtain ⟨x, ex1, ex2, _⟩ := hend.strI h5
            have hx := hpt.tx x ex2
            walk_at "go"
            exact ⟨BE, x, _, _, _, _, _, _, _, _, hx, congrArg (fun v => ([some (V.ref a), some (V.ref b), some v, some (V.int (i : Int)), some (V.int sp), some (V.ref p), some tv, o7, p8, p9, p10] : List (Option V))) ex1⟩
          · intro h5
            walk_at "go"
            exact ⟨BE, la, _, _, _, _, _, _, _, _, hla, rfl⟩
      · intro h4
        have hdat : Dat No H7 (.str t) (.str t) := .str t (Nat.le_trans ht'.tx.1 (by decide))
        have hpt := PT.str ht'
        have hdl8 := hdl
        have BR : Bag H7 b g BB := B7'.less (by omega)
        walk_at "go"
        obtain ⟨ap, xsl, eap, hap, hxsl⟩ := hdl8.tupE
        cases eap
        refine r_forL ?_
        walk_at "go"
        refine ⟨p, xsl, rfl, .inr (SqT.of hap), fun q hq => ?_⟩
        have kq : Kp No H7 (upd H7 q (.lst xsl)) := Kp.new Kp.refl hq
        have hq2 : upd H7 q (.lst xsl) q = some (.lst xsl) := upd_same
        generalize upd H7 q (.lst xsl) = Hq at kq hq2
        walk_at "go"
        rename_i pl Hl hpl kl el
        have kql := kq.trans kl
        have hdlx : Dat No Hl (.ref p) (.tuple l) := (hdl8.all kql).weak fun _ _ => trivial
        have hdq : Dat No Hl (.ref q) (.list l) := .lst (fun z => by exact z) (kl.lst hq2) ((hxsl.all kql).weak fun _ _ => trivial)
        have items : Dats No Hl [(.str t), .str la, .ref p, .ref q, (.str t)] [(.str t), .str la, .tuple l, .list l, (.str t)] := .cons (hdat.mono kql fun _ z => z.elim) (.cons (.str la (Nat.le_trans hla.tx.1 (by decide))) (.cons hdlx (.cons hdq (.cons (hdat.mono kql fun _ z => z.elim) .nil))))
        refine lpL (fun j σ' H' => Kp No Hl H' ∧ ∃ (p8 p9 p10 : Option V), σ' = [some (.ref a), some (.ref b), some (.str la), some (.int (i : Int)), some (.int sp), some (.ref p), some (.str t), o7, p8, p9, p10])
          (SqL.of el) ⟨Kp.refl, _, _, _, rfl⟩ (fun j σ' H' hp => hp.1.sql (SqL.of el)) ?_ ?_
        · rintro j z σ' H' hj ⟨kp, p8, p9, p10, rfl⟩
          obtain ⟨dz, hdz, hz0⟩ := items.get hj
          have hz : Dat No H' z dz := hz0.mono kp fun _ z => z.elim
          have hpz : PT dz := by
            have hm : dz ∈ [(.str t), .str la, .tuple l, .list l, (.str t)] := List.mem_of_getElem? hdz
            simp only [List.mem_cons, List.not_mem_nil, or_false] at hm
            rcases hm with rfl | rfl | rfl | rfl | rfl
            · exact hpt
            · exact PT.str hla
            · exact hpl1
            · exact hpl2
            · exact hpt
          walk_at "go"
          refine viaI (S := fun v H1 => Dat All H1 v (dueD dz) ∧ Kp No H' H1) (R := fun Z => if isStrD dz = true then tCall _ _ _ _ _ _ Z else tC _ _ _ Z) (fun Z hZ => ?_) ?_
          · walk_at "br"
            · intro h5
              obtain ⟨x, rfl, rfl, _⟩ := hz.strI h5
              have hx := hpz.tx x rfl
              walk_at "go"
              refine ⟨x, rfl, hx, fun ds hds v' H9 k9 hv => ?_, fun hds H9 k9 => ?_⟩
              · rw [lwLetter_eq] at hds
                exact hZ _ _ ⟨by rw [(due_some (d := .str x) hds).1]; exact hv, k9⟩
              · rw [lwLetter_eq] at hds
                exact hZ _ _ ⟨by rw [(due_none (d := .str x) hds).1]; exact .non, k9⟩
            · intro h5
              walk_at "go"
              have e : dueD dz = .none := by cases dz <;> first | rfl | cases h5
              exact hZ _ _ ⟨by rw [e]; exact .non, Kp.refl⟩
          rintro v H8' ⟨hdue, k8'⟩
          have hz8 : Dat No H8' z dz := hz.mono k8' fun _ z => z.elim
          walk_at "go"
          refine r_repr hz8 hpz.sh hpz.len hpz.dp ?_
          walk_at "go"
          refine ⟨No, dz, hz8, fun x ex => (hpz.tx x ex).tx.1, fun v' H9 k9 hv' => ?_⟩
          walk_at "go"
          refine viaI (S := fun y H1 => Dat No H1 y (kindsD dz) ∧ Kp No H9 H1) (R := fun Z => if decide (v = V.non) = true then tLst _ _ _ Z else tLst _ _ _ Z) (fun Z hZ => ?_) ?_
          · cases q : rdD dz with
            | none =>
              obtain ⟨e1, e2⟩ := due_none q
              rw [e1] at hdue
              cases hdue
              refine r_iteT rfl ?_
              walk_at "go"
              rename_i q1 Hq hq1 kq eq1
              exact hZ _ _ ⟨by rw [e2]; exact .lst (fun z => z) eq1 (.cons (.bl _) (.cons (.bl _) (.cons (.bl _) .nil))), kq⟩
            | some ds =>
              obtain ⟨e1, e2⟩ := due_some q
              rw [e1] at hdue
              obtain ⟨aa, xs, rfl, _, _⟩ := hdue.tupE
              refine r_iteF rfl ?_
              walk_at "go"
              rename_i q1 Hq hq1 kq eq1
              exact hZ _ _ ⟨by rw [e2]; exact .lst (fun z => z) eq1 .nil, kq⟩
          rintro y H10 ⟨hkd, k10⟩
          walk_at "go"
          rename_i pt H11 hpt0 k11 et
          refine ⟨No, No, _, (hv'.kp k10).kp k11, .tup et (.cons ((((hdue.all k9).all k10).all k11).weak fun _ z => z.elim) (.cons (hkd.kp k11) .nil)), due_up hpz, fun H12 k12 => ?_⟩
          have hz12 : Dat No H12 z dz := ((((hz8.mono k9 fun _ z => z.elim).mono k10 fun _ z => z.elim).mono k11 fun _ z => z.elim)).mono k12 fun _ z => z.elim
          refine r_bl (r_iteF rfl ?_)
          walk_at "go"
          refine r_repr hz12 hpz.sh hpz.len hpz.dp ?_
          walk_at "go"
          refine r_iteF (by simp) ?_
          walk_at "go"
          exact ⟨((((kp.trans k8').trans k9).trans k10).trans k11).trans k12, _, _, _, rfl⟩
        · rintro σ' H' ⟨kp, p8, p9, p10, rfl⟩
          have hend : Dat No H' (.str t) (.str t) := (hdat.mono kql fun _ z => z.elim).mono kp fun _ z => z.elim
          have BE := (BR.kp kql).kp kp
          walk_at "go"
          walk_at "br"
          · intro h5
            obtain ⟨x, ex1, ex2, _⟩ := hend.strI h5
            have hx := hpt.tx x ex2
            walk_at "go"
            exact ⟨BE, x, _, _, _, _, _, _, _, _, hx, congrArg (fun v => ([some (V.ref a), some (V.ref b), some v, some (V.int (i : Int)), some (V.int sp), some (V.ref p), some (.str t), o7, p8, p9, p10] : List (Option V))) ex1⟩
          · intro h5
            walk_at "go"
            exact ⟨BE, la, _, _, _, _, _, _, _, _, hla, rfl⟩
  · rintro σ' H' ⟨Bi, la, o3, o4, o5, o6, o7, o8, o9, o10, hla, rfl⟩
    walk_at "go"
    exact k _

end

theorem mk_txt {K : PySem.W.Frag} {h : Heap} {mg : Str → Option Value} {C_NewsError C_NoSpan C_NoNumber C_NoField C_NoWish C_NoPiece C_TooMany C_NoName C_Twice C_NotWanted C_NoWeb C_NoPost C_NoRoad C_NoHand C_NoLetter C_OnTheWay C_Full C_NoStands C_NoDeed C_Stuck C_NoText C_NoRow : Addr} (X : K.In h) (G : h.Ns mainGlobals mg)
    {f0 f1 f2 f3 f4 f5 f6 f7 f8 f9 f10 f11 f12 f13 f14 f15 f16 f17 f18 f19 f20 f21 f22 f23 f24 f25 f26 f27 f28 f29 f30 f31 f32 f33 f34 f35 f36 f37 f38 f39 f40 f41 f42 f43 f44 f45 f46 f47 f48 f49 f50 f51 f52 f53 f54 : Addr}
    {od0 an0 : Option Addr} {sl0 : Array (Option Value)} {oc0 kV0 dc0 pm0 cd0 ct0 : Value}
    {od1 an1 : Option Addr} {sl1 : Array (Option Value)} {oc1 kV1 dc1 pm1 cd1 ct1 : Value}
    {od2 an2 : Option Addr} {sl2 : Array (Option Value)} {oc2 kV2 dc2 pm2 cd2 ct2 : Value}
    {od3 an3 : Option Addr} {sl3 : Array (Option Value)} {oc3 kV3 dc3 pm3 cd3 ct3 : Value}
    {od4 an4 : Option Addr} {sl4 : Array (Option Value)} {oc4 kV4 dc4 pm4 cd4 ct4 : Value}
    {od5 an5 : Option Addr} {sl5 : Array (Option Value)} {oc5 kV5 dc5 pm5 cd5 ct5 : Value}
    {od6 an6 : Option Addr} {sl6 : Array (Option Value)} {oc6 kV6 dc6 pm6 cd6 ct6 : Value}
    {od7 an7 : Option Addr} {sl7 : Array (Option Value)} {oc7 kV7 dc7 pm7 cd7 ct7 : Value}
    {od8 an8 : Option Addr} {sl8 : Array (Option Value)} {oc8 kV8 dc8 pm8 cd8 ct8 : Value}
    {od9 an9 : Option Addr} {sl9 : Array (Option Value)} {oc9 kV9 dc9 pm9 cd9 ct9 : Value}
    {od10 an10 : Option Addr} {sl10 : Array (Option Value)} {oc10 kV10 dc10 pm10 cd10 ct10 : Value}
    {od11 an11 : Option Addr} {sl11 : Array (Option Value)} {oc11 kV11 dc11 pm11 cd11 ct11 : Value}
    {od12 an12 : Option Addr} {sl12 : Array (Option Value)} {oc12 kV12 dc12 pm12 cd12 ct12 : Value}
    {od13 an13 : Option Addr} {sl13 : Array (Option Value)} {oc13 kV13 dc13 pm13 cd13 ct13 : Value}
    {od14 an14 : Option Addr} {sl14 : Array (Option Value)} {oc14 kV14 dc14 pm14 cd14 ct14 : Value}
    {od15 an15 : Option Addr} {sl15 : Array (Option Value)} {oc15 kV15 dc15 pm15 cd15 ct15 : Value}
    {od16 an16 : Option Addr} {sl16 : Array (Option Value)} {oc16 kV16 dc16 pm16 cd16 ct16 : Value}
    {od17 an17 : Option Addr} {sl17 : Array (Option Value)} {oc17 kV17 dc17 pm17 cd17 ct17 : Value}
    {od18 an18 : Option Addr} {sl18 : Array (Option Value)} {oc18 kV18 dc18 pm18 cd18 ct18 : Value}
    {od19 an19 : Option Addr} {sl19 : Array (Option Value)} {oc19 kV19 dc19 pm19 cd19 ct19 : Value}
    {od20 an20 : Option Addr} {sl20 : Array (Option Value)} {oc20 kV20 dc20 pm20 cd20 ct20 : Value}
    {od21 an21 : Option Addr} {sl21 : Array (Option Value)} {oc21 kV21 dc21 pm21 cd21 ct21 : Value}
    {od22 an22 : Option Addr} {sl22 : Array (Option Value)} {oc22 kV22 dc22 pm22 cd22 ct22 : Value}
    {od23 an23 : Option Addr} {sl23 : Array (Option Value)} {oc23 kV23 dc23 pm23 cd23 ct23 : Value}
    {od24 an24 : Option Addr} {sl24 : Array (Option Value)} {oc24 kV24 dc24 pm24 cd24 ct24 : Value}
    {od25 an25 : Option Addr} {sl25 : Array (Option Value)} {oc25 kV25 dc25 pm25 cd25 ct25 : Value}
    {od26 an26 : Option Addr} {sl26 : Array (Option Value)} {oc26 kV26 dc26 pm26 cd26 ct26 : Value}
    {od27 an27 : Option Addr} {sl27 : Array (Option Value)} {oc27 kV27 dc27 pm27 cd27 ct27 : Value}
    {od28 an28 : Option Addr} {sl28 : Array (Option Value)} {oc28 kV28 dc28 pm28 cd28 ct28 : Value}
    {od29 an29 : Option Addr} {sl29 : Array (Option Value)} {oc29 kV29 dc29 pm29 cd29 ct29 : Value}
    {od30 an30 : Option Addr} {sl30 : Array (Option Value)} {oc30 kV30 dc30 pm30 cd30 ct30 : Value}
    {od31 an31 : Option Addr} {sl31 : Array (Option Value)} {oc31 kV31 dc31 pm31 cd31 ct31 : Value}
    {od32 an32 : Option Addr} {sl32 : Array (Option Value)} {oc32 kV32 dc32 pm32 cd32 ct32 : Value}
    {od33 an33 : Option Addr} {sl33 : Array (Option Value)} {oc33 kV33 dc33 pm33 cd33 ct33 : Value}
    {od34 an34 : Option Addr} {sl34 : Array (Option Value)} {oc34 kV34 dc34 pm34 cd34 ct34 : Value}
    {od35 an35 : Option Addr} {sl35 : Array (Option Value)} {oc35 kV35 dc35 pm35 cd35 ct35 : Value}
    {od36 an36 : Option Addr} {sl36 : Array (Option Value)} {oc36 kV36 dc36 pm36 cd36 ct36 : Value}
    {od37 an37 : Option Addr} {sl37 : Array (Option Value)} {oc37 kV37 dc37 pm37 cd37 ct37 : Value}
    {od38 an38 : Option Addr} {sl38 : Array (Option Value)} {oc38 kV38 dc38 pm38 cd38 ct38 : Value}
    {od39 an39 : Option Addr} {sl39 : Array (Option Value)} {oc39 kV39 dc39 pm39 cd39 ct39 : Value}
    {od40 an40 : Option Addr} {sl40 : Array (Option Value)} {oc40 kV40 dc40 pm40 cd40 ct40 : Value}
    {od41 an41 : Option Addr} {sl41 : Array (Option Value)} {oc41 kV41 dc41 pm41 cd41 ct41 : Value}
    {od42 an42 : Option Addr} {sl42 : Array (Option Value)} {oc42 kV42 dc42 pm42 cd42 ct42 : Value}
    {od43 an43 : Option Addr} {sl43 : Array (Option Value)} {oc43 kV43 dc43 pm43 cd43 ct43 : Value}
    {od44 an44 : Option Addr} {sl44 : Array (Option Value)} {oc44 kV44 dc44 pm44 cd44 ct44 : Value}
    {od45 an45 : Option Addr} {sl45 : Array (Option Value)} {oc45 kV45 dc45 pm45 cd45 ct45 : Value}
    {od46 an46 : Option Addr} {sl46 : Array (Option Value)} {oc46 kV46 dc46 pm46 cd46 ct46 : Value}
    {od47 an47 : Option Addr} {sl47 : Array (Option Value)} {oc47 kV47 dc47 pm47 cd47 ct47 : Value}
    {od48 an48 : Option Addr} {sl48 : Array (Option Value)} {oc48 kV48 dc48 pm48 cd48 ct48 : Value}
    {od49 an49 : Option Addr} {sl49 : Array (Option Value)} {oc49 kV49 dc49 pm49 cd49 ct49 : Value}
    {od50 an50 : Option Addr} {sl50 : Array (Option Value)} {oc50 kV50 dc50 pm50 cd50 ct50 : Value}
    {od51 an51 : Option Addr} {sl51 : Array (Option Value)} {oc51 kV51 dc51 pm51 cd51 ct51 : Value}
    {od52 an52 : Option Addr} {sl52 : Array (Option Value)} {oc52 kV52 dc52 pm52 cd52 ct52 : Value}
    {od53 an53 : Option Addr} {sl53 : Array (Option Value)} {oc53 kV53 dc53 pm53 cd53 ct53 : Value}
    {od54 an54 : Option Addr} {sl54 : Array (Option Value)} {oc54 kV54 dc54 pm54 cd54 ct54 : Value}
    (a0 : PySem.W.nsIn K mainGlobals "is_whole" = some (some (.ref f0))) (l0 : K.lookup f0 = some ⟨oc0, od0, .func (PySem.W.fnOf "is_whole" "is_whole" (defArgs s_is_whole) (defBody s_is_whole) (defScope s_is_whole) .none kV0 dc0 pm0 an0 cd0 ct0), sl0⟩) (c0 : PySem.W.codeIn K cd0 "is_whole" = true) (k0 : PySem.W.keepIn K (.ref f0) = true)
    (a1 : PySem.W.nsIn K mainGlobals "is_span" = some (some (.ref f1))) (l1 : K.lookup f1 = some ⟨oc1, od1, .func (PySem.W.fnOf "is_span" "is_span" (defArgs s_is_span) (defBody s_is_span) (defScope s_is_span) .none kV1 dc1 pm1 an1 cd1 ct1), sl1⟩) (c1 : PySem.W.codeIn K cd1 "is_span" = true) (k1 : PySem.W.keepIn K (.ref f1) = true)
    (a2 : PySem.W.nsIn K mainGlobals "is_field" = some (some (.ref f2))) (l2 : K.lookup f2 = some ⟨oc2, od2, .func (PySem.W.fnOf "is_field" "is_field" (defArgs s_is_field) (defBody s_is_field) (defScope s_is_field) .none kV2 dc2 pm2 an2 cd2 ct2), sl2⟩) (c2 : PySem.W.codeIn K cd2 "is_field" = true) (k2 : PySem.W.keepIn K (.ref f2) = true)
    (a3 : PySem.W.nsIn K mainGlobals "are_parts" = some (some (.ref f3))) (l3 : K.lookup f3 = some ⟨oc3, od3, .func (PySem.W.fnOf "are_parts" "are_parts" (defArgs s_are_parts) (defBody s_are_parts) (defScope s_are_parts) .none kV3 dc3 pm3 an3 cd3 ct3), sl3⟩) (c3 : PySem.W.codeIn K cd3 "are_parts" = true) (k3 : PySem.W.keepIn K (.ref f3) = true)
    (a4 : PySem.W.nsIn K mainGlobals "is_wish" = some (some (.ref f4))) (l4 : K.lookup f4 = some ⟨oc4, od4, .func (PySem.W.fnOf "is_wish" "is_wish" (defArgs s_is_wish) (defBody s_is_wish) (defScope s_is_wish) .none kV4 dc4 pm4 an4 cd4 ct4), sl4⟩) (c4 : PySem.W.codeIn K cd4 "is_wish" = true) (k4 : PySem.W.keepIn K (.ref f4) = true)
    (a5 : PySem.W.nsIn K mainGlobals "is_piece" = some (some (.ref f5))) (l5 : K.lookup f5 = some ⟨oc5, od5, .func (PySem.W.fnOf "is_piece" "is_piece" (defArgs s_is_piece) (defBody s_is_piece) (defScope s_is_piece) .none kV5 dc5 pm5 an5 cd5 ct5), sl5⟩) (c5 : PySem.W.codeIn K cd5 "is_piece" = true) (k5 : PySem.W.keepIn K (.ref f5) = true)
    (a6 : PySem.W.nsIn K mainGlobals "is_name" = some (some (.ref f6))) (l6 : K.lookup f6 = some ⟨oc6, od6, .func (PySem.W.fnOf "is_name" "is_name" (defArgs s_is_name) (defBody s_is_name) (defScope s_is_name) .none kV6 dc6 pm6 an6 cd6 ct6), sl6⟩) (c6 : PySem.W.codeIn K cd6 "is_name" = true) (k6 : PySem.W.keepIn K (.ref f6) = true)
    (a7 : PySem.W.nsIn K mainGlobals "is_count" = some (some (.ref f7))) (l7 : K.lookup f7 = some ⟨oc7, od7, .func (PySem.W.fnOf "is_count" "is_count" (defArgs s_is_count) (defBody s_is_count) (defScope s_is_count) .none kV7 dc7 pm7 an7 cd7 ct7), sl7⟩) (c7 : PySem.W.codeIn K cd7 "is_count" = true) (k7 : PySem.W.keepIn K (.ref f7) = true)
    (a8 : PySem.W.nsIn K mainGlobals "is_way" = some (some (.ref f8))) (l8 : K.lookup f8 = some ⟨oc8, od8, .func (PySem.W.fnOf "is_way" "is_way" (defArgs s_is_way) (defBody s_is_way) (defScope s_is_way) .none kV8 dc8 pm8 an8 cd8 ct8), sl8⟩) (c8 : PySem.W.codeIn K cd8 "is_way" = true) (k8 : PySem.W.keepIn K (.ref f8) = true)
    (a9 : PySem.W.nsIn K mainGlobals "is_news" = some (some (.ref f9))) (l9 : K.lookup f9 = some ⟨oc9, od9, .func (PySem.W.fnOf "is_news" "is_news" (defArgs s_is_news) (defBody s_is_news) (defScope s_is_news) .none kV9 dc9 pm9 an9 cd9 ct9), sl9⟩) (c9 : PySem.W.codeIn K cd9 "is_news" = true) (k9 : PySem.W.keepIn K (.ref f9) = true)
    (a10 : PySem.W.nsIn K mainGlobals "is_marks" = some (some (.ref f10))) (l10 : K.lookup f10 = some ⟨oc10, od10, .func (PySem.W.fnOf "is_marks" "is_marks" (defArgs s_is_marks) (defBody s_is_marks) (defScope s_is_marks) .none kV10 dc10 pm10 an10 cd10 ct10), sl10⟩) (c10 : PySem.W.codeIn K cd10 "is_marks" = true) (k10 : PySem.W.keepIn K (.ref f10) = true)
    (a11 : PySem.W.nsIn K mainGlobals "is_kept" = some (some (.ref f11))) (l11 : K.lookup f11 = some ⟨oc11, od11, .func (PySem.W.fnOf "is_kept" "is_kept" (defArgs s_is_kept) (defBody s_is_kept) (defScope s_is_kept) .none kV11 dc11 pm11 an11 cd11 ct11), sl11⟩) (c11 : PySem.W.codeIn K cd11 "is_kept" = true) (k11 : PySem.W.keepIn K (.ref f11) = true)
    (a12 : PySem.W.nsIn K mainGlobals "is_letter" = some (some (.ref f12))) (l12 : K.lookup f12 = some ⟨oc12, od12, .func (PySem.W.fnOf "is_letter" "is_letter" (defArgs s_is_letter) (defBody s_is_letter) (defScope s_is_letter) .none kV12 dc12 pm12 an12 cd12 ct12), sl12⟩) (c12 : PySem.W.codeIn K cd12 "is_letter" = true) (k12 : PySem.W.keepIn K (.ref f12) = true)
    (a13 : PySem.W.nsIn K mainGlobals "words_of" = some (some (.ref f13))) (l13 : K.lookup f13 = some ⟨oc13, od13, .func (PySem.W.fnOf "words_of" "words_of" (defArgs s_words_of) (defBody s_words_of) (defScope s_words_of) .none kV13 dc13 pm13 an13 cd13 ct13), sl13⟩) (c13 : PySem.W.codeIn K cd13 "words_of" = true) (k13 : PySem.W.keepIn K (.ref f13) = true)
    (a14 : PySem.W.nsIn K mainGlobals "read_number" = some (some (.ref f14))) (l14 : K.lookup f14 = some ⟨oc14, od14, .func (PySem.W.fnOf "read_number" "read_number" (defArgs s_read_number) (defBody s_read_number) (defScope s_read_number) .none kV14 dc14 pm14 an14 cd14 ct14), sl14⟩) (c14 : PySem.W.codeIn K cd14 "read_number" = true) (k14 : PySem.W.keepIn K (.ref f14) = true)
    (a15 : PySem.W.nsIn K mainGlobals "read_end" = some (some (.ref f15))) (l15 : K.lookup f15 = some ⟨oc15, od15, .func (PySem.W.fnOf "read_end" "read_end" (defArgs s_read_end) (defBody s_read_end) (defScope s_read_end) .none kV15 dc15 pm15 an15 cd15 ct15), sl15⟩) (c15 : PySem.W.codeIn K cd15 "read_end" = true) (k15 : PySem.W.keepIn K (.ref f15) = true)
    (a16 : PySem.W.nsIn K mainGlobals "two_of" = some (some (.ref f16))) (l16 : K.lookup f16 = some ⟨oc16, od16, .func (PySem.W.fnOf "two_of" "two_of" (defArgs s_two_of) (defBody s_two_of) (defScope s_two_of) .none kV16 dc16 pm16 an16 cd16 ct16), sl16⟩) (c16 : PySem.W.codeIn K cd16 "two_of" = true) (k16 : PySem.W.keepIn K (.ref f16) = true)
    (a17 : PySem.W.nsIn K mainGlobals "read_wish" = some (some (.ref f17))) (l17 : K.lookup f17 = some ⟨oc17, od17, .func (PySem.W.fnOf "read_wish" "read_wish" (defArgs s_read_wish) (defBody s_read_wish) (defScope s_read_wish) .none kV17 dc17 pm17 an17 cd17 ct17), sl17⟩) (c17 : PySem.W.codeIn K cd17 "read_wish" = true) (k17 : PySem.W.keepIn K (.ref f17) = true)
    (a18 : PySem.W.nsIn K mainGlobals "read_piece" = some (some (.ref f18))) (l18 : K.lookup f18 = some ⟨oc18, od18, .func (PySem.W.fnOf "read_piece" "read_piece" (defArgs s_read_piece) (defBody s_read_piece) (defScope s_read_piece) .none kV18 dc18 pm18 an18 cd18 ct18), sl18⟩) (c18 : PySem.W.codeIn K cd18 "read_piece" = true) (k18 : PySem.W.keepIn K (.ref f18) = true)
    (a19 : PySem.W.nsIn K mainGlobals "read_news" = some (some (.ref f19))) (l19 : K.lookup f19 = some ⟨oc19, od19, .func (PySem.W.fnOf "read_news" "read_news" (defArgs s_read_news) (defBody s_read_news) (defScope s_read_news) .none kV19 dc19 pm19 an19 cd19 ct19), sl19⟩) (c19 : PySem.W.codeIn K cd19 "read_news" = true) (k19 : PySem.W.keepIn K (.ref f19) = true)
    (a20 : PySem.W.nsIn K mainGlobals "read_marks" = some (some (.ref f20))) (l20 : K.lookup f20 = some ⟨oc20, od20, .func (PySem.W.fnOf "read_marks" "read_marks" (defArgs s_read_marks) (defBody s_read_marks) (defScope s_read_marks) .none kV20 dc20 pm20 an20 cd20 ct20), sl20⟩) (c20 : PySem.W.codeIn K cd20 "read_marks" = true) (k20 : PySem.W.keepIn K (.ref f20) = true)
    (a21 : PySem.W.nsIn K mainGlobals "read_moving" = some (some (.ref f21))) (l21 : K.lookup f21 = some ⟨oc21, od21, .func (PySem.W.fnOf "read_moving" "read_moving" (defArgs s_read_moving) (defBody s_read_moving) (defScope s_read_moving) .none kV21 dc21 pm21 an21 cd21 ct21), sl21⟩) (c21 : PySem.W.codeIn K cd21 "read_moving" = true) (k21 : PySem.W.keepIn K (.ref f21) = true)
    (a22 : PySem.W.nsIn K mainGlobals "read_letter" = some (some (.ref f22))) (l22 : K.lookup f22 = some ⟨oc22, od22, .func (PySem.W.fnOf "read_letter" "read_letter" (defArgs s_read_letter) (defBody s_read_letter) (defScope s_read_letter) .none kV22 dc22 pm22 an22 cd22 ct22), sl22⟩) (c22 : PySem.W.codeIn K cd22 "read_letter" = true) (k22 : PySem.W.keepIn K (.ref f22) = true)
    (a23 : PySem.W.nsIn K mainGlobals "_law_bag" = some (some (.ref f23))) (l23 : K.lookup f23 = some ⟨oc23, od23, .func (PySem.W.fnOf "_law_bag" "_law_bag" (defArgs s__law_bag) (defBody s__law_bag) (defScope s__law_bag) .none kV23 dc23 pm23 an23 cd23 ct23), sl23⟩) (c23 : PySem.W.codeIn K cd23 "_law_bag" = true) (k23 : PySem.W.keepIn K (.ref f23) = true)
    (a24 : PySem.W.nsIn K mainGlobals "_law_draw" = some (some (.ref f24))) (l24 : K.lookup f24 = some ⟨oc24, od24, .func (PySem.W.fnOf "_law_draw" "_law_draw" (defArgs s__law_draw) (defBody s__law_draw) (defScope s__law_draw) .none kV24 dc24 pm24 an24 cd24 ct24), sl24⟩) (c24 : PySem.W.codeIn K cd24 "_law_draw" = true) (k24 : PySem.W.keepIn K (.ref f24) = true)
    (a25 : PySem.W.nsIn K mainGlobals "_law_number" = some (some (.ref f25))) (l25 : K.lookup f25 = some ⟨oc25, od25, .func (PySem.W.fnOf "_law_number" "_law_number" (defArgs s__law_number) (defBody s__law_number) (defScope s__law_number) .none kV25 dc25 pm25 an25 cd25 ct25), sl25⟩) (c25 : PySem.W.codeIn K cd25 "_law_number" = true) (k25 : PySem.W.keepIn K (.ref f25) = true)
    (a26 : PySem.W.nsIn K mainGlobals "_law_held" = some (some (.ref f26))) (l26 : K.lookup f26 = some ⟨oc26, od26, .func (PySem.W.fnOf "_law_held" "_law_held" (defArgs s__law_held) (defBody s__law_held) (defScope s__law_held) .none kV26 dc26 pm26 an26 cd26 ct26), sl26⟩) (c26 : PySem.W.codeIn K cd26 "_law_held" = true) (k26 : PySem.W.keepIn K (.ref f26) = true)
    (a27 : PySem.W.nsIn K mainGlobals "_law_span" = some (some (.ref f27))) (l27 : K.lookup f27 = some ⟨oc27, od27, .func (PySem.W.fnOf "_law_span" "_law_span" (defArgs s__law_span) (defBody s__law_span) (defScope s__law_span) .none kV27 dc27 pm27 an27 cd27 ct27), sl27⟩) (c27 : PySem.W.codeIn K cd27 "_law_span" = true) (k27 : PySem.W.keepIn K (.ref f27) = true)
    (a28 : PySem.W.nsIn K mainGlobals "_law_whole" = some (some (.ref f28))) (l28 : K.lookup f28 = some ⟨oc28, od28, .func (PySem.W.fnOf "_law_whole" "_law_whole" (defArgs s__law_whole) (defBody s__law_whole) (defScope s__law_whole) .none kV28 dc28 pm28 an28 cd28 ct28), sl28⟩) (c28 : PySem.W.codeIn K cd28 "_law_whole" = true) (k28 : PySem.W.keepIn K (.ref f28) = true)
    (a29 : PySem.W.nsIn K mainGlobals "_law_field" = some (some (.ref f29))) (l29 : K.lookup f29 = some ⟨oc29, od29, .func (PySem.W.fnOf "_law_field" "_law_field" (defArgs s__law_field) (defBody s__law_field) (defScope s__law_field) .none kV29 dc29 pm29 an29 cd29 ct29), sl29⟩) (c29 : PySem.W.codeIn K cd29 "_law_field" = true) (k29 : PySem.W.keepIn K (.ref f29) = true)
    (a30 : PySem.W.nsIn K mainGlobals "_law_fields" = some (some (.ref f30))) (l30 : K.lookup f30 = some ⟨oc30, od30, .func (PySem.W.fnOf "_law_fields" "_law_fields" (defArgs s__law_fields) (defBody s__law_fields) (defScope s__law_fields) .none kV30 dc30 pm30 an30 cd30 ct30), sl30⟩) (c30 : PySem.W.codeIn K cd30 "_law_fields" = true) (k30 : PySem.W.keepIn K (.ref f30) = true)
    (a31 : PySem.W.nsIn K mainGlobals "_law_same" = some (some (.ref f31))) (l31 : K.lookup f31 = some ⟨oc31, od31, .func (PySem.W.fnOf "_law_same" "_law_same" (defArgs s__law_same) (defBody s__law_same) (defScope s__law_same) .none kV31 dc31 pm31 an31 cd31 ct31), sl31⟩) (c31 : PySem.W.codeIn K cd31 "_law_same" = true) (k31 : PySem.W.keepIn K (.ref f31) = true)
    (a32 : PySem.W.nsIn K mainGlobals "_law_made" = some (some (.ref f32))) (l32 : K.lookup f32 = some ⟨oc32, od32, .func (PySem.W.fnOf "_law_made" "_law_made" (defArgs s__law_made) (defBody s__law_made) (defScope s__law_made) .none kV32 dc32 pm32 an32 cd32 ct32), sl32⟩) (c32 : PySem.W.codeIn K cd32 "_law_made" = true) (k32 : PySem.W.keepIn K (.ref f32) = true)
    (a33 : PySem.W.nsIn K mainGlobals "_law_written" = some (some (.ref f33))) (l33 : K.lookup f33 = some ⟨oc33, od33, .func (PySem.W.fnOf "_law_written" "_law_written" (defArgs s__law_written) (defBody s__law_written) (defScope s__law_written) .none kV33 dc33 pm33 an33 cd33 ct33), sl33⟩) (c33 : PySem.W.codeIn K cd33 "_law_written" = true) (k33 : PySem.W.keepIn K (.ref f33) = true)
    (a34 : PySem.W.nsIn K mainGlobals "_law_plain" = some (some (.ref f34))) (l34 : K.lookup f34 = some ⟨oc34, od34, .func (PySem.W.fnOf "_law_plain" "_law_plain" (defArgs s__law_plain) (defBody s__law_plain) (defScope s__law_plain) .none kV34 dc34 pm34 an34 cd34 ct34), sl34⟩) (c34 : PySem.W.codeIn K cd34 "_law_plain" = true) (k34 : PySem.W.keepIn K (.ref f34) = true)
    (a35 : PySem.W.nsIn K mainGlobals "_law_is_field" = some (some (.ref f35))) (l35 : K.lookup f35 = some ⟨oc35, od35, .func (PySem.W.fnOf "_law_is_field" "_law_is_field" (defArgs s__law_is_field) (defBody s__law_is_field) (defScope s__law_is_field) .none kV35 dc35 pm35 an35 cd35 ct35), sl35⟩) (c35 : PySem.W.codeIn K cd35 "_law_is_field" = true) (k35 : PySem.W.keepIn K (.ref f35) = true)
    (a36 : PySem.W.nsIn K mainGlobals "_law_is_span" = some (some (.ref f36))) (l36 : K.lookup f36 = some ⟨oc36, od36, .func (PySem.W.fnOf "_law_is_span" "_law_is_span" (defArgs s__law_is_span) (defBody s__law_is_span) (defScope s__law_is_span) .none kV36 dc36 pm36 an36 cd36 ct36), sl36⟩) (c36 : PySem.W.codeIn K cd36 "_law_is_span" = true) (k36 : PySem.W.keepIn K (.ref f36) = true)
    (a37 : PySem.W.nsIn K mainGlobals "_law_is_made" = some (some (.ref f37))) (l37 : K.lookup f37 = some ⟨oc37, od37, .func (PySem.W.fnOf "_law_is_made" "_law_is_made" (defArgs s__law_is_made) (defBody s__law_is_made) (defScope s__law_is_made) .none kV37 dc37 pm37 an37 cd37 ct37), sl37⟩) (c37 : PySem.W.codeIn K cd37 "_law_is_made" = true) (k37 : PySem.W.keepIn K (.ref f37) = true)
    (a38 : PySem.W.nsIn K mainGlobals "_law_value" = some (some (.ref f38))) (l38 : K.lookup f38 = some ⟨oc38, od38, .func (PySem.W.fnOf "_law_value" "_law_value" (defArgs s__law_value) (defBody s__law_value) (defScope s__law_value) .none kV38 dc38 pm38 an38 cd38 ct38), sl38⟩) (c38 : PySem.W.codeIn K cd38 "_law_value" = true) (k38 : PySem.W.keepIn K (.ref f38) = true)
    (a39 : PySem.W.nsIn K mainGlobals "_law_part_of" = some (some (.ref f39))) (l39 : K.lookup f39 = some ⟨oc39, od39, .func (PySem.W.fnOf "_law_part_of" "_law_part_of" (defArgs s__law_part_of) (defBody s__law_part_of) (defScope s__law_part_of) .none kV39 dc39 pm39 an39 cd39 ct39), sl39⟩) (c39 : PySem.W.codeIn K cd39 "_law_part_of" = true) (k39 : PySem.W.keepIn K (.ref f39) = true)
    (a40 : PySem.W.nsIn K mainGlobals "_law_read" = some (some (.ref f40))) (l40 : K.lookup f40 = some ⟨oc40, od40, .func (PySem.W.fnOf "_law_read" "_law_read" (defArgs s__law_read) (defBody s__law_read) (defScope s__law_read) .none kV40 dc40 pm40 an40 cd40 ct40), sl40⟩) (c40 : PySem.W.codeIn K cd40 "_law_read" = true) (k40 : PySem.W.keepIn K (.ref f40) = true)
    (a41 : PySem.W.nsIn K mainGlobals "_law_count" = some (some (.ref f41))) (l41 : K.lookup f41 = some ⟨oc41, od41, .func (PySem.W.fnOf "_law_count" "_law_count" (defArgs s__law_count) (defBody s__law_count) (defScope s__law_count) .none kV41 dc41 pm41 an41 cd41 ct41), sl41⟩) (c41 : PySem.W.codeIn K cd41 "_law_count" = true) (k41 : PySem.W.keepIn K (.ref f41) = true)
    (a42 : PySem.W.nsIn K mainGlobals "_law_rising" = some (some (.ref f42))) (l42 : K.lookup f42 = some ⟨oc42, od42, .func (PySem.W.fnOf "_law_rising" "_law_rising" (defArgs s__law_rising) (defBody s__law_rising) (defScope s__law_rising) .none kV42 dc42 pm42 an42 cd42 ct42), sl42⟩) (c42 : PySem.W.codeIn K cd42 "_law_rising" = true) (k42 : PySem.W.keepIn K (.ref f42) = true)
    (a43 : PySem.W.nsIn K mainGlobals "_law_course" = some (some (.ref f43))) (l43 : K.lookup f43 = some ⟨oc43, od43, .func (PySem.W.fnOf "_law_course" "_law_course" (defArgs s__law_course) (defBody s__law_course) (defScope s__law_course) .none kV43 dc43 pm43 an43 cd43 ct43), sl43⟩) (c43 : PySem.W.codeIn K cd43 "_law_course" = true) (k43 : PySem.W.keepIn K (.ref f43) = true)
    (a44 : PySem.W.nsIn K mainGlobals "_law_letter" = some (some (.ref f44))) (l44 : K.lookup f44 = some ⟨oc44, od44, .func (PySem.W.fnOf "_law_letter" "_law_letter" (defArgs s__law_letter) (defBody s__law_letter) (defScope s__law_letter) .none kV44 dc44 pm44 an44 cd44 ct44), sl44⟩) (c44 : PySem.W.codeIn K cd44 "_law_letter" = true) (k44 : PySem.W.keepIn K (.ref f44) = true)
    (a45 : PySem.W.nsIn K mainGlobals "_law_shown" = some (some (.ref f45))) (l45 : K.lookup f45 = some ⟨oc45, od45, .func (PySem.W.fnOf "_law_shown" "_law_shown" (defArgs s__law_shown) (defBody s__law_shown) (defScope s__law_shown) .none kV45 dc45 pm45 an45 cd45 ct45), sl45⟩) (c45 : PySem.W.codeIn K cd45 "_law_shown" = true) (k45 : PySem.W.keepIn K (.ref f45) = true)
    (a46 : PySem.W.nsIn K mainGlobals "_law_other_word" = some (some (.ref f46))) (l46 : K.lookup f46 = some ⟨oc46, od46, .func (PySem.W.fnOf "_law_other_word" "_law_other_word" (defArgs s__law_other_word) (defBody s__law_other_word) (defScope s__law_other_word) .none kV46 dc46 pm46 an46 cd46 ct46), sl46⟩) (c46 : PySem.W.codeIn K cd46 "_law_other_word" = true) (k46 : PySem.W.keepIn K (.ref f46) = true)
    (a47 : PySem.W.nsIn K mainGlobals "_law_bent" = some (some (.ref f47))) (l47 : K.lookup f47 = some ⟨oc47, od47, .func (PySem.W.fnOf "_law_bent" "_law_bent" (defArgs s__law_bent) (defBody s__law_bent) (defScope s__law_bent) .none kV47 dc47 pm47 an47 cd47 ct47), sl47⟩) (c47 : PySem.W.codeIn K cd47 "_law_bent" = true) (k47 : PySem.W.keepIn K (.ref f47) = true)
    (a48 : PySem.W.nsIn K mainGlobals "_law_counts" = some (some (.ref f48))) (l48 : K.lookup f48 = some ⟨oc48, od48, .func (PySem.W.fnOf "_law_counts" "_law_counts" (defArgs s__law_counts) (defBody s__law_counts) (defScope s__law_counts) .none kV48 dc48 pm48 an48 cd48 ct48), sl48⟩) (c48 : PySem.W.codeIn K cd48 "_law_counts" = true) (k48 : PySem.W.keepIn K (.ref f48) = true)
    (a49 : PySem.W.nsIn K mainGlobals "_law_course_of" = some (some (.ref f49))) (l49 : K.lookup f49 = some ⟨oc49, od49, .func (PySem.W.fnOf "_law_course_of" "_law_course_of" (defArgs s__law_course_of) (defBody s__law_course_of) (defScope s__law_course_of) .none kV49 dc49 pm49 an49 cd49 ct49), sl49⟩) (c49 : PySem.W.codeIn K cd49 "_law_course_of" = true) (k49 : PySem.W.keepIn K (.ref f49) = true)
    (a50 : PySem.W.nsIn K mainGlobals "_law_marks_of" = some (some (.ref f50))) (l50 : K.lookup f50 = some ⟨oc50, od50, .func (PySem.W.fnOf "_law_marks_of" "_law_marks_of" (defArgs s__law_marks_of) (defBody s__law_marks_of) (defScope s__law_marks_of) .none kV50 dc50 pm50 an50 cd50 ct50), sl50⟩) (c50 : PySem.W.codeIn K cd50 "_law_marks_of" = true) (k50 : PySem.W.keepIn K (.ref f50) = true)
    (a51 : PySem.W.nsIn K mainGlobals "_law_news_of" = some (some (.ref f51))) (l51 : K.lookup f51 = some ⟨oc51, od51, .func (PySem.W.fnOf "_law_news_of" "_law_news_of" (defArgs s__law_news_of) (defBody s__law_news_of) (defScope s__law_news_of) .none kV51 dc51 pm51 an51 cd51 ct51), sl51⟩) (c51 : PySem.W.codeIn K cd51 "_law_news_of" = true) (k51 : PySem.W.keepIn K (.ref f51) = true)
    (a52 : PySem.W.nsIn K mainGlobals "_law_letter_of" = some (some (.ref f52))) (l52 : K.lookup f52 = some ⟨oc52, od52, .func (PySem.W.fnOf "_law_letter_of" "_law_letter_of" (defArgs s__law_letter_of) (defBody s__law_letter_of) (defScope s__law_letter_of) .none kV52 dc52 pm52 an52 cd52 ct52), sl52⟩) (c52 : PySem.W.codeIn K cd52 "_law_letter_of" = true) (k52 : PySem.W.keepIn K (.ref f52) = true)
    (a53 : PySem.W.nsIn K mainGlobals "_law_told" = some (some (.ref f53))) (l53 : K.lookup f53 = some ⟨oc53, od53, .func (PySem.W.fnOf "_law_told" "_law_told" (defArgs s__law_told) (defBody s__law_told) (defScope s__law_told) .none kV53 dc53 pm53 an53 cd53 ct53), sl53⟩) (c53 : PySem.W.codeIn K cd53 "_law_told" = true) (k53 : PySem.W.keepIn K (.ref f53) = true)
    (a54 : PySem.W.nsIn K mainGlobals "law" = some (some (.ref f54))) (l54 : K.lookup f54 = some ⟨oc54, od54, .func (PySem.W.fnOf "law" "law" (defArgs s_law) (defBody s_law) (defScope s_law) .none kV54 dc54 pm54 an54 cd54 ct54), sl54⟩) (c54 : PySem.W.codeIn K cd54 "law" = true) (k54 : PySem.W.keepIn K (.ref f54) = true)
    {u_LETTERS : Value} (g_LETTERS : PySem.W.nsIn K mainGlobals "LETTERS" = some (some u_LETTERS)) (r_LETTERS : RelV (.str "abcdefghijklmnopqrstuvwxyz") u_LETTERS)
    {u_LONGEST : Value} (g_LONGEST : PySem.W.nsIn K mainGlobals "LONGEST" = some (some u_LONGEST)) (r_LONGEST : RelV (.int 8) u_LONGEST)
    {u_SMALL : Value} (g_SMALL : PySem.W.nsIn K mainGlobals "SMALL" = some (some u_SMALL)) (r_SMALL : RelV (.str "abcdefghijklmnopqrstuvwxyz") u_SMALL)
    {u_FIGURES : Value} (g_FIGURES : PySem.W.nsIn K mainGlobals "FIGURES" = some (some u_FIGURES)) (r_FIGURES : RelV (.str "0123456789") u_FIGURES)
    {u_MOST : Value} (g_MOST : PySem.W.nsIn K mainGlobals "MOST" = some (some u_MOST)) (r_MOST : RelV (.int 15) u_MOST)
    {u_NONE : Value} (g_NONE : PySem.W.nsIn K mainGlobals "NONE" = some (some u_NONE)) (r_NONE : RelV (.str "-") u_NONE)
    {u_OPEN : Value} (g_OPEN : PySem.W.nsIn K mainGlobals "OPEN" = some (some u_OPEN)) (r_OPEN : RelV (.str "*") u_OPEN)
    (e_NewsError : PySem.W.nsIn K mainGlobals "NewsError" = some (some (.ref C_NewsError)))
    (x_NewsError : PySem.W.excIn K C_NewsError [.type "ValueError", .type "Exception", .type "BaseException", .type "object"] "ValueError.__new__" = true) (y_NewsError : PySem.W.keepIn K (.ref C_NewsError) = true)
    (b_NewsError : PySem.W.subIn K (.ref C_NewsError) (.type "BaseException") = some true) (t_NewsError : PySem.W.typeIn K (.ref C_NewsError) = some (.type "type")) (i_NewsError : PySem.W.isClsIn K C_NewsError = true) (s_NewsError : PySem.W.subIn K (.ref C_NewsError) (.ref C_NewsError) = some true)
    (e_NoSpan : PySem.W.nsIn K mainGlobals "NoSpan" = some (some (.ref C_NoSpan)))
    (x_NoSpan : PySem.W.excIn K C_NoSpan [.type "ValueError", .type "Exception", .type "BaseException", .type "object"] "ValueError.__new__" = true) (y_NoSpan : PySem.W.keepIn K (.ref C_NoSpan) = true)
    (b_NoSpan : PySem.W.subIn K (.ref C_NoSpan) (.type "BaseException") = some true) (t_NoSpan : PySem.W.typeIn K (.ref C_NoSpan) = some (.type "type")) (i_NoSpan : PySem.W.isClsIn K C_NoSpan = true) (s_NoSpan : PySem.W.subIn K (.ref C_NoSpan) (.ref C_NoSpan) = some true)
    (e_NoNumber : PySem.W.nsIn K mainGlobals "NoNumber" = some (some (.ref C_NoNumber)))
    (x_NoNumber : PySem.W.excIn K C_NoNumber [.type "ValueError", .type "Exception", .type "BaseException", .type "object"] "ValueError.__new__" = true) (y_NoNumber : PySem.W.keepIn K (.ref C_NoNumber) = true)
    (b_NoNumber : PySem.W.subIn K (.ref C_NoNumber) (.type "BaseException") = some true) (t_NoNumber : PySem.W.typeIn K (.ref C_NoNumber) = some (.type "type")) (i_NoNumber : PySem.W.isClsIn K C_NoNumber = true) (s_NoNumber : PySem.W.subIn K (.ref C_NoNumber) (.ref C_NoNumber) = some true)
    (e_NoField : PySem.W.nsIn K mainGlobals "NoField" = some (some (.ref C_NoField)))
    (x_NoField : PySem.W.excIn K C_NoField [.type "ValueError", .type "Exception", .type "BaseException", .type "object"] "ValueError.__new__" = true) (y_NoField : PySem.W.keepIn K (.ref C_NoField) = true)
    (b_NoField : PySem.W.subIn K (.ref C_NoField) (.type "BaseException") = some true) (t_NoField : PySem.W.typeIn K (.ref C_NoField) = some (.type "type")) (i_NoField : PySem.W.isClsIn K C_NoField = true) (s_NoField : PySem.W.subIn K (.ref C_NoField) (.ref C_NoField) = some true)
    (e_NoWish : PySem.W.nsIn K mainGlobals "NoWish" = some (some (.ref C_NoWish)))
    (x_NoWish : PySem.W.excIn K C_NoWish [.type "ValueError", .type "Exception", .type "BaseException", .type "object"] "ValueError.__new__" = true) (y_NoWish : PySem.W.keepIn K (.ref C_NoWish) = true)
    (b_NoWish : PySem.W.subIn K (.ref C_NoWish) (.type "BaseException") = some true) (t_NoWish : PySem.W.typeIn K (.ref C_NoWish) = some (.type "type")) (i_NoWish : PySem.W.isClsIn K C_NoWish = true) (s_NoWish : PySem.W.subIn K (.ref C_NoWish) (.ref C_NoWish) = some true)
    (e_NoPiece : PySem.W.nsIn K mainGlobals "NoPiece" = some (some (.ref C_NoPiece)))
    (x_NoPiece : PySem.W.excIn K C_NoPiece [.type "ValueError", .type "Exception", .type "BaseException", .type "object"] "ValueError.__new__" = true) (y_NoPiece : PySem.W.keepIn K (.ref C_NoPiece) = true)
    (b_NoPiece : PySem.W.subIn K (.ref C_NoPiece) (.type "BaseException") = some true) (t_NoPiece : PySem.W.typeIn K (.ref C_NoPiece) = some (.type "type")) (i_NoPiece : PySem.W.isClsIn K C_NoPiece = true) (s_NoPiece : PySem.W.subIn K (.ref C_NoPiece) (.ref C_NoPiece) = some true)
    (e_TooMany : PySem.W.nsIn K mainGlobals "TooMany" = some (some (.ref C_TooMany)))
    (x_TooMany : PySem.W.excIn K C_TooMany [.type "ValueError", .type "Exception", .type "BaseException", .type "object"] "ValueError.__new__" = true) (y_TooMany : PySem.W.keepIn K (.ref C_TooMany) = true)
    (b_TooMany : PySem.W.subIn K (.ref C_TooMany) (.type "BaseException") = some true) (t_TooMany : PySem.W.typeIn K (.ref C_TooMany) = some (.type "type")) (i_TooMany : PySem.W.isClsIn K C_TooMany = true) (s_TooMany : PySem.W.subIn K (.ref C_TooMany) (.ref C_TooMany) = some true)
    (e_NoName : PySem.W.nsIn K mainGlobals "NoName" = some (some (.ref C_NoName)))
    (x_NoName : PySem.W.excIn K C_NoName [.type "ValueError", .type "Exception", .type "BaseException", .type "object"] "ValueError.__new__" = true) (y_NoName : PySem.W.keepIn K (.ref C_NoName) = true)
    (b_NoName : PySem.W.subIn K (.ref C_NoName) (.type "BaseException") = some true) (t_NoName : PySem.W.typeIn K (.ref C_NoName) = some (.type "type")) (i_NoName : PySem.W.isClsIn K C_NoName = true) (s_NoName : PySem.W.subIn K (.ref C_NoName) (.ref C_NoName) = some true)
    (e_Twice : PySem.W.nsIn K mainGlobals "Twice" = some (some (.ref C_Twice)))
    (x_Twice : PySem.W.excIn K C_Twice [.type "ValueError", .type "Exception", .type "BaseException", .type "object"] "ValueError.__new__" = true) (y_Twice : PySem.W.keepIn K (.ref C_Twice) = true)
    (b_Twice : PySem.W.subIn K (.ref C_Twice) (.type "BaseException") = some true) (t_Twice : PySem.W.typeIn K (.ref C_Twice) = some (.type "type")) (i_Twice : PySem.W.isClsIn K C_Twice = true) (s_Twice : PySem.W.subIn K (.ref C_Twice) (.ref C_Twice) = some true)
    (e_NotWanted : PySem.W.nsIn K mainGlobals "NotWanted" = some (some (.ref C_NotWanted)))
    (x_NotWanted : PySem.W.excIn K C_NotWanted [.type "ValueError", .type "Exception", .type "BaseException", .type "object"] "ValueError.__new__" = true) (y_NotWanted : PySem.W.keepIn K (.ref C_NotWanted) = true)
    (b_NotWanted : PySem.W.subIn K (.ref C_NotWanted) (.type "BaseException") = some true) (t_NotWanted : PySem.W.typeIn K (.ref C_NotWanted) = some (.type "type")) (i_NotWanted : PySem.W.isClsIn K C_NotWanted = true) (s_NotWanted : PySem.W.subIn K (.ref C_NotWanted) (.ref C_NotWanted) = some true)
    (e_NoWeb : PySem.W.nsIn K mainGlobals "NoWeb" = some (some (.ref C_NoWeb)))
    (x_NoWeb : PySem.W.excIn K C_NoWeb [.type "ValueError", .type "Exception", .type "BaseException", .type "object"] "ValueError.__new__" = true) (y_NoWeb : PySem.W.keepIn K (.ref C_NoWeb) = true)
    (b_NoWeb : PySem.W.subIn K (.ref C_NoWeb) (.type "BaseException") = some true) (t_NoWeb : PySem.W.typeIn K (.ref C_NoWeb) = some (.type "type")) (i_NoWeb : PySem.W.isClsIn K C_NoWeb = true) (s_NoWeb : PySem.W.subIn K (.ref C_NoWeb) (.ref C_NoWeb) = some true)
    (e_NoPost : PySem.W.nsIn K mainGlobals "NoPost" = some (some (.ref C_NoPost)))
    (x_NoPost : PySem.W.excIn K C_NoPost [.type "ValueError", .type "Exception", .type "BaseException", .type "object"] "ValueError.__new__" = true) (y_NoPost : PySem.W.keepIn K (.ref C_NoPost) = true)
    (b_NoPost : PySem.W.subIn K (.ref C_NoPost) (.type "BaseException") = some true) (t_NoPost : PySem.W.typeIn K (.ref C_NoPost) = some (.type "type")) (i_NoPost : PySem.W.isClsIn K C_NoPost = true) (s_NoPost : PySem.W.subIn K (.ref C_NoPost) (.ref C_NoPost) = some true)
    (e_NoRoad : PySem.W.nsIn K mainGlobals "NoRoad" = some (some (.ref C_NoRoad)))
    (x_NoRoad : PySem.W.excIn K C_NoRoad [.type "ValueError", .type "Exception", .type "BaseException", .type "object"] "ValueError.__new__" = true) (y_NoRoad : PySem.W.keepIn K (.ref C_NoRoad) = true)
    (b_NoRoad : PySem.W.subIn K (.ref C_NoRoad) (.type "BaseException") = some true) (t_NoRoad : PySem.W.typeIn K (.ref C_NoRoad) = some (.type "type")) (i_NoRoad : PySem.W.isClsIn K C_NoRoad = true) (s_NoRoad : PySem.W.subIn K (.ref C_NoRoad) (.ref C_NoRoad) = some true)
    (e_NoHand : PySem.W.nsIn K mainGlobals "NoHand" = some (some (.ref C_NoHand)))
    (x_NoHand : PySem.W.excIn K C_NoHand [.type "ValueError", .type "Exception", .type "BaseException", .type "object"] "ValueError.__new__" = true) (y_NoHand : PySem.W.keepIn K (.ref C_NoHand) = true)
    (b_NoHand : PySem.W.subIn K (.ref C_NoHand) (.type "BaseException") = some true) (t_NoHand : PySem.W.typeIn K (.ref C_NoHand) = some (.type "type")) (i_NoHand : PySem.W.isClsIn K C_NoHand = true) (s_NoHand : PySem.W.subIn K (.ref C_NoHand) (.ref C_NoHand) = some true)
    (e_NoLetter : PySem.W.nsIn K mainGlobals "NoLetter" = some (some (.ref C_NoLetter)))
    (x_NoLetter : PySem.W.excIn K C_NoLetter [.type "ValueError", .type "Exception", .type "BaseException", .type "object"] "ValueError.__new__" = true) (y_NoLetter : PySem.W.keepIn K (.ref C_NoLetter) = true)
    (b_NoLetter : PySem.W.subIn K (.ref C_NoLetter) (.type "BaseException") = some true) (t_NoLetter : PySem.W.typeIn K (.ref C_NoLetter) = some (.type "type")) (i_NoLetter : PySem.W.isClsIn K C_NoLetter = true) (s_NoLetter : PySem.W.subIn K (.ref C_NoLetter) (.ref C_NoLetter) = some true)
    (e_OnTheWay : PySem.W.nsIn K mainGlobals "OnTheWay" = some (some (.ref C_OnTheWay)))
    (x_OnTheWay : PySem.W.excIn K C_OnTheWay [.type "ValueError", .type "Exception", .type "BaseException", .type "object"] "ValueError.__new__" = true) (y_OnTheWay : PySem.W.keepIn K (.ref C_OnTheWay) = true)
    (b_OnTheWay : PySem.W.subIn K (.ref C_OnTheWay) (.type "BaseException") = some true) (t_OnTheWay : PySem.W.typeIn K (.ref C_OnTheWay) = some (.type "type")) (i_OnTheWay : PySem.W.isClsIn K C_OnTheWay = true) (s_OnTheWay : PySem.W.subIn K (.ref C_OnTheWay) (.ref C_OnTheWay) = some true)
    (e_Full : PySem.W.nsIn K mainGlobals "Full" = some (some (.ref C_Full)))
    (x_Full : PySem.W.excIn K C_Full [.type "ValueError", .type "Exception", .type "BaseException", .type "object"] "ValueError.__new__" = true) (y_Full : PySem.W.keepIn K (.ref C_Full) = true)
    (b_Full : PySem.W.subIn K (.ref C_Full) (.type "BaseException") = some true) (t_Full : PySem.W.typeIn K (.ref C_Full) = some (.type "type")) (i_Full : PySem.W.isClsIn K C_Full = true) (s_Full : PySem.W.subIn K (.ref C_Full) (.ref C_Full) = some true)
    (e_NoStands : PySem.W.nsIn K mainGlobals "NoStands" = some (some (.ref C_NoStands)))
    (x_NoStands : PySem.W.excIn K C_NoStands [.type "ValueError", .type "Exception", .type "BaseException", .type "object"] "ValueError.__new__" = true) (y_NoStands : PySem.W.keepIn K (.ref C_NoStands) = true)
    (b_NoStands : PySem.W.subIn K (.ref C_NoStands) (.type "BaseException") = some true) (t_NoStands : PySem.W.typeIn K (.ref C_NoStands) = some (.type "type")) (i_NoStands : PySem.W.isClsIn K C_NoStands = true) (s_NoStands : PySem.W.subIn K (.ref C_NoStands) (.ref C_NoStands) = some true)
    (e_NoDeed : PySem.W.nsIn K mainGlobals "NoDeed" = some (some (.ref C_NoDeed)))
    (x_NoDeed : PySem.W.excIn K C_NoDeed [.type "ValueError", .type "Exception", .type "BaseException", .type "object"] "ValueError.__new__" = true) (y_NoDeed : PySem.W.keepIn K (.ref C_NoDeed) = true)
    (b_NoDeed : PySem.W.subIn K (.ref C_NoDeed) (.type "BaseException") = some true) (t_NoDeed : PySem.W.typeIn K (.ref C_NoDeed) = some (.type "type")) (i_NoDeed : PySem.W.isClsIn K C_NoDeed = true) (s_NoDeed : PySem.W.subIn K (.ref C_NoDeed) (.ref C_NoDeed) = some true)
    (e_Stuck : PySem.W.nsIn K mainGlobals "Stuck" = some (some (.ref C_Stuck)))
    (b_Stuck : PySem.W.subIn K (.ref C_Stuck) (.type "BaseException") = some true) (t_Stuck : PySem.W.typeIn K (.ref C_Stuck) = some (.type "type")) (i_Stuck : PySem.W.isClsIn K C_Stuck = true) (s_Stuck : PySem.W.subIn K (.ref C_Stuck) (.ref C_Stuck) = some true)
    (e_NoText : PySem.W.nsIn K mainGlobals "NoText" = some (some (.ref C_NoText)))
    (x_NoText : PySem.W.excIn K C_NoText [.type "ValueError", .type "Exception", .type "BaseException", .type "object"] "ValueError.__new__" = true) (y_NoText : PySem.W.keepIn K (.ref C_NoText) = true)
    (b_NoText : PySem.W.subIn K (.ref C_NoText) (.type "BaseException") = some true) (t_NoText : PySem.W.typeIn K (.ref C_NoText) = some (.type "type")) (i_NoText : PySem.W.isClsIn K C_NoText = true) (s_NoText : PySem.W.subIn K (.ref C_NoText) (.ref C_NoText) = some true)
    (e_NoRow : PySem.W.nsIn K mainGlobals "NoRow" = some (some (.ref C_NoRow)))
    (x_NoRow : PySem.W.excIn K C_NoRow [.type "ValueError", .type "Exception", .type "BaseException", .type "object"] "ValueError.__new__" = true) (y_NoRow : PySem.W.keepIn K (.ref C_NoRow) = true)
    (b_NoRow : PySem.W.subIn K (.ref C_NoRow) (.type "BaseException") = some true) (t_NoRow : PySem.W.typeIn K (.ref C_NoRow) = some (.type "type")) (i_NoRow : PySem.W.isClsIn K C_NoRow = true) (s_NoRow : PySem.W.subIn K (.ref C_NoRow) (.ref C_NoRow) = some true)
    (n_len : PySem.W.nsIn K mainGlobals "len" = some none)
    (n_isinstance : PySem.W.nsIn K mainGlobals "isinstance" = some none)
    (n_int : PySem.W.nsIn K mainGlobals "int" = some none)
    (n_str : PySem.W.nsIn K mainGlobals "str" = some none)
    (n_bool : PySem.W.nsIn K mainGlobals "bool" = some none)
    (n_list : PySem.W.nsIn K mainGlobals "list" = some none)
    (n_tuple : PySem.W.nsIn K mainGlobals "tuple" = some none)
    (n_all : PySem.W.nsIn K mainGlobals "all" = some none)
    (n_sorted : PySem.W.nsIn K mainGlobals "sorted" = some none)
    (n_set : PySem.W.nsIn K mainGlobals "set" = some none)
    (n_max : PySem.W.nsIn K mainGlobals "max" = some none)
    (n_min : PySem.W.nsIn K mainGlobals "min" = some none)
    (n_range : PySem.W.nsIn K mainGlobals "range" = some none)
    (n_repr : PySem.W.nsIn K mainGlobals "repr" = some none)
    (n_ValueError : PySem.W.nsIn K mainGlobals "ValueError" = some none)
    : Txt K mg ⟨C_NewsError, C_NoSpan, C_NoNumber, C_NoField, C_NoWish, C_NoPiece, C_TooMany, C_NoName, C_Twice, C_NotWanted, C_NoWeb, C_NoPost, C_NoRoad, C_NoHand, C_NoLetter, C_OnTheWay, C_Full, C_NoStands, C_NoDeed, C_Stuck, C_NoText, C_NoRow⟩ := by
  constructor
  · exact Def.mk' X G a0 l0 c0 k0 fun _ _ _ _ _ _ us hl => match us, hl with | [_], _ => rfl
  · exact Def.mk' X G a1 l1 c1 k1 fun _ _ _ _ _ _ us hl => match us, hl with | [_], _ => rfl
  · exact Def.mk' X G a2 l2 c2 k2 fun _ _ _ _ _ _ us hl => match us, hl with | [_], _ => rfl
  · exact Def.mk' X G a3 l3 c3 k3 fun _ _ _ _ _ _ us hl => match us, hl with | [_, _], _ => rfl
  · exact Def.mk' X G a4 l4 c4 k4 fun _ _ _ _ _ _ us hl => match us, hl with | [_], _ => rfl
  · exact Def.mk' X G a5 l5 c5 k5 fun _ _ _ _ _ _ us hl => match us, hl with | [_], _ => rfl
  · exact Def.mk' X G a6 l6 c6 k6 fun _ _ _ _ _ _ us hl => match us, hl with | [_], _ => rfl
  · exact Def.mk' X G a7 l7 c7 k7 fun _ _ _ _ _ _ us hl => match us, hl with | [_], _ => rfl
  · exact Def.mk' X G a8 l8 c8 k8 fun _ _ _ _ _ _ us hl => match us, hl with | [_], _ => rfl
  · exact Def.mk' X G a9 l9 c9 k9 fun _ _ _ _ _ _ us hl => match us, hl with | [_], _ => rfl
  · exact Def.mk' X G a10 l10 c10 k10 fun _ _ _ _ _ _ us hl => match us, hl with | [_], _ => rfl
  · exact Def.mk' X G a11 l11 c11 k11 fun _ _ _ _ _ _ us hl => match us, hl with | [_], _ => rfl
  · exact Def.mk' X G a12 l12 c12 k12 fun _ _ _ _ _ _ us hl => match us, hl with | [_], _ => rfl
  · exact Def.mk' X G a13 l13 c13 k13 fun _ _ _ _ _ _ us hl => match us, hl with | [_, _], _ => rfl
  · exact Def.mk' X G a14 l14 c14 k14 fun _ _ _ _ _ _ us hl => match us, hl with | [_], _ => rfl
  · exact Def.mk' X G a15 l15 c15 k15 fun _ _ _ _ _ _ us hl => match us, hl with | [_], _ => rfl
  · exact Def.mk' X G a16 l16 c16 k16 fun _ _ _ _ _ _ us hl => match us, hl with | [_, _], _ => rfl
  · exact Def.mk' X G a17 l17 c17 k17 fun _ _ _ _ _ _ us hl => match us, hl with | [_], _ => rfl
  · exact Def.mk' X G a18 l18 c18 k18 fun _ _ _ _ _ _ us hl => match us, hl with | [_], _ => rfl
  · exact Def.mk' X G a19 l19 c19 k19 fun _ _ _ _ _ _ us hl => match us, hl with | [_], _ => rfl
  · exact Def.mk' X G a20 l20 c20 k20 fun _ _ _ _ _ _ us hl => match us, hl with | [_], _ => rfl
  · exact Def.mk' X G a21 l21 c21 k21 fun _ _ _ _ _ _ us hl => match us, hl with | [_], _ => rfl
  · exact Def.mk' X G a22 l22 c22 k22 fun _ _ _ _ _ _ us hl => match us, hl with | [_], _ => rfl
  · exact Def.mk' X G a23 l23 c23 k23 fun _ _ _ _ _ _ us hl => match us, hl with | [_], _ => rfl
  · exact Def.mk' X G a24 l24 c24 k24 fun _ _ _ _ _ _ us hl => match us, hl with | [_, _], _ => rfl
  · exact Def.mk' X G a25 l25 c25 k25 fun _ _ _ _ _ _ us hl => match us, hl with | [_], _ => rfl
  · exact Def.mk' X G a26 l26 c26 k26 fun _ _ _ _ _ _ us hl => match us, hl with | [_], _ => rfl
  · exact Def.mk' X G a27 l27 c27 k27 fun _ _ _ _ _ _ us hl => match us, hl with | [_], _ => rfl
  · exact Def.mk' X G a28 l28 c28 k28 fun _ _ _ _ _ _ us hl => match us, hl with | [_], _ => rfl
  · exact Def.mk' X G a29 l29 c29 k29 fun _ _ _ _ _ _ us hl => match us, hl with | [_], _ => rfl
  · exact Def.mk' X G a30 l30 c30 k30 fun _ _ _ _ _ _ us hl => match us, hl with | [_, _], _ => rfl
  · exact Def.mk' X G a31 l31 c31 k31 fun _ _ _ _ _ _ us hl => match us, hl with | [_, _], _ => rfl
  · exact Def.mk' X G a32 l32 c32 k32 fun _ _ _ _ _ _ us hl => match us, hl with | [_, _, _], _ => rfl
  · exact Def.mk' X G a33 l33 c33 k33 fun _ _ _ _ _ _ us hl => match us, hl with | [_], _ => rfl
  · exact Def.mk' X G a34 l34 c34 k34 fun _ _ _ _ _ _ us hl => match us, hl with | [_, _], _ => rfl
  · exact Def.mk' X G a35 l35 c35 k35 fun _ _ _ _ _ _ us hl => match us, hl with | [_], _ => rfl
  · exact Def.mk' X G a36 l36 c36 k36 fun _ _ _ _ _ _ us hl => match us, hl with | [_, _], _ => rfl
  · exact Def.mk' X G a37 l37 c37 k37 fun _ _ _ _ _ _ us hl => match us, hl with | [_, _], _ => rfl
  · exact Def.mk' X G a38 l38 c38 k38 fun _ _ _ _ _ _ us hl => match us, hl with | [_], _ => rfl
  · exact Def.mk' X G a39 l39 c39 k39 fun _ _ _ _ _ _ us hl => match us, hl with | [_, _], _ => rfl
  · exact Def.mk' X G a40 l40 c40 k40 fun _ _ _ _ _ _ us hl => match us, hl with | [_, _], _ => rfl
  · exact Def.mk' X G a41 l41 c41 k41 fun _ _ _ _ _ _ us hl => match us, hl with | [_], _ => rfl
  · exact Def.mk' X G a42 l42 c42 k42 fun _ _ _ _ _ _ us hl => match us, hl with | [_, _], _ => rfl
  · exact Def.mk' X G a43 l43 c43 k43 fun _ _ _ _ _ _ us hl => match us, hl with | [_], _ => rfl
  · exact Def.mk' X G a44 l44 c44 k44 fun _ _ _ _ _ _ us hl => match us, hl with | [_, _], _ => rfl
  · exact Def.mk' X G a45 l45 c45 k45 fun _ _ _ _ _ _ us hl => match us, hl with | [_], _ => rfl
  · exact Def.mk' X G a46 l46 c46 k46 fun _ _ _ _ _ _ us hl => match us, hl with | [_, _], _ => rfl
  · exact Def.mk' X G a47 l47 c47 k47 fun _ _ _ _ _ _ us hl => match us, hl with | [_, _], _ => rfl
  · exact Def.mk' X G a48 l48 c48 k48 fun _ _ _ _ _ _ us hl => match us, hl with | [_, _], _ => rfl
  · exact Def.mk' X G a49 l49 c49 k49 fun _ _ _ _ _ _ us hl => match us, hl with | [_], _ => rfl
  · exact Def.mk' X G a50 l50 c50 k50 fun _ _ _ _ _ _ us hl => match us, hl with | [_], _ => rfl
  · exact Def.mk' X G a51 l51 c51 k51 fun _ _ _ _ _ _ us hl => match us, hl with | [_], _ => rfl
  · exact Def.mk' X G a52 l52 c52 k52 fun _ _ _ _ _ _ us hl => match us, hl with | [_], _ => rfl
  · exact Def.mk' X G a53 l53 c53 k53 fun _ _ _ _ _ _ us hl => match us, hl with | [_], _ => rfl
  · exact Def.mk' X G a54 l54 c54 k54 fun _ _ _ _ _ _ us hl => match us, hl with | [_], _ => rfl
  · exact ⟨_, PySem.W.mg_of X G g_LETTERS, r_LETTERS⟩
  · exact ⟨_, PySem.W.mg_of X G g_LONGEST, r_LONGEST⟩
  · exact ⟨_, PySem.W.mg_of X G g_SMALL, r_SMALL⟩
  · exact ⟨_, PySem.W.mg_of X G g_FIGURES, r_FIGURES⟩
  · exact ⟨_, PySem.W.mg_of X G g_MOST, r_MOST⟩
  · exact ⟨_, PySem.W.mg_of X G g_NONE, r_NONE⟩
  · exact ⟨_, PySem.W.mg_of X G g_OPEN, r_OPEN⟩
  · exact ⟨PySem.W.mg_of X G e_NewsError, x_NewsError, y_NewsError, b_NewsError, t_NewsError, i_NewsError, s_NewsError⟩
  · exact ⟨PySem.W.mg_of X G e_NoSpan, x_NoSpan, y_NoSpan, b_NoSpan, t_NoSpan, i_NoSpan, s_NoSpan⟩
  · exact ⟨PySem.W.mg_of X G e_NoNumber, x_NoNumber, y_NoNumber, b_NoNumber, t_NoNumber, i_NoNumber, s_NoNumber⟩
  · exact ⟨PySem.W.mg_of X G e_NoField, x_NoField, y_NoField, b_NoField, t_NoField, i_NoField, s_NoField⟩
  · exact ⟨PySem.W.mg_of X G e_NoWish, x_NoWish, y_NoWish, b_NoWish, t_NoWish, i_NoWish, s_NoWish⟩
  · exact ⟨PySem.W.mg_of X G e_NoPiece, x_NoPiece, y_NoPiece, b_NoPiece, t_NoPiece, i_NoPiece, s_NoPiece⟩
  · exact ⟨PySem.W.mg_of X G e_TooMany, x_TooMany, y_TooMany, b_TooMany, t_TooMany, i_TooMany, s_TooMany⟩
  · exact ⟨PySem.W.mg_of X G e_NoName, x_NoName, y_NoName, b_NoName, t_NoName, i_NoName, s_NoName⟩
  · exact ⟨PySem.W.mg_of X G e_Twice, x_Twice, y_Twice, b_Twice, t_Twice, i_Twice, s_Twice⟩
  · exact ⟨PySem.W.mg_of X G e_NotWanted, x_NotWanted, y_NotWanted, b_NotWanted, t_NotWanted, i_NotWanted, s_NotWanted⟩
  · exact ⟨PySem.W.mg_of X G e_NoWeb, x_NoWeb, y_NoWeb, b_NoWeb, t_NoWeb, i_NoWeb, s_NoWeb⟩
  · exact ⟨PySem.W.mg_of X G e_NoPost, x_NoPost, y_NoPost, b_NoPost, t_NoPost, i_NoPost, s_NoPost⟩
  · exact ⟨PySem.W.mg_of X G e_NoRoad, x_NoRoad, y_NoRoad, b_NoRoad, t_NoRoad, i_NoRoad, s_NoRoad⟩
  · exact ⟨PySem.W.mg_of X G e_NoHand, x_NoHand, y_NoHand, b_NoHand, t_NoHand, i_NoHand, s_NoHand⟩
  · exact ⟨PySem.W.mg_of X G e_NoLetter, x_NoLetter, y_NoLetter, b_NoLetter, t_NoLetter, i_NoLetter, s_NoLetter⟩
  · exact ⟨PySem.W.mg_of X G e_OnTheWay, x_OnTheWay, y_OnTheWay, b_OnTheWay, t_OnTheWay, i_OnTheWay, s_OnTheWay⟩
  · exact ⟨PySem.W.mg_of X G e_Full, x_Full, y_Full, b_Full, t_Full, i_Full, s_Full⟩
  · exact ⟨PySem.W.mg_of X G e_NoStands, x_NoStands, y_NoStands, b_NoStands, t_NoStands, i_NoStands, s_NoStands⟩
  · exact ⟨PySem.W.mg_of X G e_NoDeed, x_NoDeed, y_NoDeed, b_NoDeed, t_NoDeed, i_NoDeed, s_NoDeed⟩
  · exact ⟨PySem.W.mg_of X G e_Stuck, b_Stuck, t_Stuck, i_Stuck, s_Stuck⟩
  · exact ⟨PySem.W.mg_of X G e_NoText, x_NoText, y_NoText, b_NoText, t_NoText, i_NoText, s_NoText⟩
  · exact ⟨PySem.W.mg_of X G e_NoRow, x_NoRow, y_NoRow, b_NoRow, t_NoRow, i_NoRow, s_NoRow⟩
  · exact PySem.W.mg_none_of X G n_len
  · exact PySem.W.mg_none_of X G n_isinstance
  · exact PySem.W.mg_none_of X G n_int
  · exact PySem.W.mg_none_of X G n_str
  · exact PySem.W.mg_none_of X G n_bool
  · exact PySem.W.mg_none_of X G n_list
  · exact PySem.W.mg_none_of X G n_tuple
  · exact PySem.W.mg_none_of X G n_all
  · exact PySem.W.mg_none_of X G n_sorted
  · exact PySem.W.mg_none_of X G n_set
  · exact PySem.W.mg_none_of X G n_max
  · exact PySem.W.mg_none_of X G n_min
  · exact PySem.W.mg_none_of X G n_range
  · exact PySem.W.mg_none_of X G n_repr
  · exact PySem.W.mg_none_of X G n_ValueError
theorem mk_exs {K : PySem.W.Frag} {mg : Str → Option Value} {C_NewsError C_NoSpan C_NoNumber C_NoField C_NoWish C_NoPiece C_TooMany C_NoName C_Twice C_NotWanted C_NoWeb C_NoPost C_NoRoad C_NoHand C_NoLetter C_OnTheWay C_Full C_NoStands C_NoDeed C_Stuck C_NoText C_NoRow : Addr}
    (xo0_NoText : PySem.W.findIn K (.ref C_NoText) "__getattribute__" = some (some (.builtin "BaseException.__getattribute__")))
    (xo1_NoText : PySem.W.findIn K (.ref C_NoText) "__getattr__" = some none)
    (xo2_NoText : PySem.W.subIn K (.ref C_NoText) (.type "BaseException") = some true)
    (xo3_NoText : PySem.W.hasDictIn K C_NoText = true)
    (xo4_NoText : PySem.W.findIn K (.ref C_NoText) "__class__" = some (some (.builtin "object.__class__")))
    (xo5_NoText : PySem.W.specialIn K (.builtin "object.__class__") "__get__" = some (some (.builtin "getset_descriptor.__get__")))
    (xo6_NoText : PySem.W.takesIn K (.builtin "object.__class__") = some true)
    (xo7_NoText : PySem.W.mroIn K C_NoText (.type "object") = some true)
    (xv_NoText : PySem.W.subIn K (.ref C_NoText) (.type "ValueError") = some true)
    (xq_NoText_NewsError : PySem.W.subIn K (.ref C_NoText) (.ref C_NewsError) = some true)
    (xq_NoText_NoSpan : PySem.W.subIn K (.ref C_NoText) (.ref C_NoSpan) = some false)
    (xq_NoText_NoNumber : PySem.W.subIn K (.ref C_NoText) (.ref C_NoNumber) = some false)
    (xq_NoText_NoField : PySem.W.subIn K (.ref C_NoText) (.ref C_NoField) = some false)
    (xq_NoText_NoWish : PySem.W.subIn K (.ref C_NoText) (.ref C_NoWish) = some false)
    (xq_NoText_NoPiece : PySem.W.subIn K (.ref C_NoText) (.ref C_NoPiece) = some false)
    (xq_NoText_TooMany : PySem.W.subIn K (.ref C_NoText) (.ref C_TooMany) = some false)
    (xq_NoText_NoName : PySem.W.subIn K (.ref C_NoText) (.ref C_NoName) = some false)
    (xq_NoText_Twice : PySem.W.subIn K (.ref C_NoText) (.ref C_Twice) = some false)
    (xq_NoText_NotWanted : PySem.W.subIn K (.ref C_NoText) (.ref C_NotWanted) = some false)
    (xq_NoText_NoWeb : PySem.W.subIn K (.ref C_NoText) (.ref C_NoWeb) = some false)
    (xq_NoText_NoPost : PySem.W.subIn K (.ref C_NoText) (.ref C_NoPost) = some false)
    (xq_NoText_NoRoad : PySem.W.subIn K (.ref C_NoText) (.ref C_NoRoad) = some false)
    (xq_NoText_NoHand : PySem.W.subIn K (.ref C_NoText) (.ref C_NoHand) = some false)
    (xq_NoText_NoLetter : PySem.W.subIn K (.ref C_NoText) (.ref C_NoLetter) = some false)
    (xq_NoText_OnTheWay : PySem.W.subIn K (.ref C_NoText) (.ref C_OnTheWay) = some false)
    (xq_NoText_Full : PySem.W.subIn K (.ref C_NoText) (.ref C_Full) = some false)
    (xq_NoText_NoStands : PySem.W.subIn K (.ref C_NoText) (.ref C_NoStands) = some false)
    (xq_NoText_NoDeed : PySem.W.subIn K (.ref C_NoText) (.ref C_NoDeed) = some false)
    (xq_NoText_Stuck : PySem.W.subIn K (.ref C_NoText) (.ref C_Stuck) = some false)
    (xq_NoText_NoText : PySem.W.subIn K (.ref C_NoText) (.ref C_NoText) = some true)
    (xq_NoText_NoRow : PySem.W.subIn K (.ref C_NoText) (.ref C_NoRow) = some false)
    (T : Txt K mg ⟨C_NewsError, C_NoSpan, C_NoNumber, C_NoField, C_NoWish, C_NoPiece, C_TooMany, C_NoName, C_Twice, C_NotWanted, C_NoWeb, C_NoPost, C_NoRoad, C_NoHand, C_NoLetter, C_OnTheWay, C_Full, C_NoStands, C_NoDeed, C_Stuck, C_NoText, C_NoRow⟩)
    : Exs K ⟨C_NewsError, C_NoSpan, C_NoNumber, C_NoField, C_NoWish, C_NoPiece, C_TooMany, C_NoName, C_Twice, C_NotWanted, C_NoWeb, C_NoPost, C_NoRoad, C_NoHand, C_NoLetter, C_OnTheWay, C_Full, C_NoStands, C_NoDeed, C_Stuck, C_NoText, C_NoRow⟩ := ⟨⟨xo0_NoText, xo1_NoText, xo2_NoText, xo3_NoText, xo4_NoText, xo5_NoText, xo6_NoText, xo7_NoText⟩, kit_val xv_NoText, exm_sub T.e_NewsError.cls xq_NoText_NewsError, kit_sub T.e_NoText.cls T.e_NoSpan.cls xq_NoText_NoSpan, kit_sub T.e_NoText.cls T.e_NoNumber.cls xq_NoText_NoNumber, kit_sub T.e_NoText.cls T.e_NoField.cls xq_NoText_NoField, kit_sub T.e_NoText.cls T.e_NoWish.cls xq_NoText_NoWish, kit_sub T.e_NoText.cls T.e_NoPiece.cls xq_NoText_NoPiece, kit_sub T.e_NoText.cls T.e_TooMany.cls xq_NoText_TooMany, kit_sub T.e_NoText.cls T.e_NoName.cls xq_NoText_NoName, kit_sub T.e_NoText.cls T.e_Twice.cls xq_NoText_Twice, kit_sub T.e_NoText.cls T.e_NotWanted.cls xq_NoText_NotWanted, kit_sub T.e_NoText.cls T.e_NoWeb.cls xq_NoText_NoWeb, kit_sub T.e_NoText.cls T.e_NoPost.cls xq_NoText_NoPost, kit_sub T.e_NoText.cls T.e_NoRoad.cls xq_NoText_NoRoad, kit_sub T.e_NoText.cls T.e_NoHand.cls xq_NoText_NoHand, kit_sub T.e_NoText.cls T.e_NoLetter.cls xq_NoText_NoLetter, kit_sub T.e_NoText.cls T.e_OnTheWay.cls xq_NoText_OnTheWay, kit_sub T.e_NoText.cls T.e_Full.cls xq_NoText_Full, kit_sub T.e_NoText.cls T.e_NoStands.cls xq_NoText_NoStands, kit_sub T.e_NoText.cls T.e_NoDeed.cls xq_NoText_NoDeed, kit_sub T.e_NoText.cls T.e_Stuck xq_NoText_Stuck, kit_sub T.e_NoText.cls T.e_NoText.cls xq_NoText_NoText, kit_sub T.e_NoText.cls T.e_NoRow.cls xq_NoText_NoRow⟩
section
variable {P : Program} {w : World} {K : PySem.W.Frag} {mg : Str → Option Value} {base : Heap} {c : Ads}
theorem fin (T : Txt K mg c) (hx : Txt K mg c → Exs K c) : ∀ base : Heap, ∃ f, mg "law" = some (.ref f) ∧ RunC P w K mg base f (spLaw K) := fun base => law_run T (hx T)
end
end K
open PySem PySem.W PyProof.Rows
set_option maxHeartbeats 0 in
theorem PySem.Challenge.cw_newsways_k82_whole_texts_of_no_letter_holds : PySem.Challenge.rw_newsways_k82_whole_texts_of_no_letter.Holds := by
  w_on; o_law; k_head; (case hw => w_witness2)
  k_fill
  refine NB.walk1G (k := 12) (l := PySem.Challenge.rw_newsways_k82_whole_texts_of_no_letter) rfl rfl ⟨rfl, by decide, by decide⟩ (fun w h Y => PySem.W.kIn_of Y) ?F
  case F =>
    intro w mg h KX G
    refine' K.fin (K.mk_txt KX G ?a0 ?l0 ?c0 ?k0 ?a1 ?l1 ?c1 ?k1 ?a2 ?l2 ?c2 ?k2 ?a3 ?l3 ?c3 ?k3 ?a4 ?l4 ?c4 ?k4 ?a5 ?l5 ?c5 ?k5 ?a6 ?l6 ?c6 ?k6 ?a7 ?l7 ?c7 ?k7 ?a8 ?l8 ?c8 ?k8 ?a9 ?l9 ?c9 ?k9 ?a10 ?l10 ?c10 ?k10 ?a11 ?l11 ?c11 ?k11 ?a12 ?l12 ?c12 ?k12 ?a13 ?l13 ?c13 ?k13 ?a14 ?l14 ?c14 ?k14 ?a15 ?l15 ?c15 ?k15 ?a16 ?l16 ?c16 ?k16 ?a17 ?l17 ?c17 ?k17 ?a18 ?l18 ?c18 ?k18 ?a19 ?l19 ?c19 ?k19 ?a20 ?l20 ?c20 ?k20 ?a21 ?l21 ?c21 ?k21 ?a22 ?l22 ?c22 ?k22 ?a23 ?l23 ?c23 ?k23 ?a24 ?l24 ?c24 ?k24 ?a25 ?l25 ?c25 ?k25 ?a26 ?l26 ?c26 ?k26 ?a27 ?l27 ?c27 ?k27 ?a28 ?l28 ?c28 ?k28 ?a29 ?l29 ?c29 ?k29 ?a30 ?l30 ?c30 ?k30 ?a31 ?l31 ?c31 ?k31 ?a32 ?l32 ?c32 ?k32 ?a33 ?l33 ?c33 ?k33 ?a34 ?l34 ?c34 ?k34 ?a35 ?l35 ?c35 ?k35 ?a36 ?l36 ?c36 ?k36 ?a37 ?l37 ?c37 ?k37 ?a38 ?l38 ?c38 ?k38 ?a39 ?l39 ?c39 ?k39 ?a40 ?l40 ?c40 ?k40 ?a41 ?l41 ?c41 ?k41 ?a42 ?l42 ?c42 ?k42 ?a43 ?l43 ?c43 ?k43 ?a44 ?l44 ?c44 ?k44 ?a45 ?l45 ?c45 ?k45 ?a46 ?l46 ?c46 ?k46 ?a47 ?l47 ?c47 ?k47 ?a48 ?l48 ?c48 ?k48 ?a49 ?l49 ?c49 ?k49 ?a50 ?l50 ?c50 ?k50 ?a51 ?l51 ?c51 ?k51 ?a52 ?l52 ?c52 ?k52 ?a53 ?l53 ?c53 ?k53 ?a54 ?l54 ?c54 ?k54 ?g_LETTERS ?r_LETTERS ?g_LONGEST ?r_LONGEST ?g_SMALL ?r_SMALL ?g_FIGURES ?r_FIGURES ?g_MOST ?r_MOST ?g_NONE ?r_NONE ?g_OPEN ?r_OPEN ?e_NewsError ?x_NewsError ?y_NewsError ?b_NewsError ?t_NewsError ?i_NewsError ?s_NewsError ?e_NoSpan ?x_NoSpan ?y_NoSpan ?b_NoSpan ?t_NoSpan ?i_NoSpan ?s_NoSpan ?e_NoNumber ?x_NoNumber ?y_NoNumber ?b_NoNumber ?t_NoNumber ?i_NoNumber ?s_NoNumber ?e_NoField ?x_NoField ?y_NoField ?b_NoField ?t_NoField ?i_NoField ?s_NoField ?e_NoWish ?x_NoWish ?y_NoWish ?b_NoWish ?t_NoWish ?i_NoWish ?s_NoWish ?e_NoPiece ?x_NoPiece ?y_NoPiece ?b_NoPiece ?t_NoPiece ?i_NoPiece ?s_NoPiece ?e_TooMany ?x_TooMany ?y_TooMany ?b_TooMany ?t_TooMany ?i_TooMany ?s_TooMany ?e_NoName ?x_NoName ?y_NoName ?b_NoName ?t_NoName ?i_NoName ?s_NoName ?e_Twice ?x_Twice ?y_Twice ?b_Twice ?t_Twice ?i_Twice ?s_Twice ?e_NotWanted ?x_NotWanted ?y_NotWanted ?b_NotWanted ?t_NotWanted ?i_NotWanted ?s_NotWanted ?e_NoWeb ?x_NoWeb ?y_NoWeb ?b_NoWeb ?t_NoWeb ?i_NoWeb ?s_NoWeb ?e_NoPost ?x_NoPost ?y_NoPost ?b_NoPost ?t_NoPost ?i_NoPost ?s_NoPost ?e_NoRoad ?x_NoRoad ?y_NoRoad ?b_NoRoad ?t_NoRoad ?i_NoRoad ?s_NoRoad ?e_NoHand ?x_NoHand ?y_NoHand ?b_NoHand ?t_NoHand ?i_NoHand ?s_NoHand ?e_NoLetter ?x_NoLetter ?y_NoLetter ?b_NoLetter ?t_NoLetter ?i_NoLetter ?s_NoLetter ?e_OnTheWay ?x_OnTheWay ?y_OnTheWay ?b_OnTheWay ?t_OnTheWay ?i_OnTheWay ?s_OnTheWay ?e_Full ?x_Full ?y_Full ?b_Full ?t_Full ?i_Full ?s_Full ?e_NoStands ?x_NoStands ?y_NoStands ?b_NoStands ?t_NoStands ?i_NoStands ?s_NoStands ?e_NoDeed ?x_NoDeed ?y_NoDeed ?b_NoDeed ?t_NoDeed ?i_NoDeed ?s_NoDeed ?e_Stuck ?b_Stuck ?t_Stuck ?i_Stuck ?s_Stuck ?e_NoText ?x_NoText ?y_NoText ?b_NoText ?t_NoText ?i_NoText ?s_NoText ?e_NoRow ?x_NoRow ?y_NoRow ?b_NoRow ?t_NoRow ?i_NoRow ?s_NoRow ?n_len ?n_isinstance ?n_int ?n_str ?n_bool ?n_list ?n_tuple ?n_all ?n_sorted ?n_set ?n_max ?n_min ?n_range ?n_repr ?n_ValueError) (K.mk_exs ?xo0_NoText ?xo1_NoText ?xo2_NoText ?xo3_NoText ?xo4_NoText ?xo5_NoText ?xo6_NoText ?xo7_NoText ?xv_NoText ?xq_NoText_NewsError ?xq_NoText_NoSpan ?xq_NoText_NoNumber ?xq_NoText_NoField ?xq_NoText_NoWish ?xq_NoText_NoPiece ?xq_NoText_TooMany ?xq_NoText_NoName ?xq_NoText_Twice ?xq_NoText_NotWanted ?xq_NoText_NoWeb ?xq_NoText_NoPost ?xq_NoText_NoRoad ?xq_NoText_NoHand ?xq_NoText_NoLetter ?xq_NoText_OnTheWay ?xq_NoText_Full ?xq_NoText_NoStands ?xq_NoText_NoDeed ?xq_NoText_Stuck ?xq_NoText_NoText ?xq_NoText_NoRow)
    (case a0 => k_is)
    (case l0 => k_is)
    (case c0 => k_is)
    (case k0 => k_is)
    (case a1 => k_is)
    (case l1 => k_is)
    (case c1 => k_is)
    (case k1 => k_is)
    (case a2 => k_is)
    (case l2 => k_is)
    (case c2 => k_is)
    (case k2 => k_is)
    (case a3 => k_is)
    (case l3 => k_is)
    (case c3 => k_is)
    (case k3 => k_is)
    (case a4 => k_is)
    (case l4 => k_is)
    (case c4 => k_is)
    (case k4 => k_is)
    (case a5 => k_is)
    (case l5 => k_is)
    (case c5 => k_is)
    (case k5 => k_is)
    (case a6 => k_is)
    (case l6 => k_is)
    (case c6 => k_is)
    (case k6 => k_is)
    (case a7 => k_is)
    (case l7 => k_is)
    (case c7 => k_is)
    (case k7 => k_is)
    (case a8 => k_is)
    (case l8 => k_is)
    (case c8 => k_is)
    (case k8 => k_is)
    (case a9 => k_is)
    (case l9 => k_is)
    (case c9 => k_is)
    (case k9 => k_is)
    (case a10 => k_is)
    (case l10 => k_is)
    (case c10 => k_is)
    (case k10 => k_is)
    (case a11 => k_is)
    (case l11 => k_is)
    (case c11 => k_is)
    (case k11 => k_is)
    (case a12 => k_is)
    (case l12 => k_is)
    (case c12 => k_is)
    (case k12 => k_is)
    (case a13 => k_is)
    (case l13 => k_is)
    (case c13 => k_is)
    (case k13 => k_is)
    (case a14 => k_is)
    (case l14 => k_is)
    (case c14 => k_is)
    (case k14 => k_is)
    (case a15 => k_is)
    (case l15 => k_is)
    (case c15 => k_is)
    (case k15 => k_is)
    (case a16 => k_is)
    (case l16 => k_is)
    (case c16 => k_is)
    (case k16 => k_is)
    (case a17 => k_is)
    (case l17 => k_is)
    (case c17 => k_is)
    (case k17 => k_is)
    (case a18 => k_is)
    (case l18 => k_is)
    (case c18 => k_is)
    (case k18 => k_is)
    (case a19 => k_is)
    (case l19 => k_is)
    (case c19 => k_is)
    (case k19 => k_is)
    (case a20 => k_is)
    (case l20 => k_is)
    (case c20 => k_is)
    (case k20 => k_is)
    (case a21 => k_is)
    (case l21 => k_is)
    (case c21 => k_is)
    (case k21 => k_is)
    (case a22 => k_is)
    (case l22 => k_is)
    (case c22 => k_is)
    (case k22 => k_is)
    (case a23 => k_is)
    (case l23 => k_is)
    (case c23 => k_is)
    (case k23 => k_is)
    (case a24 => k_is)
    (case l24 => k_is)
    (case c24 => k_is)
    (case k24 => k_is)
    (case a25 => k_is)
    (case l25 => k_is)
    (case c25 => k_is)
    (case k25 => k_is)
    (case a26 => k_is)
    (case l26 => k_is)
    (case c26 => k_is)
    (case k26 => k_is)
    (case a27 => k_is)
    (case l27 => k_is)
    (case c27 => k_is)
    (case k27 => k_is)
    (case a28 => k_is)
    (case l28 => k_is)
    (case c28 => k_is)
    (case k28 => k_is)
    (case a29 => k_is)
    (case l29 => k_is)
    (case c29 => k_is)
    (case k29 => k_is)
    (case a30 => k_is)
    (case l30 => k_is)
    (case c30 => k_is)
    (case k30 => k_is)
    (case a31 => k_is)
    (case l31 => k_is)
    (case c31 => k_is)
    (case k31 => k_is)
    (case a32 => k_is)
    (case l32 => k_is)
    (case c32 => k_is)
    (case k32 => k_is)
    (case a33 => k_is)
    (case l33 => k_is)
    (case c33 => k_is)
    (case k33 => k_is)
    (case a34 => k_is)
    (case l34 => k_is)
    (case c34 => k_is)
    (case k34 => k_is)
    (case a35 => k_is)
    (case l35 => k_is)
    (case c35 => k_is)
    (case k35 => k_is)
    (case a36 => k_is)
    (case l36 => k_is)
    (case c36 => k_is)
    (case k36 => k_is)
    (case a37 => k_is)
    (case l37 => k_is)
    (case c37 => k_is)
    (case k37 => k_is)
    (case a38 => k_is)
    (case l38 => k_is)
    (case c38 => k_is)
    (case k38 => k_is)
    (case a39 => k_is)
    (case l39 => k_is)
    (case c39 => k_is)
    (case k39 => k_is)
    (case a40 => k_is)
    (case l40 => k_is)
    (case c40 => k_is)
    (case k40 => k_is)
    (case a41 => k_is)
    (case l41 => k_is)
    (case c41 => k_is)
    (case k41 => k_is)
    (case a42 => k_is)
    (case l42 => k_is)
    (case c42 => k_is)
    (case k42 => k_is)
    (case a43 => k_is)
    (case l43 => k_is)
    (case c43 => k_is)
    (case k43 => k_is)
    (case a44 => k_is)
    (case l44 => k_is)
    (case c44 => k_is)
    (case k44 => k_is)
    (case a45 => k_is)
    (case l45 => k_is)
    (case c45 => k_is)
    (case k45 => k_is)
    (case a46 => k_is)
    (case l46 => k_is)
    (case c46 => k_is)
    (case k46 => k_is)
    (case a47 => k_is)
    (case l47 => k_is)
    (case c47 => k_is)
    (case k47 => k_is)
    (case a48 => k_is)
    (case l48 => k_is)
    (case c48 => k_is)
    (case k48 => k_is)
    (case a49 => k_is)
    (case l49 => k_is)
    (case c49 => k_is)
    (case k49 => k_is)
    (case a50 => k_is)
    (case l50 => k_is)
    (case c50 => k_is)
    (case k50 => k_is)
    (case a51 => k_is)
    (case l51 => k_is)
    (case c51 => k_is)
    (case k51 => k_is)
    (case a52 => k_is)
    (case l52 => k_is)
    (case c52 => k_is)
    (case k52 => k_is)
    (case a53 => k_is)
    (case l53 => k_is)
    (case c53 => k_is)
    (case k53 => k_is)
    (case a54 => k_is)
    (case l54 => k_is)
    (case c54 => k_is)
    (case k54 => k_is)
    (case g_LETTERS => k_is)
    (case r_LETTERS => exact ⟨_, rfl⟩)
    (case g_LONGEST => k_is)
    (case r_LONGEST => exact ⟨_, rfl⟩)
    (case g_SMALL => k_is)
    (case r_SMALL => exact ⟨_, rfl⟩)
    (case g_FIGURES => k_is)
    (case r_FIGURES => exact ⟨_, rfl⟩)
    (case g_MOST => k_is)
    (case r_MOST => exact ⟨_, rfl⟩)
    (case g_NONE => k_is)
    (case r_NONE => exact ⟨_, rfl⟩)
    (case g_OPEN => k_is)
    (case r_OPEN => exact ⟨_, rfl⟩)
    (case e_NewsError => k_is)
    (case x_NewsError => k_exc)
    (case y_NewsError => k_is)
    (case b_NewsError => k_is)
    (case t_NewsError => k_is)
    (case i_NewsError => k_is)
    (case s_NewsError => k_is)
    (case e_NoSpan => k_is)
    (case x_NoSpan => k_exc)
    (case y_NoSpan => k_is)
    (case b_NoSpan => k_is)
    (case t_NoSpan => k_is)
    (case i_NoSpan => k_is)
    (case s_NoSpan => k_is)
    (case e_NoNumber => k_is)
    (case x_NoNumber => k_exc)
    (case y_NoNumber => k_is)
    (case b_NoNumber => k_is)
    (case t_NoNumber => k_is)
    (case i_NoNumber => k_is)
    (case s_NoNumber => k_is)
    (case e_NoField => k_is)
    (case x_NoField => k_exc)
    (case y_NoField => k_is)
    (case b_NoField => k_is)
    (case t_NoField => k_is)
    (case i_NoField => k_is)
    (case s_NoField => k_is)
    (case e_NoWish => k_is)
    (case x_NoWish => k_exc)
    (case y_NoWish => k_is)
    (case b_NoWish => k_is)
    (case t_NoWish => k_is)
    (case i_NoWish => k_is)
    (case s_NoWish => k_is)
    (case e_NoPiece => k_is)
    (case x_NoPiece => k_exc)
    (case y_NoPiece => k_is)
    (case b_NoPiece => k_is)
    (case t_NoPiece => k_is)
    (case i_NoPiece => k_is)
    (case s_NoPiece => k_is)
    (case e_TooMany => k_is)
    (case x_TooMany => k_exc)
    (case y_TooMany => k_is)
    (case b_TooMany => k_is)
    (case t_TooMany => k_is)
    (case i_TooMany => k_is)
    (case s_TooMany => k_is)
    (case e_NoName => k_is)
    (case x_NoName => k_exc)
    (case y_NoName => k_is)
    (case b_NoName => k_is)
    (case t_NoName => k_is)
    (case i_NoName => k_is)
    (case s_NoName => k_is)
    (case e_Twice => k_is)
    (case x_Twice => k_exc)
    (case y_Twice => k_is)
    (case b_Twice => k_is)
    (case t_Twice => k_is)
    (case i_Twice => k_is)
    (case s_Twice => k_is)
    (case e_NotWanted => k_is)
    (case x_NotWanted => k_exc)
    (case y_NotWanted => k_is)
    (case b_NotWanted => k_is)
    (case t_NotWanted => k_is)
    (case i_NotWanted => k_is)
    (case s_NotWanted => k_is)
    (case e_NoWeb => k_is)
    (case x_NoWeb => k_exc)
    (case y_NoWeb => k_is)
    (case b_NoWeb => k_is)
    (case t_NoWeb => k_is)
    (case i_NoWeb => k_is)
    (case s_NoWeb => k_is)
    (case e_NoPost => k_is)
    (case x_NoPost => k_exc)
    (case y_NoPost => k_is)
    (case b_NoPost => k_is)
    (case t_NoPost => k_is)
    (case i_NoPost => k_is)
    (case s_NoPost => k_is)
    (case e_NoRoad => k_is)
    (case x_NoRoad => k_exc)
    (case y_NoRoad => k_is)
    (case b_NoRoad => k_is)
    (case t_NoRoad => k_is)
    (case i_NoRoad => k_is)
    (case s_NoRoad => k_is)
    (case e_NoHand => k_is)
    (case x_NoHand => k_exc)
    (case y_NoHand => k_is)
    (case b_NoHand => k_is)
    (case t_NoHand => k_is)
    (case i_NoHand => k_is)
    (case s_NoHand => k_is)
    (case e_NoLetter => k_is)
    (case x_NoLetter => k_exc)
    (case y_NoLetter => k_is)
    (case b_NoLetter => k_is)
    (case t_NoLetter => k_is)
    (case i_NoLetter => k_is)
    (case s_NoLetter => k_is)
    (case e_OnTheWay => k_is)
    (case x_OnTheWay => k_exc)
    (case y_OnTheWay => k_is)
    (case b_OnTheWay => k_is)
    (case t_OnTheWay => k_is)
    (case i_OnTheWay => k_is)
    (case s_OnTheWay => k_is)
    (case e_Full => k_is)
    (case x_Full => k_exc)
    (case y_Full => k_is)
    (case b_Full => k_is)
    (case t_Full => k_is)
    (case i_Full => k_is)
    (case s_Full => k_is)
    (case e_NoStands => k_is)
    (case x_NoStands => k_exc)
    (case y_NoStands => k_is)
    (case b_NoStands => k_is)
    (case t_NoStands => k_is)
    (case i_NoStands => k_is)
    (case s_NoStands => k_is)
    (case e_NoDeed => k_is)
    (case x_NoDeed => k_exc)
    (case y_NoDeed => k_is)
    (case b_NoDeed => k_is)
    (case t_NoDeed => k_is)
    (case i_NoDeed => k_is)
    (case s_NoDeed => k_is)
    (case e_Stuck => k_is)
    (case b_Stuck => k_is)
    (case t_Stuck => k_is)
    (case i_Stuck => k_is)
    (case s_Stuck => k_is)
    (case e_NoText => k_is)
    (case x_NoText => k_exc)
    (case y_NoText => k_is)
    (case b_NoText => k_is)
    (case t_NoText => k_is)
    (case i_NoText => k_is)
    (case s_NoText => k_is)
    (case e_NoRow => k_is)
    (case x_NoRow => k_exc)
    (case y_NoRow => k_is)
    (case b_NoRow => k_is)
    (case t_NoRow => k_is)
    (case i_NoRow => k_is)
    (case s_NoRow => k_is)
    (case n_len => k_is)
    (case n_isinstance => k_is)
    (case n_int => k_is)
    (case n_str => k_is)
    (case n_bool => k_is)
    (case n_list => k_is)
    (case n_tuple => k_is)
    (case n_all => k_is)
    (case n_sorted => k_is)
    (case n_set => k_is)
    (case n_max => k_is)
    (case n_min => k_is)
    (case n_range => k_is)
    (case n_repr => k_is)
    (case n_ValueError => k_is)
    (case xo0_NoText => k_is)
    (case xo1_NoText => k_is)
    (case xo2_NoText => k_is)
    (case xo3_NoText => k_is)
    (case xo4_NoText => k_is)
    (case xo5_NoText => k_is)
    (case xo6_NoText => k_is)
    (case xo7_NoText => k_is)
    (case xv_NoText => k_is)
    (case xq_NoText_NewsError => k_is)
    (case xq_NoText_NoSpan => k_is)
    (case xq_NoText_NoNumber => k_is)
    (case xq_NoText_NoField => k_is)
    (case xq_NoText_NoWish => k_is)
    (case xq_NoText_NoPiece => k_is)
    (case xq_NoText_TooMany => k_is)
    (case xq_NoText_NoName => k_is)
    (case xq_NoText_Twice => k_is)
    (case xq_NoText_NotWanted => k_is)
    (case xq_NoText_NoWeb => k_is)
    (case xq_NoText_NoPost => k_is)
    (case xq_NoText_NoRoad => k_is)
    (case xq_NoText_NoHand => k_is)
    (case xq_NoText_NoLetter => k_is)
    (case xq_NoText_OnTheWay => k_is)
    (case xq_NoText_Full => k_is)
    (case xq_NoText_NoStands => k_is)
    (case xq_NoText_NoDeed => k_is)
    (case xq_NoText_Stuck => k_is)
    (case xq_NoText_NoText => k_is)
    (case xq_NoText_NoRow => k_is)

