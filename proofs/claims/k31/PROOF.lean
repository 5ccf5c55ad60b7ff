import PyProof.Rows.All
import Wide.All
import OpenK.AllK
import Wide.FinOn
import HandS.ForMost
import HandS.IsInst
import HandS.Deep
import HandS.Zip
import HandS.Defaults
import HandS.More
import HandS.Conv
import HandS.Style
import HandS.Codes
import HandS.ExcInit
import HandS.ExcField
import HandS.TryMany
import HandS.ClsMeth
import HandS.Lambda
import HandS.EndTab
import HandS.HeadWalk
import HandS.WordsExc
import PyProof.P3Eq
import HandS.HeadHook4
import HandS.Head2
import HandS.HeadEnd
import PyProof.P3In
import PyProof.ListStr
import HandS.Star
import HandS.DictComp
import HandS.FStr
import HandS.StrMore
import PyProof.Rows.SortShellSt
import KE.GoesMore
import HandS.Walk
import HandS.SetKeys
import HandS.IntHex
import HandS.OwnEq
import HandS.DictSub
import HandS.MakeKwOnly
import KE.DataCmp
import HandS.Property
import HandS.MethStar
import HandS.SetFor
import HandS.SetBool
import HandS.Strs
import HandS.TupAny
import HandS.GenYield
import HandS.GenList
import HandS.IterVal
import HandS.SortKw
import HandS.SortRule
import KE.DatumOrd
import KE.KeyNested
import KE.KDictKeyed
import PySem.Challenge.RW_fivefault_k31_cases_in_order
set_option Elab.async false
set_option linter.all false
set_option maxRecDepth 100000
set_option maxHeartbeats 2000000
/-! Fivefault, part 1: heaps that grow, data, the draws' source. -/
namespace FF
open PySem PySem.Spec PyProof.Rows L2

/-! ### heaps that grow -/
theorem same_new {H : Hp} {p : Addr} (h : H p = none) (o : HO) : Same H (upd H p o) := fun b u q => by rw [upd_ne (ne_of_none q h)]; exact q
theorem same_rd {H H' : Hp} {a : Addr} {u : HO} (e : Same H H') (h : Rd H a u) : Rd H' a u := by
  rcases h with h | ⟨o, h⟩
  · exact .inl (e _ _ h)
  · exact .inr ⟨o, e _ _ h⟩
theorem up_l {K : PySem.W.Frag} {H H' : Hp} {a : Addr} {xs : List V} (e : Same H H') (h : SqL K H a xs) : SqL K H' a xs := by
  rcases h with h | h
  · exact .inl (same_rd e h)
  · exact .inr h
theorem up_t {K : PySem.W.Frag} {H H' : Hp} {a : Addr} {xs : List V} (e : Same H H') (h : SqT K H a xs) : SqT K H' a xs := by
  rcases h with h | h
  · exact .inl (same_rd e h)
  · exact .inr h
mutual
theorem up_d {K : PySem.W.Frag} {H H' : Hp} (e : Same H H') : ∀ {v : V} {d : PyData}, Dp K H v d → Dp K H' v d
  | _, _, .non => .non
  | _, _, .bl b => .bl b
  | _, _, .int i => .int i
  | _, _, .str x => .str x
  | _, _, .lst h a => .lst (up_l e h) (up_da e a)
  | _, _, .tup h a => .tup (up_t e h) (up_da e a)
theorem up_da {K : PySem.W.Frag} {H H' : Hp} (e : Same H H') : ∀ {vs : List V} {ds : List PyData}, DpAll K H vs ds → DpAll K H' vs ds
  | _, _, .nil => .nil
  | _, _, .cons h a => .cons (up_d e h) (up_da e a)
end
theorem da_get {K : PySem.W.Frag} {H : Hp} : ∀ {vs : List V} {ds : List PyData} {i : Nat} {v : V}, DpAll K H vs ds → vs[i]? = some v → ∃ d, ds[i]? = some d ∧ Dp K H v d
  | _, _, 0, _, .cons h _, e => by cases e; exact ⟨_, rfl, h⟩
  | _, _, i + 1, _, .cons _ t, e => da_get (i := i) t e
theorem da_len {K : PySem.W.Frag} {H : Hp} : ∀ {vs : List V} {ds : List PyData}, DpAll K H vs ds → vs.length = ds.length
  | _, _, .nil => rfl
  | _, _, .cons _ t => congrArg Nat.succ (da_len t)
/-! ### what data is -/
def tyN : PyData → String
  | .none => "NoneType"
  | .bool _ => "bool"
  | .int _ => "int"
  | .str _ => "str"
  | .list _ => "list"
  | .tuple _ => "tuple"
  | .dict _ => "dict"
theorem dp_ty {K : PySem.W.Frag} {H : Hp} {v : V} {d : PyData} (h : Dp K H v d) : TyX K H v (.type (tyN d)) := by
  cases h with
  | non => exact .base .non
  | bl b => exact .base (.bl b)
  | int i => exact .base (.int i)
  | str x => exact .base (.str x)
  | lst h _ =>
    rcases h with (h | ⟨o, h⟩) | ⟨o, _, _, h, c, _⟩
    · exact .base (.lst h)
    · exact .base (.frz h)
    · exact .kList h c
  | tup h _ =>
    rcases h with (h | ⟨o, h⟩) | ⟨o, _, _, h, c, _⟩
    · exact .base (.tup h)
    · exact .fTuple h
    · exact .kTuple h c
def isStr : PyData → Bool
  | .str _ => true
  | _ => false
def isTup : PyData → Bool
  | .tuple _ => true
  | _ => false
def isLst : PyData → Bool
  | .list _ => true
  | _ => false
def isBool : PyData → Bool
  | .bool _ => true
  | _ => false
def isInt : PyData → Bool
  | .bool _ => true
  | .int _ => true
  | _ => false
def isDict : PyData → Bool
  | .dict _ => true
  | _ => false
theorem kb_str (d : PyData) : kitB (tyN d) "str" = some (isStr d) := by cases d <;> kernel_rfl
theorem kb_tup (d : PyData) : kitB (tyN d) "tuple" = some (isTup d) := by cases d <;> kernel_rfl
theorem kb_lst (d : PyData) : kitB (tyN d) "list" = some (isLst d) := by cases d <;> kernel_rfl
theorem kb_bool (d : PyData) : kitB (tyN d) "bool" = some (isBool d) := by cases d <;> kernel_rfl
theorem kb_int (d : PyData) : kitB (tyN d) "int" = some (isInt d) := by cases d <;> kernel_rfl
theorem kb_dict (d : PyData) : kitB (tyN d) "dict" = some (isDict d) := by cases d <;> kernel_rfl
/-- isinstance(x, T) over data -/
def rIsD (K : PySem.W.Frag) (T : String) (f : PyData → Bool) : List V → Hp → VK → Prop := fun xs H Q => ∃ (x : V) (d : PyData), xs = [x, .ty T] ∧ Dp K H x d ∧ Q (.bl (f d)) H
theorem call_isD {X : Cx} {T : String} {f : PyData → Bool} (hk : ∀ d, kitB (tyN d) T = some (f d)) : CallR X (.builtin "isinstance") (rIsD X.K T f) := by
  intro pins s σ H xs us Q I r h
  obtain ⟨x, d, rfl, hd, q⟩ := h
  exact call_isi pins s σ H _ us Q I r ⟨x, .ty T, _, _, _, rfl, .ty T, dp_ty hd, kit_ty (hk d), q⟩

/-! ### defs of the text -/
/-- the def x of the top keeps the promise sp at level k -/
structure Def (P : Program) (w : World) (K : PySem.W.Frag) (mg : Str → Option Value) (base : Heap) (x : Str) (k : Nat) (ps : List Str) (sp : Sp) : Prop where
  ex : ∃ (f : Addr) (fd : FuncData), FnOk P w K mg base CX0 k f fd ps sp ∧ mg x = some (.ref f) ∧ PySem.W.keepIn K (.ref f) = true ∧ Binds K fd ps []
theorem pe_def {X : Cx} {x : Str} {k j : Nat} {ps : List Str} {sp : Sp} {e : Expr} {es : List Expr} {p pos : Pos} {t : TA} (D : Def X.prog X.w X.K X.mg X.base x k ps sp) (hr : Room j X.A) (hkj : k ≤ j) (ha : PA X (e :: es) t)
    (hg : Gl X x := by rfl) (hdb : (x == ("__debug__" : Str)) = false := by decide) (he : starEach (e :: es) X.env = (false, eval e X.env) :: starEach es X.env := by rfl) (hpl : (backTo pos (starEach es X.env)).any (·.1) = false := by rfl) :
    PE X (.Call (.Name x p) (e :: es) [] pos) (tCall sp [] E0 t) := by
  obtain ⟨f, fd, F, hm, hk, hb⟩ := D.ex
  exact pe_call F (hr.mono hkj) hg hm hk hb .nil pass0 ha hdb he hpl
theorem Def.imp {P : Program} {w : World} {K : PySem.W.Frag} {mg : Str → Option Value} {base : Heap} {x : Str} {k : Nat} {ps : List Str} {sp sp' : Sp} (D : Def P w K mg base x k ps sp) (h : ∀ vs H Q E, sp' vs H Q E → sp vs H Q E) : Def P w K mg base x k ps sp' := by
  obtain ⟨f, fd, F, r⟩ := D.ex
  exact ⟨f, fd, F.imp h, r⟩
theorem Def.mono {P : Program} {w : World} {K : PySem.W.Frag} {mg : Str → Option Value} {base : Heap} {x : Str} {j k : Nat} {ps : List Str} {sp : Sp} (D : Def P w K mg base x j ps sp) (h : j ≤ k) : Def P w K mg base x k ps sp := by
  obtain ⟨f, fd, F, r⟩ := D.ex
  exact ⟨f, fd, F.mono h, r⟩

/-! ### a list that is hidden: its state is some good one -/
/-- at a stands a list whose items are good -/
def hid (good : List V → Prop) (a : Addr) : HO := .ext fun h => ∃ (xs : List V) (its : List Value) (n : Nat), good xs ∧ xs.length ≤ sizeLine ∧ Vals xs its ∧ h.get? a = some { cls := .type "list", data := .seq its.toArray n }
section
variable {P : Program} {w : World} {K : PySem.W.Frag} {mg : Str → Option Value} {base : Heap}
theorem upd_back {H : Hp} {a : Addr} {o u : HO} (h : H a = some u) : upd (upd H a o) a u = H := by
  funext b
  unfold upd
  split
  · next e => rw [e, h]
  · rfl
theorem hok_open {H : Hp} {h : Heap} {a : Addr} {good : List V → Prop} (hs : H a = some (hid good a)) (ok : HOk P w H h) : ∃ xs, good xs ∧ HOk P w (upd H a (.lst xs)) h := by
  obtain ⟨⟨xs, its, n, hg, hz, hv, he⟩, _, _⟩ := ok a _ hs
  refine ⟨xs, hg, fun b o e => ?_⟩
  by_cases hb : b = a
  · subst hb
    rw [upd_same] at e
    cases e
    exact ⟨hz, its, n, hv, he⟩
  · rw [upd_ne hb] at e
    refine (ok b o e).stay (fun _ _ _ q => q) (fun c q => ?_) (fun c ys q => ?_)
    · have hc : c ≠ a := by
        intro z
        rw [z, hs] at q
        cases q
      rw [upd_ne hc]
      exact q
    · have hc : c ≠ a := by
        intro z
        rw [z, hs] at q
        cases q
      rw [upd_ne hc]
      exact q
theorem hok_shut {H : Hp} {h : Heap} {a : Addr} {good : List V → Prop} {xs : List V} (hs : H a = some (.lst xs)) (hg : good xs) (ok : HOk P w H h) : HOk P w (upd H a (hid good a)) h := by
  obtain ⟨hz, its, n, hv, he⟩ := ok a _ hs
  intro b o e
  by_cases hb : b = a
  · subst hb
    rw [upd_same] at e
    cases e
    refine ⟨⟨xs, its, n, hg, hz, hv, he⟩, ⟨_, he⟩, fun h1 h2 ⟨xs1, its1, n1, g1, z1, v1, e1⟩ hk => ⟨xs1, its1, n1, g1, z1, v1, hk _ e1⟩⟩
  · rw [upd_ne hb] at e
    refine (ok b o e).stay (fun _ _ _ q => q) (fun c q => ?_) (fun c ys q => ?_)
    · have hc : c ≠ a := by
        intro z
        rw [z, hs] at q
        cases q
      rw [upd_ne hc]
      exact q
    · have hc : c ≠ a := by
        intro z
        rw [z, hs] at q
        cases q
      rw [upd_ne hc]
      exact q
/-- the list at a opened: what its items are the body may read and change; behind it the list is hidden again -/
theorem FnOk.open_ {k : Nat} {f : Addr} {fd : FuncData} {ps : List Str} {sp sp' : Sp} (F : FnOk P w K mg base CX0 k f fd ps sp) (len : ∀ vs H Q E, sp' vs H Q E → vs.length = ps.length)
    (h : ∀ vs H Q E, sp' vs H Q E → ∃ (a : Addr) (good : List V → Prop), H a = some (hid good a) ∧
      ∀ xs, good xs → sp vs (upd H a (.lst xs)) (fun v H' => ∃ ys, H' a = some (.lst ys) ∧ good ys ∧ Q v (upd H' a (hid good a))) E) : FnOk P w K mg base CX0 k f fd ps sp' := by
  refine ⟨len, fun A outer s H args us vs Q E hr e0 hb hv hsp => ?_⟩
  obtain ⟨a, good, ha, hq⟩ := h vs H Q E hsp
  obtain ⟨xs, hg, ok⟩ := hok_open ha e0.hok
  have dom : ∀ {b}, H b = none → (upd H a (.lst xs)) b = none := fun {b} n => by
    rw [upd_ne (fun z => by rw [z, ha] at n; cases n)]
    exact n
  have e1 : Env0 P w K mg base A outer s (upd H a (.lst xs)) := ⟨e0.frames, e0.mod, fun b o e => ⟨(e0.bs b o e).1, dom (e0.bs b o e).2⟩, e0.bsz, e0.funs, fun b hb => dom (e0.frf b hb), ok, e0.bare⟩
  refine codeAny_mono (F.run A outer s _ args us vs _ E hr e1 hb hv (hq xs hg)) fun r s' hc => ?_
  cases r with
  | error e => exact hc
  | ok fl =>
    cases fl with
    | ret u =>
      obtain ⟨v, H', os, bare, un, hok, rv, ys, hy, gy, q⟩ := hc
      refine ⟨v, _, os, bare, ?_, hok_shut hy gy hok, rv, q⟩
      have back : ∀ {b o}, H b = some o → b ≠ a → (upd H a (.lst xs)) b = some o := fun {b o} e hb => by rw [upd_ne hb]; exact e
      have notA : ∀ {b}, H b = none → b ≠ a := fun {b} n z => by rw [z, ha] at n; cases n
      refine ⟨fun b o e n h1 h2 => un.keep b o e (dom n) h1 h2, fun b o e n h1 h2 => un.slot b o e (dom n) h1 h2, fun b o e n h1 => ?_, un.there, fun b ys' e => ?_, fun b o u' e => ?_, fun b ps' e => ?_⟩
      · rw [upd_ne (notA n)]
        exact un.free b o e (dom n) h1
      · have hb : b ≠ a := fun z => by rw [z, ha] at e; cases e
        rw [upd_ne hb]
        exact un.tups b ys' (back e hb)
      · have hb : b ≠ a := fun z => by rw [z, ha] at e; cases e
        rw [upd_ne hb]
        exact un.frzs b o u' (back e hb)
      · have hb : b ≠ a := fun z => by rw [z, ha] at e; cases e
        rw [upd_ne hb]
        exact un.tbls b ps' (back e hb)
    | next => exact hc
    | brk => exact hc
    | cont => exact hc
/-- behind the body the list at a is hidden -/
theorem FnOk.shut_ {k : Nat} {f : Addr} {fd : FuncData} {ps : List Str} {sp sp' : Sp} (F : FnOk P w K mg base CX0 k f fd ps sp) (len : ∀ vs H Q E, sp' vs H Q E → vs.length = ps.length)
    (h : ∀ vs H Q E, sp' vs H Q E → sp vs H (fun v H' => ∃ (a : Addr) (good : List V → Prop) (ys : List V), H a = none ∧ H' a = some (.lst ys) ∧ good ys ∧ Q v (upd H' a (hid good a))) E) : FnOk P w K mg base CX0 k f fd ps sp' := by
  refine ⟨len, fun A outer s H args us vs Q E hr e0 hb hv hsp => ?_⟩
  refine codeAny_mono (F.run A outer s _ args us vs _ E hr e0 hb hv (h vs H Q E hsp)) fun r s' hc => ?_
  cases r with
  | error e => exact hc
  | ok fl =>
    cases fl with
    | ret u =>
      obtain ⟨v, H', os, bare, un, hok, rv, a, good, ys, hn, hy, gy, q⟩ := hc
      refine ⟨v, _, os, bare, ?_, hok_shut hy gy hok, rv, q⟩
      refine ⟨un.keep, un.slot, fun b o e n h1 => ?_, un.there, fun b ys' e => ?_, fun b o u' e => ?_, fun b ps' e => ?_⟩
      · have hb : b ≠ a := fun z => by
          have q1 := un.free b o e n h1
          rw [z, hy] at q1
          cases q1
        rw [upd_ne hb]
        exact un.free b o e n h1
      · rw [upd_ne (ne_of_none e hn)]
        exact un.tups b ys' e
      · rw [upd_ne (ne_of_none e hn)]
        exact un.frzs b o u' e
      · rw [upd_ne (ne_of_none e hn)]
        exact un.tbls b ps' e
    | next => exact hc
    | brk => exact hc
    | cont => exact hc
end
end FF
/-! Fivefault, part 2: defs by their bodies, names of the top, the draws' source. -/
namespace FF
open PySem PySem.Spec PyProof.Rows L2

/-! ### names of the top -/
section
variable {X : Cx} {x : Str} {pos : Pos}
theorem pe_gi {i : Int} (h : ∃ t, X.mg x = some (.int i t)) (hg : Gl X x := by rfl) (hd : (x == ("__debug__" : Str)) = false := by decide) : PE X (.Name x pos) (tC (.int i)) := by
  obtain ⟨t, h⟩ := h
  exact pe_glob hg h ⟨t, rfl⟩ hd
theorem pe_gs {z : Str} (h : ∃ t, X.mg x = some (.str z t)) (hg : Gl X x := by rfl) (hd : (x == ("__debug__" : Str)) = false := by decide) : PE X (.Name x pos) (tC (.str z)) := by
  obtain ⟨t, h⟩ := h
  exact pe_glob hg h ⟨t, rfl⟩ hd
theorem pe_gT {a : Addr} (h : X.mg x = some (.ref a)) (hg : Gl X x := by rfl) (hd : (x == ("__debug__" : Str)) = false := by decide) : PE X (.Name x pos) (tC (.ref a)) := pe_glob (v := .ref a) hg h rfl hd
end
/-! ### a def by its body -/
section
variable {P : Program} {w : World} {K : PySem.W.Frag} {mg : Str → Option Value} {base : Heap}
theorem def_mk {x : Str} {st : Stmt} {f : Addr} {fd : FuncData} {dvs : List V} {kws : List (Str × V)} {N ps : List Str} {k : Nat} {sp : Sp} (F : FunD K x x (defArgs st) (defBody st) (defScope st) dvs kws f fd) (hm : mg x = some (.ref f)) (hb : Binds K fd ps [])
    (S : FnScope N ps (defScope st)) (len : ∀ vs H Q E, sp vs H Q E → vs.length = ps.length)
    (body : ∀ (cdv : Value) (A : Around) (outer : List Env) (s : Shared) (H : Hp) (vs : List V) (Q : VK) (E : XK), Room k (A.deeper (envOfC x (defScope st) s.heap.objs.size f cdv)) → sp vs H Q E →
      ∃ t, PSs (cxOf CX0 P w K mg base N x (defScope st) f cdv A outer s H E).nox (defBody st) t ∧ t { nx := fun _ H' => Q .non H', rt := Q } (start N vs) H) : Def P w K mg base x (k + 1) ps sp :=
  ⟨f, fd, FunD.ok F S len (fun cdv A outer s H vs Q E hr h => let ⟨t, a, b⟩ := body cdv A outer s H vs Q E hr h; ⟨t, PSs.nox a, b⟩), hm, F.kp, hb⟩
/-- two more ways to say it: the list at an address hidden -/
theorem Def.open_ {x : Str} {k : Nat} {ps : List Str} {sp sp' : Sp} (D : Def P w K mg base x k ps sp) (len : ∀ vs H Q E, sp' vs H Q E → vs.length = ps.length)
    (h : ∀ vs H Q E, sp' vs H Q E → ∃ (a : Addr) (good : List V → Prop), H a = some (hid good a) ∧
      ∀ xs, good xs → sp vs (upd H a (.lst xs)) (fun v H' => ∃ ys, H' a = some (.lst ys) ∧ good ys ∧ Q v (upd H' a (hid good a))) E) : Def P w K mg base x k ps sp' := by
  obtain ⟨f, fd, F, r⟩ := D.ex
  exact ⟨f, fd, FnOk.open_ F len h, r⟩
theorem Def.shut_ {x : Str} {k : Nat} {ps : List Str} {sp sp' : Sp} (D : Def P w K mg base x k ps sp) (len : ∀ vs H Q E, sp' vs H Q E → vs.length = ps.length)
    (h : ∀ vs H Q E, sp' vs H Q E → sp vs H (fun v H' => ∃ (a : Addr) (good : List V → Prop) (ys : List V), H a = none ∧ H' a = some (.lst ys) ∧ good ys ∧ Q v (upd H' a (hid good a))) E) : Def P w K mg base x k ps sp' := by
  obtain ⟨f, fd, F, r⟩ := D.ex
  exact ⟨f, fd, FnOk.shut_ F len h, r⟩
end
/-! ### list of a text -/
theorem vals_at : ∀ {xs : List V} {us : List Value}, xs.length = us.length → (∀ (i : Nat) (x : V), xs[i]? = some x → ∃ u, us[i]? = some u ∧ RelV x u) → Vals xs us
  | [], [], _, _ => .nil
  | [], _ :: _, h, _ => by cases h
  | _ :: _, [], h, _ => by cases h
  | x :: xs, u :: us, h, k => by
    obtain ⟨u', e, r⟩ := k 0 x rfl
    cases e
    exact .cons r (vals_at (Nat.succ.inj h) fun i y hy => k (i + 1) y hy)
theorem items_signs {z : Str} {us : Array Value} (h : ItemsOf (SignAt z) us z.cps.size) : Vals (z.cps.toList.map fun c => V.str ⟨#[c]⟩) us.toList := by
  obtain ⟨h1, h2⟩ := h
  refine vals_at (by simp [h1]) fun i x hx => ?_
  rw [List.getElem?_map] at hx
  cases e : z.cps.toList[i]? with
  | none => rw [e] at hx; cases hx
  | some c =>
    rw [e] at hx
    cases hx
    have hi : i < us.size := by
      have := (List.getElem?_eq_some_iff.mp e).1
      simp at this
      omega
    obtain ⟨c', u, e1, e2⟩ := h2 i us[i] (Array.getElem?_eq_getElem hi)
    have e3 : z.cps.toList[i]? = some c' := by simpa using e1
    rw [e] at e3
    cases e3
    exact ⟨us[i], by simp [hi], u, e2⟩
def rListS : List V → Hp → VK → Prop := fun xs H Q => ∃ z : Str, xs = [.str z] ∧ z.length ≤ sizeLine ∧ ∀ l, H l = none → Q (.ref l) (upd H l (.lst (z.cps.toList.map fun c => V.str ⟨#[c]⟩)))
theorem call_list_s {X : Cx} (hc : X.calm = true) : CallR X (.type "list") rListS := by
  intro pins s σ H xs us Q I r h
  obtain ⟨z, rfl, hz, q⟩ := h
  obtain ⟨u, rfl, t, rfl⟩ := Vals.one r
  refine call_list_str (I.ok.hd hc) z t (fun h' tk acc' c' hk hl hi => ?_) hz
  have hv := items_signs hi
  exact ⟨.ref _, _, I.laid (t' := tk) (o := .lst (z.cps.toList.map fun c => V.str ⟨#[c]⟩)) hk (Nat.le_refl _) ⟨by rw [List.length_map]; exact hz, acc'.toList, c', hv, by simpa using hl⟩, rfl, q _ (I.hok.fresh (Nat.le_refl _))⟩
end FF
/-! Fivefault, part 3: data that is well formed; in, not in; measures of values. -/
namespace FF
open PySem PySem.Spec PyProof.Rows L2

/-! ### data that is well formed: texts are short, nested at most 60 deep -/
mutual
def nice : PyData → Bool
  | .none => true
  | .bool _ => true
  | .int _ => true
  | .str x => decide (x.length ≤ 20000) && PyData.strOk x
  | .list xs => decide (xs.length ≤ 20000) && niceAll xs
  | .tuple xs => decide (xs.length ≤ 20000) && niceAll xs
  | .dict _ => false
def niceAll : List PyData → Bool
  | [] => true
  | x :: xs => nice x && niceAll xs
end
mutual
theorem nice_lay : ∀ d : PyData, nice d = true → d.canLay0 = true
  | .none, _ => rfl
  | .bool _, _ => rfl
  | .int _, _ => rfl
  | .str x, h => by
    simp only [nice, Bool.and_eq_true] at h
    simp only [PyData.canLay0]
    exact h.2
  | .list xs, h => by
    simp only [nice, Bool.and_eq_true] at h
    simp only [PyData.canLay0]
    exact niceAll_lay xs h.2
  | .tuple xs, h => by
    simp only [nice, Bool.and_eq_true] at h
    simp only [PyData.canLay0]
    exact niceAll_lay xs h.2
  | .dict _, h => by simp [nice] at h
theorem niceAll_lay : ∀ ds : List PyData, niceAll ds = true → PyData.canLayAll0 ds = true
  | [], _ => rfl
  | x :: xs, h => by
    simp only [niceAll, Bool.and_eq_true] at h
    simp only [PyData.canLayAll0, nice_lay x h.1, niceAll_lay xs h.2, Bool.and_self]
end
theorem niceAll_mem : ∀ {ds : List PyData} {d : PyData}, niceAll ds = true → d ∈ ds → nice d = true
  | x :: xs, d, h, m => by
    simp only [niceAll, Bool.and_eq_true] at h
    rcases List.mem_cons.mp m with e | m
    · rw [e]; exact h.1
    · exact niceAll_mem h.2 m
theorem niceAll_of : ∀ {ds : List PyData}, (∀ d ∈ ds, nice d = true) → niceAll ds = true
  | [], _ => rfl
  | x :: xs, h => by
    simp only [niceAll, Bool.and_eq_true]
    exact ⟨h x (List.mem_cons_self ..), niceAll_of fun d m => h d (List.mem_cons_of_mem _ m)⟩
theorem depthAll_of : ∀ {ds : List PyData} {n : Nat}, (∀ d ∈ ds, d.depth ≤ n) → PyData.depthAll ds ≤ n
  | [], _, _ => by rw [PyData.depthAll]; omega
  | x :: xs, n, h => by
    rw [PyData.depthAll]
    have h1 := h x (List.mem_cons_self ..)
    have h2 := depthAll_of fun d m => h d (List.mem_cons_of_mem x m)
    omega
/-- nested at most n deep, with short texts -/
structure Nice (n : Nat) (d : PyData) : Prop where
  ok : nice d = true
  dp : d.depth ≤ n
theorem Nice.shaped {n : Nat} {d : PyData} (h : Nice n d) (hn : n ≤ 64 := by decide) : SeqAt.shaped d = true := by
  have h1 := nice_lay d h.ok
  have h2 : d.depth ≤ 64 := Nat.le_trans h.dp hn
  show (d.canLay0 && decide (d.depth ≤ 64)) = true
  rw [h1, decide_eq_true h2] <;> rfl
theorem Nice.mono {m n : Nat} {d : PyData} (h : Nice m d) (hm : m ≤ n) : Nice n d := ⟨h.ok, Nat.le_trans h.dp hm⟩
theorem Nice.tuple {n : Nat} {ds : List PyData} (hl : ds.length ≤ 20000) (h : ∀ d ∈ ds, Nice n d) : Nice (n + 1) (.tuple ds) := by
  refine ⟨by simp only [nice, Bool.and_eq_true, decide_eq_true_eq]; exact ⟨hl, niceAll_of fun d m => (h d m).ok⟩, ?_⟩
  simp only [PyData.depth]
  have := depthAll_of (n := n) fun d m => (h d m).dp
  omega
theorem Nice.list {n : Nat} {ds : List PyData} (hl : ds.length ≤ 20000) (h : ∀ d ∈ ds, Nice n d) : Nice (n + 1) (.list ds) := by
  refine ⟨by simp only [nice, Bool.and_eq_true, decide_eq_true_eq]; exact ⟨hl, niceAll_of fun d m => (h d m).ok⟩, ?_⟩
  simp only [PyData.depth]
  have := depthAll_of (n := n) fun d m => (h d m).dp
  omega
theorem nice_str {z : Str} (h : nice (.str z) = true) : z.length ≤ sizeLine := by
  simp only [nice, Bool.and_eq_true, decide_eq_true_eq] at h
  exact Nat.le_trans h.1 (by decide)

theorem nice_tl {ds : List PyData} (h : nice (.tuple ds) = true) : ds.length ≤ 20000 := by
  simp only [nice, Bool.and_eq_true, decide_eq_true_eq] at h
  exact h.1
theorem nice_ti {ds : List PyData} {d : PyData} (h : nice (.tuple ds) = true) (m : d ∈ ds) : nice d = true := by
  simp only [nice, Bool.and_eq_true, decide_eq_true_eq] at h
  exact niceAll_mem h.2 m
theorem le_line {n : Nat} (h : n ≤ 20000) : n ≤ sizeLine := Nat.le_trans h (by decide)
theorem lt_line {n : Nat} (h : n ≤ 20000) : n < sizeLine := Nat.lt_of_le_of_lt h (by decide)

/-! ### x in a written tuple or list, for any data -/
def rInDs (K : PySem.W.Frag) (neg : Bool) : R2 := fun x y H Q => ∃ d ds, Dp K H x d ∧ (Dp K H y (.list ds) ∨ Dp K H y (.tuple ds)) ∧ SeqAt.shaped d = true ∧ SeqAt.shaped (.list ds) = true ∧ Q (.bl (if neg then !(ds.any fun z => PyData.eqv z d) else (ds.any fun z => PyData.eqv z d))) H
theorem op_inDs {X : Cx} (hu : X.A.units + 65 < cLine) : OpR X (compareOp .In) (rInDs X.K false) := by
  intro pins s σ H x y v u Q I rx ry h
  obtain ⟨d, ds, hd, he | he, sd, se, q⟩ := h
  · obtain ⟨as, r1⟩ := Dp.reads I d x v hd rx
    obtain ⟨bs, r2⟩ := Dp.reads I (.list ds) y u he ry
    exact SeqAt.in_list_reads r2 r1 (SeqAt.canLay_of_shaped se) (SeqAt.canLay_of_shaped sd) (room_in_shaped sd hu) ⟨.bl _, H, I, rfl, q⟩
  · obtain ⟨as, r1⟩ := Dp.reads I d x v hd rx
    obtain ⟨bs, r2⟩ := Dp.reads I (.tuple ds) y u he ry
    exact SeqAt.in_tuple_reads r2 r1 (SeqAt.canLay_of_shaped se) (SeqAt.canLay_of_shaped sd) (room_in_shaped sd hu) ⟨.bl _, H, I, rfl, q⟩
/-! ### letters and measures -/
abbrev lettersS : Str := "abcdefgh"
def isLetS (z : Str) : Bool := match z.cps.toList with
  | [c] => decide (c ∈ lettersS.cps.toList)
  | _ => false
def isLet : PyData → Bool
  | .str z => isLetS z
  | _ => false
def isOp : PyData → Bool
  | .str z => decide (z = ("&" : Str)) || decide (z = ("|" : Str))
  | _ => false
theorem len1 {z : Str} (h : z.length = 1) : ∃ c, z = ⟨#[c]⟩ := by
  obtain ⟨⟨l⟩⟩ := z
  match l, h with
  | [c], _ => exact ⟨c, rfl⟩
theorem isLetS_no {z : Str} (h : z.length ≠ 1) : isLetS z = false := by
  obtain ⟨⟨l⟩⟩ := z
  match l, h with
  | [], _ => rfl
  | [c], h => exact absurd rfl h
  | _ :: _ :: _, _ => rfl
/-- what stands in a tuple of the form of a term -/
def measP (f : PyData → Int) : PyData → Int
  | .tuple (x :: y :: z :: r) => if isOp x = true then (if (0 : Int) ∈ ((y :: z :: r).map f) then 0 else ((y :: z :: r).map f).sum) else 0
  | _ => 0
/-- the size of a value of the form of a term, at most n deep, or 0 -/
def meas : Nat → PyData → Int
  | 0, _ => 0
  | n + 1, d => if isLet d = true then 1 else if n = 0 then 0 else measP (meas n) d
theorem meas_let {n : Nat} {d : PyData} (h : isLet d = true) : meas n d = if 0 < n then 1 else 0 := by
  cases n with
  | zero => rfl
  | succ n =>
    show (if isLet d = true then (1 : Int) else _) = _
    rw [if_pos h, if_pos (Nat.succ_pos n)]
theorem meas_low {n : Nat} {d : PyData} (h : isLet d = false) (hn : n < 2) : meas n d = 0 := by
  match n, hn with
  | 0, _ => rfl
  | 1, _ =>
    show (if isLet d = true then (1 : Int) else if 0 = 0 then 0 else _) = _
    rw [if_neg (by rw [h]; decide), if_pos rfl]
theorem meas_up {n : Nat} {d : PyData} (h : isLet d = false) (hn : 0 < n) : meas (n + 1) d = measP (meas n) d := by
  show (if isLet d = true then (1 : Int) else if n = 0 then 0 else measP (meas n) d) = _
  rw [if_neg (by rw [h]; decide), if_neg (by omega)]
end FF
/-! Fivefault, part 4: hidden lists read and stored; calls with keywords; tests. -/
namespace FF
open PySem PySem.Spec PyProof.Rows L2

section
variable {X : Cx} {pins : List (Addr × Obj)} {σ : L2.St} {H : Hp} {s : Shared} {a : Addr} {good : List V → Prop}
end
/-! ### calls with keywords -/
section
variable {K : PySem.W.Frag} {x qual : Str} {params : Arguments} {body : List Stmt} {scope : Scope} {kws : List (Str × V)} {f : Addr} {fd : FuncData} {ps : List Str}
end
section
variable {X : Cx} {CX : CXT} {k n : Nat} {f : Addr} {fd : FuncData} {ps ks : List Str} {sp : Sp} {E : XK} {x : Str} {p pos : Pos} {kws : List Keyword} {tk : TA} {g : List Value → List Value → List Value} {gV : List V → List V → List V}
def tCallN0 (m : Nat) (sp : Sp) (gV : List V → List V → List V) (E : XK) (tk : TA) : TE := fun σ H Q => tk σ H fun zs H2 => zs.length = m ∧ sp (gV [] zs) H2 Q E
theorem pe_callN0 (F : FnOk X.prog X.w X.K X.mg X.base CX k f fd ps sp) (hr : Room k X.A) (hg : Gl X x) (hm : X.mg x = some (.ref f)) (hk : PySem.W.keepIn X.K (.ref f) = true) (hb : KBn X.K fd ps 0 ks g gV) (hx : Passes CX X E)
    (hkw : PK X kws tk) (hall : (backToKw pos (keywordEach kws X.env)).all (·.1.isSome) = true := by rfl) (hks : (backToKw pos (keywordEach kws X.env)).filterMap (·.1) = ks := by rfl)
    (hdb : (x == ("__debug__" : Str)) = false := by decide)
    (hpl : ((backTo pos (starEach [] X.env)).any (·.1) || (backToKw pos (keywordEach kws X.env)).any (·.1.isNone)) = false := by rfl) :
    PE X (.Call (.Name x p) [] kws pos) (tCallN0 ks.length sp gV E tk) := by
  refine ⟨fun pins s σ H Q I h => ?_⟩
  refine wpAny_Call_Name_kw (ld_glob I hg hm ?_ hdb)
  refine PySem.W.callWith_KW0 (h₀ := X.base) I.ok.mod.kin hk hall ?_ hpl
  refine thn (hkw.run pos pins s σ H _ I h) fun ws s2 ⟨zs, H2, I2, rz, l2, q2⟩ => ⟨I2.kIn, ?_⟩
  rw [hks]
  exact run_fnN F hr hb hx I2 .nil rz rfl l2 q2
end

/-! ### tests -/
theorem if_int {a b : Int} {A B : Prop} (h1 : a = b → A) (h2 : a ≠ b → B) : if decide (V.int a = V.int b) = true then A else B := by
  by_cases h : a = b
  · rw [decide_eq_true (congrArg V.int h)]
    exact iteT (h1 h)
  · rw [decide_eq_false (fun z => h (V.int.inj z))]
    exact iteF (h2 h)
theorem if_dec {p : Prop} [Decidable p] {A B : Prop} (h1 : p → A) (h2 : ¬ p → B) : if decide p = true then A else B := by
  by_cases h : p
  · rw [decide_eq_true h]
    exact iteT (h1 h)
  · rw [decide_eq_false h]
    exact iteF (h2 h)
theorem if_b {b : Bool} {A B : Prop} (h1 : b = true → A) (h2 : b = false → B) : if b = true then A else B := by
  cases b
  · exact iteF (h2 rfl)
  · exact iteT (h1 rfl)
theorem if_nb {b : Bool} {A B : Prop} (h1 : b = false → A) (h2 : b = true → B) : if (!b) = true then A else B := by
  cases b
  · exact iteT (h1 rfl)
  · exact iteF (h2 rfl)
theorem qi {Q : VK} {H : Hp} {a b : Int} (h : Q (.int a) H) (e : a = b) : Q (.int b) H := e ▸ h
theorem qb {Q : VK} {H : Hp} {a b : Bool} (h : Q (.bl a) H) (e : a = b) : Q (.bl b) H := e ▸ h
theorem r65 {k : Nat} {A : Around} (hr : Room k A) : A.units + 65 < cLine := by have := hr.un; omega
theorem at0 {α : Type} {x : α} {xs : List α} : atI (x :: xs) 0 = some x := atI_nat (j := 0) rfl
end FF
/-! Fivefault, part 5: tuples never change; comprehensions that map; slices. -/
namespace FF
open PySem PySem.Spec PyProof.Rows L2

/-! ### tuples stay -/
def SameT (H H' : Hp) : Prop := ∀ b xs, H b = some (.tup xs) → H' b = some (.tup xs)
theorem SameT.refl (H : Hp) : SameT H H := fun _ _ h => h
theorem SameT.trans {H H1 H2 : Hp} (a : SameT H H1) (b : SameT H1 H2) : SameT H H2 := fun c o h => b c o (a c o h)
theorem Same.T {H H' : Hp} (e : Same H H') : SameT H H' := fun b xs h => e b _ h
theorem SameT.upd {H H' : Hp} {p : Addr} {o : HO} (e : SameT H H') (h : ∀ xs, H' p ≠ some (.tup xs)) : SameT H (upd H' p o) := fun b xs q => by
  have := e b xs q
  rw [upd_ne (fun z => h xs (by rw [← z]; exact this))]
  exact this
theorem SameT.updL {H H' : Hp} {p : Addr} {o : HO} {ys : List V} (e : SameT H H') (h : H' p = some (.lst ys)) : SameT H (L2.upd H' p o) := e.upd fun xs z => by rw [h] at z; cases z
def SqU (K : PySem.W.Frag) (H : Hp) (a : Addr) (xs : List V) : Prop :=
  H a = some (.tup xs) ∨ ∃ (o : Obj) (its : Array Value) (n : Nat), K.lookup a = some o ∧ o.cls = .type "tuple" ∧ o.data = .seq its n ∧ its.size ≤ sizeLine ∧ Vals xs its.toList
theorem SqU.sqT {K : PySem.W.Frag} {H : Hp} {a : Addr} {xs : List V} (h : SqU K H a xs) : SqT K H a xs := by
  rcases h with h | h
  · exact .inl (.inl h)
  · exact .inr h
theorem SqU.up {K : PySem.W.Frag} {H H' : Hp} {a : Addr} {xs : List V} (e : SameT H H') (h : SqU K H a xs) : SqU K H' a xs := by
  rcases h with h | h
  · exact .inl (e _ _ h)
  · exact .inr h
mutual
/-- data of tuples, texts and the like: no lists -/
inductive Tp (K : PySem.W.Frag) (H : Hp) : V → PyData → Prop
  | non : Tp K H .non .none
  | bl (b : Bool) : Tp K H (.bl b) (.bool b)
  | int (i : Int) : Tp K H (.int i) (.int i)
  | str (x : Str) : Tp K H (.str x) (.str x)
  | tup {a : Addr} {xs : List V} {ds : List PyData} : SqU K H a xs → TpAll K H xs ds → Tp K H (.ref a) (.tuple ds)
inductive TpAll (K : PySem.W.Frag) (H : Hp) : List V → List PyData → Prop
  | nil : TpAll K H [] []
  | cons {v : V} {vs : List V} {d : PyData} {ds : List PyData} : Tp K H v d → TpAll K H vs ds → TpAll K H (v :: vs) (d :: ds)
end
section
variable {K : PySem.W.Frag} {H H' : Hp}
mutual
theorem Tp.dp : ∀ {v : V} {d : PyData}, Tp K H v d → Dp K H v d
  | _, _, .non => .non
  | _, _, .bl b => .bl b
  | _, _, .int i => .int i
  | _, _, .str x => .str x
  | _, _, .tup h a => .tup h.sqT a.dp
theorem TpAll.dp : ∀ {vs : List V} {ds : List PyData}, TpAll K H vs ds → DpAll K H vs ds
  | _, _, .nil => .nil
  | _, _, .cons h a => .cons h.dp a.dp
end
mutual
theorem Tp.up (e : SameT H H') : ∀ {v : V} {d : PyData}, Tp K H v d → Tp K H' v d
  | _, _, .non => .non
  | _, _, .bl b => .bl b
  | _, _, .int i => .int i
  | _, _, .str x => .str x
  | _, _, .tup h a => .tup (h.up e) (a.up e)
theorem TpAll.up (e : SameT H H') : ∀ {vs : List V} {ds : List PyData}, TpAll K H vs ds → TpAll K H' vs ds
  | _, _, .nil => .nil
  | _, _, .cons h a => .cons (h.up e) (a.up e)
end
theorem TpAll.len : ∀ {vs : List V} {ds : List PyData}, TpAll K H vs ds → vs.length = ds.length
  | _, _, .nil => rfl
  | _, _, .cons _ t => congrArg Nat.succ (TpAll.len t)
theorem TpAll.get : ∀ {vs : List V} {ds : List PyData} {i : Nat} {v : V}, TpAll K H vs ds → vs[i]? = some v → ∃ d, ds[i]? = some d ∧ Tp K H v d
  | _, _, 0, _, .cons h _, e => by cases e; exact ⟨_, rfl, h⟩
  | _, _, i + 1, _, .cons _ t, e => TpAll.get (i := i) t e
theorem TpAll.app : ∀ {vs ws : List V} {ds es : List PyData}, TpAll K H vs ds → TpAll K H ws es → TpAll K H (vs ++ ws) (ds ++ es)
  | _, _, _, _, .nil, r => r
  | _, _, _, _, .cons h t, r => .cons h (t.app r)
theorem TpAll.of_get : ∀ {vs : List V} {ds : List PyData}, vs.length = ds.length → (∀ (i : Nat) (v : V) (d : PyData), vs[i]? = some v → ds[i]? = some d → Tp K H v d) → TpAll K H vs ds
  | [], [], _, _ => .nil
  | [], _ :: _, h, _ => by cases h
  | _ :: _, [], h, _ => by cases h
  | v :: vs, d :: ds, h, k => .cons (k 0 v d rfl rfl) (TpAll.of_get (Nat.succ.inj h) fun i v d h1 h2 => k (i + 1) v d h1 h2)
end

/-! ### slices t[1:] -/
theorem cut1 {x : V} {xs : List V} : cutV (x :: xs) (some 1) none = xs := by
  show (((x :: xs).drop (HT.sIx (xs.length + 1) 0 (some ((1 : Nat) : Int)))).take (HT.sIx (xs.length + 1) (xs.length + 1) none - HT.sIx (xs.length + 1) 0 (some ((1 : Nat) : Int)))) = xs
  rw [HT.sIx_nat, HT.sIx_none, show min 1 (xs.length + 1) = 1 by omega]
  show xs.take (xs.length + 1 - 1) = xs
  rw [Nat.add_sub_cancel, List.take_length]
theorem notWhole1 {x : V} {xs : List V} : ¬ (HT.sIx (x :: xs).length 0 (some 1) = 0 ∧ HT.sIx (x :: xs).length (x :: xs).length none = (x :: xs).length) := by
  rintro ⟨h, _⟩
  have : HT.sIx (xs.length + 1) 0 (some ((1 : Nat) : Int)) = 0 := h
  rw [HT.sIx_nat] at this
  omega

/-! ### [e for x in xs] -/
section
variable {K : PySem.W.Frag} {a : Addr} {xs : List V} {te : TE} {vs : List Nat} {σ : L2.St} {H1 : Hp} {D : Addr} {Qd : Hp → Prop} {j : Nat}
/-- what a step of the loop over the list gives -/
theorem lc_turn {i : Nat} {H : Hp} {x : V} {R : Nat → V → Hp → Prop} (mono : ∀ i y H H', SameT H H' → R i y H → R i y H') (hD : H1 D = none)
    (p : Same H1 H ∧ ∃ ys, H D = some (.lst ys) ∧ ys.length = i ∧ ∀ m y, ys[m]? = some y → R m y H) (hi : i < sizeLine)
    (st : ∀ Q' : VK, (∀ y H3, Same H H3 → R i y H3 → Q' y H3) → te ((wipe σ vs).set j (some x)) H Q') :
    te ((wipe σ vs).set j (some x)) H fun y H4 => ∃ acc, H4 D = some (.lst acc) ∧ acc.length < sizeLine ∧ (Same H1 (upd H4 D (.lst (acc ++ [y]))) ∧ ∃ ys, (upd H4 D (.lst (acc ++ [y]))) D = some (.lst ys) ∧ ys.length = i + 1 ∧ ∀ m y', ys[m]? = some y' → R m y' (upd H4 D (.lst (acc ++ [y])))) := by
  obtain ⟨e1, ys, h2, h3, h4⟩ := p
  refine st _ fun y H3 e3 r => ?_
  have hd := e3 _ _ h2
  refine ⟨ys, hd, by omega, fun b o q => ?_, ys ++ [y], upd_same, by simp [h3], fun m y' q => ?_⟩
  · rw [upd_ne (ne_of_none q hD)]
    exact e3 _ _ (e1 _ _ q)
  · have eT : SameT H3 (upd H3 D (.lst (ys ++ [y]))) := (SameT.refl H3).updL hd
    by_cases hm : m < ys.length
    · rw [List.getElem?_append_left hm] at q
      exact mono _ _ _ _ ((Same.T e3).trans eT) (h4 m y' q)
    · have : m = ys.length := by
        have := (List.getElem?_eq_some_iff.mp q).1
        simp at this
        omega
      subst this
      rw [List.getElem?_append_right (Nat.le_refl _), Nat.sub_self] at q
      cases q
      rw [h3]
      exact mono _ _ _ _ eT r
theorem lc_mapT (R : Nat → V → Hp → Prop) (mono : ∀ i y H H', SameT H H' → R i y H → R i y H') (hD : H1 D = none) (hs : SqT K H1 a xs) (hz : xs.length ≤ sizeLine)
    (hw : ∀ x, wipe ((wipe σ vs).set j (some x)) vs = wipe σ vs)
    (step : ∀ i x H2, xs[i]? = some x → Same H1 H2 → ∀ Q' : VK, (∀ y H3, Same H2 H3 → R i y H3 → Q' y H3) → te ((wipe σ vs).set j (some x)) H2 Q')
    (done : ∀ H2 ys, Same H1 H2 → H2 D = some (.lst ys) → ys.length = xs.length → (∀ (i : Nat) (y : V), ys[i]? = some y → R i y H2) → Qd H2) :
    ∃ W : Nat → Nat → Hp → Prop, (∃ m, W 0 m (upd H1 D (.lst []))) ∧ ∀ i m H, W i m H →
      ((Itt K a).stop i H ∧ Qd H) ∨ ((Itt K a).go i H ∧ ∃ Nx : Hp → Prop, (∀ H', Nx H' → ∃ m', m' < m ∧ W (i + 1) m' H') ∧ ∀ x H', (Itt K a).yld i H x H' → gName j x (wipe σ vs) H' fun σ2 H2 => wipe σ2 vs = wipe σ vs ∧ tYes σ2 H2 fun b H3 =>
        if b = true then te σ2 H3 fun y H4 => ∃ acc, H4 D = some (.lst acc) ∧ acc.length < sizeLine ∧ Nx (upd H4 D (.lst (acc ++ [y]))) else Nx H3) :=
  lc_tup (fun i H => Same H1 H ∧ ∃ ys, H D = some (.lst ys) ∧ ys.length = i ∧ ∀ m y, ys[m]? = some y → R m y H)
    ⟨same_new hD _, [], upd_same, rfl, fun m y q => by simp at q⟩ (fun i H _ p => up_t p.1 hs)
    (fun i x H hx p => ⟨hw x, lc_turn mono hD p (Nat.lt_of_lt_of_le (List.getElem?_eq_some_iff.mp hx).1 hz) (step i x H hx p.1)⟩)
    fun H ⟨e, ys, h1, h2, h3⟩ => done H ys e h1 h2 h3
theorem lc_mapL (R : Nat → V → Hp → Prop) (mono : ∀ i y H H', SameT H H' → R i y H → R i y H') (hD : H1 D = none) (hs : SqL K H1 a xs) (hz : xs.length ≤ sizeLine)
    (hw : ∀ x, wipe ((wipe σ vs).set j (some x)) vs = wipe σ vs)
    (step : ∀ i x H2, xs[i]? = some x → Same H1 H2 → ∀ Q' : VK, (∀ y H3, Same H2 H3 → R i y H3 → Q' y H3) → te ((wipe σ vs).set j (some x)) H2 Q')
    (done : ∀ H2 ys, Same H1 H2 → H2 D = some (.lst ys) → ys.length = xs.length → (∀ (i : Nat) (y : V), ys[i]? = some y → R i y H2) → Qd H2) :
    ∃ W : Nat → Nat → Hp → Prop, (∃ m, W 0 m (upd H1 D (.lst []))) ∧ ∀ i m H, W i m H →
      ((Itl K a).stop i H ∧ Qd H) ∨ ((Itl K a).go i H ∧ ∃ Nx : Hp → Prop, (∀ H', Nx H' → ∃ m', m' < m ∧ W (i + 1) m' H') ∧ ∀ x H', (Itl K a).yld i H x H' → gName j x (wipe σ vs) H' fun σ2 H2 => wipe σ2 vs = wipe σ vs ∧ tYes σ2 H2 fun b H3 =>
        if b = true then te σ2 H3 fun y H4 => ∃ acc, H4 D = some (.lst acc) ∧ acc.length < sizeLine ∧ Nx (upd H4 D (.lst (acc ++ [y]))) else Nx H3) :=
  lc_list (fun i H => Same H1 H ∧ ∃ ys, H D = some (.lst ys) ∧ ys.length = i ∧ ∀ m y, ys[m]? = some y → R m y H)
    ⟨same_new hD _, [], upd_same, rfl, fun m y q => by simp at q⟩ (fun i H _ p => up_l p.1 hs)
    (fun i x H hx p => ⟨hw x, lc_turn mono hD p (Nat.lt_of_lt_of_le (List.getElem?_eq_some_iff.mp hx).1 hz) (step i x H hx p.1)⟩)
    fun H ⟨e, ys, h1, h2, h3⟩ => done H ys e h1 h2 h3
theorem lc_mapR {n : Nat} {lo : Int} (R : Nat → V → Hp → Prop) (mono : ∀ i y H H', SameT H H' → R i y H → R i y H') (hD : H1 D = none) (hz : n ≤ sizeLine)
    (hw : ∀ x, wipe ((wipe σ vs).set j (some x)) vs = wipe σ vs)
    (step : ∀ i H2, i < n → Same H1 H2 → ∀ Q' : VK, (∀ y H3, Same H2 H3 → R i y H3 → Q' y H3) → te ((wipe σ vs).set j (some (.int (lo + i)))) H2 Q')
    (done : ∀ H2 ys, Same H1 H2 → H2 D = some (.lst ys) → ys.length = n → (∀ (i : Nat) (y : V), ys[i]? = some y → R i y H2) → Qd H2) :
    ∃ W : Nat → Nat → Hp → Prop, (∃ m, W 0 m (upd H1 D (.lst []))) ∧ ∀ i m H, W i m H →
      ((Itr lo n).stop i H ∧ Qd H) ∨ ((Itr lo n).go i H ∧ ∃ Nx : Hp → Prop, (∀ H', Nx H' → ∃ m', m' < m ∧ W (i + 1) m' H') ∧ ∀ x H', (Itr lo n).yld i H x H' → gName j x (wipe σ vs) H' fun σ2 H2 => wipe σ2 vs = wipe σ vs ∧ tYes σ2 H2 fun b H3 =>
        if b = true then te σ2 H3 fun y H4 => ∃ acc, H4 D = some (.lst acc) ∧ acc.length < sizeLine ∧ Nx (upd H4 D (.lst (acc ++ [y]))) else Nx H3) :=
  lc_range (fun i H => Same H1 H ∧ ∃ ys, H D = some (.lst ys) ∧ ys.length = i ∧ ∀ m y, ys[m]? = some y → R m y H)
    ⟨same_new hD _, [], upd_same, rfl, fun m y q => by simp at q⟩
    (fun i H hx p => ⟨hw _, lc_turn mono hD p (Nat.lt_of_lt_of_le hx hz) (step i H hx p.1)⟩)
    fun H ⟨e, ys, h1, h2, h3⟩ => done H ys e h1 h2 h3
/-- the lists' items told by a function of the place -/
theorem eq_map_of {α : Type} {ys : List V} {ds : List α} {f : α → V} (hl : ys.length = ds.length) (h : ∀ (i : Nat) (y : V), ys[i]? = some y → ∃ d, ds[i]? = some d ∧ y = f d) : ys = ds.map f := by
  refine List.ext_getElem? fun i => ?_
  rw [List.getElem?_map]
  cases e : ys[i]? with
  | none =>
    have : ds.length ≤ i := by rw [← hl]; exact List.getElem?_eq_none_iff.mp e
    rw [List.getElem?_eq_none_iff.mpr this] <;> rfl
  | some y =>
    obtain ⟨d, h1, h2⟩ := h i y e
    rw [h1, h2] <;> rfl
end
end FF
/-! Fivefault, part 6: comprehensions over zip. -/
namespace FF
open PySem PySem.Spec PyProof.Rows L2
def ItS (S : Hp → Addr → List V → Prop) (a b : Addr) : It :=
  ⟨fun i H => ∃ (xs ys : List V) (x y : V), S H a xs ∧ S H b ys ∧ xs[i]? = some x ∧ ys[i]? = some y,
    fun i H v H' => ∃ T x y, v = .ref T ∧ H T = none ∧ H' = upd H T (.tup [x, y]) ∧ (∀ xs, S H a xs → xs[i]? = some x) ∧ ∀ ys, S H b ys → ys[i]? = some y,
    fun i H => ∃ xs ys : List V, S H a xs ∧ S H b ys ∧ (xs.length ≤ i ∨ ys.length ≤ i)⟩
section
variable {K : PySem.W.Frag} {S : Hp → Addr → List V → Prop} {a b : Addr} {xs ys : List V} {te : TE} {vs : List Nat} {σ : L2.St} {H1 : Hp} {D : Addr} {Qd : Hp → Prop} {j k : Nat}
theorem lc_zipS (up : ∀ {H H' a xs}, Same H H' → S H a xs → S H' a xs) (R : Nat → V → Hp → Prop) (mono : ∀ i y H H', SameT H H' → R i y H → R i y H') (hD : H1 D = none) (hx : S H1 a xs) (hy : S H1 b ys) (hl : xs.length = ys.length) (hz : xs.length ≤ sizeLine)
    (hw : ∀ x y, wipe (((wipe σ vs).set j (some x)).set k (some y)) vs = wipe σ vs)
    (step : ∀ i x y H2, xs[i]? = some x → ys[i]? = some y → Same H1 H2 → ∀ Q' : VK, (∀ u H3, Same H2 H3 → R i u H3 → Q' u H3) → te (((wipe σ vs).set j (some x)).set k (some y)) H2 Q')
    (done : ∀ H2 us, Same H1 H2 → H2 D = some (.lst us) → us.length = xs.length → (∀ (i : Nat) (u : V), us[i]? = some u → R i u H2) → Qd H2) :
    ∃ W : Nat → Nat → Hp → Prop, (∃ m, W 0 m (upd H1 D (.lst []))) ∧ ∀ i m H, W i m H →
      ((ItS S a b).stop i H ∧ Qd H) ∨ ((ItS S a b).go i H ∧ ∃ Nx : Hp → Prop, (∀ H', Nx H' → ∃ m', m' < m ∧ W (i + 1) m' H') ∧ ∀ x H', (ItS S a b).yld i H x H' → gTup K 2 (gCons (gName j) (gCons (gName k) gNil)) x (wipe σ vs) H' fun σ2 H2 => wipe σ2 vs = wipe σ vs ∧ tYes σ2 H2 fun b H3 =>
        if b = true then te σ2 H3 fun y H4 => ∃ acc, H4 D = some (.lst acc) ∧ acc.length < sizeLine ∧ Nx (upd H4 D (.lst (acc ++ [y]))) else Nx H3) := by
  let Pv : Nat → Hp → Prop := fun i H => Same H1 H ∧ ∃ us, H D = some (.lst us) ∧ us.length = i ∧ ∀ (m : Nat) (u : V), us[m]? = some u → R m u H
  refine ⟨fun i m H => m = xs.length - i ∧ i ≤ xs.length ∧ Pv i H, ⟨xs.length, by simp, Nat.zero_le _, same_new hD _, [], upd_same, rfl, fun m u q => by simp at q⟩, ?_⟩
  rintro i m H ⟨rfl, hi, e, us, h2, h3, h4⟩
  by_cases hlt : i < xs.length
  · refine .inr ⟨⟨xs, ys, xs[i], ys[i]'(by omega), up e hx, up e hy, by simp [hlt], by simp [show i < ys.length by omega]⟩, Pv (i + 1), fun H' p' => ⟨xs.length - (i + 1), by omega, rfl, hlt, p'⟩, ?_⟩
    rintro v H' ⟨T, x, y, rfl, nT, rfl, qx, qy⟩
    refine ⟨T, [x, y], rfl, SqT.of upd_same, rfl, x, [y], rfl, y, [], rfl, rfl, hw x y, ?_⟩
    have eT := same_new nT (.tup [x, y])
    have e' := e.trans eT
    show te (((wipe σ vs).set j (some x)).set k (some y)) (upd H T (.tup [x, y])) _
    refine step i x y _ (qx xs (up e hx)) (qy ys (up e hy)) e' _ fun u H3 e3 r => ?_
    have hd := e3 _ _ (eT _ _ h2)
    refine ⟨us, hd, by omega, fun b o q => ?_, us ++ [u], upd_same, by simp [h3], fun m u' q => ?_⟩
    · rw [upd_ne (ne_of_none q hD)]
      exact e3 _ _ (e' _ _ q)
    · have eD : SameT H3 (upd H3 D (.lst (us ++ [u]))) := (SameT.refl H3).updL hd
      by_cases hm : m < us.length
      · rw [List.getElem?_append_left hm] at q
        exact mono _ _ _ _ (((Same.T eT).trans (Same.T e3)).trans eD) (h4 m u' q)
      · have : m = us.length := by
          have := (List.getElem?_eq_some_iff.mp q).1
          simp at this
          omega
        subst this
        rw [List.getElem?_append_right (Nat.le_refl _), Nat.sub_self] at q
        cases q
        rw [h3]
        exact mono _ _ _ _ eD r
  · have hi2 : i = xs.length := by omega
    exact .inl ⟨⟨xs, ys, up e hx, up e hy, .inl (by omega)⟩, done H us e h2 (by omega) h4⟩
end
end FF
/-! Fivefault, part 7: what an expression over data gives (displays of constants and names). -/
namespace FF
open PySem PySem.Spec PyProof.Rows L2
section
variable {K : PySem.W.Frag} {σ : L2.St} {H : Hp}
end
end FF
/-! Fivefault, part 8: the rules that name the written part, with K said outright (for comprehensions' blocks). -/
namespace FF
open PySem PySem.Spec PyProof.Rows L2
section
variable (K : PySem.W.Frag) {X : Cx}
theorem ix_listK (h : X.K = K := by rfl) : IxR X (rIxL K) := by subst h; exact ix_list
theorem ix_tupK (h : X.K = K := by rfl) : IxR X (rIxT K) := by subst h; exact ix_tup
theorem call_lenK (h : X.K = K := by rfl) : CallR X (.builtin "len") (fun xs H Q => ∃ x n, xs = [x] ∧ LenV K x H n ∧ Q (.int n) H) := by subst h; exact call_len
theorem call_isK {T : String} {f : PyData → Bool} (hk : ∀ d, kitB (tyN d) T = some (f d)) (h : X.K = K := by rfl) : CallR X (.builtin "isinstance") (rIsD K T f) := by subst h; exact call_isD hk
theorem op_eqK (hu : X.A.units + 64 < cLine) (h : X.K = K := by rfl) : OpR X (compareOp .Eq) (rEqD K) := by subst h; exact op_eqD hu
theorem op_neK (hu : X.A.units + 64 < cLine) (h : X.K = K := by rfl) : OpR X (compareOp .NotEq) (rNeD K) := by subst h; exact op_neD hu
theorem op_inK (hu : X.A.units + 65 < cLine) (h : X.K = K := by rfl) : OpR X (compareOp .In) (rInDs K false) := by subst h; exact op_inDs hu
theorem op_in_seqK (h : X.K = K := by rfl) : OpR X (compareOp .In) (rIn K false) := by subst h; exact op_in_seq
theorem op_notIn_seqK (h : X.K = K := by rfl) : OpR X (compareOp .NotIn) (rIn K true) := by subst h; exact op_notIn_seq
theorem sl_tupK (h : X.K = K := by rfl) : SlR X (rSlT K) := by subst h; exact sl_tup
theorem sl_listK (h : X.K = K := by rfl) : SlR X (rSlL K) := by subst h; exact sl_list
theorem call_list_ofK (h : X.K = K := by rfl) : CallR X (.type "list") (fun xs H Q => ∃ p ys, xs = [.ref p] ∧ (SqL K H p ys ∨ SqT K H p ys) ∧ ∀ l, H l = none → Q (.ref l) (upd H l (.lst ys))) := by subst h; exact call_list_of
theorem call_tuple_ofK (h : X.K = K := by rfl) : CallR X (.type "tuple") (fun xs H Q => ∃ p ys, xs = [.ref p] ∧ ((SqL K H p ys ∧ ∀ l, H l = none → Q (.ref l) (upd H l (.tup ys))) ∨ (SqT K H p ys ∧ Q (.ref p) H))) := by subst h; exact call_tuple_of
theorem cr_sumK (hc : X.calm = true) (h : X.K = K := by rfl) : CallR X (.builtin "sum") (rSum K) := by subst h; exact cr_sum hc
theorem cr_allK (hc : X.calm = true) (h : X.K = K := by rfl) : CallR X (.builtin "all") (rAll K) := by subst h; exact cr_all hc
theorem cr_anyK (hc : X.calm = true) (h : X.K = K := by rfl) : CallR X (.builtin "any") (rAny K) := by subst h; exact cr_any hc
theorem cr_sortedSK (h : X.K = K := by rfl) : CallR X (.builtin "sorted") (rSortedS K) := by subst h; exact cr_sortedS
theorem pg_tupK {es : List Expr} {k : Nat} {t : TGs} {n : Nat} {pos : Pos} (hc : X.calm = true) (h : PGs X es t) (hk : X.K = K := by rfl)
    (hn : (assignEach es X.env).length = n := by rfl) (hst : (assignEach es X.env).findIdx? (·.1) = none := by rfl) : PG X (.Tuple es k pos) (gTup K n t) := by subst hk; exact pg_tup hc h hn hst
theorem pi_listK {tg l : Expr} {tl : TE} (hl : PE X l tl) (h : X.K = K := by rfl) : PI X tg l (iList K tl) := by subst h; exact pi_list hl
theorem pi_tupK {tg l : Expr} {tl : TE} (hl : PE X l tl) (h : X.K = K := by rfl) : PI X tg l (iTup K tl) := by subst h; exact pi_tup hl
theorem pi_zipK {e e2 : Expr} {ta : TA} {p pos tpos : Pos} {elts : List Expr} {kk : Nat} (hg : Gl X "zip") (hm : X.mg "zip" = none) (ha : PA X [e, e2] ta) (h : X.K = K := by rfl)
    (hs : starEach [e, e2] X.env = (false, eval e X.env) :: starEach [e2] X.env := by rfl) (hpl : (backTo pos (starEach [e2] X.env)).any (·.1) = false := by rfl) :
    PI X (.Tuple elts kk tpos) (.Call (.Name "zip" p) [e, e2] [] pos) (RZ.iZipA K ta) := by subst h; exact RZ.pi_zipA hg hm ha hs hpl
theorem pi_enumK {e : Expr} {ta : TA} {p pos tpos : Pos} {elts : List Expr} {kk : Nat} (hg : Gl X "enumerate") (hm : X.mg "enumerate" = none) (ha : PA X [e] ta) (h : X.K = K := by rfl) (hs : starEach [e] X.env = [(false, eval e X.env)] := by rfl) :
    PI X (.Tuple elts kk tpos) (.Call (.Name "enumerate" p) [e] [] pos) (iEnum K ta) := by subst h; exact pi_enum hg hm ha hs
theorem pe_bmK {T name id : String} {r : V → List V → Hp → VK → Prop} {o e : Expr} {es : List Expr} {to : TE} {t : TA} {apos cpos : Pos} (pa : PlainAttrs T) (slot : Slot T name id) (hty : typeOf (.builtin id) = pure (.type "method_descriptor")) (hm : MtR X id r) (ho : PE X o to) (ha : PA X (e :: es) t) (h : X.K = K := by rfl)
    (hbase : attributeBase o name X.env (eval o X.env) = eval o X.env := by rfl)
    (hfew : ((backTo cpos (starEach (e :: es) X.env)).all (fun x => !x.1) && (backToKw cpos (keywordEach [] X.env)).all (fun x => x.1.isSome)
      && decide ((e :: es).length + ([] : List Keyword).length + (if ([] : List Keyword).isEmpty then 0 else 1) < 30)) = true := by rfl)
    (hline : (apos.endLine == cpos.line) = true := by rfl) (hs : starEach (e :: es) X.env = (false, eval e X.env) :: starEach es X.env := by rfl) (hplain : (backTo cpos (starEach es X.env)).any (·.1) = false := by rfl) :
    PE X (.Call (.Attribute o name apos) (e :: es) [] cpos) (tBM K T r to t) := by subst h; exact pe_bm pa slot hty hm ho ha hbase hfew hline hs hplain
end
end FF
namespace FF
open L2
theorem seq_asg {te : TE} {i : Nat} {u : TS} {D : Ends} {σ : L2.St} {H : Hp} (h : te σ H fun x H1 => u D (σ.set i (some x)) H1) : tSeq (tAsg te (gName i)) u D σ H := h
end FF
namespace FF
open PySem PySem.Spec PyProof.Rows L2
theorem fn_mk {P : Program} {w : World} {K : PySem.W.Frag} {mg : Str → Option Value} {base : Heap} {x : Str} {st : Stmt} {f : Addr} {fd : FuncData} {dvs : List V} {kws : List (Str × V)} {N ps : List Str} {k : Nat} {sp : Sp} (F : FunD K x x (defArgs st) (defBody st) (defScope st) dvs kws f fd)
    (S : FnScope N ps (defScope st)) (len : ∀ vs H Q E, sp vs H Q E → vs.length = ps.length)
    (body : ∀ (cdv : Value) (A : Around) (outer : List Env) (s : Shared) (H : Hp) (vs : List V) (Q : VK) (E : XK), Room k (A.deeper (envOfC x (defScope st) s.heap.objs.size f cdv)) → sp vs H Q E →
      ∃ t, PSs (cxOf CX0 P w K mg base N x (defScope st) f cdv A outer s H E).nox (defBody st) t ∧ t { nx := fun _ H' => Q .non H', rt := Q } (start N vs) H) : FnOk P w K mg base CX0 (k + 1) f fd ps sp :=
  FunD.ok F S len fun cdv A outer s H vs Q E hr h => let ⟨t, a, b⟩ := body cdv A outer s H vs Q E hr h; ⟨t, PSs.nox a, b⟩
end FF
namespace FF
open PySem PySem.Spec PyProof.Rows L2
/-- a <= b <= c, both answers at once -/
theorem chain_le {a b c : Int} {tc : TE} {σ : L2.St} {H : Hp} {Q : VK} (hc : ∀ Q' : VK, Q' (.int c) H → tc σ H Q') (h : Q (.bl (decide (a ≤ b) && decide (b ≤ c))) H) :
    rI0 (fun i j => .bl (decide (i ≤ j))) (.int a) (.int b) H fun z H3 => ∃ k, z = .bl k ∧ if k = true then tc σ H3 fun w H4 => rI0 (fun i j => .bl (decide (i ≤ j))) (.int b) w H4 Q else Q (.bl false) H3 := by
  refine ⟨_, _, rfl, rfl, _, rfl, ?_⟩
  refine if_dec (fun h1 => ?_) (fun h1 => ?_)
  · rw [decide_eq_true h1, Bool.true_and] at h
    exact hc _ ⟨_, _, rfl, rfl, h⟩
  · rw [decide_eq_false h1, Bool.false_and] at h
    exact h
end FF
namespace FF
open PySem PySem.Spec PyProof.Rows L2
/-- a promise that is never asked -/
theorem def_none {P : Program} {w : World} {K : PySem.W.Frag} {mg : Str → Option Value} {base : Heap} {x qual : Str} {params : Arguments} {body : List Stmt} {scope : Scope} {dvs : List V} {kws : List (Str × V)} {f : Addr} {fd : FuncData} {ps : List Str} {sp : Sp}
    (F : FunD K x qual params body scope dvs kws f fd) (hm : mg x = some (.ref f)) (hb : Binds K fd ps []) (no : ∀ vs H Q E, ¬ sp vs H Q E) : Def P w K mg base x 0 ps sp :=
  ⟨f, fd, ⟨fun vs H Q E h => absurd h (no vs H Q E), fun A outer s H args us vs Q E _ _ _ _ h => absurd h (no vs H Q E)⟩, hm, F.kp, hb⟩
end FF
/-! Fivefault, part 9: exceptions with own __init__s that call the base's; clauses with names; f(lambda: ..). -/
namespace FF
open PySem PySem.Spec PyProof.Rows L2
/-! ### C.m(self, ..), m a def of the class C -/
section
variable {X : Cx} {CX : CXT} {k : Nat} {C g : Addr} {mc : Value} {fd : FuncData} {ps : List Str} {sp : Sp} {E : XK} {x m : Str} {p1 p2 pos : Pos} {e : Expr} {es : List Expr} {t : TA}
theorem pe_clsfn {pl : Sem Bool} (hg : Gl X x) (hm : X.mg x = some (.ref C)) (r : ClX.CRead X.K C mc) (c : ClX.CVal X.K C mc m (.ref g) (.ref g)) (F : FnOk X.prog X.w X.K X.mg X.base CX k g fd ps sp) (hr : Room k X.A) (hk : PySem.W.keepIn X.K (.ref g) = true) (hb : Binds X.K fd ps []) (hx : Passes CX X E)
    (ha : PA X (e :: es) t) (hd : (x == ("__debug__" : Str)) = false := by decide)
    (hc : eval (.Call (.Attribute (.Name x p1) m p2) (e :: es) [] pos) X.env = (do
      let ov ← eval (.Name x p1) X.env
      standAt p2.atName
      let (f, first) ← holding [ov] (getMethod ov m pl)
      callWith pos f first (backTo pos (starEach (e :: es) X.env)) (backToKw pos (keywordEach [] X.env))) := by rfl)
    (he : starEach (e :: es) X.env = (false, eval e X.env) :: starEach es X.env := by rfl) (hpl : (backTo pos (starEach es X.env)).any (·.1) = false := by rfl) :
    PE X (.Call (.Attribute (.Name x p1) m p2) (e :: es) [] pos) (tCall sp [] E t) := by
  refine ⟨fun pins s σ H Q I h => ?_⟩
  refine PySem.W.methodCall_KW (pl := pl) (ld_glob I hg hm ?_ hd) hc
  refine PySem.W.method_cls I.kIn r.ga (ClX.getcval_ok I r c fun s' I' => ?_)
  refine PySem.W.callWith_K (h₀ := X.base) I.ok.mod.kin hk (thn (ha.run pos pins s' σ H _ I' h) fun us s1 ⟨vs, H1, I1, r1, q⟩ => ⟨I1.kIn, ?_⟩) he hpl
  exact run_fn F hr hb .nil hx I1 r1 q
end
/-! ### C(): an own exception without arguments -/
section
variable {X : Cx} {p pos : Pos}
theorem pmk_oex0 {CX : CXT} {x : Str} {C fI : Addr} {k : Nat} {fd : FuncData} {ps : List Str} {sp : Sp} (T : OexC X.K C) (iC : PySem.W.findIn X.K (.ref C) "__init__" = some (some (.ref fI))) (tI : PySem.W.typeIn X.K (.ref fI) = some (.type "function"))
    (F1 : FnOk X.prog X.w X.K X.mg X.base CX k fI fd ps sp) (hr : Room (k + 1) X.A) (hb : Binds X.K fd ps []) (hx : Passes CX X (fun _ _ _ => False)) (hg : Gl X x) (hm : X.mg x = some (.ref C)) (hdb : (x == ("__debug__" : Str)) = false := by decide) :
    PMk X (.Call (.Name x p) [] [] pos) (tMkO C sp [] tNil) := by
  intro pins s σ H Q I h
  obtain ⟨nm, q, N, bs, bm, sn, sub, ab, col, dd, k0, k1, k2, k3, k5, hC, hbm⟩ := T.cls
  refine wpAny_Call_Name_kw (ld_glob I hg hm ?_ hdb)
  refine PySem.W.callWith_K0 (first := []) I.kIn T.kC ?_
  obtain ⟨hz, q1⟩ := h
  show wpAny _ _ (call (.ref C) []) _ _ _
  obtain ⟨hp, g, dr, tk, os⟩ := s
  have hsz : hp.objs.size ≤ hp.objs.size + 1 := Nat.le_succ _
  have hn : H (hp.objs.size + 1) = none := I.hok.fresh hsz
  have hq := q1 (hp.objs.size + 1) hn
  have kk : ∀ b o, hp.get? b = some o → ((hp.push (PySem.W.kdv_tup [])).push (PySem.HandSPX.excO C hp.objs.size)).get? b = some o := fun b o e => Heap.get?_push_of_some _ (Heap.get?_push_of_some _ e)
  have hget : ((hp.push (PySem.W.kdv_tup [])).push (PySem.HandSPX.excO C hp.objs.size)).get? (hp.objs.size + 1) = some (PySem.HandSPX.excO C hp.objs.size) := by heap_get
  have I2 : Inv X pins σ (upd H (hp.objs.size + 1) (exo (hp.objs.size + 1) C none)) ⟨(hp.push (PySem.W.kdv_tup [])).push (PySem.HandSPX.excO C hp.objs.size), g, dr, tk, os⟩ :=
    I.laid (t' := tk) (a := hp.objs.size + 1) (o := exo (hp.objs.size + 1) C none) (h' := (hp.push (PySem.W.kdv_tup [])).push (PySem.HandSPX.excO C hp.objs.size)) kk hsz (exo_ok hget)
  have r2 : Vals [V.ref (hp.objs.size + 1)] [Value.ref (hp.objs.size + 1)] := .cons rfl .nil
  have hl : ([Value.ref (hp.objs.size + 1)] ++ ([] : List Value)).length = ps.length := by
    have e := F1.len _ _ _ _ hq
    show 1 = ps.length
    exact e
  refine wpAny_call (PySem.HandSPX.call_own F.excBase_ValueError (fun Y => PySem.HandSPX.refsVE_contains Y bm hbm) (I.kIn _ _ hC) (PySem.W.looks_findIn I.kIn iC) (fun self => PySem.W.bind_fn I.kIn self tI) (Nat.zero_le _)
    (codeAny_mono (F1.run _ X.stack _ _ ⟨[Value.ref (hp.objs.size + 1)], []⟩ [Value.ref (hp.objs.size + 1)] _ _ (fun _ _ _ => False) (hr.make C [] []) (I2.env0.make C [] []) (hb _ [Value.ref (hp.objs.size + 1)] I2.kIn hl) r2 hq) fun r s' hq' => ?_))
  cases r with
  | error er => exact hx pins σ _ _ er s' I2 hq'
  | ok fl =>
    cases fl with
    | ret u =>
      obtain ⟨v, H2, os2, bare2, un2, hok2, rv, ev, d, fs, ea, ed, hd1, q2⟩ := hq'
      subst ev
      obtain ⟨h2, g2, d2, t2, os'⟩ := s'
      exact ⟨rv, mk_end (raises_own T.exC T.tyC) I hsz kk un2 hok2 os2 bare2 ea ed hd1 q2⟩
    | next => exact False.elim hq'
    | brk => exact False.elim hq'
    | cont => exact False.elim hq'
end
/-! ### try .. except A as e: .. except B as e: .. -/
abbrev asEnds (i : Nat) (D : Ends) : Ends := { nx := fun σ' H' => D.nx (σ'.set i none) H', rt := D.rt, bk := fun σ' H' => D.bk (σ'.set i none) H', ct := fun σ' H' => D.ct (σ'.set i none) H' }
inductive HdsA (X : Cx) (n : Str) : List ExceptHandler → List (Value × (Addr → Value → Option Addr → TS)) → Prop
  | nil : HdsA X n [] []
  | cons {x : Str} {c : Value} {ts : Addr → Value → Option Addr → TS} {b₀ : Stmt} {suite : List Stmt} {np pos' : Pos} {hds : List ExceptHandler} {l : List (Value × (Addr → Value → Option Addr → TS))} (hc : Names X x c)
      (hsu : ∀ (a : Addr) (oe : Obj) (cls : Value) (d : Option Addr) (pn : List (Addr × Obj)), Zc cls d oe → (∃ vs, oe.data = .fields vs) → PSs (X.suite a ((a, oe) :: pn)) (b₀ :: suite) (ts a cls d)) (r : HdsA X n hds l) :
      HdsA X n (.ExceptHandler (some (.Name x np)) (some n) (b₀ :: suite) pos' :: hds) ((c, ts) :: l)
section
variable {X : Cx} {n : Str} {i : Nat} {body : List Stmt} {h₀ : ExceptHandler} {hds : List ExceptHandler} {l : List (Value × (Addr → Value → Option Addr → TS))} {pos : Pos} {tb : WX → TS} {Wout : WX}
end
end FF
/-! Fivefault, part 10: own exceptions told of, defs that raise, f(lambda: ..) caught by clauses. -/
namespace FF
open PySem PySem.Spec PyProof.Rows L2
/-! ### what the written part says of an own class of exceptions, by a Bool -/
def oexB (K : PySem.W.Frag) (C : Addr) : Bool := match K.lookup C with
  | some ⟨.type "type", _, .cls cd, sl⟩ => (match cd.mro, sl.toList with
    | .ref C' :: bm, [_, _, _, _, some (.builtin n), _] => C' == C && n == "ValueError.__new__" && !cd.hasDel && cd.hasDict && PySem.HandSPX.refsVE bm
    | _, _ => false)
  | _ => false
theorem oexB_ok {K : PySem.W.Frag} {C : Addr} (q : oexB K C = true) : ∃ nm q N bs bm sn sub ab col dd k0 k1 k2 k3 k5, K.lookup C = some (excClassObj nm q C N bs bm true sn sub ab col dd k0 k1 k2 k3 k5 "ValueError.__new__") ∧ PySem.HandSPX.refsVE bm = true := by
  unfold oexB at q
  split at q
  · rename_i dd cd sl ho
    split at q
    · rename_i C' bm k0 k1 k2 k3 n k5 hm hs
      simp only [Bool.and_eq_true, beq_iff_eq, Bool.not_eq_true'] at q
      obtain ⟨⟨⟨⟨rfl, rfl⟩, hdel⟩, hdict⟩, ht⟩ := q
      obtain ⟨nm, bs, mro, ns, qn, hd, sn, sub, ab, col, del⟩ := cd
      dsimp only at hm hdel hdict
      subst hm hdel hdict
      have hsl : sl = #[k0, k1, k2, k3, some (.builtin "ValueError.__new__"), k5] := by
        obtain ⟨l⟩ := sl
        simp only at hs
        rw [hs]
      subst hsl
      exact ⟨nm, qn, ns, bs, bm, sn, sub, ab, col, dd, k0, k1, k2, k3, k5, ho, ht⟩
    · cases q
  · cases q
/-- an own class C of exceptions: raised, caught, its code read -/
structure OwnC (K : PySem.W.Frag) (C : Addr) : Prop where
  o : OexC K C
  xf : XfC K C
  noc : PySem.W.findIn K (.ref C) "code" = some none
def ownCB (K : PySem.W.Frag) (C : Addr) : Bool := oexB K C && (He.eqO (PySem.W.findIn K (.ref C) "__setattr__") (some (some (.builtin "object.__setattr__"))) && (decide (PySem.W.subIn K (.ref C) (.type "BaseException") = some true) && (decide (PySem.W.typeIn K (.ref C) = some (.type "type")) &&
  (PySem.W.keepIn K (.ref C) && (xfB K C && He.eqO (PySem.W.findIn K (.ref C) "code") (some none))))))
theorem ownCB_ok {K : PySem.W.Frag} {C : Addr} (h : ownCB K C = true) : OwnC K C := by
  obtain ⟨h1, h⟩ := He.ba h
  obtain ⟨h2, h⟩ := He.ba h
  obtain ⟨h3, h⟩ := He.ba h
  obtain ⟨h4, h⟩ := He.ba h
  obtain ⟨h5, h⟩ := He.ba h
  obtain ⟨h6, h7⟩ := He.ba h
  exact ⟨⟨oexB_ok h1, He.eqO_ok h2, of_decide_eq_true h3, of_decide_eq_true h4, h5⟩, xfB_ok h6, He.eqO_ok h7⟩
/-- the class x: an own class whose own __init__ is a def; caught as y -/
structure OwnX (K : PySem.W.Frag) (x y : Str) : Prop where
  c : OwnC K (He.ga K x)
  ini : PySem.W.findIn K (.ref (He.ga K x)) "__init__" = some (some (.ref (He.ma K (He.ga K x) "__init__")))
  tyI : PySem.W.typeIn K (.ref (He.ma K (He.ga K x) "__init__")) = some (.type "function")
  exm : PySem.W.exmOne K (.ref (He.ga K x)) (.ref (He.ga K y)) = some true
def ownXB (K : PySem.W.Frag) (x y : Str) : Bool := ownCB K (He.ga K x) && (He.eqO (PySem.W.findIn K (.ref (He.ga K x)) "__init__") (some (some (.ref (He.ma K (He.ga K x) "__init__")))) && (decide (PySem.W.typeIn K (.ref (He.ma K (He.ga K x) "__init__")) = some (.type "function")) &&
  decide (PySem.W.exmOne K (.ref (He.ga K x)) (.ref (He.ga K y)) = some true)))
theorem ownXB_ok {K : PySem.W.Frag} {x y : Str} (h : ownXB K x y = true) : OwnX K x y := by
  obtain ⟨h1, h⟩ := He.ba h
  obtain ⟨h2, h⟩ := He.ba h
  obtain ⟨h3, h4⟩ := He.ba h
  exact ⟨ownCB_ok h1, He.eqO_ok h2, of_decide_eq_true h3, of_decide_eq_true h4⟩
/-- x.__init__ read from the class x; ValueError.__init__ -/
structure FeC (K : PySem.W.Frag) (x : Str) : Prop where
  rd : ClX.CRead K (He.ga K x) (.type "type")
  at_ : PySem.W.findCls K (.ref (He.ga K x)) (.type "type") "__init__" = some (.val (.ref (He.ma K (He.ga K x) "__init__")))
  kp : PySem.W.keepIn K (.ref (He.ma K (He.ga K x) "__init__")) = true
  ve : PySem.W.findCls K (.type "ValueError") (.type "type") "__init__" = some (.val (.builtin "ValueError.__init__"))
def fcl (o : Option PySem.W.CFound) (v : Value) : Bool := match o with
  | some (.val u) => decide (u = v)
  | _ => false
theorem fcl_ok {o : Option PySem.W.CFound} {v : Value} (h : fcl o v = true) : o = some (.val v) := by
  cases o with
  | none => cases h
  | some f =>
    cases f with
    | val u => rw [of_decide_eq_true (show decide (u = v) = true from h)]
    | _ => cases h
def feCB (K : PySem.W.Frag) (x : Str) : Bool := PySem.W.readsIn K (He.ga K x) (.type "type") && (He.eqO (PySem.W.specialIn K (.ref (He.ga K x)) "__getattribute__") (some (some (.builtin "type.__getattribute__"))) && (fcl (PySem.W.findCls K (.ref (He.ga K x)) (.type "type") "__init__") (.ref (He.ma K (He.ga K x) "__init__")) &&
  (PySem.W.keepIn K (.ref (He.ma K (He.ga K x) "__init__")) && fcl (PySem.W.findCls K (.type "ValueError") (.type "type") "__init__") (.builtin "ValueError.__init__"))))
theorem feCB_ok {K : PySem.W.Frag} {x : Str} (h : feCB K x = true) : FeC K x := by
  obtain ⟨h1, h⟩ := He.ba h
  obtain ⟨h2, h⟩ := He.ba h
  obtain ⟨h3, h⟩ := He.ba h
  obtain ⟨h4, h5⟩ := He.ba h
  exact ⟨⟨h1, He.eqO_ok h2⟩, fcl_ok h3, h4, fcl_ok h5⟩
/-! ### the __init__s -/
def spFE (K : PySem.W.Frag) : Sp := fun vs H Q _ => ∃ (a C : Addr) (z : V), vs = [.ref a, z] ∧ OexC K C ∧ PySem.W.findIn K (.ref C) "code" = some none ∧ H a = some (exo a C none) ∧
  ∀ dx, H dx = none → dx ≠ a → Q .non (upd (upd H dx (exd dx [("code", z)])) a (exo a C (some dx)))
def spIni (K : PySem.W.Frag) (z : Str) : Sp := fun vs H Q _ => ∃ (a C : Addr), vs = [.ref a] ∧ OexC K C ∧ PySem.W.findIn K (.ref C) "code" = some none ∧ H a = some (exo a C none) ∧
  ∀ dx, H dx = none → dx ≠ a → Q .non (upd (upd H dx (exd dx [("code", .str z)])) a (exo a C (some dx)))
/-- an exception in the air: its dict d, its code z -/
def Thr (z : Str) (d : Option Addr) (H : Hp) : Prop := ∃ (dd : Addr) (fs : List (Str × V)), d = some dd ∧ H dd = some (.xd fs) ∧ fs.lookup ("code" : Str) = some (V.str z)
/-- the class x raised: x() makes an exception with the code z -/
structure RaiseD (P : Program) (w : World) (K : PySem.W.Frag) (mg : Str → Option Value) (base : Heap) (x y : Str) (k : Nat) (z : Str) : Prop where
  own : OwnX K x y
  hm : mg x = some (.ref (He.ga K x))
  ini : ∃ fd, FnOk P w K mg base CX0 k (He.ma K (He.ga K x) "__init__") fd ["self"] (spIni K z) ∧ Binds K fd ["self"] []
def tOwn (K : PySem.W.Frag) (x z : Str) : L2.St → Hp → XK → Prop := fun _ H Q => ∀ d H', Same H H' → Thr z d H' → Q (.ref (He.ga K x)) d H'
theorem pmk_imp {X : Cx} {e : Expr} {t t' : L2.St → Hp → XK → Prop} (h : PMk X e t) (i : ∀ σ H Q, t' σ H Q → t σ H Q) : PMk X e t' := fun pins s σ H Q I q => h pins s σ H Q I (i _ _ _ q)
theorem pmk_raise {X : Cx} {x y z : Str} {k j : Nat} {p pos : Pos} (D : RaiseD X.prog X.w X.K X.mg X.base x y k z) (hr : Room j X.A) (hkj : k + 1 ≤ j) (hg : Gl X x := by rfl) (hdb : (x == ("__debug__" : Str)) = false := by decide) : PMk X (.Call (.Name x p) [] [] pos) (tOwn X.K x z) := by
  obtain ⟨fd, F, hb⟩ := D.ini
  refine pmk_imp (pmk_oex0 D.own.c.o D.own.ini D.own.tyI F (hr.mono hkj) hb pass0 hg D.hm hdb) fun σ H Q q => ?_
  refine ⟨by simp [sizeLine], fun a ha => ⟨a, He.ga X.K x, rfl, D.own.c.o, D.own.c.noc, upd_same, fun dx hdx hne => ⟨rfl, dx, [("code", .str z)], upd_same, ?_, ?_, ?_⟩⟩⟩
  · rw [upd_ne hne, upd_same]
  · rwa [upd_ne hne] at hdx
  · have hdx2 : H dx = none := by rwa [upd_ne hne] at hdx
    refine q _ _ (fun b u hb => ?_) ⟨dx, _, rfl, upd_same, rfl⟩
    have b1 : b ≠ dx := ne_of_none hb hdx2
    have b2 : b ≠ a := ne_of_none hb ha
    rw [upd_ne b1, del_ne b2, upd_ne b2, upd_ne b1, upd_ne b2]
    exact hb
/-! ### defs that may raise -/
structure DefX (P : Program) (w : World) (K : PySem.W.Frag) (mg : Str → Option Value) (base : Heap) (x : Str) (k : Nat) (ps : List Str) (sp : Sp) : Prop where
  ex : ∃ (f : Addr) (fd : FuncData), FnOk P w K mg base (L2.CX P w) k f fd ps sp ∧ mg x = some (.ref f) ∧ PySem.W.keepIn K (.ref f) = true ∧ Binds K fd ps []
theorem DefX.mono {P : Program} {w : World} {K : PySem.W.Frag} {mg : Str → Option Value} {base : Heap} {x : Str} {j k : Nat} {ps : List Str} {sp : Sp} (D : DefX P w K mg base x j ps sp) (h : j ≤ k) : DefX P w K mg base x k ps sp := by
  obtain ⟨f, fd, F, r⟩ := D.ex
  exact ⟨f, fd, F.mono h, r⟩
/-- called where an exception is taken -/
theorem pe_defx {X : Cx} {W : WX} {E : XK} {x : Str} {k j : Nat} {ps : List Str} {sp : Sp} {e : Expr} {es : List Expr} {p pos : Pos} {t : TA} (D : DefX X.prog X.w X.K X.mg X.base x k ps sp) (tk : Takes X W) (hW : ∀ cls d σ' H', E cls d H' → W cls d σ' H') (hr : Room j X.A) (hkj : k ≤ j) (ha : PA X (e :: es) t)
    (hg : Gl X x := by rfl) (hdb : (x == ("__debug__" : Str)) = false := by decide) (he : starEach (e :: es) X.env = (false, eval e X.env) :: starEach es X.env := by rfl) (hpl : (backTo pos (starEach es X.env)).any (·.1) = false := by rfl) :
    PE X (.Call (.Name x p) (e :: es) [] pos) (tCall sp [] E t) := by
  obtain ⟨f, fd, F, hm, hk, hb⟩ := D.ex
  exact pe_call F (hr.mono hkj) hg hm hk hb .nil (passes_call tk hW) ha hdb he hpl
theorem passN {X : Cx} : Passes (L2.CX X.prog X.w) X (fun _ _ _ => False) := fun _ _ _ _ _ _ _ h => by
  obtain ⟨_, _, _, _, _, _, _, _, _, _, _, _, z⟩ := h
  exact z.elim
/-- called where none comes -/
theorem pe_defN {X : Cx} {x : Str} {k j : Nat} {ps : List Str} {sp : Sp} {e : Expr} {es : List Expr} {p pos : Pos} {t : TA} (D : DefX X.prog X.w X.K X.mg X.base x k ps sp) (hr : Room j X.A) (hkj : k ≤ j) (ha : PA X (e :: es) t)
    (hg : Gl X x := by rfl) (hdb : (x == ("__debug__" : Str)) = false := by decide) (he : starEach (e :: es) X.env = (false, eval e X.env) :: starEach es X.env := by rfl) (hpl : (backTo pos (starEach es X.env)).any (·.1) = false := by rfl) :
    PE X (.Call (.Name x p) (e :: es) [] pos) (tCall sp [] (fun _ _ _ => False) t) := by
  obtain ⟨f, fd, F, hm, hk, hb⟩ := D.ex
  exact pe_call F (hr.mono hkj) hg hm hk hb .nil passN ha hdb he hpl
theorem defx_mk {P : Program} {w : World} {K : PySem.W.Frag} {mg : Str → Option Value} {base : Heap} {x : Str} {st : Stmt} {f : Addr} {fd : FuncData} {dvs : List V} {kws : List (Str × V)} {N ps : List Str} {k : Nat} {sp : Sp} (F : FunD K x x (defArgs st) (defBody st) (defScope st) dvs kws f fd) (hm : mg x = some (.ref f)) (hb : Binds K fd ps [])
    (S : FnScope N ps (defScope st)) (len : ∀ vs H Q E, sp vs H Q E → vs.length = ps.length)
    (body : ∀ (cdv : Value) (A : Around) (outer : List Env) (s : Shared) (H : Hp) (vs : List V) (Q : VK) (E : XK), Room k (A.deeper (envOfC x (defScope st) s.heap.objs.size f cdv)) → sp vs H Q E →
      (Takes (cxOf (L2.CX P w) P w K mg base N x (defScope st) f cdv A outer s H E) fun cls d _ H => E cls d H) →
      ∃ t, PSs (cxOf (L2.CX P w) P w K mg base N x (defScope st) f cdv A outer s H E) (defBody st) t ∧ t { nx := fun _ H' => Q .non H', rt := Q } (start N vs) H) : DefX P w K mg base x (k + 1) ps sp :=
  ⟨f, fd, FunD.ok F S len (fun cdv A outer s H vs Q E hr h => body cdv A outer s H vs Q E hr h (takes_of rfl rfl rfl rfl)), hm, F.kp, hb⟩
/-! ### _law_call -/
end FF
/-! Fivefault, part 11: f(lambda: ..), the promise of an exception told of the slots at the call. -/
namespace FF
open PySem PySem.Spec PyProof.Rows L2 LamX
section
variable {X : Cx} {pins : List (Addr × Obj)} {σ : L2.St} {H HZ : Hp} {s s1 : Shared}
theorem pe_actS {CXg : CXT} {Eg : XK} {Ng : List Str} {qg : Str} {sg : Scope} {g f c' : Addr} {cdg pm ctv : Value} {params : Arguments} {body : Expr} {scope : Scope} {k i : Nat} {a : Str} {pn : List (Addr × Obj)} {xe : Value → Shared → Prop} {W : WX} {tb : XK → TE} {p1 p2 : Pos}
    (I : Inv X pins σ H s) (L : LamS X.env.scope scope) (hf : s.heap.get? f = some (PySem.W.kla_obj "<lambda>" (X.env.qual ++ "<lambda>") params body scope (cloFrom X.env.cells scope.names []) pm c' ctv)) (hfn : H f = none) (hfr : f ∉ frs X.stack)
    (hbind : bindArgs (PySem.W.kla_fn "<lambda>" (X.env.qual ++ "<lambda>") params body scope (cloFrom X.env.cells scope.names []) pm (.ref c') ctv) ⟨[], []⟩ = pure [])
    (tk : Takes ((cxOf CXg X.prog X.w X.K X.mg X.base Ng qg sg g cdg X.A X.stack s H Eg).tr pn xe) W) (hr : Room (k + 1) (X.A.deeper (envOfC qg sg s.heap.objs.size g cdg)))
    (hbody : ∀ (A : Around) (outer : List Env) (s : Shared) (H : Hp) (E : XK), Room k (A.deeper (lamEnv X scope s.heap.objs.size f c')) → PE (lamCx X A outer s H E scope f c') body (tb E))
    (hN : Ng[i]? = some a) (hv : Vis sg a) (hd : (a == ("__debug__" : Str)) = false := by decide) (hcd : (a == ("__classdict__" : Str)) = false := by decide) :
    PE ((cxOf CXg X.prog X.w X.K X.mg X.base Ng qg sg g cdg X.A X.stack s H Eg).tr pn xe) (.Call (.Name a p1) [] [] p2)
      (fun σZ HZ Q => σZ[i]? = some (some (.ref f)) ∧ HZ c' = some (CodeO c' (X.env.qual ++ "<lambda>")) ∧ ∃ E : XK, (∀ cls d H', E cls d H' → W cls d σZ H') ∧ tb E σ HZ Q) := by
  refine ⟨fun pinsZ sZ σZ HZ Q IZ h => ?_⟩
  obtain ⟨hs, hc, E, hW, ht⟩ := h
  refine wpAny_Call_Name_kw (thn ((pe_var (pos := p1) (i := i) hN hv hd hcd).run pinsZ sZ σZ HZ (fun v H1 => v = .ref f ∧ H1 = HZ) IZ ⟨.ref f, hs, rfl, rfl⟩) fun u s1 ⟨v, H1, I1, r1, q1⟩ => ?_)
  obtain ⟨ev, eH⟩ := q1
  subst ev
  rw [eH] at I1
  obtain rfl : u = Value.ref f := r1
  have of1 := I1.base.keep f _ hf hfn hfr (fun z => nomatch (show f ∈ ([] : List Addr) from z))
  refine PySem.W.callWith_F0 ⟨_, _, _, _, of1⟩ ?_
  have un : Un (frs X.stack) [] H HZ s.heap s1.heap := I1.base
  obtain ⟨⟨oc, vs, t, hoc, hdc, hvc⟩, _, _⟩ := I1.hok c' _ hc
  have rc : codeAny (model X.prog X.w) (X.A.deeper (envOfC qg sg s.heap.objs.size g cdg)) (.call (.ref f) ⟨[], []⟩) (CR (L2.CX X.prog X.w) (envOfC qg sg s.heap.objs.size g cdg :: X.stack) X.prog X.w HZ s1 Q E) s1 := by
    refine PySem.W.kla_callFunE hr.depth of1 rfl L.co L.gen rfl ⟨c', oc, vs, t, rfl, hoc, hdc, hvc⟩ ?_
    rw [hbind]
    refine wpAny_pure (wpAny_newFunctionEnv (fun y hy => (L.own y hy).2) (fun y hy => absurd hy (by simp)) (fun h₁ hns hsb => ⟨I1.nolimit.fresh _ hsb, ?_⟩) L.kind)
    show codeAny _ _ (.expr body (lamEnv X scope s1.heap.objs.size f c')) _ _
    have kp : ∀ b o, s1.heap.get? b = some o → h₁.get? b = some o := fun b o e => hsb.extBut b o (Nat.ne_of_lt (Heap.lt_size e)) (Heap.get?_push_of_some _ e)
    have J := lam_start2 (f := f) (c' := c') (E := E) (tk := s1.toks + ([] : List (Str × Value)).length) I L I1.env0 hr.hd un hns kp
    refine PySem.W.kla_codeExpr (wpAny_mono ((hbody _ _ s1 HZ E (hr.deeper _)).run [] _ _ HZ Q J ht) (fun v s' hq => ?_) fun e s' hq => hq)
    obtain ⟨w', H', J', rv, q⟩ := hq
    exact ⟨w', H', J'.os, J'.bare, J'.base, J'.hok, rv, q⟩
  refine wpAny_call (codeAny_mono rc fun r s' hq => ?_)
  cases r with
  | error e => exact tk e s' (XE.of_call I1 (fun cls d H' h => hW cls d H' h) hq)
  | ok fl =>
    cases fl with
    | ret u => exact I1.after hq
    | next => exact False.elim hq
    | brk => exact False.elim hq
    | cont => exact False.elim hq
end
/-- the def that calls what it got -/
def GivesS (X : Cx) (Ng : List Str) (x : Str) (sg : Scope) (g : Addr) (cdg : Value) (bg : List Stmt) (a : Str) (q : Str) (TT : (XK → Hp → VK → Prop) → Hp → VK → Prop) : Prop :=
  ∀ (f c' : Addr) (s : Shared) (H : Hp) (Q : VK) (tl : XK → Hp → VK → Prop),
    (∀ (W : WX) (pn : List (Addr × Obj)) (xe : Value → Shared → Prop) (p1 p2 : Pos), Takes ((cxOf C8.CX0 X.prog X.w X.K X.mg X.base Ng x sg g cdg X.A X.stack s H C8.E0).tr pn xe) W →
      PE ((cxOf C8.CX0 X.prog X.w X.K X.mg X.base Ng x sg g cdg X.A X.stack s H C8.E0).tr pn xe) (.Call (.Name a p1) [] [] p2) (fun σZ HZ Q => σZ[0]? = some (some (.ref f)) ∧ HZ c' = some (CodeO c' q) ∧ ∃ E : XK, (∀ cls d H', E cls d H' → W cls d σZ H') ∧ tl E HZ Q)) →
    H c' = some (CodeO c' q) → TT tl H Q →
    ∃ t, PSs (cxOf C8.CX0 X.prog X.w X.K X.mg X.base Ng x sg g cdg X.A X.stack s H C8.E0).nox bg t ∧ t { nx := fun _ H' => Q .non H', rt := Q } (L2.start Ng [.ref f]) H
/-- x(lambda: body), x a def of the top -/
theorem pe_lamS {X : Cx} {T : List (Addr × Str)} {TT : (XK → Hp → VK → Prop) → Hp → VK → Prop} {x a : Str} {g c P : Addr} {k : Nat} {st : Stmt} {fd : FuncData} {Ng : List Str} {params : Arguments} {body : Expr} {scope : Scope} {t : XK → TE} {p lpos pos : Pos}
    (hg : Gl X x) (hm : X.mg x = some (.ref g)) (F : FunD X.K x x (defArgs st) (defBody st) (defScope st) [] [] g fd) (hb : L2.Binds X.K fd [a] []) (Sg : FnScope Ng [a] (defScope st)) (hNg : Ng[0]? = some a) (hva : Vis (defScope st) a)
    (hG : ∀ cdg, GivesS X Ng x (defScope st) g cdg (defBody st) a (X.env.qual ++ "<lambda>") TT)
    (TB : TabB X.base X.mg c P) (hcode : X.env.code = .ref c) (hT : T = [(P, X.env.qual ++ "<lambda>")]) (hr : Room (k + 2) X.A) (L : LamS X.env.scope scope) (hdef : defaultsOf params X.env = ([], []))
    (hbind : ∀ (q : Str) (cl : List (Str × Addr)) (pm cv ctv : Value), bindArgs (PySem.W.kla_fn "<lambda>" q params body scope cl pm cv ctv) ⟨[], []⟩ = pure [])
    (hbody : ∀ (A : Around) (outer : List Env) (s : Shared) (H : Hp) (E : XK) (f c' : Addr), Room k (A.deeper (lamEnv X scope s.heap.objs.size f c')) → PE (lamCx X A outer s H E scope f c') body (t E))
    (hdb : (x == ("__debug__" : Str)) = false := by decide) (hd : (a == ("__debug__" : Str)) = false := by decide) (hcd : (a == ("__classdict__" : Str)) = false := by decide) :
    PE X (.Call (.Name x p) [.Lambda params body scope lpos] [] pos) (tLam T TT t) := by
  obtain ⟨oc, od, dV, kV, doc, pm, an, cdv, ct, osl, rfl, lk, hcg, _, _⟩ := F.ex
  refine ⟨fun pins s σ H Q I h => ?_⟩
  obtain ⟨hTs, h⟩ := h
  refine wpAny_Call_Name_kw (ld_glob I hg hm ?_ hdb)
  refine PySem.W.callWith_K (h₀ := X.base) I.ok.mod.kin F.kp ?_ (by rfl) (by rfl)
  show wpAny _ _ (spliced ((false, eval (.Lambda params body scope lpos) X.env) :: backTo pos (starEach [] X.env))) _ _ s
  have hmT : (P, X.env.qual ++ "<lambda>") ∈ T := by rw [hT]; exact List.mem_singleton.mpr rfl
  have hu : ∀ p ∈ T, p.1 = P → p.2 = X.env.qual ++ "<lambda>" := fun p hp _ => by rw [hT] at hp; rw [List.mem_singleton.mp hp]
  refine Calls.spliced_cons (lam_make2 I TB hcode hmT hu hTs hdef (L.has I.ok) fun f c' pm' ctv H1 s' I1 eN T1 hf hfn hfr hco => ?_)
  refine Calls.spliced_nil ⟨I1.kIn, ?_⟩
  have rc : codeAny (model X.prog X.w) X.A (.call (.ref g) ⟨[.ref f], []⟩) (CR C8.CX0 X.stack X.prog X.w H1 s' Q C8.E0) s' := by
    refine run_ofS (N := Ng) (ps := [a]) (us := [.ref f]) (vs := [.ref f]) lk hcg Sg hr I1.env0 (hb s' [.ref f] I1.kIn rfl) (.cons rfl .nil) rfl fun hr' => ?_
    obtain ⟨t', ht', hq'⟩ := hG cdv f c' s' H1 Q (fun E H' Q' => t E σ H' Q') (fun W pn xe p1 p2 tk => pe_actS (i := 0) I1 L hf hfn hfr (hbind _ _ _ _ _) tk hr' (fun A outer s H E hr2 => hbody A outer s H E f c' hr2) hNg hva hd hcd) hco (h H1 eN T1)
    exact ⟨t', ht'.nox, hq'⟩
  refine wpAny_call (codeAny_mono rc fun r s2 hq => ?_)
  cases r with
  | error e => exact (show False from hq).elim
  | ok fl =>
    cases fl with
    | ret u => exact I1.after hq
    | next => exact False.elim hq
    | brk => exact False.elim hq
    | cont => exact False.elim hq
/-- a def told with its code object -/
theorem fn_mkC {P : Program} {w : World} {K : PySem.W.Frag} {mg : Str → Option Value} {base : Heap} {x : Str} {st : Stmt} {fd : FuncData} {dvs : List V} {kws : List (Str × V)} {N ps : List Str} {k : Nat} {sp : Sp} {p : He.Defn} (F : FunD K x x (defArgs st) (defBody st) (defScope st) dvs kws (He.fAd K p) fd)
    (S : FnScope N ps (defScope st)) (len : ∀ vs H Q E, sp vs H Q E → vs.length = ps.length)
    (body : ∀ (cdv : Value) (A : Around) (outer : List Env) (s : Shared) (H : Hp) (vs : List V) (Q : VK) (E : XK), cdv = .ref (He.codeOf K p) → Room k (A.deeper (envOfC x (defScope st) s.heap.objs.size (He.fAd K p) cdv)) → sp vs H Q E →
      ∃ t, PSs (cxOf CX0 P w K mg base N x (defScope st) (He.fAd K p) cdv A outer s H E).nox (defBody st) t ∧ t { nx := fun _ H' => Q .non H', rt := Q } (start N vs) H) : FnOk P w K mg base CX0 (k + 1) (He.fAd K p) fd ps sp := by
  obtain ⟨oc, od, dV, kV, doc, pm, an, cdv, ct, osl, rfl, lk, hcd, _, _⟩ := F.ex
  obtain ⟨c, ec⟩ := He.codeIn_ref hcd
  have e : cdv = .ref (He.codeOf K p) := by rw [ec, He.codeOf_eq lk (show (PySem.W.fnOf x x (defArgs st) (defBody st) (defScope st) dV kV doc pm an cdv ct).code = .ref c from ec)]
  exact fn_of lk hcd S len fun A outer s H vs Q E hr hsp => let ⟨t, a, b⟩ := body cdv A outer s H vs Q E e hr hsp; ⟨t, PSs.nox a, b⟩
/-! ### heaps in which all but the tables stay -/
end FF
/-! Fivefault, part 12: defs with *v alone. -/
namespace FF
open PySem PySem.Spec PyProof.Rows L2 StX
structure DefS (P : Program) (w : World) (K : PySem.W.Frag) (mg : Str → Option Value) (base : Heap) (x : Str) (k : Nat) (sp : Sp) : Prop where
  ex : ∃ f : Addr, FnR P w K mg base (L2.CX P w) k f sp ∧ mg x = some (.ref f) ∧ PySem.W.keepIn K (.ref f) = true
section
variable {X : Cx} {W : WX} {E : XK} {x : Str} {k j : Nat} {sp : Sp} {e : Expr} {es : List Expr} {p pos : Pos} {t : TA}
end
/-- a reading with a wish that is stronger -/
theorem pe_mono {X : Cx} {e : Expr} {t : TE} (h : PE X e t) : PE X e (fun σ H Q => ∃ Q' : VK, (∀ v H', Q' v H' → Q v H') ∧ t σ H Q') :=
  ⟨fun pins s σ H Q I ⟨Q', hq, ht⟩ => thn (h.run pins s σ H Q' I ht) fun u s1 ⟨v, H1, I1, r, q⟩ => ⟨v, H1, I1, r, hq v H1 q⟩⟩
theorem lam_by {X : Cx} {scope : Scope} (st : Stmt) (h : X.env.scope = defScope st) (hb : LamX.lamSB (defScope st) scope = true) : LamX.LamS X.env.scope scope := by
  rw [h]
  exact LamX.lamS_by hb
end FF
/-! Fivefault, part 13: a list that stands aside during a call. -/
namespace FF
open PySem PySem.Spec PyProof.Rows L2
section
variable {P : Program} {w : World} {K : PySem.W.Frag} {mg : Str → Option Value} {base : Heap}
end
theorem hid_lst {good : List V → Prop} {a : Addr} {xs : List V} : hid good a ≠ .lst xs := fun z => by unfold hid at z; cases z
/-- all but the object at a stays -/
def SameB (a : Addr) (H H' : Hp) : Prop := ∀ b u, b ≠ a → H b = some u → H' b = some u
theorem sameT_b {a : Addr} {H H' : Hp} {xs : List V} (ha : H a = some (.lst xs)) (e : SameB a H H') : SameT H H' := fun b ys h => e b _ (fun z => by rw [z, ha] at h; cases h) h
end FF
/-! Fivefault, part 14: the Hook, with the interpreter's own statics in sight. -/
namespace FF
open PySem PySem.Spec PyProof.Rows L2
def obsY (n : Nat) (fa : List He.Fa) (fn : List He.DefD) (tf : List He.Defn) (ex : PySem.W.Frag → Bool) (g : Addr → Option Obj) : He.AlX :=
  (He.obsT fa fn [] (He.frT g (He.asD g n ++ [PySem.cStatics])), ex (He.frT g (He.asD g n ++ [PySem.cStatics])) && He.tabsB g tf (He.frT g (He.asD g n ++ [PySem.cStatics])))
theorem saysY_of {fa : List He.Fa} {fn : List He.DefD} {tf : List He.Defn} {ex : PySem.W.Frag → Bool} {w : World} {h : Heap} {l : List Addr} (e : ((He.obsT fa fn [] (He.frT h.get? l), ex (He.frT h.get? l) && He.tabsB h.get? tf (He.frT h.get? l)) : He.AlX) = He.valX fn [] w) : He.SaysX fa fn [] tf ex w h (He.frT h.get? l) := by
  have e1 : He.obsT fa fn [] (He.frT h.get? l) = He.valT fn [] w := congrArg (fun z : He.AlX => z.1) e
  have e2 : (ex (He.frT h.get? l) && He.tabsB h.get? tf (He.frT h.get? l)) = true := congrArg (fun z : He.AlX => z.2) e
  obtain ⟨h1, h2⟩ := He.ba e2
  have key := fun p hp => He.ba (List.all_eq_true.mp h2 p hp)
  have tab : ∀ p ∈ tf, ∃ o, h.get? (He.cT (He.frT h.get? l) p).2 = some o ∧ He.emptyTab o = true := fun p hp => by
    have h4 := (key p hp).2
    cases q : h.get? (He.cT (He.frT h.get? l) p).2 with
    | none =>
      rw [q] at h4
      cases h4
    | some o =>
      rw [q] at h4
      exact ⟨o, rfl, h4⟩
  exact ⟨e1, h1, fun p hp => (key p hp).1, fun p hp => let ⟨_, q, z⟩ := tab p hp; He.frT_none q z, fun p hp => by
    obtain ⟨_, q, z⟩ := tab p hp
    rw [q, He.emptyTab_eq z]⟩
def hookY (n : Nat) (fa : List He.Fa) (fn : List He.DefD) (tf : List He.Defn) (ex : PySem.W.Frag → Bool) : PySem.W.Hook where
  α := He.AlX
  obs := fun s => obsY n fa fn tf ex s.heap.get?
  val := fun w => He.valX fn [] w
  says := fun w h => ∃ K : PySem.W.Frag, K.In h ∧ He.SaysX fa fn [] tf ex w h K
  of := fun _ _ e => ⟨_, He.frT_in, saysY_of e⟩
  keeps := fun _ _ _ ⟨K, hK, c⟩ k => ⟨K, PySem.W.Frag.In.keeps hK k, ⟨c.t, c.more, c.hd, c.out, fun p hp => k _ _ (c.empty p hp)⟩⟩
theorem obsY_eq {n : Nat} {fa : List He.Fa} {fn : List He.DefD} {tf : List He.Defn} {ex : PySem.W.Frag → Bool} {g : Addr → Option Obj} {s : Shared} (h : ∀ a, g a = s.heap.get? a) : obsY n fa fn tf ex g = (hookY n fa fn tf ex).obs s := by
  have e : g = s.heap.get? := funext h
  rw [e] <;> rfl
end FF
/-! Fivefault, part 15: comprehensions with a test, over a text; dicts made of pairs. -/
namespace FF
open PySem PySem.Spec PyProof.Rows L2
section
variable {K : PySem.W.Frag} {a D : Addr} {xs : List V} {tt : TT} {te : TE} {vs : List Nat} {j : Nat} {σ : L2.St} {H1 : Hp} {Qd : Hp → Prop}
theorem same_at {H H1 : Hp} {D : Addr} {o : HO} (hD : H1 D = none) (e : Same H1 H) : Same H1 (upd H D o) := fun b u hb => by
  rw [upd_ne (ne_of_none hb hD)]
  exact e _ _ hb
end
/-! ### dicts made of pairs -/
end FF
/-! Fivefault, part 16: keywords gathered in a dict (def f(a, .., **d), called with keywords). -/
namespace FF
open PySem PySem.Spec PyProof.Rows L2
section
variable {prog : Program} {w : World} {A : Around} {E : Value → Shared → Prop} {d : Addr}
end
end FF
/-! Fivefault, part 17: defs with **d, called with keywords. -/
namespace FF
open PySem PySem.Spec PyProof.Rows L2 StX
def FnKw (P : Program) (w : World) (K : PySem.W.Frag) (mg : Str → Option Value) (base : Heap) (CX : CXT) (k : Nat) (f : Addr) (n : Nat) (ks : List Str) (sp : Sp) : Prop :=
  ∀ (A : Around) (outer : List Env) (s : Shared) (H : Hp) (us ws : List Value) (vs zs : List V) (Q : VK) (E : XK), Room k A → Env0 P w K mg base A outer s H → Vals vs us → Vals zs ws → vs.length = n → zs.length = ks.length → sp (vs ++ zs) H Q E →
    codeAny (model P w) A (.call (.ref f) ⟨us, ks.zip ws⟩) (CR CX outer P w H s Q E) s
structure DefK (P : Program) (w : World) (K : PySem.W.Frag) (mg : Str → Option Value) (base : Heap) (x : Str) (k n : Nat) (ks : List Str) (sp : Sp) : Prop where
  ex : ∃ f : Addr, FnKw P w K mg base (L2.CX P w) k f n ks sp ∧ mg x = some (.ref f) ∧ PySem.W.keepIn K (.ref f) = true
end FF
/-! Fivefault, part 18: own exceptions with one field. -/
namespace FF
open PySem PySem.Spec PyProof.Rows L2
/-- C.__init__(self, y): the code z, the field f -/
def spIni1 (K : PySem.W.Frag) (z f : Str) : Sp := fun vs H Q _ => ∃ (a C : Addr) (y : V), vs = [.ref a, y] ∧ OexC K C ∧ PySem.W.findIn K (.ref C) "code" = some none ∧ PySem.W.findIn K (.ref C) f = some none ∧ H a = some (exo a C none) ∧
  ∀ dx, H dx = none → dx ≠ a → Q .non (upd (upd (upd H dx (exd dx [("code", .str z)])) a (exo a C (some dx))) dx (exd dx [(f, y), ("code", .str z)]))
structure RaiseD1 (P : Program) (w : World) (K : PySem.W.Frag) (mg : Str → Option Value) (base : Heap) (x y : Str) (k : Nat) (z f : Str) : Prop where
  own : OwnX K x y
  nof : PySem.W.findIn K (.ref (He.ga K x)) f = some none
  hm : mg x = some (.ref (He.ga K x))
  ini : ∃ fd, FnOk P w K mg base CX0 k (He.ma K (He.ga K x) "__init__") fd ["self", f] (spIni1 K z f) ∧ Binds K fd ["self", f] []
def tOwn1 (K : PySem.W.Frag) (x z f : Str) (ta : TA) : L2.St → Hp → XK → Prop := fun σ H Q => ta σ H fun vs H1 => ∃ y, vs = [y] ∧ ∀ dd H', Same H1 H' → H' dd = some (.xd [(f, y), ("code", .str z)]) → Q (.ref (He.ga K x)) (some dd) H'
theorem pmk_raise1 {X : Cx} {x y z f : Str} {k j : Nat} {e : Expr} {p pos : Pos} {ta : TA} (D : RaiseD1 X.prog X.w X.K X.mg X.base x y k z f) (hr : Room j X.A) (hkj : k + 1 ≤ j) (ha : PA X [e] ta) (hg : Gl X x := by rfl) (hdb : (x == ("__debug__" : Str)) = false := by decide)
    (he : starEach [e] X.env = (false, eval e X.env) :: starEach [] X.env := by rfl) (hpl : (backTo pos (starEach [] X.env)).any (·.1) = false := by rfl) (mono : ∀ σ H (Q Q' : List V → Hp → Prop), (∀ vs H1, Q vs H1 → Q' vs H1) → ta σ H Q → ta σ H Q') :
    PMk X (.Call (.Name x p) [e] [] pos) (tOwn1 X.K x z f ta) := by
  obtain ⟨fd, F, hb⟩ := D.ini
  refine pmk_imp (pmk_oex D.own.c.o D.own.ini D.own.tyI F (hr.mono hkj) hb .nil pass0 hg D.hm ha hdb he hpl) fun σ H Q q => ?_
  refine mono σ H _ _ (fun vs H1 ⟨y, ev, q⟩ => ?_) q
  subst ev
  refine ⟨by simp, fun a ha => ⟨a, He.ga X.K x, y, rfl, D.own.c.o, D.own.c.noc, D.nof, upd_same, fun dx hdx hne => ⟨rfl, dx, [(f, y), ("code", .str z)], ?_, upd_same, ?_, ?_⟩⟩⟩
  · rw [upd_ne (Ne.symm hne), upd_same]
  · rwa [upd_ne hne] at hdx
  · have hdx2 : H1 dx = none := by rwa [upd_ne hne] at hdx
    refine q dx _ (fun b u hb => ?_) upd_same
    have b1 : b ≠ dx := ne_of_none hb hdx2
    have b2 : b ≠ a := ne_of_none hb ha
    rw [upd_ne b1, del_ne b2, upd_ne b1, upd_ne b2, upd_ne b1, upd_ne b2]
    exact hb
end FF
/-! Fivefault, part 19: a, *b = t. -/
namespace FF
open PySem PySem.Spec PyProof.Rows L2
theorem tup_tail {prog : Program} {w : World} {A : Around} (hh : A.handled = none) (I ax : Addr) (hne : ax ≠ I) (x : Value) (items : List Value) :
    Walks prog w A I [I, ax] [I] items.length (fun i v => items[i]? = some v) (fun i h => h.IsTupleIter I ax (i + 1) ∧ h.IsTuple ax (x :: items).toArray) :=
  let W := Walks.tuple (prog := prog) (w := w) hh I ax hne (x :: items).toArray
  { sub := W.sub
    frame := fun i h h' st hk => W.frame (i + 1) h h' st hk
    item := fun i s Q E hi st hQ => W.item (i + 1) s Q E (by simpa using hi) st fun v h' tk hP st' hk => hQ v h' tk (by simpa using hP) st' hk
    done := fun s Q E st hQ => W.done s Q E (by simpa using st) hQ
    self := fun i s Q E st hQ => W.self (i + 1) s Q E st hQ }
theorem unpack_star {prog : Program} {w : World} {A : Around} {E : Value → Shared → Prop} {s : Shared} {t : Addr} {x : Value} {items : List Value} {Q : List Value → Shared → Prop} (hh : A.handled = none) (ht : s.heap.IsTuple t (x :: items).toArray) (hz : items.length ≤ sizeLine)
    (hQ : ∀ (h' : Heap) (tk : Nat), (∀ b o, s.heap.get? b = some o → h'.get? b = some o) → Q [x, .ref h'.objs.size] { s with heap := h'.push { cls := .type "list", data := .seq items.toArray }, toks := tk }) :
    wpAny (model prog w) A (unpackItems (.ref t) 2 (some 1)) Q E s := by
  have hlt : t ≠ s.heap.objs.size := by obtain ⟨o, ho, _⟩ := ht; exact Nat.ne_of_lt (Heap.lt_size ho)
  unfold unpackItems
  refine wpAny_bind ?_
  unfold notIterableAtAll
  refine wpAny_bind (wpAny_specialOf ht.typeIs PySem.F.slot_tuple_iter.lookup ?_)
  refine wpAny_pure ?_
  simp only [Bool.false_eq_true, if_false]
  refine wpAny_bind (wpAny_holding (wpAny_pyIter_tuple ht ?_))
  refine wpAny_bind (wpAny_holding (wpAny_draw_tuple hlt 1 0 _ _ ⟨_, Heap.get?_push_size _ rfl, rfl, rfl⟩ (ht.push _) (by simp) fun h₁ hit₁ hs₁ => ?_))
  have e1 : List.take 1 (List.drop 0 (x :: items).toArray.toList) = [x] := by simp
  rw [e1, if_neg (by simp)]
  have ht₁ : h₁.IsTuple t (x :: items).toArray := (ht.push _).extBut hs₁.extBut hlt
  have k1 : ∀ b o, s.heap.get? b = some o → h₁.get? b = some o := fun b o e => hs₁.extBut b o (Nat.ne_of_lt (Heap.lt_size e)) (Heap.get?_push_of_some _ e)
  have hin : s.heap.objs.size < h₁.objs.size := by
    obtain ⟨o, ho, _⟩ := hit₁
    exact Heap.lt_size ho
  have htn : t < h₁.objs.size := by
    obtain ⟨o, ho, _⟩ := ht₁
    exact Heap.lt_size ho
  refine wpAny_bind (wpAny_holding (wpAny_collect_iter (T := "tuple_iterator") (.inr (.inr (.inr rfl))) (Walks.toS (tup_tail (A := A.in1) hh s.heap.objs.size t hlt x items)) (fun i s st => st.1.typeIs) ⟨hit₁, ht₁⟩ (fun b hb => ?_) (by simp) (fun s' acc mv it => ?_) hz))
  · simp only [List.mem_cons, List.not_mem_nil, or_false] at hb
    rcases hb with rfl | rfl
    · exact hin
    · exact htn
  have ea : acc.toList = items := by
    apply List.ext_getElem?
    intro j
    rw [Array.getElem?_toList]
    cases h : acc[j]? with
    | some v => exact (it.2 j v h).symm
    | none =>
      have := Array.getElem?_eq_none_iff.mp h
      rw [it.1] at this
      exact (List.getElem?_eq_none this).symm
  rw [ea, if_neg (by omega)]
  have em : List.take (items.length - (2 - 1 - 1)) items = items := by simp
  have ed : List.drop (items.length - (2 - 1 - 1)) items = [] := by simp
  rw [em, ed]
  obtain ⟨h2, g2, d2, t2, o2⟩ := s'
  obtain ⟨mh, mg, md, mo, mt⟩ := mv
  have mg : g2 = s.gens := mg
  have md : d2 = s.drawn := md
  have mo : o2 = s.os := mo
  subst mg md mo
  refine wpAny_bind (wpAny_newList (wpAny_pure (hQ h2 t2 fun b o e => mh b o (fun hm => ?_) (k1 b o e))) hz)
  rw [List.mem_singleton.mp hm] at e
  exact Nat.lt_irrefl _ (Heap.lt_size e)
/-- a, *b = t -/
theorem pg_star2 {X : Cx} {e1 e2 : Expr} {p3 pos : Pos} {k : Nat} {t : TGs} (hc : X.calm = true) (h : PGs X [e1, e2] t) (hm : (assignEach [e1, .Starred e2 p3] X.env).map (·.2) = (assignEach [e1, e2] X.env).map (·.2) := by rfl)
    (hn : (assignEach [e1, .Starred e2 p3] X.env).length = 2 := by rfl) (hst : (assignEach [e1, .Starred e2 p3] X.env).findIdx? (·.1) = some 1 := by rfl) :
    PG X (.Tuple [e1, .Starred e2 p3] k pos) (fun v σ H Q => ∃ a x0 xs, v = .ref a ∧ SqT X.K H a (x0 :: xs) ∧ ∀ p, H p = none → t [x0, .ref p] σ (upd H p (.lst xs)) Q) := by
  refine ⟨fun pins s σ H v u Q I r hw => ?_⟩
  obtain ⟨a, x0, xs, rfl, hq, hw⟩ := hw
  cases r
  obtain ⟨its, rv, ht, hz⟩ := I.tuple hq
  cases rv with
  | @cons _ u0 _ us r0 rs =>
  have hl : us.length ≤ sizeLine := by
    have := rs.length
    rw [List.length_cons] at hz
    omega
  rw [PyProof.Rows.assign_Tuple]
  refine wpAny_bind (wpAny_standAt ?_)
  unfold unpack
  rw [hn, hst, hm]
  refine wpAny_bind (wpAny_holding (unpack_star (I.ok.hd hc) ht hl fun h' tk kp => ?_))
  have I1 : Inv X pins σ H { s with heap := h', toks := tk } := I.kept kp
  have hf : H h'.objs.size = none := I1.hok.fresh (Nat.le_refl _)
  have I2 : Inv X pins σ (upd H h'.objs.size (.lst xs)) { s with heap := h'.push { cls := .type "list", data := .seq us.toArray }, toks := tk } :=
    I1.laid (t' := tk) (fun b u e => Heap.get?_push_of_some _ e) (Nat.le_refl _) ⟨by rw [rs.length]; exact hl, us, 0, rs, Heap.get?_push_size _ rfl⟩
  exact h.run pins _ σ _ [x0, .ref h'.objs.size] [u0, .ref h'.objs.size] Q I2 (.cons r0 (.cons rfl .nil)) (hw _ hf)
end FF
/-! Fivefault, part 20: methods of own classes, some of which raise; instances whose fields change. -/
namespace FF
open PySem PySem.Spec PyProof.Rows L2
structure MethX (P : Program) (w : World) (K : PySem.W.Frag) (mg : Str → Option Value) (base : Heap) (C m : Str) (k : Nat) (ps : List Str) (sp : Sp) : Prop where
  ex : ∃ fd, FnOk P w K mg base (L2.CX P w) k (He.ma K (He.ga K C) m) fd ps sp ∧ Binds K fd ps []
  cl : Cls K (He.ga K C)
  me : Meth K (He.ga K C) m (He.ma K (He.ga K C) m)
structure MethD (P : Program) (w : World) (K : PySem.W.Frag) (mg : Str → Option Value) (base : Heap) (C m : Str) (k : Nat) (ps : List Str) (sp : Sp) : Prop where
  ex : ∃ fd, FnOk P w K mg base CX0 k (He.ma K (He.ga K C) m) fd ps sp ∧ Binds K fd ps []
  cl : Cls K (He.ga K C)
  me : Meth K (He.ga K C) m (He.ma K (He.ga K C) m)
section
variable {X : Cx} {W : WX} {E : XK} {C m : Str} {k j : Nat} {ps : List Str} {sp : Sp} {o e : Expr} {es : List Expr} {apos pos : Pos} {to : TE} {t : TA} {pl : Sem Bool}
end
/-- C(..): the class C with an own __init__ that raises nothing -/
structure MakeD (P : Program) (w : World) (K : PySem.W.Frag) (mg : Str → Option Value) (base : Heap) (C : Str) (k : Nat) (ps : List Str) (sp : Sp) : Prop where
  ex : ∃ fd, FnOk P w K mg base CX0 k (He.ma K (He.ga K C) "__init__") fd ps sp ∧ Binds K fd ps []
  mkr : Mk K (He.ga K C) (He.ma K (He.ga K C) "__init__")
  hm : mg C = some (.ref (He.ga K C))
section
variable {P : Program} {w : World} {K : PySem.W.Frag} {mg : Str → Option Value} {base : Heap}
theorem MethX.mono {C m : Str} {j k : Nat} {ps : List Str} {sp : Sp} (D : MethX P w K mg base C m j ps sp) (h : j ≤ k) : MethX P w K mg base C m k ps sp := by
  obtain ⟨fd, F, r⟩ := D.ex
  exact ⟨⟨fd, F.mono h, r⟩, D.cl, D.me⟩
theorem MethD.mono {C m : Str} {j k : Nat} {ps : List Str} {sp : Sp} (D : MethD P w K mg base C m j ps sp) (h : j ≤ k) : MethD P w K mg base C m k ps sp := by
  obtain ⟨fd, F, r⟩ := D.ex
  exact ⟨⟨fd, F.mono h, r⟩, D.cl, D.me⟩
end
/-! ### all but one object stays -/
theorem sb_refl {a : Addr} {H : Hp} : SameB a H H := fun _ _ _ h => h
theorem SameB.tr {a : Addr} {H H1 H2 : Hp} (x : SameB a H H1) (y : SameB a H1 H2) : SameB a H H2 := fun b u n h => y b u n (x b u n h)
theorem sb_of {a : Addr} {H H1 : Hp} (x : Same H H1) : SameB a H H1 := fun b u _ h => x b u h
theorem sb_upd {a : Addr} {H : Hp} {o : HO} : SameB a H (upd H a o) := fun b u n h => by rw [upd_ne n]; exact h
end FF
/-! Fivefault, part 21: {k: v for a in xs for b in ys}. -/
namespace FF
open PySem PySem.Spec PyProof.Rows L2
section
variable {prog : Program} {w : World} {A : Around} {R : Result → Shared → Prop} {s : Shared} {ek ev ga ia gb ib : Expr} {cs ds : List Expr} {scope : Scope} {pos : Pos} {it : Value} {D : Addr} {env : Env}
abbrev dcE (ek ev ga ia gb ib : Expr) (cs ds : List Expr) (scope : Scope) (pos : Pos) : Expr := .DictComp ek ev [⟨ga, ia, cs, 0⟩, ⟨gb, ib, ds, 0⟩] scope pos
abbrev okE (A : Around) (prog : Program) (w : World) (env : Env) (R : Result → Shared → Prop) : Value → Shared → Prop := notedBy (model prog w) A env fun e s' => R (.error e) s'
abbrev testsOf (cs : List Expr) (env : Env) : Sem Bool := forIn cs true fun c r => if r = true then do let ok ← isTrue c env (eval c env); pure (ForInStep.yield ok) else pure (ForInStep.yield r)
theorem dturn_out : compTurn (dcE ek ev ga ia gb ib cs ds scope pos) 0 it (.ref D) env = (do
      standAt ia.pos
      match ← pyNext it with
      | none => pure (.done .next)
      | some v =>
        letOwnedTupleGo ga it v
        assign ga env v
        let mut ok := true
        for c in cs do
          if ok then ok ← isTrue c env (eval c env)
        if ok then
          let x ← eval ib env
          standAt ib.pos
          let x ← foldedSetIterable ib env x
          let _ ← runOwn (.compStart (dcE ek ev ga ia gb ib cs ds scope pos) 1 (← holding [x] (pyIter x)) (.ref D) env) env
        again (.compLoop (dcE ek ev ga ia gb ib cs ds scope pos) 0 it (.ref D) env)) := by rfl
theorem dturn_in : compTurn (dcE ek ev ga ia gb ib cs ds scope pos) 1 it (.ref D) env = (do
      standAt ib.pos
      match ← pyNext it with
      | none => pure (.done .next)
      | some v =>
        letOwnedTupleGo gb it v
        assign gb env v
        let mut ok := true
        for c in ds do
          if ok then ok ← isTrue c env (eval c env)
        if ok then
          (do
            let kv ← eval ek env
            let vv ← holding [kv] (eval ev env)
            standAt { ek.pos with endLine := ev.pos.endLine, endCol := ev.pos.endCol }
            holding [kv, vv] (dictSet D kv vv))
        again (.compLoop (dcE ek ev ga ia gb ib cs ds scope pos) 1 it (.ref D) env)) := by rfl
/-- the loop over the first source -/
theorem dloop_out (hs : ∀ x, foldedSetIterable ib env x = pure x) (J : Nat → Shared → Prop)
    (turn : ∀ n s, J n s → wpAny (model prog w) A (pyNext it) (fun r s₁ => match r with
      | none => R (.ok .next) s₁
      | some v => wpAny (model prog w) A (letOwnedTupleGo ga it v) (fun _ sa => wpAny (model prog w) A (assign ga env v) (fun _ sb => wpAny (model prog w) A (testsOf cs env) (fun ok sc =>
          if ok = true then wpAny (model prog w) A (eval ib env) (fun x sd => wpAny (model prog w) A (pyIter x) (fun i2 se => codeAny (model prog w) A (.compStart (dcE ek ev ga ia gb ib cs ds scope pos) 1 i2 (.ref D) env) (fun r s' => match r with
            | .ok _ => ∃ m, m < n ∧ J m s'
            | .error _ => False) se) (okE A prog w env R) sd) (okE A prog w env R) sc
          else ∃ m, m < n ∧ J m sc) (okE A prog w env R) sb) (okE A prog w env R) sa) (okE A prog w env R) s₁) (okE A prog w env R) s)
    (n : Nat) (h : J n s) : codeAny (model prog w) A (.compLoop (dcE ek ev ga ia gb ib cs ds scope pos) 0 it (.ref D) env) R s := by
  refine codeAny_loop rfl J (fun n s hJ => ?_) n h
  show wpAny _ A ((compTurn (dcE ek ev ga ia gb ib cs ds scope pos) 0 it (.ref D) env).onRaise (fun x => do noteFrame x env; theTreesLotGoes x)) _ _ s
  refine wpAny_noted ?_
  rw [dturn_out]
  refine wpAny_bind (wpAny_standAt (wpAny_bind (wpAny_mono (turn n s hJ) (fun r sa ha => ?_) fun _ _ z => z)))
  match r, ha with
  | none, ha => exact wpAny_pure ha
  | some v, ha =>
    refine wpAny_bind (wpAny_mono ha (fun _ sb hb => wpAny_bind (wpAny_mono hb (fun _ sc hc => wpAny_bind (wpAny_mono hc (fun ok sd hd => ?_) fun _ _ z => z)) fun _ _ z => z)) fun _ _ z => z)
    match ok, hd with
    | false, hd => exact wpAny_pure ⟨rfl, hd⟩
    | true, hd =>
      refine wpAny_bind (wpAny_mono hd (fun x se he => wpAny_bind (wpAny_standAt (wpAny_bind (wpAny_of_eq (hs x) (wpAny_bind (wpAny_holding (wpAny_mono he (fun i2 sf hf => ?_) fun _ _ z => z))))))) fun _ _ z => z)
      refine wpAny_bind (wpAny_runOwn ?_)
      rw [Around.mark_none]
      refine codeAny_mono hf fun r s' hr => ?_
      match r, hr with
      | .ok f, hr =>
        first
          | exact wpAny_pure ⟨rfl, hr⟩
          | exact wpAny_bind (wpAny_pure (wpAny_pure ⟨rfl, hr⟩))
      | .error e, hr => exact hr.elim
/-- the loop over the second -/
theorem dloop_in (J : Nat → Shared → Prop)
    (turn : ∀ n s, J n s → wpAny (model prog w) A (pyNext it) (fun r s₁ => match r with
      | none => R (.ok .next) s₁
      | some v => wpAny (model prog w) A (letOwnedTupleGo gb it v) (fun _ sa => wpAny (model prog w) A (assign gb env v) (fun _ sb => wpAny (model prog w) A (testsOf ds env) (fun ok sc =>
          if ok = true then wpAny (model prog w) A (eval ek env) (fun kv sd => wpAny (model prog w) A (eval ev env) (fun vv se => wpAny (model prog w) A (dictSet D kv vv) (fun _ sf => ∃ m, m < n ∧ J m sf) (okE A prog w env R) se) (okE A prog w env R) sd) (okE A prog w env R) sc
          else ∃ m, m < n ∧ J m sc) (okE A prog w env R) sb) (okE A prog w env R) sa) (okE A prog w env R) s₁) (okE A prog w env R) s)
    (n : Nat) (h : J n s) : codeAny (model prog w) A (.compLoop (dcE ek ev ga ia gb ib cs ds scope pos) 1 it (.ref D) env) R s := by
  refine codeAny_loop rfl J (fun n s hJ => ?_) n h
  show wpAny _ A ((compTurn (dcE ek ev ga ia gb ib cs ds scope pos) 1 it (.ref D) env).onRaise (fun x => do noteFrame x env; theTreesLotGoes x)) _ _ s
  refine wpAny_noted ?_
  rw [dturn_in]
  refine wpAny_bind (wpAny_standAt (wpAny_bind (wpAny_mono (turn n s hJ) (fun r sa ha => ?_) fun _ _ z => z)))
  match r, ha with
  | none, ha => exact wpAny_pure ha
  | some v, ha =>
    refine wpAny_bind (wpAny_mono ha (fun _ sb hb => wpAny_bind (wpAny_mono hb (fun _ sc hc => wpAny_bind (wpAny_mono hc (fun ok sd hd => ?_) fun _ _ z => z)) fun _ _ z => z)) fun _ _ z => z)
    match ok, hd with
    | false, hd => exact wpAny_pure ⟨rfl, hd⟩
    | true, hd =>
      exact wpAny_bind (wpAny_bind (wpAny_mono hd (fun kv se he => wpAny_bind (wpAny_holding (wpAny_mono he (fun vv sf hf => wpAny_bind (wpAny_standAt (wpAny_holding (wpAny_mono hf (fun _ sg hg => wpAny_pure ⟨rfl, hg⟩) fun _ _ z => z)))) fun _ _ z => z))) fun _ _ z => z))
theorem dstart_in (h0 : codeAny (model prog w) A (.compLoop (dcE ek ev ga ia gb ib cs ds scope pos) 1 it (.ref D) env) R s)
    (h : wpAny (model prog w) A (pyIter it) (fun i2 s' => codeAny (model prog w) A (.compLoop (dcE ek ev ga ia gb ib cs ds scope pos) 1 i2 (.ref D) env) R s') (okE A prog w env R) s) :
    codeAny (model prog w) A (.compStart (dcE ek ev ga ia gb ib cs ds scope pos) 1 it (.ref D) env) R s := by
  refine codeAny_of_tree ?_
  show wpAny _ _ ((compStart (dcE ek ev ga ia gb ib cs ds scope pos) 1 it (.ref D) env).onRaise (fun x => do noteFrame x env; standAt theWindowsPlace)) _ _ s
  refine wpAny_notedAt ?_
  unfold compStart
  show wpAny _ _ (ask >>= _) _ _ s
  refine wpAny_bind (wpAny_askSetting (wpAny_ite ?_))
  split
  · first
      | exact wpAny_bind (wpAny_pure (wpAny_pure (And.intro rfl h0)))
      | exact wpAny_pure (And.intro rfl h0)
  · first
      | exact wpAny_bind (wpAny_rule (wpAny_bind (wpAny_standAt (wpAny_bind (wpAny_mono h (fun i2 s' z => wpAny_pure (And.intro rfl z)) fun _ _ x => x)))))
      | (refine wpAny_bind (wpAny_rule ?_); show wpAny _ _ (standAt ib.pos >>= _) _ _ s; exact wpAny_bind (wpAny_standAt (wpAny_bind (wpAny_mono h (fun i2 s' z => wpAny_pure (And.intro rfl z)) fun _ _ x => x))))
end
/-- in every block of the comprehension -/
abbrev InBlk (X : Cx) (scope : Scope) (p : Cx → Prop) : Prop := ∀ (s : Shared) (H : Hp) (C : Addr) (cl : List (Str × Addr)) (fp : List Addr), p (X.blk s H scope (compEnvC scope cl C X.env) fp)
/-- the inner loop of {k: v for a in xs for b in ys} -/
def tDcIn (J : It) (g : TG) (tt : TT) (tk tv : TE) (D : Addr) (vs : List Nat) (σ : L2.St) (H : Hp) (Nx : Hp → Prop) : Prop := ∃ W : Nat → Nat → Hp → Prop, (∃ m, W 0 m H) ∧ ∀ j k H, W j k H →
  (J.stop j H ∧ Nx H) ∨ (J.go j H ∧ ∃ N : Hp → Prop, (∀ H', N H' → ∃ k', k' < k ∧ W (j + 1) k' H') ∧ ∀ x H', J.yld j H x H' → g x (wipe σ vs) H' fun σ3 H5 => wipe σ3 vs = wipe σ vs ∧ tt σ3 H5 fun b H6 =>
    if b = true then tk σ3 H6 fun y H7 => tv σ3 H7 fun z H8 => ∃ kvs key, y = kV key ∧ H8 D = some (.dK kvs) ∧ kvs.length < sizeLine ∧ N (upd H8 D (.dK (putK kvs key z))) else N H6)
def tDc2 (wi : TI) (g : TG) (tt : TT) (wi1 : TI) (g1 : TG) (tt1 : TT) (tk tv : TE) (vs vs1 : List Nat) : TE := fun σ H Q => wi σ H fun J H1 => ∀ D, H1 D = none → ∃ W : Nat → Nat → Hp → Prop, (∃ m, W 0 m (upd H1 D (.dK []))) ∧ ∀ i m H, W i m H →
  (J.stop i H ∧ Q (.ref D) H) ∨ (J.go i H ∧ ∃ Nx : Hp → Prop, (∀ H', Nx H' → ∃ m', m' < m ∧ W (i + 1) m' H') ∧ ∀ x H', J.yld i H x H' → g x (wipe σ vs) H' fun σ2 H2 => wipe σ2 vs = wipe σ vs ∧ tt σ2 H2 fun b H3 =>
    if b = true then wi1 σ2 H3 fun J1 H4 => tDcIn J1 g1 tt1 tk tv D vs1 σ2 H4 Nx else Nx H3)
theorem pe_dc2 {X : Cx} {ek ev ga ia gb ib : Expr} {cs ds : List Expr} {scope : Scope} {own : List (Str × Nat)} {vs1 : List Nat} {pos : Pos} {wi wi1 : TI} {g g1 : TG} {tt tt1 : TT} {tk tv : TE} (calm : X.calm = true) (nd : X.N.Nodup) (pia : PI X ga ia wi) (ok : BlkOk X.N X.env.scope scope own) (sub : ∀ i ∈ vs1, i ∈ own.map (·.2))
    (pga : InBlk X scope fun Y => PG Y ga g) (pta : InBlk X scope fun Y => PTs Y cs tt) (pib : InBlk X scope fun Y => PI Y gb ib wi1) (pgb : InBlk X scope fun Y => PG Y gb g1) (ptb : InBlk X scope fun Y => PTs Y ds tt1) (pek : InBlk X scope fun Y => PE Y ek tk) (pev : InBlk X scope fun Y => PE Y ev tv)
    (fa : ∀ x, foldedSetIterable ia X.env x = pure x := by intro _; rfl) (fb : ∀ env x, foldedSetIterable ib env x = pure x := by intro _ _; rfl) : PE X (dcE ek ev ga ia gb ib cs ds scope pos) (tDc2 wi g tt wi1 g1 tt1 tk tv (own.map (·.2)) vs1) := by
  refine ⟨fun pins s σ H Q I h => ?_⟩
  show wpAny _ X.A (eval (.DictComp ek ev [⟨ga, ia, cs, 0⟩, ⟨gb, ib, ds, 0⟩] scope pos) X.env) _ _ _
  rw [arm_eval_DictComp]
  have cells : ∀ y ∈ scope.names, y.2 = .free → ∃ c, X.env.cells.lookup y.1 = some c := fun y hy e => (ok.free y hy e).elim (fun k => I.ok.has _ (.inl k)) fun k => I.ok.has _ (.inr k)
  refine wpAny_comprehension_free rfl fa (closure_ok cells) ok.kind (fun y hy e => by rw [ok.uniq y hy, e]) (thn (pia.run pins s σ H _ I h) fun xv sa hx => thn hx fun itv sb hb => ?_)
  obtain ⟨it, fp, tn, J, H2, rfl, I2, T, t2, f2, q⟩ := hb
  refine wpAny_newObj_type (newEnv_comp ?_)
  generalize hD : sb.heap.objs.size = D
  have freeD : H2 D = none := I2.hok.fresh (Nat.le_of_eq hD)
  obtain ⟨W, ⟨m0, w0⟩, turn⟩ := q D freeD
  generalize hs3 : ({ sb with heap := sb.heap.push { cls := .type "dict", data := .dict #[] } } : Shared) = s3
  have heap3 : s3.heap = sb.heap.push { cls := .type "dict", data := .dict #[] } := by rw [← hs3]
  have I3 : Inv X pins σ (upd H2 D (.dK [])) s3 := by
    rw [← hs3]
    exact I2.laid (t' := sb.toks) (fun b o e => Heap.get?_push_of_some _ e) (Nat.le_of_eq hD) (by rw [← hD]; exact dk_empty sb.heap I2.big)
  have below : ∀ b ∈ fp, b < sb.heap.objs.size := fun b hb => let ⟨o, e, _⟩ := T.obj _ _ t2 b hb; Heap.lt_size e
  have f3 : ∀ b ∈ fp, FpOk X pins (upd H2 D (.dK [])) b ∧ b < s3.heap.objs.size := fun b hb => by
    refine ⟨⟨?_, (f2 b hb).2⟩, by rw [heap3, Heap.size_push]; exact Nat.lt_succ_of_lt (below b hb)⟩
    rw [upd_ne (by rw [← hD]; exact Nat.ne_of_lt (below b hb))]
    exact (f2 b hb).1
  have t3 : tn 0 s3.heap := T.keep _ _ _ t2 fun b _ o e => by rw [heap3]; exact Heap.get?_push_of_some _ e
  have I4 := block_start I3 ok nd f3
  have off3 : ∀ b ∈ fp, (upd H2 D (.dK [])) b = none := fun b hb => (f3 b hb).1.1
  show codeAny _ _ (.compStart (dcE ek ev ga ia gb ib cs ds scope pos) 0 (.ref it) (.ref D) (compEnvC scope (cellsFrom (s3.heap.objs.size + 1) scope.names (cloFrom X.env.cells scope.names [])) s3.heap.objs.size X.env)) (compPost (model X.prog X.w) X.A X.xe none (EP X pins σ Q) (.ref D) s3.heap.objs.size) { s3 with heap := pushCells (s3.heap.push { cls := .type "dict", data := .dict #[] }) scope.names }
  generalize hcl : cellsFrom (s3.heap.objs.size + 1) scope.names (cloFrom X.env.cells scope.names []) = cl at I4 ⊢
  have rga := pga s3 (upd H2 D (.dK [])) s3.heap.objs.size cl fp
  have rta := pta s3 (upd H2 D (.dK [])) s3.heap.objs.size cl fp
  have rib := pib s3 (upd H2 D (.dK [])) s3.heap.objs.size cl fp
  have rgb := pgb s3 (upd H2 D (.dK [])) s3.heap.objs.size cl fp
  have rtb := ptb s3 (upd H2 D (.dK [])) s3.heap.objs.size cl fp
  have rek := pek s3 (upd H2 D (.dK [])) s3.heap.objs.size cl fp
  have rev := pev s3 (upd H2 D (.dK [])) s3.heap.objs.size cl fp
  have fbe := fb (compEnvC scope cl s3.heap.objs.size X.env)
  generalize hce : compEnvC scope cl s3.heap.objs.size X.env = ce at I4 rga rta rib rgb rtb rek rev fbe ⊢
  have loc : ce.locals = s3.heap.objs.size := by subst hce; rfl
  generalize hH3 : upd H2 D (.dK []) = H3 at I3 I4 rga rta rib rgb rtb rek rev w0 off3 f3
  generalize hs4 : ({ s3 with heap := pushCells (s3.heap.push { cls := .type "dict", data := .dict #[] }) scope.names } : Shared) = s4 at I4 ⊢
  have t4 : tn 0 s4.heap := T.keep _ _ _ t3 fun b _ o e => by rw [← hs4]; exact pushCells_keeps _ _ _ _ (Heap.get?_push_of_some _ e)
  let B := X.blk s3 H3 scope ce fp
  have foot : ∀ {σ' : L2.St} {H' : Hp} {s' : Shared}, Inv B [] σ' H' s' → (∀ b ∈ fp, H' b = none) → ∀ b ∈ fp, FpOk B [] H' b := fun {σ' H' s'} I' hn b hb =>
    ⟨hn b hb, (I'.ok.exf b hb).1, I'.ok.exfs b hb, .inl hb, fun x c e => (I'.ok.exf b hb).2 x c e, fun p hp => absurd (show p ∈ ([] : List (Addr × Obj)) ++ [] from hp) (by simp)⟩
  let Sj : Nat → Shared → Prop := fun n s' => ∃ i H', Inv B [] (wipe σ (own.map (·.2))) H' s' ∧ tn i s'.heap ∧ (∀ b ∈ fp, H' b = none) ∧ W i n H'
  have loop := dloop_out (prog := X.prog) (w := X.w) (A := X.A) (it := .ref it) (D := D) (ek := ek) (ev := ev) (ga := ga) (ia := ia) (gb := gb) (cs := cs) (ds := ds) (scope := scope) (pos := pos) (R := compPost (model X.prog X.w) X.A X.xe none (EP X pins σ Q) (.ref D) s3.heap.objs.size) fbe Sj (fun n s5 hs5 => ?_) m0 (show Sj m0 s4 from ⟨0, H3, I4, t4, off3, w0⟩)
  · exact codeAny_compStart_dict loop (T.self X.A 0 _ _ _ t4 loop)
  obtain ⟨i, H5, I5, t5, n5, w5⟩ := hs5
  rcases turn i n H5 w5 with ⟨stop, qq⟩ | ⟨go, Nx, hNx, step⟩
  · refine thnF (T.done B rfl rfl rfl calm i [] s5 _ H5 (fun _ _ => False) I5 (foot I5 n5) t5 stop) fun r s6 ⟨hr, I6⟩ => ?_
    subst hr
    have I7 : Inv X pins σ H5 s6 := I3.call' (ch := fp) I6.os I6.base I6.hok I6.bare fun b hb => ⟨(f3 b hb).1.2.2.2.1, (f3 b hb).1.2.1, (f3 b hb).1.2.2.2.2.1, (f3 b hb).1.2.2.2.2.2⟩
    have freeC : H5 s3.heap.objs.size = none := loc ▸ (show H5 ce.locals = none from I6.free)
    obtain ⟨m, hn, _⟩ := I6.loc
    have hn : s6.heap.Ns s3.heap.objs.size m := loc ▸ (show s6.heap.Ns ce.locals m from hn)
    obtain ⟨k0, k1, k2, k3, k4, k5⟩ := I3.fpOk (Nat.le_refl _) freeC
    exact ⟨m, hn, fun h'' same => ⟨.ref D, H5, I7.turned (t' := s6.toks) (fun b o hb e => (same.2 b hb).trans e) k0 k1 k3 k4 k5, rfl, qq⟩⟩
  refine thnF (T.item B rfl rfl rfl calm i [] s5 _ H5 (fun _ _ => False) I5 (foot I5 n5) t5 go) fun r s6 ⟨u, hr, h6⟩ => ?_
  subst hr
  refine thnF h6 fun _ s7 ⟨x, H7, I7, r7, y7, t7, n7⟩ => ?_
  refine thnF (rga.run _ s7 _ H7 x u _ (I7.pinned (foot I7 n7) (T.obj _ _ t7)) r7 (step x H7 y7)) fun _ s8 ⟨σ8, H8, I8, hw8, q8⟩ => ?_
  refine thnF (rta.run _ s8 σ8 H8 _ I8 q8) fun b s9 ⟨H9, I9, q9⟩ => ?_
  have turnEnd : ∀ {σ9 : L2.St} {s' : Shared} {H' : Hp}, Inv B ([] ++ pinsAt fp s7.heap) σ9 H' s' → (wipe σ (own.map (·.2))).length = σ9.length → (∀ (j : Nat) v, (wipe σ (own.map (·.2)))[j]? = some (some v) → σ9[j]? = some (some v)) → Nx H' → ∃ m, m < n ∧ Sj m s' := fun {σ9 s' H'} I' hl hk nx => by
    obtain ⟨m', hm, w'⟩ := hNx H' nx
    have stays : ∀ b ∈ fp, ∀ o, s7.heap.get? b = some o → s'.heap.get? b = some o ∧ H' b = none := fun b hb o e =>
      let z := I'.pin (b, o) (List.mem_append_right _ (List.mem_append_right _ (mem_pinsAt hb e)))
      ⟨z.1, z.2.1⟩
    exact ⟨m', hm, i + 1, H', (I'.unpinned (pins := [])).weak hl hk, T.keep _ _ _ t7 fun b hb o e => (stays b hb o e).1, fun b hb => let ⟨o, e, _⟩ := T.obj _ _ t7 b hb; (stays b hb o e).2, w'⟩
  have len8 : (wipe σ (own.map (·.2))).length = σ8.length := by rw [← hw8, wipe_length]
  have keep8 : ∀ (j : Nat) v, (wipe σ (own.map (·.2)))[j]? = some (some v) → σ8[j]? = some (some v) ∧ j ∉ own.map (·.2) := fun j v e => by
    rw [← hw8] at e
    exact wipe_some e
  cases b with
  | false => exact turnEnd I9 len8 (fun j v e => (keep8 j v e).1) (by simpa using q9)
  | true =>
  simp only [if_true] at q9 ⊢
  refine thnF (rib.run _ s9 σ8 H9 _ I9 q9) fun yv s10 hy => thnF hy fun itv s11 h11 => ?_
  obtain ⟨i1, fp1, tn1, J1, H11, rfl, I11, T1, t11, f11, W1, ⟨m1, w1⟩, turn1⟩ := h11
  have foot1 : ∀ {H' : Hp}, (∀ b ∈ fp1, H' b = none) → ∀ b ∈ fp1, FpOk B ([] ++ pinsAt fp s7.heap) H' b := fun hn b hb => ⟨hn b hb, (f11 b hb).2⟩
  let Sk : Nat → Shared → Prop := fun k s' => ∃ j H', Inv B ([] ++ pinsAt fp s7.heap) (wipe σ8 vs1) H' s' ∧ tn1 j s'.heap ∧ (∀ b ∈ fp1, H' b = none) ∧ W1 j k H'
  have loop1 := dloop_in (prog := X.prog) (w := X.w) (A := X.A) (env := ce) (it := .ref i1) (D := D) (ek := ek) (ev := ev) (ga := ga) (ia := ia) (gb := gb) (ib := ib) (cs := cs) (ds := ds) (scope := scope) (pos := pos) (R := fun r s' => match r with
    | .ok _ => ∃ m, m < n ∧ Sj m s'
    | .error _ => False) Sk (fun k s12 hs12 => ?_) m1 (show Sk m1 s11 from ⟨0, H11, I11.weak (wipe_length _ _) (fun j v e => (wipe_some e).1), t11, fun b hb => (f11 b hb).1, w1⟩)
  · exact dstart_in loop1 (T1.self X.A 0 _ _ _ t11 loop1)
  obtain ⟨j, H12, I12, t12, n12, w12⟩ := hs12
  rcases turn1 j k H12 w12 with ⟨stop1, nx1⟩ | ⟨go1, N1, hN1, step1⟩
  · refine thnF (T1.done B rfl rfl rfl calm j _ s12 (wipe σ8 vs1) H12 (fun _ _ => False) I12 (foot1 n12) t12 stop1) fun r s13 ⟨hr, I13⟩ => ?_
    subst hr
    refine turnEnd I13 (len8.trans (wipe_length σ8 vs1).symm) (fun j v e => ?_) nx1
    obtain ⟨e1, e2⟩ := keep8 j v e
    rw [wipe_out fun z => e2 (sub j z)]
    exact e1
  refine thnF (T1.item B rfl rfl rfl calm j _ s12 (wipe σ8 vs1) H12 (fun _ _ => False) I12 (foot1 n12) t12 go1) fun r s13 ⟨u1, hr, h13⟩ => ?_
  subst hr
  refine thnF h13 fun _ s14 ⟨x1, H14, I14, r14, y14, t14, n14⟩ => ?_
  refine thnF (rgb.run _ s14 (wipe σ8 vs1) H14 x1 u1 _ (I14.pinned (foot1 n14) (T1.obj _ _ t14)) r14 (step1 x1 H14 y14)) fun _ s15 ⟨σ15, H15, I15, hw15, q15⟩ => ?_
  refine thnF (rtb.run _ s15 σ15 H15 _ I15 q15) fun b1 s16 ⟨H16, I16, q16⟩ => ?_
  have innerEnd : ∀ {s' : Shared} {H' : Hp}, Inv B (([] ++ pinsAt fp s7.heap) ++ pinsAt fp1 s14.heap) σ15 H' s' → N1 H' → ∃ m, m < k ∧ Sk m s' := fun {s' H'} I' nx => by
    obtain ⟨m', hm, w'⟩ := hN1 H' nx
    have stays : ∀ b ∈ fp1, ∀ o, s14.heap.get? b = some o → s'.heap.get? b = some o ∧ H' b = none := fun b hb o e =>
      let z := I'.pin (b, o) (List.mem_append_right _ (List.mem_append_right _ (mem_pinsAt hb e)))
      ⟨z.1, z.2.1⟩
    exact ⟨m', hm, j + 1, H', I'.unpinned.weak (by rw [← hw15, wipe_length]) (fun j v e => by rw [← hw15] at e; exact (wipe_some e).1), T1.keep _ _ _ t14 fun b hb o e => (stays b hb o e).1, fun b hb => let ⟨o, e, _⟩ := T1.obj _ _ t14 b hb; (stays b hb o e).2, w'⟩
  cases b1 with
  | false => exact innerEnd I16 (by simpa using q16)
  | true =>
  simp only [if_true] at q16 ⊢
  refine thnF (rek.run _ s16 σ15 H16 _ I16 q16) fun yk s17 ⟨kk, H17, I17, r17, q17⟩ => ?_
  refine thnF (rev.run _ s17 σ15 H17 _ I17 q17) fun yv2 s18 ⟨vv, H18, I18, r18, kvs, key, ek2, hD18, hz18, nx⟩ => ?_
  subst ek2
  exact d_dictSet (X := B) I18 hD18 hz18 r17 r18 fun s19 I19 => innerEnd I19 nx
end FF
/-! Fivefault, part 22: sorted(d), a dict with any number of text keys. -/
namespace FF
open PySem PySem.Spec PyProof.Rows L2
def rSortedDA (H0 : Unit) : List V → Hp → VK → Prop := fun xs H Q => ∃ (a : Addr) (kvs : List (Key × V)) (ks : List Str), xs = [.ref a] ∧ H a = some (.dK kvs) ∧ kvs.map (·.1) = ks.map Sum.inr ∧ ∀ ys p, ys.Perm ks → sortedS ys = true → H p = none → Q (.ref p) (upd H p (.lst (ys.map V.str)))
theorem cr_sortedDA {X : Cx} (calm : X.calm = true) : CallR X (.builtin "sorted") (rSortedDA ()) := by
  intro pins s σ H xs us Q I r h
  obtain ⟨a, kvs, ks, rfl, hd, hk, q⟩ := h
  obtain ⟨u, rfl, rx⟩ := vals1 r
  cases rx
  obtain ⟨z, big, vs, rel, dd⟩ := dk_rd I.hok (.inl hd)
  obtain ⟨ep, hat⟩ := dd.dictAt
  have keys : vs.map (·.1) = ks.map Sum.inr := rel.keys.symm.trans hk
  have len : vs.length = ks.length := by simpa using congrArg List.length keys
  have line : vs.length ≤ sizeLine := rel.length ▸ z
  refine Calls.call_function_entry PyProof.Rows.kind_sorted PyProof.Rows.plain_sorted PyProof.Rows.entry_sorted (PyProof.Rows.args_sorted1 _) ?_
  unfold Builtin.«sorted»
  refine wpAny_bind (m := checkCount "sorted" 1 1 _) (wpAny_pure ?_)
  refine wpAny_bind (PySem.W.kdu_collect (A := X.A.in1) (PySem.W.kdl_dict (knd := mixKind X.prog X.w) (kvs := vs) (ep := ep) big) (I.ok.hd calm) hat line fun h' tk acc hkeep hacc => ?_)
  have la : acc.toList.length = ks.length := by rw [Array.length_toList, hacc.1, len]
  have hS : StrsAre acc.toList ks := strs_at la fun j v e => by
    obtain ⟨k, x, e1, e2⟩ := hacc.2 j v (by rw [← Array.getElem?_toList]; exact e)
    have e3 : (ks.map Sum.inr : List Key)[j]? = some k := by
      rw [← keys, List.getElem?_map, e1]
      rfl
    rw [List.getElem?_map] at e3
    match hj : ks[j]?, e3 with
    | some y, e3 =>
      cases Option.some.inj e3
      obtain ⟨t, ev⟩ := Value.isStrOf_shape (x := y) (v := v) e2
      exact ⟨y, t, rfl, ev⟩
  have I1 : Inv X pins σ H { s with heap := h', toks := tk } := I.kept hkeep
  refine wpAny_bind (wpAny_newList ?_ (by rw [la, ← len]; exact line))
  have new : (h'.push (seqObj "list" acc.toList.toArray 0)).get? h'.objs.size = some (seqObj "list" acc.toList.toArray 0) := Heap.get?_push_size _ rfl
  show wpAny _ _ _ _ _ { s with heap := h'.push (seqObj "list" acc.toList.toArray 0), toks := tk }
  refine wpAny_bind (wpAny_holding (wpAny_call_entry PyProof.Rows.slot_list_sort ⟨_, new, rfl⟩ PyProof.Rows.entry_list_sort
    (list_sort_treeKSt strKind_oneLt (s := { s with heap := h'.push (seqObj "list" acc.toList.toArray 0), toks := tk }) new hS.keysOf (fun v1 v2 rest e => keyKind_strs (by rw [← e]; exact hS)) (by rw [la, ← len]; exact line) fun st' hp hs _ => ⟨_, rfl, ?_⟩)
    (PyProof.Rows.args_list_sort _)))
  obtain ⟨ys, g1, g2, g3⟩ := sorted_out_str hS hp hs
  obtain ⟨e', he'⟩ := PyProof.Rows.sortedHeap_at (vs := acc.toList) (out := (arrOf st').map (·.2)) new
  have size : (ys.map V.str).length ≤ sizeLine := by rw [List.length_map, g2.length_eq, ← len]; exact line
  have old : ∀ b o, h'.get? b = some o → (sortedHeap (h'.push (seqObj "list" acc.toList.toArray 0)) h'.objs.size acc.toList ((arrOf st').map (·.2))).get? b = some o := fun b o e => by
    have hb := Heap.lt_size e
    rw [PyProof.Rows.sortedHeap_old (Nat.ne_of_lt hb) (by rw [size_push']; exact Nat.lt_succ_of_lt hb)]
    exact Heap.get?_push_of_some _ e
  exact wpAny_pure ⟨_, rfl, .ref h'.objs.size, upd H h'.objs.size (.lst (ys.map V.str)), I1.laid (t' := tk) old (Nat.le_refl _) ⟨size, ((arrOf st').map (·.2)).toList, e', vals_of_strs g1, by rw [Array.toArray_toList]; exact he'⟩, rfl, q ys _ g2 g3 (I1.hok.fresh (Nat.le_refl _))⟩
end FF
/-! Fivefault, part 23: enumerate over a tuple; what is a list or a tuple, walked. -/
namespace FF
open PySem PySem.Spec PyProof.Rows L2
open Sem (wp)
set_option maxHeartbeats 4000000 in
theorem enumT_new {v : Value} {o : Obj} {p : Heap → Prop} (B : Begins v o p) : Meets (Builtin.«enumerate.__new__» ⟨[.type "enumerate", v], []⟩) (fun _ R s => p s.heap ∧
      R (.ok (.ret (.ref (s.heap.push o).objs.size))) { s with heap := (s.heap.push o).push { cls := .type "enumerate", data := .fields #[.none, .bool false, .ref s.heap.objs.size, rawInt 0, .none, .none] } }) :=
  .of_wp fun prog w A R s h => by
    obtain ⟨hp, g, d, tk, os⟩ := s
    obtain ⟨h1, h⟩ := h
    have hsub := sub_enumerate
    have begin' : ∀ {A' : Around} {E : Value → Shared → Prop} {Q : Value → Shared → Prop}, Q (.ref hp.objs.size) ⟨hp.push o, g, d, tk, os⟩ → wpAny (model prog w) A' (pyIter v) Q E ⟨hp, g, d, tk, os⟩ :=
      fun q => B.iter prog w _ _ ⟨hp, g, d, tk, os⟩ _ h1 q
    wp_walk using begin'
    refine wpAny_stack_any fun st => wpAny_pure ?_
    split
    · rename_i c _ _ _ _ _
      cases (c == Value.type "enumerate") <;> (wp_walk using begin'; exact ⟨_, rfl, h⟩)
    · wp_walk using begin'
      exact ⟨_, rfl, h⟩
section
variable {prog : Program} {w : World} {A : Around} {E : Value → Shared → Prop} {s : Shared}
theorem enumT_call {t : Addr} {items : Array Value} {Q : Value → Shared → Prop} (ht : s.heap.IsTuple t items)
    (h : ∀ h', IsEnum h' (s.heap.objs.size + 1) s.heap.objs.size 0 .none → h'.IsTupleIter s.heap.objs.size t 0 → (∀ b o, s.heap.get? b = some o → h'.get? b = some o) → Q (.ref (s.heap.objs.size + 1)) { s with heap := h' }) :
    wpAny (model prog w) A (call (.type "enumerate") [.ref t]) Q E s := by
  refine callType_new F.called_enumerate (by decide) (F.typeCall_enumerate_1 _) (F.newCall_enumerate_1 _) (fun obj => F.args_object_init_2 obj _) F.entry_enumerate_new (enumT_new (begins_tuple t items)) ⟨ht, ?_⟩
  have two : (s.heap.push { cls := .type "tuple_iterator", data := .fields #[.ref t, .int 0 0] }).objs.size = s.heap.objs.size + 1 := Heap.size_push ..
  show _ ∧ _
  rw [two]
  have he := Heap.get?_push_size (s.heap.push { cls := .type "tuple_iterator", data := .fields #[.ref t, .int 0 0] }) (o := { cls := .type "enumerate", data := .fields #[.none, .bool false, .ref s.heap.objs.size, rawInt 0, .none, .none] }) rfl
  rw [two] at he
  exact ⟨⟨_, he, rfl⟩, h _ he ⟨_, Heap.get?_push_of_some _ (Heap.get?_push_size _ rfl), rfl, rfl⟩ fun b o x => Heap.get?_push_of_some _ (Heap.get?_push_of_some _ x)⟩
end
/-- the tuple at a, each item in a new pair -/
def Itet (K : PySem.W.Frag) (a : Addr) : It :=
  ⟨fun i H => ∃ (xs : List V) (x : V), SqT K H a xs ∧ xs[i]? = some x, fun i H v H' => ∃ T x, v = .ref T ∧ H T = none ∧ H' = upd H T (.tup [.int (i : Nat), x]) ∧ ∀ xs, SqT K H a xs → xs[i]? = some x, fun i H => ∃ xs : List V, SqT K H a xs ∧ xs.length ≤ i⟩
theorem turn_enumT {P : Program} {w : World} {K : PySem.W.Frag} {elts : List Expr} {kk : Nat} {tpos : Pos} (a e it : Addr) :
    Turn P w K (.Tuple elts kk tpos) (Itet K a) [e, it] e (fun i h => (∃ old, IsEnum h e it ((i : Nat) : Int) old) ∧ h.IsTupleIter it a i ∧ e ≠ it) where
  mem := by simp
  obj := fun i h st b hb => by
    obtain ⟨⟨old, he⟩, ⟨o, ho, hc, hd⟩, _⟩ := st
    rcases (show b = e ∨ b = it by simpa using hb) with z | z
    · rw [z]; exact ⟨_, he, fun v q => nomatch q⟩
    · rw [z]; exact ⟨o, ho, fun v q => by rw [hd] at q; cases q⟩
  keep := fun i h h' st k => let ⟨⟨old, he⟩, hi, hne⟩ := st; ⟨⟨old, k e (by simp) _ he⟩, hi.at fun o q => k it (by simp) o q, hne⟩
  item := by
    intro X hP hw hK hc i pins s σ H E I hf st hg
    subst hP hw hK
    obtain ⟨⟨old, he⟩, hit, hne⟩ := st
    obtain ⟨xs, x, hq, hx⟩ := hg
    obtain ⟨its, rv, p, hz⟩ := I.tuple hq
    have hT : s.heap.IsTuple a its.toArray := p
    obtain ⟨u, hu, ru⟩ := rv.get hx
    have hel : e < s.heap.objs.size := Heap.lt_size he
    have hil : it < s.heap.objs.size := by obtain ⟨_, q, _⟩ := hit; exact Heap.lt_size q
    have nei : a ≠ it := fun z => by
      subst z
      obtain ⟨o, ho, hc', _⟩ := hT
      obtain ⟨o', ho', hc2, _⟩ := hit
      rw [ho] at ho'
      cases ho'
      rw [hc'] at hc2
      exact absurd hc2 (by intro z; injection z with z; exact absurd z (by decide))
    have nee : e ≠ a := fun z => by
      subst z
      obtain ⟨o, ho, hc', _⟩ := hT
      have he : s.heap.get? e = some _ := he
      rw [ho] at he
      cases he
      exact absurd hc' (by intro z; injection z with z; exact absurd z (by decide))
    have hlt : i < its.toArray.size := by
      have := (List.getElem?_eq_some_iff.mp hu).1
      simpa using this
    refine wpAny_pyNext_enum_itemD (Draws.tuple (A := X.A.in1) (I.ok.hd hc) it a nei its.toArray) he ⟨hit, hT⟩ hlt hne (by simp [hne, nee]) fun x' h' tk hP' ho hst hT' hsz hk => ?_
    have ex : x' = u := by
      have h1 : its.toArray[i]? = some x' := hP'
      rw [List.getElem?_toArray, hu] at h1
      exact (Option.some.inj h1).symm
    subst ex
    refine ⟨_, rfl, wpAny_letOwnedTupleGo_enum (s := { s with heap := h', toks := tk + 1 }) ho fun h'' he' sb => ?_⟩
    have hT2 : h''.get? s.heap.objs.size = some { cls := .type "tuple", data := .seq #[.int i tk, x'] } := (sb.2 _ (Nat.ne_of_gt hel)).trans hT'
    have new : ObjOk X.prog X.w (upd H s.heap.objs.size (.tup [.int (i : Nat), x])) h'' s.heap.objs.size (.tup [.int (i : Nat), x]) :=
      ⟨by show 2 ≤ sizeLine; decide, [.int i tk, x'], .cons ⟨_, rfl⟩ (.cons ru .nil), ⟨_, hT2, rfl, _, rfl⟩⟩
    have I1 : Inv X pins σ (upd H s.heap.objs.size (.tup [.int (i : Nat), x])) { s with heap := h'', toks := tk + 1 } :=
      I.turnedNew (ch := [e, it]) (fun b ob hb q => (sb.2 b (fun z => hb (by simp [z]))).trans (hk b ob (fun z => hb (by simp [z])) (fun z => hb (by simp [z])) q)) hf (Nat.le_refl _) new
    refine ⟨.ref s.heap.objs.size, _, I1, rfl, ⟨_, x, rfl, I.hok.fresh (Nat.le_refl _), rfl, fun ys hy => by rw [I.tuple_inj hy hq]; exact hx⟩, ⟨⟨x', ?_⟩, hst.1.at fun o q => (sb.2 it (Ne.symm hne)).trans q, hne⟩, fun b hb => ?_⟩
    · rw [show ((i + 1 : Nat) : Int) = (i : Int) + 1 by omega]
      exact he'
    · have hb' : b < s.heap.objs.size := by
        rcases (show b = e ∨ b = it by simpa using hb) with z | z
        · rw [z]; exact hel
        · rw [z]; exact hil
      rw [upd_ne (Nat.ne_of_lt hb')]
      exact (hf b hb).1
  done := by
    intro X hP hw hK hc i pins s σ H E I hf st hg
    subst hP hw hK
    obtain ⟨⟨old, he⟩, hit, hne⟩ := st
    obtain ⟨xs, hq, hx⟩ := hg
    obtain ⟨its, rv, p, hz⟩ := I.tuple hq
    have hT : s.heap.IsTuple a its.toArray := p
    have last : its.toArray[i]? = none := by
      have := rv.length
      rw [List.getElem?_toArray]
      exact List.getElem?_eq_none_iff.mpr (by omega)
    have D : Draws X.prog X.w X.A.in1 it [it, a] i (fun _ _ => True) (fun j h => j = i ∧ h.IsTupleIter it a i ∧ h.IsTuple a its.toArray) :=
      { live := fun _ _ st => let ⟨o, ho, _⟩ := st.2.1; ⟨o, ho⟩
        frame := fun _ _ _ st k => ⟨st.1, st.2.1.at fun o q => k it (by simp) o q, st.2.2.at fun o q => k a (by simp) o q⟩
        item := fun j s Q E hj st _ => absurd st.1 (Nat.ne_of_lt hj)
        done := fun s Q E st hE => wpAny_nextOf_tuple_end (I.ok.hd hc) st.2.1 st.2.2 last hE }
    obtain ⟨f0, f1, f2, f3, f4, f5⟩ := hf it (by simp)
    exact wpAny_pyNext_enum_endD D he ⟨rfl, hit, hT⟩ fun h' eb => ⟨rfl, I.turned (t' := s.toks) (fun b o hb q => eb b o hb q) f0 f1 f3 f4 f5⟩
  self := fun A i s Q E st h => let ⟨⟨_, he⟩, _⟩ := st; wpAny_pyIter_enum he h
/-- enumerate(e), e a list or a tuple -/
def iEnumS (K : PySem.W.Frag) (ta : TA) : TI := fun σ H R => ta σ H fun vs H1 => ∃ a xs, vs = [.ref a] ∧ ((SqL K H1 a xs ∧ R (Ite K a) H1) ∨ (SqT K H1 a xs ∧ R (Itet K a) H1))
theorem pi_enumS (K : PySem.W.Frag) {X : Cx} {e : Expr} {ta : TA} {p pos tpos : Pos} {elts : List Expr} {kk : Nat} (hg : Gl X "enumerate") (hm : X.mg "enumerate" = none) (ha : PA X [e] ta) (hK : X.K = K := by rfl) (hs : starEach [e] X.env = [(false, eval e X.env)] := by rfl) :
    PI X (.Tuple elts kk tpos) (.Call (.Name "enumerate" p) [e] [] pos) (iEnumS K ta) := by
  subst hK
  refine ⟨fun pins s σ H R I h => ?_⟩
  refine Call_ (ld_blt I hg hm boot_enumerate (PyProof.Rows.callWith_type1 (thn (ha.run pos pins s σ H _ I h) fun us s1 ⟨vs, H1, I1, r1, q1⟩ => ?_) hs rfl))
  obtain ⟨a, xs, ex, q⟩ := q1
  subst ex
  cases r1 with
  | cons r rr =>
  cases rr
  cases r
  have foot : ∀ {h' : Heap}, Inv X pins σ H1 { s1 with heap := h' } → ∀ b ∈ [s1.heap.objs.size + 1, s1.heap.objs.size], FpOk X pins H1 b := fun _ b hb => by
    have hle : s1.heap.objs.size ≤ b := by
      rcases (show b = s1.heap.objs.size + 1 ∨ b = s1.heap.objs.size by simpa using hb) with z | z
      · rw [z]; exact Nat.le_succ _
      · rw [z]; exact Nat.le_refl _
    exact I1.fpOk hle (I1.hok.fresh hle)
  rcases q with ⟨hq, q⟩ | ⟨hq, q⟩
  · obtain ⟨its, rv, p', hz⟩ := I1.list hq
    refine call_enumerate_list p'.isList fun h' he hit _ hk => wpAny_pyIter_enum he ?_
    have I2 : Inv X pins σ H1 { s1 with heap := h' } := I1.kept (t' := s1.toks) hk
    exact ⟨s1.heap.objs.size + 1, _, _, _, H1, rfl, I2, turn_enum a (s1.heap.objs.size + 1) s1.heap.objs.size, ⟨⟨.none, he⟩, hit, Nat.succ_ne_self _⟩, foot I2, q⟩
  · obtain ⟨its, rv, p', hz⟩ := I1.tuple hq
    refine enumT_call (show s1.heap.IsTuple a its.toArray from p') fun h' he hit hk => wpAny_pyIter_enum he ?_
    have I2 : Inv X pins σ H1 { s1 with heap := h' } := I1.kept (t' := s1.toks) hk
    exact ⟨s1.heap.objs.size + 1, _, _, _, H1, rfl, I2, turn_enumT a (s1.heap.objs.size + 1) s1.heap.objs.size, ⟨⟨.none, he⟩, hit, Nat.succ_ne_self _⟩, foot I2, q⟩
/-- e, a list or a tuple, walked -/
def iSeq (K : PySem.W.Frag) (tl : TE) : TI := fun σ H R => tl σ H fun v H1 => ∃ a xs, v = .ref a ∧ ((SqL K H1 a xs ∧ R (Itl K a) H1) ∨ (SqT K H1 a xs ∧ R (Itt K a) H1))
theorem pi_seqK (K : PySem.W.Frag) {X : Cx} {tg l : Expr} {tl : TE} (hl : PE X l tl) (hK : X.K = K := by rfl) : PI X tg l (iSeq K tl) := by
  subst hK
  refine ⟨fun pins s σ H R I h => ?_⟩
  refine thn (hl.run pins s σ H _ I h) fun v s1 ⟨x, H1, I1, r1, a, xs, e, q⟩ => ?_
  subst e
  cases r1
  have foot : ∀ b ∈ [s1.heap.objs.size], FpOk X pins H1 b := fun b hb => by
    rw [show b = s1.heap.objs.size by simpa using hb]
    exact I1.fpOk (Nat.le_refl _) (I1.hok.fresh (Nat.le_refl _))
  rcases q with ⟨hq, q⟩ | ⟨hq, q⟩
  · obtain ⟨its, rv, p, hz⟩ := I1.list hq
    exact wpAny_pyIter_list p.isList ⟨s1.heap.objs.size, _, _, _, H1, rfl, I1.kept (t' := s1.toks) fun b o e => Heap.get?_push_of_some _ e, turn_list a _, ⟨_, Heap.get?_push_size _ rfl, rfl, rfl⟩, foot, q⟩
  · obtain ⟨its, rv, p, hz⟩ := I1.tuple hq
    exact wpAny_pyIter_tuple (show s1.heap.IsTuple a its.toArray from p) ⟨s1.heap.objs.size, _, _, _, H1, rfl, I1.kept (t' := s1.toks) fun b o e => Heap.get?_push_of_some _ e, turn_tuple a _, ⟨_, Heap.get?_push_size _ rfl, rfl, rfl⟩, foot, q⟩
end FF
/-! Fivefault, part 24: several except clauses, with and without names. -/
namespace FF
open PySem PySem.Spec PyProof.Rows L2
def wManyB (K : PySem.W.Frag) (Wout : WX) (D : Ends) : List (Value × (Addr → Value → Option Addr → TS)) → WX
  | [] => Wout
  | (c, ts) :: r => fun cls d σ H => ∃ b, PySem.W.exmOne K cls c = some b ∧ (b = true → ∀ a, H a = none → ts a cls d D σ H) ∧ (b = false → wManyB K Wout D r cls d σ H)
/-- the readings of a clause with a name (slot i) -/
abbrev nmd (i : Nat) (ts : Addr → Value → Option Addr → TS) : Addr → Value → Option Addr → TS := fun a cls d D σ H => ts a cls d (asEnds i D) (σ.set i (some (.ref a))) H
inductive HdsB (X : Cx) (n : Str) (i : Nat) : List ExceptHandler → List (Value × (Addr → Value → Option Addr → TS)) → Prop
  | nil : HdsB X n i [] []
  | cons {x : Str} {c : Value} {ts : Addr → Value → Option Addr → TS} {b₀ : Stmt} {suite : List Stmt} {np pos' : Pos} {hds : List ExceptHandler} {l : List (Value × (Addr → Value → Option Addr → TS))} (hc : Names X x c)
      (hsu : ∀ (a : Addr) (oe : Obj) (cls : Value) (d : Option Addr) (pn : List (Addr × Obj)), Zc cls d oe → (∃ vs, oe.data = .fields vs) → PSs (X.suite a ((a, oe) :: pn)) (b₀ :: suite) (ts a cls d)) (r : HdsB X n i hds l) :
      HdsB X n i (.ExceptHandler (some (.Name x np)) (some n) (b₀ :: suite) pos' :: hds) ((c, nmd i ts) :: l)
  | cons0 {x : Str} {c : Value} {ts : Addr → Value → Option Addr → TS} {b₀ : Stmt} {suite : List Stmt} {np pos' : Pos} {hds : List ExceptHandler} {l : List (Value × (Addr → Value → Option Addr → TS))} (hc : Names X x c)
      (hsu : ∀ (a : Addr) (oe : Obj) (cls : Value) (d : Option Addr) (pn : List (Addr × Obj)), Zc cls d oe → (∃ vs, oe.data = .fields vs) → PSs (X.suite a ((a, oe) :: pn)) (b₀ :: suite) (ts a cls d)) (r : HdsB X n i hds l) :
      HdsB X n i (.ExceptHandler (some (.Name x np)) none (b₀ :: suite) pos' :: hds) ((c, ts) :: l)
section
variable {X : Cx} {n : Str} {i : Nat} {body : List Stmt} {h₀ : ExceptHandler} {hds : List ExceptHandler} {l : List (Value × (Addr → Value → Option Addr → TS))} {pos : Pos} {tb : WX → TS} {Wout : WX}
theorem ps_try_manyB (hs : X.stack = X.env :: X.outer) (hf : X.env.frame = some X.env.locals) (hN : X.N.Nodup) (hi : X.N[i]? = some n) (hln : X.env.kindOf n = some .local) (tk : Takes X Wout)
    (hb : ∀ (W : WX) (pn : List (Addr × Obj)) (xe : Value → Shared → Prop), Takes (X.tr pn xe) W → PassesOwn (model X.prog X.w) X.A X.env xe → PSs (X.tr pn xe) body (tb W))
    (hh : HdsB X n i (h₀ :: hds) l) : PS X (.Try body (h₀ :: hds) [] [] pos) (fun D σ H => tb (wManyB X.K Wout D l) D σ H) := by
  refine ⟨fun pins s σ H D I h => ?_⟩
  have ok := I.ok
  have hfr : X.A.frames = some (X.env :: X.outer) := by rw [ok.frames, hs]
  have hloc : Loc X.env.scope n := .inl hln
  refine wpAny_Try_except ?_
  refine wpAny_mono ((hb (wManyB X.K Wout D l) (X.pn ++ pins) (fun e s₁ => wpAny (model X.prog X.w) X.A (noteFrame e X.env) (fun _ s₂ => wpAny (model X.prog X.w) X.A (setFlight e none) (fun _ s₃ =>
    wpAny (model X.prog X.w) X.A (handleBy e X.env (h₀ :: hds)) (SP X pins D) X.xe s₃) X.xe s₂) X.xe s₁) (fun u s' xx => ?_) PassesOwn.looking).run [] s σ H D (I.toTry _) h) (fun f s1 hsp => ?_) (fun e s1 he => he)
  · obtain ⟨a, B, sI, pins', σ', H', cls, d, rfl, J', nb, up, sky, na, os, ag, w⟩ := xx
    have J : Inv X pins σ' H' sI := J'.ofTry ok
    have sky' : Sky B (X.env :: X.outer) a (Zc cls d) X.env.locals s'.heap := by rw [← hs]; exact sky
    show wpAny (model X.prog X.w) X.A (noteFrame (.ref a) X.env) _ _ _
    refine Sky.land Zc.steady hfr hf sky' fun h3 fl3 up3 => ?_
    have J3 : Inv X pins σ' H' { s' with heap := h3 } := J.landed nb fl3.1 (up.trans up3) os ag
    obtain ⟨oe3, vs3, he3, hz3, hd3⟩ := fl3.there
    have notFr : ∀ {h : Heap} {o : Obj} {vs : Array Value}, h.FunFrames B (X.env :: X.outer) → h.get? a = some o → o.data = .fields vs → a ∉ frs (X.env :: X.outer) := fun {h o vs} ff e dd hm => by
      obtain ⟨_, o', e', hnf⟩ := ff.mem hm
      rw [e] at e'; cases e'
      exact hnf _ dd
    have nfr := notFr fl3.2.2.1 he3 hd3
    have nL : a ≠ X.env.locals := fun z => nfr (List.mem_filterMap.mpr ⟨X.env, List.mem_cons_self, by rw [hf, z]⟩)
    have nF : a ∉ X.fs := fun hm => by
      obtain ⟨e, he, q⟩ := List.mem_filterMap.mp hm
      exact nfr (List.mem_filterMap.mpr ⟨e, List.mem_cons_of_mem _ he, q⟩)
    have S3 := J3.suite he3 hd3 na nL nF
    have go : ∀ {hds' : List ExceptHandler} {l' : List (Value × (Addr → Value → Option Addr → TS))}, HdsB X n i hds' l' → wManyB X.K Wout D l' cls d σ' H' →
        wpAny (model X.prog X.w) X.A (handleBy (.ref a) X.env hds') (SP X pins D) X.xe { s' with heap := h3 } := by
      intro hds' l' hk
      induction hk with
      | nil =>
        intro w
        refine wpAny_handleBy_nil ?_
        obtain ⟨k1, k2, k3, oe, vs, T, oT, ts', he, hz, hd, h1, hr⟩ := id fl3
        unfold PySem.passOn
        refine wpAny_bind (wpAny_field he hd h1 ?_)
        rw [if_neg (show ¬ ((Value.ref T == Value.none) = true) from by simp)]
        have fin : wpAny (model X.prog X.w) X.A (setFlight (.ref a) X.env.frame) (fun _ s4 => wpAny (model X.prog X.w) X.A (throw (.ref a) : Sem Flow) (SP X pins D) X.xe s4) X.xe { s' with heap := h3 } := by
          rw [hf]
          refine HandSPX.setFlight_upZ fl3 fun h4 hh4 up4 => wpAny_throw (tk _ _ ?_)
          exact ⟨a, B, sI, pins, σ', H', cls, d, rfl, J, nb, (up.trans up3).trans up4, .inr (.inr (by rw [hs]; exact hh4)), na, os, ag, w⟩
        first
          | exact wpAny_bind (wpAny_pure (wpAny_bind fin))
          | exact wpAny_bind fin
      | @cons x c ts b₀ suite np pos' hds2 l2 hc hsu r ih =>
        intro w
        obtain ⟨b, hb1, hyes, hno⟩ := w
        refine wpAny_handleBy_cons (codeAny_handlers_test ?_) (by intro q; cases q)
        have LT : PySem.W.Looks (model X.prog X.w) h3 (typeOf (.ref a)) cls := fun A Q E s k q => wpAny_typeOf_ref (k _ _ he3) (by rw [hz3.1]; exact q)
        have LM := PySem.W.exm_one (M := model X.prog X.w) (J3.kIn) LT hb1
        have test : ∀ {Q : Value → Shared → Prop} {E : Value → Shared → Prop}, Q c { s' with heap := h3 } → wpAny (model X.prog X.w) (X.A.mark (some (.ref a))) (eval (.Name x np) X.env) Q E { s' with heap := h3 } := fun {Q E} q => by
          obtain ⟨hg, hdbg, hm | ⟨hm, hv, hnn⟩⟩ := hc
          · exact ld_glob (X := X.suite a ((a, oe3) :: (X.pn ++ pins))) S3 hg hm q hdbg
          · exact ld_blt (X := X.suite a ((a, oe3) :: (X.pn ++ pins))) S3 hg hm hv q hnn hdbg
        refine test (LM.here ?_)
        cases b with
        | true =>
          refine codeAny_handlers_suite_as ?_
          refine HandSPX.lands_againZ fl3 fun h4 fl4 up4 => ?_
          have J4 : Inv X pins σ' H' { s' with heap := h4 } := J.landed nb fl4.1 ((up.trans up3).trans up4) os ag
          obtain ⟨oe4, vs4, he4, hz4, hd4⟩ := fl4.there
          have S4 := J4.suite he4 hd4 na nL nF
          refine store_ok (X := X.suite a ((a, oe4) :: (X.pn ++ pins))) (v := .ref a) S4 hN hi hloc rfl (fun s5 S5 => ?_) (.inr hln)
          refine wpAny_mono ((hsu a oe4 cls d (X.pn ++ pins) hz4 ⟨_, hd4⟩).run [] s5 _ H' _ S5 (hyes rfl a na)) (fun f s6 hsp => ?_) (fun _ _ z => False.elim z)
          have end_ : ∀ {σ6 : L2.St} {H6 : Hp} {Q : Shared → Prop}, Inv (X.suite a ((a, oe4) :: (X.pn ++ pins))) [] σ6 H6 s6 → (∀ s7, Inv X pins (σ6.set i none) H6 s7 → Q s7) →
              wpAny (model X.prog X.w) X.A (do bindName X.env n .none; unbindBehindTheSuite X.env n pos') (fun _ s7 => Q s7) X.xe s6 := fun {σ6 H6 Q} S6 hq => gone_ok (S6.unsuite ok) hN hi hln hq
          cases f with
          | next =>
            obtain ⟨σ6, H6, S6, q6⟩ := hsp
            exact end_ S6 fun s7 J7 => ⟨_, _, J7, q6⟩
          | brk =>
            obtain ⟨σ6, H6, S6, q6⟩ := hsp
            exact end_ S6 fun s7 J7 => ⟨_, _, J7, q6⟩
          | cont =>
            obtain ⟨σ6, H6, S6, q6⟩ := hsp
            exact end_ S6 fun s7 J7 => ⟨_, _, J7, q6⟩
          | ret u =>
            obtain ⟨v6, σ6, H6, S6, r6, q6⟩ := hsp
            exact end_ S6 fun s7 J7 => ⟨_, _, _, J7, r6, q6⟩
        | false =>
          show wpAny _ X.A (handleBy (.ref a) X.env hds2) _ _ _
          exact ih (hno rfl)
      | @cons0 x c ts b₀ suite np pos' hds2 l2 hc hsu r ih =>
        intro w
        obtain ⟨b, hb1, hyes, hno⟩ := w
        refine wpAny_handleBy_cons (codeAny_handlers_test ?_) (by intro q; cases q)
        have LT : PySem.W.Looks (model X.prog X.w) h3 (typeOf (.ref a)) cls := fun A Q E s k q => wpAny_typeOf_ref (k _ _ he3) (by rw [hz3.1]; exact q)
        have LM := PySem.W.exm_one (M := model X.prog X.w) (J3.kIn) LT hb1
        have test : ∀ {Q : Value → Shared → Prop} {E : Value → Shared → Prop}, Q c { s' with heap := h3 } → wpAny (model X.prog X.w) (X.A.mark (some (.ref a))) (eval (.Name x np) X.env) Q E { s' with heap := h3 } := fun {Q E} q => by
          obtain ⟨hg, hdbg, hm | ⟨hm, hv, hnn⟩⟩ := hc
          · exact ld_glob (X := X.suite a ((a, oe3) :: (X.pn ++ pins))) S3 hg hm q hdbg
          · exact ld_blt (X := X.suite a ((a, oe3) :: (X.pn ++ pins))) S3 hg hm hv q hnn hdbg
        refine test (LM.here ?_)
        cases b with
        | true =>
          refine codeAny_handlers_suite ?_
          refine HandSPX.lands_againZ fl3 fun h4 fl4 up4 => ?_
          have J4 : Inv X pins σ' H' { s' with heap := h4 } := J.landed nb fl4.1 ((up.trans up3).trans up4) os ag
          obtain ⟨oe4, vs4, he4, hz4, hd4⟩ := fl4.there
          have S4 := J4.suite he4 hd4 na nL nF
          refine wpAny_mono ((hsu a oe4 cls d (X.pn ++ pins) hz4 ⟨_, hd4⟩).run [] _ _ H' _ S4 (hyes rfl a na)) (fun f s6 hsp => ?_) (fun _ _ z => False.elim z)
          cases f with
          | next => let ⟨σ6, H6, S6, q6⟩ := hsp; exact ⟨_, _, S6.unsuite ok, q6⟩
          | brk => let ⟨σ6, H6, S6, q6⟩ := hsp; exact ⟨_, _, S6.unsuite ok, q6⟩
          | cont => let ⟨σ6, H6, S6, q6⟩ := hsp; exact ⟨_, _, S6.unsuite ok, q6⟩
          | ret u => let ⟨v6, σ6, H6, S6, r6, q6⟩ := hsp; exact ⟨_, _, _, S6.unsuite ok, r6, q6⟩
        | false =>
          show wpAny _ X.A (handleBy (.ref a) X.env hds2) _ _ _
          exact ih (hno rfl)
    exact go hh w
  · cases f with
    | next =>
      obtain ⟨σ', H', J', q⟩ := hsp
      exact wpAny_execs_nil ⟨σ', H', J'.ofTry ok, q⟩
    | brk =>
      obtain ⟨σ', H', J', q⟩ := hsp
      exact ⟨σ', H', J'.ofTry ok, q⟩
    | cont =>
      obtain ⟨σ', H', J', q⟩ := hsp
      exact ⟨σ', H', J'.ofTry ok, q⟩
    | ret u =>
      obtain ⟨v, σ', H', J', r, q⟩ := hsp
      exact ⟨v, σ', H', J'.ofTry ok, r, q⟩
end
end FF
/-! Fivefault, part 25: walks over what is a list or a tuple; over the signs of a text. -/
namespace FF
open PySem PySem.Spec PyProof.Rows L2
section
variable {K : PySem.W.Frag} {a : Addr} {xs : List V} {H : Hp}
theorem walkL_same (h : SqL K H a xs) : Walk (Itl K a) xs.length (Same H) (YAt xs) :=
  ⟨fun i H' hi e => ⟨xs, xs[i], up_l e h, by simp [hi]⟩, fun H' e => ⟨xs, up_l e h, Nat.le_refl _⟩, fun i H' x H2 _ e y => ⟨y.1, y.2 xs (up_l e h)⟩⟩
theorem walkT_same (h : SqT K H a xs) : Walk (Itt K a) xs.length (Same H) (YAt xs) :=
  ⟨fun i H' hi e => ⟨xs, xs[i], up_t e h, by simp [hi]⟩, fun H' e => ⟨xs, up_t e h, Nat.le_refl _⟩, fun i H' x H2 _ e y => ⟨y.1, y.2 xs (up_t e h)⟩⟩
abbrev YEn (xs : List V) : Nat → Hp → V → Hp → Prop := YPair (fun i => some (.int (i : Nat))) fun i => xs[i]?
theorem walkE_same (h : SqL K H a xs) : Walk (Ite K a) xs.length (Same H) (YEn xs) :=
  ⟨fun i H' hi e => ⟨xs, xs[i], up_l e h, by simp [hi]⟩, fun H' e => ⟨xs, up_l e h, Nat.le_refl _⟩, fun i H' v H2 _ e ⟨t, x, e1, n, e2, y⟩ => ⟨t, _, x, e1, n, e2, rfl, y xs (up_l e h)⟩⟩
theorem walkET_same (h : SqT K H a xs) : Walk (Itet K a) xs.length (Same H) (YEn xs) :=
  ⟨fun i H' hi e => ⟨xs, xs[i], up_t e h, by simp [hi]⟩, fun H' e => ⟨xs, up_t e h, Nat.le_refl _⟩, fun i H' v H2 _ e ⟨t, x, e1, n, e2, y⟩ => ⟨t, _, x, e1, n, e2, rfl, y xs (up_t e h)⟩⟩
theorem up_s {H' : Hp} (e : Same H H') (h : SqL K H a xs ∨ SqT K H a xs) : SqL K H' a xs ∨ SqT K H' a xs := h.imp (up_l e) (up_t e)
theorem len_s {n : Nat} (h : SqL K H a xs ∨ SqT K H a xs) (e : n = xs.length) : LenV K (.ref a) H n := h.imp (fun h => ⟨xs, h, e⟩) fun h => ⟨xs, h, e⟩
end
/-- [e for x in z]: the i-th item told by the i-th sign -/
theorem lc_strI {te : TE} {vs : List Nat} {j D : Nat} {σ : L2.St} {H1 : Hp} {Qd : Hp → Prop} {z : Str} (f : Nat → V) (hD : H1 D = none) (hz : z.length ≤ sizeLine) (hw : ∀ v, wipe ((wipe σ vs).set j (some v)) vs = wipe σ vs)
    (step : ∀ c H2, c ∈ z.cps.toList → ∀ Q' : VK, (∀ H3, Same H2 H3 → Q' (f c) H3) → te ((wipe σ vs).set j (some (.str ⟨#[c]⟩))) H2 Q')
    (done : ∀ H2, Same H1 H2 → H2 D = some (.lst (z.cps.toList.map f)) → Qd H2) :
    ∃ W : Nat → Nat → Hp → Prop, (∃ m, W 0 m (upd H1 D (.lst []))) ∧ ∀ i m H, W i m H →
      ((Its z).stop i H ∧ Qd H) ∨ ((Its z).go i H ∧ ∃ Nx : Hp → Prop, (∀ H', Nx H' → ∃ m', m' < m ∧ W (i + 1) m' H') ∧ ∀ v H', (Its z).yld i H v H' → gName j v (wipe σ vs) H' fun σ2 H2 => wipe σ2 vs = wipe σ vs ∧ tYes σ2 H2 fun b H3 =>
        if b = true then te σ2 H3 fun y H4 => ∃ acc, H4 D = some (.lst acc) ∧ acc.length < sizeLine ∧ Nx (upd H4 D (.lst (acc ++ [y]))) else Nx H3) := by
  refine ⟨fun i m H => m = z.cps.size - i ∧ i ≤ z.cps.size ∧ Same H1 H ∧ H D = some (.lst ((z.cps.toList.take i).map f)), ⟨_, rfl, Nat.zero_le _, same_new hD _, upd_same⟩, ?_⟩
  rintro i m H ⟨rfl, hi, e, h1⟩
  by_cases hlt : i < z.cps.size
  · refine .inr ⟨hlt, fun H' => i + 1 ≤ z.cps.size ∧ Same H1 H' ∧ H' D = some (.lst ((z.cps.toList.take (i + 1)).map f)), fun H' p' => ⟨z.cps.size - (i + 1), by omega, rfl, p'⟩, fun v H' y => ?_⟩
    obtain ⟨rfl, c, hc, rfl⟩ := y
    refine ⟨hw _, ?_⟩
    show te _ _ _
    have hc2 : z.cps.toList[i]? = some c := by rw [Array.getElem?_toList]; exact hc
    refine step c _ (List.mem_of_getElem? hc2) _ fun H3 e3 => ⟨_, e3 _ _ h1, ?_, hlt, same_at hD (e.trans e3), ?_⟩
    · rw [List.length_map, List.length_take, Array.length_toList]
      exact Nat.lt_of_lt_of_le (by omega) (show z.cps.size ≤ sizeLine from hz)
    · have : z.cps.toList.take (i + 1) = z.cps.toList.take i ++ [c] := by
        rw [List.take_add_one, hc2] <;> rfl
      rw [this, List.map_append, upd_same] <;> rfl
  · have : i = z.cps.size := by omega
    subst this
    rw [show z.cps.size = z.cps.toList.length from rfl, List.take_length] at h1
    exact .inl ⟨Nat.le_refl _, done H e h1⟩
/-- an if by what its test is -/
theorem if_bb {p b : Bool} {A B : Prop} (e : p = b) (h1 : b = true → A) (h2 : b = false → B) : if p = true then A else B := by
  subst e
  exact if_b h1 h2
theorem if_t {A B : Prop} (h : A) : if true = true then A else B := h
end FF
/-! Fivefault, part 26: fors and comprehensions over what is a list or a tuple. -/
namespace FF
open PySem PySem.Spec PyProof.Rows L2
section
variable {K : PySem.W.Frag} {a : Addr} {xs : List V} {g : TG} {tb : TS} {D : Ends} {σ : L2.St} {H : Hp}
abbrev ForR (J : It) (g : TG) (tb : TS) (D : Ends) (σ : L2.St) (H : Hp) : Prop := ∃ W : Nat → Nat → L2.St → Hp → Prop, (∃ m, W 0 m σ H) ∧ ∀ i m σ H, W i m σ H →
      (J.stop i H ∧ D.nx σ H) ∨ (J.go i H ∧ ∃ N : L2.St → Hp → Prop, (∀ σ' H', N σ' H' → ∃ m', m' < m ∧ W (i + 1) m' σ' H') ∧ ∀ x H', J.yld i H x H' → g x σ H' fun σ2 H2 => tb { D with nx := N, ct := N, bk := D.nx } σ2 H2)
theorem for_enumS {H0 : Hp} (h : SqL K H0 a xs ∨ SqT K H0 a xs) (e0 : Same H0 H) (Pv : Nat → L2.St → Hp → Prop) (h0 : Pv 0 σ H) (hG : ∀ i σ H', i ≤ xs.length → Pv i σ H' → Same H0 H')
    (hs : ∀ i x σ H1 t, xs[i]? = some x → Pv i σ H1 → H1 t = none → g (.ref t) σ (upd H1 t (.tup [.int (i : Nat), x])) fun σ2 H2 => tb { D with nx := Pv (i + 1), ct := Pv (i + 1), bk := D.nx } σ2 H2) (hd : ∀ σ H, Pv xs.length σ H → D.nx σ H) :
    ∃ a' xs', [V.ref a] = [.ref a'] ∧ ((SqL K H a' xs' ∧ ForR (Ite K a') g tb D σ H) ∨ (SqT K H a' xs' ∧ ForR (Itet K a') g tb D σ H)) := by
  have key : ∀ J, Walk J xs.length (Same H0) (YEn xs) → ForR J g tb D σ H := fun J wk => for_it wk Pv h0 hG (fun i x σ H1 H2 hi hp ⟨t, x1, y1, e1, n, e2, e3, e4⟩ => by
    cases e3
    subst e1 e2
    exact hs i y1 σ H1 t e4 hp n) hd
  exact ⟨a, xs, rfl, h.imp (fun h => ⟨up_l e0 h, key _ (walkE_same h)⟩) fun h => ⟨up_t e0 h, key _ (walkET_same h)⟩⟩
end
section
variable {K : PySem.W.Frag} {a : Addr} {xs : List V} {g : TG} {te : TE} {vs : List Nat} {σ : L2.St} {H1 : Hp} {Q : Addr → Hp → Prop}
abbrev LcR (J : It) (g : TG) (tt : TT) (te : TE) (vs : List Nat) (σ : L2.St) (H1 : Hp) (D : Addr) (Qd : Hp → Prop) : Prop := ∃ W : Nat → Nat → Hp → Prop, (∃ m, W 0 m (upd H1 D (.lst []))) ∧ ∀ i m H, W i m H →
      (J.stop i H ∧ Qd H) ∨ (J.go i H ∧ ∃ Nx : Hp → Prop, (∀ H', Nx H' → ∃ m', m' < m ∧ W (i + 1) m' H') ∧ ∀ x H', J.yld i H x H' → g x (wipe σ vs) H' fun σ2 H2 => wipe σ2 vs = wipe σ vs ∧ tt σ2 H2 fun b H3 =>
        if b = true then te σ2 H3 fun y H4 => ∃ acc, H4 D = some (.lst acc) ∧ acc.length < sizeLine ∧ Nx (upd H4 D (.lst (acc ++ [y]))) else Nx H3)
/-- [e for target in xs], any target, xs a list or a tuple -/
theorem lc_mapS (R : Nat → V → Hp → Prop) (mono : ∀ i y H H', SameT H H' → R i y H → R i y H') (h : SqL K H1 a xs ∨ SqT K H1 a xs) (hz : xs.length ≤ sizeLine)
    (step : ∀ i x H2, xs[i]? = some x → Same H1 H2 → ∀ Q' : VK, (∀ y H3, Same H2 H3 → R i y H3 → Q' y H3) → g x (wipe σ vs) H2 fun σ2 H3 => wipe σ2 vs = wipe σ vs ∧ te σ2 H3 Q')
    (gm : ∀ x H2 (A B : L2.St → Hp → Prop), (∀ σ H, A σ H → B σ H) → g x (wipe σ vs) H2 A → g x (wipe σ vs) H2 B)
    (done : ∀ H2 D ys, Same H1 H2 → H1 D = none → H2 D = some (.lst ys) → ys.length = xs.length → (∀ (i : Nat) (y : V), ys[i]? = some y → R i y H2) → Q D H2) :
    ∃ a' xs', V.ref a = .ref a' ∧ ((SqL K H1 a' xs' ∧ ∀ D, H1 D = none → LcR (Itl K a') g tYes te vs σ H1 D (Q D)) ∨ (SqT K H1 a' xs' ∧ ∀ D, H1 D = none → LcR (Itt K a') g tYes te vs σ H1 D (Q D))) := by
  have key : ∀ J, Walk J xs.length (Same H1) (YAt xs) → ∀ D, H1 D = none → LcR J g tYes te vs σ H1 D (Q D) := fun J wk D hD =>
    lc_it wk (fun i H => Same H1 H ∧ ∃ ys, H D = some (.lst ys) ∧ ys.length = i ∧ ∀ m y, ys[m]? = some y → R m y H) ⟨same_new hD _, [], upd_same, rfl, fun m y q => by simp at q⟩ (fun i H _ p => p.1)
      (fun i x H H' hi ⟨e, ys, h2, h3, h4⟩ ⟨e1, e2⟩ => by
        subst e1
        refine gm _ _ _ _ (fun σ2 H3 q => ⟨q.1, by unfold tYes; dsimp only; rw [if_pos rfl]; exact q.2⟩) (step i x _ e2 e _ fun y H3 e3 r => ?_)
        have hd := e3 _ _ h2
        have eT : SameT H3 (upd H3 D (.lst (ys ++ [y]))) := (SameT.refl H3).updL hd
        refine ⟨ys, hd, by omega, fun b o q => ?_, ys ++ [y], upd_same, by simp [h3], fun m y' q => ?_⟩
        · rw [upd_ne (ne_of_none q hD)]
          exact e3 _ _ (e _ _ q)
        · by_cases hm : m < ys.length
          · rw [List.getElem?_append_left hm] at q
            exact mono _ _ _ _ ((Same.T e3).trans eT) (h4 m y' q)
          · have : m = ys.length := by
              have := (List.getElem?_eq_some_iff.mp q).1
              simp at this
              omega
            subst this
            rw [List.getElem?_append_right (Nat.le_refl _), Nat.sub_self] at q
            cases q
            rw [h3]
            exact mono _ _ _ _ eT r)
      fun H ⟨e, ys, h1, h2, h3⟩ => done H D ys e hD h1 h2 h3
  exact ⟨a, xs, rfl, h.imp (fun h => ⟨h, key _ (walkL_same h)⟩) fun h => ⟨h, key _ (walkT_same h)⟩⟩
end
end FF
/-! Fivefault, part 27: [x for x in xs if test], the test told by x. -/
namespace FF
open PySem PySem.Spec PyProof.Rows L2
end FF
/-! Fivefault, part 28: [x for l in ls for x in l] over a tuple of lists or tuples; defs with *v called where no exception comes. -/
namespace FF
open PySem PySem.Spec PyProof.Rows L2 StX
section
variable {X : Cx} {x : Str} {k j : Nat} {sp : Sp} {e : Expr} {es : List Expr} {p pos : Pos} {t : TA}
end
section
variable {K : PySem.W.Frag} {a : Addr} {xs : List V} {uss : List (List V)} {vs vs1 : List Nat} {jo ji : Nat} {σ : L2.St} {H1 : Hp} {Q : Addr → Hp → Prop}
end
end FF
/-! Fivefault, part 29: is, where the left side is None or a bool. -/
namespace FF
open PySem PySem.Spec PyProof.Rows L2
def rIsOb : R2 := fun x y H Q => ∃ b : Bool, y = .bl b ∧ (x = .non ∨ ∃ a : Bool, x = .bl a) ∧ Q (.bl (decide (x = .bl b))) H
theorem op_isOb {X : Cx} : OpR X (compareOp .Is) rIsOb := by
  intro pins s σ H x y v u Q I rx ry h
  obtain ⟨b, rfl, hx, q⟩ := h
  cases (show u = Value.bool b from ry)
  rcases hx with rfl | ⟨a, rfl⟩
  · cases (show v = Value.none from rx)
    exact wpAny_is_other rfl (fun z => by cases z) ⟨.bl false, H, I, rfl, by simpa using q⟩
  · cases (show v = Value.bool a from rx)
    by_cases e : a = b
    · subst e
      exact wpAny_is_self rfl ⟨.bl true, H, I, rfl, by simpa using q⟩
    · exact wpAny_is_other rfl (fun z => e (Value.bool.inj z)) ⟨.bl false, H, I, rfl, by simpa [e] using q⟩
end FF
/-! Fivefault, part 30: a, *b = xs (a list at the right); {**d, k: v}. -/
namespace FF
open PySem PySem.Spec PyProof.Rows L2
section
variable {prog : Program} {w : World} {K : Type} [DecidableEq K] {knd : KeyKind prog w K} {A : Around} {E : Value → Shared → Prop} {s : Shared}
end
end FF
/-! Fivefault, part 31: more comprehensions: a test told with the heap; a choice of any target; items that are new objects. -/
namespace FF
open PySem PySem.Spec PyProof.Rows L2
theorem lc_filtW {K : PySem.W.Frag} {a D : Addr} {xs : List V} {tt : TT} {te : TE} {vs : List Nat} {j : Nat} {σ : L2.St} {H1 : Hp} {Qd : Hp → Prop} (f : V → Bool) (hD : H1 D = none) (hs : SqL K H1 a xs) (hz : xs.length ≤ sizeLine)
    (hw : ∀ x, wipe ((wipe σ vs).set j (some x)) vs = wipe σ vs)
    (test : ∀ (i : Nat) (x : V) (H2 : Hp), xs[i]? = some x → Same H1 H2 → ∀ Qb : Bool → Hp → Prop, (∀ H3, Same H2 H3 → Qb (f x) H3) → tt ((wipe σ vs).set j (some x)) H2 Qb)
    (elt : ∀ x H2 (Q' : VK), Q' x H2 → te ((wipe σ vs).set j (some x)) H2 Q')
    (done : ∀ H2, Same H1 H2 → H2 D = some (.lst (xs.filter f)) → Qd H2) :
    ∃ W : Nat → Nat → Hp → Prop, (∃ m, W 0 m (upd H1 D (.lst []))) ∧ ∀ i m H, W i m H →
      ((Itl K a).stop i H ∧ Qd H) ∨ ((Itl K a).go i H ∧ ∃ Nx : Hp → Prop, (∀ H', Nx H' → ∃ m', m' < m ∧ W (i + 1) m' H') ∧ ∀ x H', (Itl K a).yld i H x H' → gName j x (wipe σ vs) H' fun σ2 H2 => wipe σ2 vs = wipe σ vs ∧ tt σ2 H2 fun b H3 =>
        if b = true then te σ2 H3 fun y H4 => ∃ acc, H4 D = some (.lst acc) ∧ acc.length < sizeLine ∧ Nx (upd H4 D (.lst (acc ++ [y]))) else Nx H3) :=
  lc_list (fun i H => Same H1 H ∧ H D = some (.lst ((xs.take i).filter f)))
    ⟨same_new hD _, upd_same⟩ (fun i H _ p => up_l p.1 hs)
    (fun i x H hx ⟨e, h1⟩ => ⟨hw x, test i x H hx e _ fun H3 e3 => by
      have take1 : xs.take (i + 1) = xs.take i ++ [x] := by
        rw [List.take_add_one, hx] <;> rfl
      cases hb : f x with
      | false =>
        refine iteF ⟨e.trans e3, ?_⟩
        rw [take1, List.filter_append, List.filter_cons_of_neg (by rw [hb]; decide), List.filter_nil, List.append_nil]
        exact e3 _ _ h1
      | true =>
        refine iteT (elt x H3 _ ⟨_, e3 _ _ h1, ?_, same_at hD (e.trans e3), ?_⟩)
        · refine Nat.lt_of_le_of_lt (List.length_filter_le _ _) ?_
          rw [List.length_take]
          have := (List.getElem?_eq_some_iff.mp hx).1
          omega
        · rw [take1, List.filter_append, List.filter_cons_of_pos hb, List.filter_nil, upd_same]⟩)
    fun H ⟨e, h1⟩ => done H e (by rw [List.take_length] at h1; exact h1)
section
variable {K : PySem.W.Frag} {a : Addr} {xs : List V} {g : TG} {tt : TT} {te : TE} {vs : List Nat} {σ : L2.St} {H1 : Hp} {Q : Addr → Hp → Prop}
/-- [e for target in xs if test], xs a list or a tuple: which items, told by the place -/
theorem lc_selS (F : Nat → Option V) (h : SqL K H1 a xs ∨ SqT K H1 a xs) (hz : xs.length ≤ sizeLine)
    (step : ∀ i x H2, xs[i]? = some x → Same H1 H2 → ∀ (Qy : VK) (Qn : Hp → Prop), (∀ y H3, Same H2 H3 → F i = some y → Qy y H3) → (∀ H3, Same H2 H3 → F i = none → Qn H3) →
      g x (wipe σ vs) H2 fun σ2 H3 => wipe σ2 vs = wipe σ vs ∧ tt σ2 H3 fun b H4 => if b = true then te σ2 H4 Qy else Qn H4)
    (done : ∀ H2 D, Same H1 H2 → H1 D = none → H2 D = some (.lst ((List.range xs.length).filterMap F)) → Q D H2) :
    ∃ a' xs', V.ref a = .ref a' ∧ ((SqL K H1 a' xs' ∧ ∀ D, H1 D = none → LcR (Itl K a') g tt te vs σ H1 D (Q D)) ∨ (SqT K H1 a' xs' ∧ ∀ D, H1 D = none → LcR (Itt K a') g tt te vs σ H1 D (Q D))) := by
  have key : ∀ J, Walk J xs.length (Same H1) (YAt xs) → ∀ D, H1 D = none → LcR J g tt te vs σ H1 D (Q D) := fun J wk D hD =>
    lc_it wk (fun i H => Same H1 H ∧ H D = some (.lst ((List.range i).filterMap F))) ⟨same_new hD _, upd_same⟩ (fun i H _ p => p.1)
      (fun i x H H' hi ⟨e, h2⟩ ⟨e1, e2⟩ => by
        subst e1
        refine step i x _ e2 e _ _ (fun y H3 e3 hF => ?_) (fun H3 e3 hF => ?_)
        · refine ⟨_, e3 _ _ h2, ?_, same_at hD (e.trans e3), ?_⟩
          · refine Nat.lt_of_le_of_lt (List.length_filterMap_le _ _) ?_
            rw [List.length_range]
            omega
          · rw [upd_same, List.range_succ, List.filterMap_append, List.filterMap_cons_some hF, List.filterMap_nil]
        · refine ⟨e.trans e3, ?_⟩
          rw [List.range_succ, List.filterMap_append, List.filterMap_cons_none hF, List.filterMap_nil, List.append_nil]
          exact e3 _ _ h2)
      fun H ⟨e, h1⟩ => done H D e hD h1
  exact ⟨a, xs, rfl, h.imp (fun h => ⟨h, key _ (walkL_same h)⟩) fun h => ⟨h, key _ (walkT_same h)⟩⟩
end
section
variable {K : PySem.W.Frag} {a : Addr} {xs : List V} {te : TE} {vs : List Nat} {σ : L2.St} {H1 : Hp} {D : Addr} {Qd : Hp → Prop} {j : Nat}
end
end FF
/-! Fivefault, part 32: x[i] of a text or a tuple; C() of an own class. -/
namespace FF
open PySem PySem.Spec PyProof.Rows L2
end FF
/-! Fivefault, part 33: a text times an int. -/
namespace FF
open PySem PySem.Spec PyProof.Rows L2
end FF
/-! Fivefault, part 34: int(t, 2). -/
namespace FF
open PySem PySem.Spec PyProof.Rows L2
namespace Bn
open PySem.NumText PySem.Calls L2.Hx
end Bn
end FF
/-! Fivefault, part 35: t[::-1]. -/
namespace FF
open PySem PySem.Spec PyProof.Rows L2
end FF
/-! Fivefault, part 36: C(..) where __init__ may raise; {k: v for .. in enumerate(xs)}. -/
namespace FF
open PySem PySem.Spec PyProof.Rows L2
/-- C(..): the class C with an own __init__ that may raise -/
structure MakeX (P : Program) (w : World) (K : PySem.W.Frag) (mg : Str → Option Value) (base : Heap) (C : Str) (k : Nat) (ps : List Str) (sp : Sp) : Prop where
  ex : ∃ fd, FnOk P w K mg base (L2.CX P w) k (He.ma K (He.ga K C) "__init__") fd ps sp ∧ Binds K fd ps []
  mkr : Mk K (He.ga K C) (He.ma K (He.ga K C) "__init__")
  hm : mg C = some (.ref (He.ga K C))
section
variable {J : It} {n : Nat} {G : Hp → Prop} {Y : Nat → Hp → V → Hp → Prop}
theorem dc_it (w : Walk J n G Y) {g : TG} {tt : TT} {tk tv : TE} {vs : List Nat} {σ : L2.St} {H1 : Hp} {D : Addr} {Qd : Hp → Prop} (Pv : Nat → Hp → Prop) (h0 : Pv 0 (upd H1 D (.dK []))) (hG : ∀ i H, i ≤ n → Pv i H → G H)
    (hs : ∀ i x H H', i < n → Pv i H → Y i H x H' → g x (wipe σ vs) H' fun σ2 H2 => wipe σ2 vs = wipe σ vs ∧ tt σ2 H2 fun b H3 =>
      if b = true then tk σ2 H3 fun y H4 => tv σ2 H4 fun z H5 => ∃ kvs k, y = kV k ∧ H5 D = some (.dK kvs) ∧ kvs.length < sizeLine ∧ Pv (i + 1) (upd H5 D (.dK (putK kvs k z))) else Pv (i + 1) H3) (hd : ∀ H, Pv n H → Qd H) :
    ∃ W : Nat → Nat → Hp → Prop, (∃ m, W 0 m (upd H1 D (.dK []))) ∧ ∀ i m H, W i m H →
      (J.stop i H ∧ Qd H) ∨ (J.go i H ∧ ∃ Nx : Hp → Prop, (∀ H', Nx H' → ∃ m', m' < m ∧ W (i + 1) m' H') ∧ ∀ x H', J.yld i H x H' → g x (wipe σ vs) H' fun σ2 H2 => wipe σ2 vs = wipe σ vs ∧ tt σ2 H2 fun b H3 =>
        if b = true then tk σ2 H3 fun y H4 => tv σ2 H4 fun z H5 => ∃ kvs k, y = kV k ∧ H5 D = some (.dK kvs) ∧ kvs.length < sizeLine ∧ Nx (upd H5 D (.dK (putK kvs k z))) else Nx H3) := by
  refine ⟨fun i m H => m = n - i ∧ i ≤ n ∧ Pv i H, ⟨n, by simp, Nat.zero_le _, h0⟩, ?_⟩
  rintro i m H ⟨rfl, hi, p⟩
  have q := hG i H hi p
  by_cases hlt : i < n
  · exact .inr ⟨w.goes i H hlt q, Pv (i + 1), fun H' p' => ⟨n - (i + 1), by omega, rfl, hlt, p'⟩, fun x H' y => hs i x H H' hlt p (w.yields i H x H' hlt q y)⟩
  · have e : i = n := by omega
    subst e
    exact .inl ⟨w.stops H q, hd H p⟩
end
end FF
/-! Fivefault, part 37: len(x), x of an own class with __len__. -/
namespace FF
open PySem PySem.Spec PyProof.Rows L2
end FF
/-! Fivefault, part 38: a text times any int, told exactly. -/
namespace FF
open PySem PySem.Spec PyProof.Rows L2
end FF
/-! Fivefault, part 39: t.join(..) within a comprehension. -/
namespace FF
open PySem PySem.Spec PyProof.Rows L2
theorem pe_joinK {X : Cx} {o e : Expr} {to te : TE} {apos pos : Pos} (K : PySem.W.Frag) (ho : PE X o to) (he : PE X e te) (hs : starEach [e] X.env = [(false, eval e X.env)] := by rfl) (hbase : attributeBase o "join" X.env (eval o X.env) = eval o X.env := by rfl) (hline : (apos.endLine == pos.line) = true := by rfl) (hK : X.K = K := by rfl) :
    PE X (.Call (.Attribute o "join" apos) [e] [] pos) (tM1 (fun x xs H Q => ∃ a p, ∃ ys : List Str, x = .str a ∧ xs = [.ref p] ∧ (SqL K H p (ys.map V.str) ∨ SqT K H p (ys.map V.str)) ∧
      (ys.map (·.length)).sum + ys.length * a.length ≤ 16777216 ∧ Q (.str (Txt.join a ys)) H) to te) := by
  subst hK
  exact pe_join ho he hs hbase hline
end FF
/-! Fivefault, part 40: C(..) where __init__ may raise, within a lambda. -/
namespace FF
open PySem PySem.Spec PyProof.Rows L2
end FF
/-! Fivefault, part 41: methods of own classes with *v; methods that raise, within a lambda. -/
namespace FF
open PySem PySem.Spec PyProof.Rows L2 StX
/-- C.m(self, *v) -/
structure MethS (P : Program) (w : World) (K : PySem.W.Frag) (mg : Str → Option Value) (base : Heap) (C m : Str) (k : Nat) (sp : Sp) : Prop where
  ex : FnR P w K mg base (L2.CX P w) k (He.ma K (He.ga K C) m) sp
  cl : Cls K (He.ga K C)
  me : Meth K (He.ga K C) m (He.ma K (He.ga K C) m)
section
variable {X : Cx} {W : WX} {E : XK} {C m : Str} {k j : Nat} {ps : List Str} {sp : Sp} {o e : Expr} {es : List Expr} {apos pos : Pos} {to : TE} {t : TA} {pl : Sem Bool}
end
end FF
/-! Fivefault, part 42: the Hook with the defs that stand in records (properties, classmethods, staticmethods). -/
namespace FF
open PySem PySem.Spec PyProof.Rows L2
/-- the def in the record of the class's attribute -/
def gAd (K : PySem.W.Frag) (kind : String) (C m : Str) : Addr := match PySem.W.recIn K (He.ma K (He.ga K C) m) kind with
  | some (.ref g :: _) => g
  | _ => 0
/-- .. its setter -/
def sAd (K : PySem.W.Frag) (C m : Str) : Addr := match PySem.W.recIn K (He.ma K (He.ga K C) m) "property" with
  | some (_ :: .ref g :: _) => g
  | _ => 0
structure GetD where
  kind : String
  cls : Str
  attr : Str
  d : He.DefD
def GetD.ad (K : PySem.W.Frag) (g : GetD) : Addr := if g.kind = "setter" then sAd K g.cls g.attr else gAd K g.kind g.cls g.attr
def fnWa (K : PySem.W.Frag) (a : Addr) : He.FnW := match K.lookup a with
  | some ⟨_, _, .func fd, _⟩ => some (fd.name, fd.qualname, fd.params, fd.body, fd.scope, fd.globals, fd.closure, fd.builtins)
  | _ => none
def GetD.ok (K : PySem.W.Frag) (g : GetD) : Bool := PySem.W.keepIn K (.ref (g.ad K)) && (match K.lookup (g.ad K) with
  | some ⟨_, _, .func fd, _⟩ => PySem.W.codeIn K fd.code g.d.qual && (He.dflB K fd.defaults (g.d.dvs K) && He.kwdB K fd.kwdefaults (g.d.kws K))
  | _ => false)
theorem GetD.funD {K : PySem.W.Frag} {g : GetD} (e : fnWa K (g.ad K) = g.d.val) (c : g.ok K = true) : ∃ fd, FunD K g.d.name g.d.qual g.d.params g.d.body g.d.scope (g.d.dvs K) (g.d.kws K) (g.ad K) fd := by
  obtain ⟨kp, c2⟩ := He.ba c
  unfold fnWa at e
  cases q : K.lookup (g.ad K) with
  | none =>
    rw [q] at c2
    cases c2
  | some o =>
    obtain ⟨oc, od, dt, osl⟩ := o
    rw [q] at c2 e
    cases dt with
    | func fd =>
      obtain ⟨n1, n2, n3, n4, n5, n6, n7, n8, n9, n10, n11, n12, n13, n14, n15⟩ := fd
      have e2 : (some (n1, n2, n3, n4, n5, n6, n7, n15) : He.FnW) = some (g.d.name, g.d.qual, g.d.params, .stmts g.d.body, g.d.scope, mainGlobals, [], builtinsNs) := e
      simp only [Option.some.injEq, Prod.mk.injEq] at e2
      obtain ⟨h1, h2, h3, h4, h5, h6, h7, h8⟩ := e2
      subst h1 h2 h3 h4 h5 h6 h7 h8
      have c3 : (PySem.W.codeIn K n13 g.d.qual && (He.dflB K n8 (g.d.dvs K) && He.kwdB K n9 (g.d.kws K))) = true := c2
      obtain ⟨k1, k2⟩ := He.ba c3
      obtain ⟨k3, k4⟩ := He.ba k2
      exact ⟨_, ⟨oc, od, n8, n9, n10, n11, n12, n13, n14, osl, rfl, q, k1, He.dflB_ok k3, He.kwdB_ok k4⟩, kp⟩
    | _ => cases c2
/-! ### the Hook -/
structure SaysZ (fa : List He.Fa) (fn : List He.DefD) (fp : List GetD) (tf : List He.Defn) (ex : PySem.W.Frag → Bool) (w : World) (h : Heap) (K : PySem.W.Frag) : Prop where
  x : He.SaysX fa fn [] tf ex w h K
  b : (fp.all fun g => g.ok K) = true
  v : fp.map (fun g => fnWa K (g.ad K)) = fp.map fun g => g.d.val
theorem SaysZ.get {fa : List He.Fa} {fn : List He.DefD} {fp : List GetD} {tf : List He.Defn} {ex : PySem.W.Frag → Bool} {w : World} {h : Heap} {K : PySem.W.Frag} (c : SaysZ fa fn fp tf ex w h K) (i : Nat) {g : GetD} (hg : fp[i]? = some g := by rfl) :
    ∃ fd, FunD K g.d.name g.d.qual g.d.params g.d.body g.d.scope (g.d.dvs K) (g.d.kws K) (g.ad K) fd := by
  have e2 : (fp.map fun g => fnWa K (g.ad K))[i]? = (fp.map fun g => g.d.val)[i]? := by rw [c.v]
  rw [List.getElem?_map, List.getElem?_map, hg] at e2
  exact GetD.funD (Option.some.inj e2) (List.all_eq_true.mp c.b g (List.mem_of_getElem? hg))
/-! ### a property -/
/-- e.f, a property of the class C, whose getter is the def at level k -/
structure PropD (P : Program) (w : World) (K : PySem.W.Frag) (mg : Str → Option Value) (base : Heap) (C f : Str) (k : Nat) (sp : Sp) : Prop where
  ex : ∃ fd, FnOk P w K mg base CX0 k (gAd K "property" C f) fd ["self"] sp ∧ Binds K fd ["self"] []
  cl : Cls K (He.ga K C)
  pr : PropOf K (He.ga K C) f (He.ma K (He.ga K C) f) (gAd K "property" C f)
end FF
/-! Fivefault, part 43: o.m(k = v, ..). -/
namespace FF
open PySem PySem.Spec PyProof.Rows L2
end FF
/-! Fivefault, part 44: more comprehensions over a list and a range: items that are new objects; those told exactly. -/
namespace FF
open PySem PySem.Spec PyProof.Rows L2
section
variable {K : PySem.W.Frag} {a : Addr} {xs : List V} {tt : TT} {te : TE} {vs : List Nat} {σ : L2.St} {H1 : Hp} {D : Addr} {Qd : Hp → Prop} {j : Nat}
end
end FF
/-! Fivefault, part 45: staticmethods called by their class. -/
namespace FF
open PySem PySem.Spec PyProof.Rows L2
/-- what of the text a staticmethod has -/
structure StatOf (K : PySem.W.Frag) (C : Addr) (m : Str) (p g : Addr) : Prop where
  at_ : PySem.W.findCls K (.ref C) (.type "type") m = some (.get (.builtin "staticmethod.__get__") (.ref p) .none (.ref C))
  rc : ∃ rest, PySem.W.recIn K p "staticmethod" = some (.ref g :: rest)
/-- C.m(..), m a staticmethod of C -/
structure StatX (P : Program) (w : World) (K : PySem.W.Frag) (mg : Str → Option Value) (base : Heap) (C m : Str) (k : Nat) (ps : List Str) (sp : Sp) : Prop where
  ex : ∃ fd, FnOk P w K mg base (L2.CX P w) k (gAd K "staticmethod" C m) fd ps sp ∧ Binds K fd ps []
  kp : PySem.W.keepIn K (.ref (gAd K "staticmethod" C m)) = true
  rd : ClX.CRead K (He.ga K C) (.type "type")
  st : StatOf K (He.ga K C) m (He.ma K (He.ga K C) m) (gAd K "staticmethod" C m)
  hm : mg C = some (.ref (He.ga K C))
section
variable {X : Cx} {W : WX} {E : XK} {C m : Str} {k j : Nat} {ps : List Str} {sp : Sp} {e : Expr} {es : List Expr} {p1 p2 pos : Pos} {t : TA} {pl : Sem Bool}
end
end FF
/-! Fivefault, part 46: {x for x in xs if ..} for any kind of keys; set(t), len of a set of ints. -/
namespace FF
open PySem PySem.Spec PyProof.Rows L2
abbrev emptySet (w : World) : Obj := { cls := .type "set", dict := none, data := .set #[] 0 (.fresh 0 0 (!w.params.followText "set-order")) }
/-- a kind of sets: how one stands in the heap, what is added -/
structure SFam (P : Program) (w : World) where
  κ : Type
  eq : κ → κ → Bool
  ob : Addr → (κ → Bool) → Nat → HO
  val : κ → V
  fresh : ∀ (H : Hp) (h : Heap), ObjOk P w H (h.push (emptySet w)) h.objs.size (ob h.objs.size (fun _ => false) 0)
  add : ∀ (X : Cx) (pins : List (Addr × Obj)) (σ : L2.St) (H : Hp) (s : Shared) (D : Addr) (S : κ → Bool) (n : Nat) (y : κ) (u : Value) (Q : Value → Shared → Prop) (E : Value → Shared → Prop), X.prog = P → X.w = w → Inv X pins σ H s → H D = some (ob D S n) → n + 1 < scanBound → RelV (val y) u →
    (∀ s', Inv X pins σ (upd H D (ob D (fun j => S j || eq j y) (if S y = true then n else n + 1))) s' → Q .none s') → wpAny (model X.prog X.w) X.A (call (.builtin "set.add") [.ref D, u]) Q E s
def SFam.put {P : Program} {w : World} (F : SFam P w) (S : F.κ → Bool) (y : F.κ) : F.κ → Bool := fun j => S j || F.eq j y
/-! ### sets of ints -/
end FF
/-! Fivefault, part 47: methods called in a comprehension's block, where no exception comes (K named). -/
namespace FF
open PySem PySem.Spec PyProof.Rows L2
section
variable {X : Cx} {C m : Str} {k j : Nat} {ps : List Str} {sp : Sp} {o e : Expr} {es : List Expr} {apos pos : Pos} {to : TE} {t : TA} {pl : Sem Bool}
end
/-! a comprehension over a list, any target -/
theorem lc_mapG {K : PySem.W.Frag} {a : Addr} {xs : List V} {g : TG} {te : TE} {vs : List Nat} {σ : L2.St} {H1 : Hp} {Q : Addr → Hp → Prop} (R : Nat → V → Hp → Prop) (mono : ∀ i y H H', SameT H H' → R i y H → R i y H') (h : SqL K H1 a xs) (hz : xs.length ≤ sizeLine)
    (step : ∀ i x H2, xs[i]? = some x → Same H1 H2 → ∀ Q' : VK, (∀ y H3, Same H2 H3 → R i y H3 → Q' y H3) → g x (wipe σ vs) H2 fun σ2 H3 => wipe σ2 vs = wipe σ vs ∧ te σ2 H3 Q')
    (gm : ∀ x H2 (A B : L2.St → Hp → Prop), (∀ σ H, A σ H → B σ H) → g x (wipe σ vs) H2 A → g x (wipe σ vs) H2 B)
    (done : ∀ H2 D ys, Same H1 H2 → H1 D = none → H2 D = some (.lst ys) → ys.length = xs.length → (∀ (i : Nat) (y : V), ys[i]? = some y → R i y H2) → Q D H2) : ∀ D, H1 D = none → LcR (Itl K a) g tYes te vs σ H1 D (Q D) :=
  have wk : Walk (Itl K a) xs.length (Same H1) (YAt xs) := walkL_same h
  fun D hD =>
    lc_it wk (fun i H => Same H1 H ∧ ∃ ys, H D = some (.lst ys) ∧ ys.length = i ∧ ∀ m y, ys[m]? = some y → R m y H) ⟨same_new hD _, [], upd_same, rfl, fun m y q => by simp at q⟩ (fun i H _ p => p.1)
      (fun i x H H' hi ⟨e, ys, h2, h3, h4⟩ ⟨e1, e2⟩ => by
        subst e1
        refine gm _ _ _ _ (fun σ2 H3 q => ⟨q.1, by unfold tYes; dsimp only; rw [if_pos rfl]; exact q.2⟩) (step i x _ e2 e _ fun y H3 e3 r => ?_)
        have hd := e3 _ _ h2
        have eT : SameT H3 (upd H3 D (.lst (ys ++ [y]))) := (SameT.refl H3).updL hd
        refine ⟨ys, hd, by omega, fun b o q => ?_, ys ++ [y], upd_same, by simp [h3], fun m y' q => ?_⟩
        · rw [upd_ne (ne_of_none q hD)]
          exact e3 _ _ (e _ _ q)
        · by_cases hm : m < ys.length
          · rw [List.getElem?_append_left hm] at q
            exact mono _ _ _ _ ((Same.T e3).trans eT) (h4 m y' q)
          · have : m = ys.length := by
              have := (List.getElem?_eq_some_iff.mp q).1
              simp at this
              omega
            subst this
            rw [List.getElem?_append_right (Nat.le_refl _), Nat.sub_self] at q
            cases q
            rw [h3]
            exact mono _ _ _ _ eT r)
      fun H ⟨e, ys, h1, h2, h3⟩ => done H D ys e hD h1 h2 h3
end FF
/-! Fivefault, part 48: classmethods; cls(..) with cls a local name; a class's constants. -/
namespace FF
open PySem PySem.Spec PyProof.Rows L2
/-- C.m(..), m a classmethod of C -/
structure ClsX (P : Program) (w : World) (K : PySem.W.Frag) (mg : Str → Option Value) (base : Heap) (C m : Str) (k : Nat) (sp : Sp) : Prop where
  ex : FnR P w K mg base (L2.CX P w) k (gAd K "classmethod" C m) sp
  rd : ClX.CRead K (He.ga K C) (.type "type")
  cm : ClX.CMet K (He.ga K C) (.type "type") m (He.ma K (He.ga K C) m) (gAd K "classmethod" C m)
section
variable {X : Cx} {W : WX} {E : XK} {C m : Str} {k j : Nat} {ps : List Str} {sp : Sp} {e : Expr} {es : List Expr} {p1 p2 pos : Pos} {t : TA} {pl : Sem Bool}
end
end FF
/-! Fivefault, part 49: repr(x) by an own __repr__; x == y by an own __eq__; isinstance(x, C). -/
namespace FF
open PySem PySem.Spec PyProof.Rows L2
/-! ### isinstance(x, C), C a class of the text -/
structure InsX (K : PySem.W.Frag) (C : Addr) : Prop where
  cl : Cls K C
  ha : PySem.W.findIn K (.ref C) "__class__" = some (some (.builtin "object.__class__"))
  hn : PySem.W.specialIn K (.builtin "object.__class__") "__get__" = some (some (.builtin "getset_descriptor.__get__"))
  htk : PySem.W.takesIn K (.builtin "object.__class__") = some true
  hm : PySem.W.mroIn K C (.type "object") = some true
  me : PySem.W.kitOne K (.ref C) (.ref C) = some true
  nl : PySem.W.kitOne K (.type "list") (.ref C) = some false
  sl : PySem.W.subIn K (.type "list") (.ref C) = some false
theorem InsX.ty {K : PySem.W.Frag} {C a dx : Addr} {H : Hp} {fs : List (Str × V)} (c : InsX K C) (h : H a = some (.ins C dx fs)) : TyX K H (.ref a) (.ref C) := .base (TyOf.ins h c.cl c.ha c.hn c.htk c.hm)
/-! ### == by an own __eq__ -/
/-! ### C.m(k = v, ..), m a classmethod -/
end FF
/-! Fivefault, part 50: sets of texts: {x for x in xs if ..}, set(list of texts), sorted(set of texts). -/
namespace FF
open PySem PySem.Spec PyProof.Rows L2
def keyT (e : Int × Value) : Str := match e.2 with
  | .str z _ => z
  | _ => Str.empty
def GoodT (w : World) (e : Int × Value) : Prop := ∃ z tk, e.2 = Value.str z tk ∧ e.1 = hashStr w z
/-- a set of texts stands at a: its members S, n of them; its table can be walked -/
def SetT (w : World) (h : Heap) (a : Addr) (S : Str → Bool) (n : Nat) : Prop :=
  ∃ o es ep t, h.get? a = some o ∧ o.ExactSet ∧ o.data = .set es ep t ∧ ((∀ e ∈ es.toList, GoodT w e) ∧ (es.toList.map keyT).Nodup ∧ ∀ k, S k = true ↔ k ∈ es.toList.map keyT) ∧
    es.size < scanBound ∧ t.fits es.size = true ∧ es.size = n ∧ Ris t.place.toList ∧ (w.params.followText "set-order" = true ∨ t.led = true)
section
variable {P : Program} {w : World} {h h' : Heap} {a : Addr} {S : Str → Bool} {n : Nat}
theorem SetT.at (R : SetT w h a S n) (k : ∀ o, h.get? a = some o → h'.get? a = some o) : SetT w h' a S n := by
  obtain ⟨o, es, ep, t, ho, r⟩ := R
  exact ⟨o, es, ep, t, k o ho, r⟩
theorem SetT.congr {S' : Str → Bool} (R : SetT w h a S n) (e : ∀ k, S' k = S k) : SetT w h a S' n := (funext e : S' = S) ▸ R
theorem goodT_elems {l : List (Int × Value)} (g : ∀ e ∈ l, GoodT w e) : ElemsOf (strKind P w) l := fun e he => by
  obtain ⟨z, tk, h1, h2⟩ := g e he
  exact ⟨⟨z, by rw [h1]; exact strKind_is P w z tk, h2⟩, by rw [h1] <;> rfl⟩
theorem goodT_is {e : Int × Value} (g : GoodT w e) (k : Str) : (strKind P w).is k e.2 = true ↔ keyT e = k := by
  obtain ⟨z, tk, h1, _⟩ := g
  unfold keyT
  rw [h1]
  exact ⟨fun q => (strKind P w).inj (.str z tk) z k (strKind_is P w z tk) q, fun q => by rw [← show z = k from q]; exact strKind_is P w z tk⟩
theorem goodT_mem {l : List (Int × Value)} (g : ∀ e ∈ l, GoodT w e) (k : Str) : k ∈ l.map keyT ↔ ∃ e ∈ l, (strKind P w).is k e.2 = true :=
  List.mem_map.trans ⟨fun ⟨e, he, q⟩ => ⟨e, he, (goodT_is (g e he) k).2 q⟩, fun ⟨e, he, q⟩ => ⟨e, he, (goodT_is (g e he) k).1 q⟩⟩
theorem setT_at {ho : h.get? a = some (emptySet w)} : SetT w h a (fun _ => false) 0 :=
  ⟨_, #[], 0, _, ho, ⟨rfl, rfl, rfl⟩, rfl, ⟨fun e he => by simp at he, by simp, fun k => by simp⟩, by decide, by rfl, rfl, List.Pairwise.nil, by
    show _ ∨ (!w.params.followText "set-order") = true
    cases w.params.followText "set-order"
    · exact .inr rfl
    · exact .inl rfl⟩
end
section
variable {P : Program} {w : World} {A : Around} {E : Value → Shared → Prop} {s : Shared} {a : Addr} {S : Str → Bool} {n : Nat}
/-- a member more, where it is laid -/
theorem setT_tail {g : Bool → Sem Unit} (hg : ∀ (b : Bool) (s₁ : Shared) (Q' : Unit → Shared → Prop), Q' () s₁ → wpAny (model P w) A (g b) Q' E s₁)
    {o : Obj} {es es1 : Array (Int × Value)} {ep : Nat} {t t2 : SetTable} {S' : Str → Bool} (ho : s.heap.get? a = some o) (hex : o.ExactSet) (hd : o.data = .set es ep t)
    (gm : (∀ e ∈ es1.toList, GoodT w e) ∧ (es1.toList.map keyT).Nodup ∧ ∀ k, S' k = true ↔ k ∈ es1.toList.map keyT)
    (hb1 : es1.size < scanBound) (hf2 : t2.fits es1.size = true) (hr : Ris t2.place.toList) (hl : w.params.followText "set-order" = true ∨ t2.led = true) {dm : Bool} {R : Option Bool → Shared → Prop}
    (hR : ∀ h', Heap.SameBut a s.heap h' → SetT w h' a S' es1.size → R (some true) { s with heap := h' }) :
    wpAny (model P w) A (do
        storeSet a es1 t2
        if (!dm && t2.tooFull) = true then do
            g (relayAll t2 es1 (SetTable.grown es1.size)).2.2
            storeSet a (relayAll t2 es1 (SetTable.grown es1.size)).1 (relayAll t2 es1 (SetTable.grown es1.size)).2.1
            pure (some true)
          else pure (some true)) R E s := by
  have one := store_at (es' := es1) (t' := t2) ho hd
  have b1 := Heap.SameBut.update s.heap a (Obj.putSet es1 t2)
  refine wpAny_bind (wpAny_storeSet_of ho hd ?_ (fits_of_scanBound hb1))
  split
  case isFalse => exact wpAny_pure (hR _ b1 ⟨_, es1, _, t2, one, hex, rfl, gm, hb1, hf2, rfl, hr, hl⟩)
  have pm := relayAll_perm t2 es1 (SetTable.grown es1.size)
  have f3 := relayAll_fits t2 es1 (SetTable.grown es1.size)
  have r3 := relayAll_ris t2 es1 (SetTable.grown es1.size)
  have l3 := relayAll_led t2 es1 (SetTable.grown es1.size)
  generalize relayAll t2 es1 (SetTable.grown es1.size) = Z at pm f3 r3 l3 ⊢
  obtain ⟨es2, t3, gave⟩ := Z
  dsimp only at pm f3 r3 l3 ⊢
  have sz : es2.size = es1.size := by rw [← Array.length_toList, pm.length_eq, Array.length_toList]
  have b2 : es2.size < scanBound := sz.symm ▸ hb1
  refine wpAny_bind (hg _ _ _ (wpAny_bind (wpAny_storeSet_of one rfl ?_ (fits_of_scanBound b2))))
  refine wpAny_pure (hR _ (b1.trans (Heap.SameBut.update _ a _)) ⟨_, es2, _, t3, store_at (es' := es2) (t' := t3) one rfl, hex, rfl, ?_, b2, f3, sz, r3, hl.imp id fun z => l3.trans z⟩)
  exact ⟨fun e he => gm.1 e (pm.mem_iff.mp he), (pm.map keyT).nodup_iff.mpr gm.2.1, fun k => (gm.2.2 k).trans (pm.map keyT).mem_iff.symm⟩
theorem setT_hashed {k : Str} {tk : Tok} {Q : Bool → Shared → Prop} (R : SetT w s.heap a S n) (room : n + 1 < scanBound)
    (hQ : ∀ h', Heap.SameBut a s.heap h' → SetT w h' a (fun j => S j || decide (j = k)) (if S k = true then n else n + 1) → Q (!S k) { s with heap := h' }) :
    wpAny (model P w) A (setAddHashed a (.str k tk) (hashStr w k)) Q E s := by
  obtain ⟨o, es, ep, t, ho, hex, hd, ⟨g, nd, hm⟩, hb, hf, hn, hr, hl⟩ := R
  have hsc : (Value.str k tk).scannable = true := rfl
  have hel : ElemsOf (strKind P w) es.toList := goodT_elems g
  unfold setAddHashed setAddHashedIn
  refine wpAny_holding (wpAny_bind (wpAny_setState_of ho hd hf ?_))
  dsimp only
  rw [byScan_of hsc hb hel]
  simp only [↓reduceIte]
  unfold setAddByScan
  refine wpAny_bind (wpAny_bind (wpAny_rule (wpAny_bind (wpAny_setScan_of (strKind_is P w k tk) ho hd hf hel ?_))))
  cases hfi : List.findIdx? (fun e => (strKind P w).is k e.2) es.toList with
  | some j =>
    dsimp only
    obtain ⟨hj, pj, _⟩ := List.findIdx?_eq_some_iff_getElem.mp hfi
    have hSk : S k = true := (hm k).2 ((goodT_mem (P := P) g k).2 ⟨es.toList[j], List.getElem_mem hj, pj⟩)
    have q := hQ s.heap (Heap.SameBut.refl a s.heap) ⟨o, es, ep, t, ho, hex, hd, ⟨g, nd, fun i => by
      rw [Bool.or_eq_true, decide_eq_true_eq, ← hm i]
      exact ⟨fun z => z.elim id (fun e => e ▸ hSk), .inl⟩⟩, hb, hf, by rw [if_pos hSk]; exact hn, hr, hl⟩
    rw [hSk] at q
    exact wpAny_pure (wpAny_pure q)
  | none =>
    dsimp only
    have hnk : k ∉ es.toList.map keyT := fun z => by
      obtain ⟨e, he, q⟩ := (goodT_mem (P := P) g k).1 z
      have c := List.findIdx?_eq_none_iff.mp hfi e he
      rw [q] at c
      cases c
    have hSk : S k = false := Bool.eq_false_iff.mpr fun q => hnk ((hm k).1 q)
    have way : ∀ (b : Bool) {s₁ : Shared} {Q' : Unit → Shared → Prop}, Q' () s₁ → wpAny (model P w) A (match b with | true => rule "set.scan.the-table-gave-way" | false => pure ()) Q' E s₁ :=
      fun b s₁ Q' q => by cases b <;> first | exact wpAny_pure q | exact wpAny_rule q
    have pm := layNew_perm t es (hashStr w k) (.str k tk)
    have f1 := layNew_fits t es (hashStr w k) (.str k tk)
    have r1 := layNew_ris t es (hashStr w k) (.str k tk) hr
    have l1 := layNew_led t es (hashStr w k) (.str k tk)
    generalize layNew t es (hashStr w k) (.str k tk) = Z at pm f1 r1 l1 ⊢
    obtain ⟨es1, t1, dm, gave⟩ := Z
    dsimp only at pm f1 r1 l1 ⊢
    rw [Array.toList_push] at pm
    have pc : es1.toList.Perm ((hashStr w k, Value.str k tk) :: es.toList) := pm.trans (List.perm_append_singleton _ _)
    have pk : (es1.toList.map keyT).Perm (k :: es.toList.map keyT) := pc.map keyT
    have gm : (∀ e ∈ es1.toList, GoodT w e) ∧ (es1.toList.map keyT).Nodup ∧ ∀ i, (S i || decide (i = k)) = true ↔ i ∈ es1.toList.map keyT := by
      refine ⟨fun e he => (List.mem_cons.mp (pc.mem_iff.mp he)).elim (fun z => by rw [z]; exact ⟨k, tk, rfl, rfl⟩) (g e), pk.nodup_iff.mpr (List.nodup_cons.mpr ⟨hnk, nd⟩), fun i => ?_⟩
      rw [Bool.or_eq_true, decide_eq_true_eq, hm i, pk.mem_iff, List.mem_cons]
      exact Or.comm
    have sz : es1.size = n + 1 := by rw [← Array.length_toList, pc.length_eq, List.length_cons, Array.length_toList, hn]
    have b1 : es1.size < scanBound := sz.symm ▸ room
    have led : w.params.followText "set-order" = true ∨ t1.led = true := hl.imp id fun z => l1.trans z
    have fin : ∀ h', Heap.SameBut a s.heap h' → SetT w h' a (fun j => S j || decide (j = k)) es1.size → Q true { s with heap := h' } := fun h' sb r => by
      have q := hQ h' sb
      rw [hSk] at q
      rw [sz] at r
      exact q r
    refine wpAny_bind (way _ ?_)
    split
    · refine wpAny_bind ?_
      rw [hashByValue_scannable 8 hsc]
      refine wpAny_pure (setT_tail ?_ ho hex hd gm b1 ?_ ?_ ?_ ?_)
      · intro b s₁ Q' q; cases b <;> first | exact wpAny_pure q | exact wpAny_rule q
      · first | (split <;> first | exact f1 | exact SetTable.fits_plain_off f1) | exact f1
      · first | (split <;> exact r1) | exact r1
      · first | (split <;> exact led) | exact led
      · intro h' sb r; dsimp only; exact wpAny_pure (fin h' sb r)
    · refine wpAny_bind (wpAny_pure ?_)
      simp only [↓reduceIte]
      refine setT_tail ?_ ho hex hd gm b1 f1 r1 led ?_
      · intro b s₁ Q' q; cases b <;> first | exact wpAny_pure q | exact wpAny_rule q
      · intro h' sb r; dsimp only; exact wpAny_pure (fin h' sb r)
end
end FF
/-! Fivefault, part 51: sets of texts over the layer. -/
namespace FF
open PySem PySem.Spec PyProof.Rows L2
/-- the set of texts at a -/
def SetTO (w : World) (a : Addr) (S : Str → Bool) (n : Nat) : HO := .ext fun h => SetT w h a S n
theorem setTO_new {w : World} {P : Program} {H : Hp} {h : Heap} {a : Addr} {S : Str → Bool} {n : Nat} (R : SetT w h a S n) : ObjOk P w H h a (SetTO w a S n) := by
  have ⟨o, _, _, _, ho, _⟩ := R
  exact ⟨R, ⟨o, ho⟩, fun h1 h2 p k => SetT.at p k⟩
theorem setTO_get {X : Cx} {pins : List (Addr × Obj)} {σ : L2.St} {H : Hp} {s : Shared} {a : Addr} {S : Str → Bool} {n : Nat} (I : Inv X pins σ H s) (ha : H a = some (SetTO X.w a S n)) : SetT X.w s.heap a S n := (I.hok a _ ha).1
/-- sorted(s), s a set of texts -/
def rSortedT (w : World) : List V → Hp → VK → Prop := fun xs H Q => ∃ (a : Addr) (S : Str → Bool) (n : Nat), xs = [.ref a] ∧ H a = some (SetTO w a S n) ∧ ∀ ys p, ys.Nodup → (∀ k, k ∈ ys ↔ S k = true) → ys.length = n → sortedS ys = true → H p = none → Q (.ref p) (upd H p (.lst (ys.map V.str)))
theorem cr_sortedT {X : Cx} (calm : X.calm = true) : CallR X (.builtin "sorted") (rSortedT X.w) := by
  intro pins s σ H xs us Q I r h
  obtain ⟨a, S, n, rfl, ha, q⟩ := h
  obtain ⟨u, rfl, rx⟩ := vals1 r
  cases rx
  obtain ⟨o, es, ep, t, ho, hex, hd, ⟨g, nd, hm⟩, hb, hf, hn, hr, hl⟩ := setTO_get I ha
  refine Calls.call_function_entry PyProof.Rows.kind_sorted PyProof.Rows.plain_sorted PyProof.Rows.entry_sorted (PyProof.Rows.args_sorted1 _) ?_
  unfold Builtin.«sorted»
  refine wpAny_bind (m := checkCount "sorted" 1 1 _) (wpAny_pure ?_)
  refine wpAny_bind (collect_set (A := X.A.in1) (I.ok.hd calm) ⟨o, ho, hex.1, hd⟩ hf hb hr hl fun s1 vs k1 hz g1 o1 pm => ?_)
  have len : vs.length = n := by rw [pm.length_eq, List.length_map, Array.length_toList]; exact hn
  have line : n ≤ sizeLine := by rw [← hn]; exact fits_of_scanBound hb
  have hS : StrsAre vs (vs.map fun v => keyT (0, v)) := strs_at (by rw [List.length_map]) fun j v e => by
    obtain ⟨e1, he, q⟩ := List.mem_map.mp (pm.mem_iff.mp (List.mem_of_getElem? e))
    obtain ⟨z, tk, h1, _⟩ := g e1 he
    have ev : v = .str z tk := by rw [← q]; exact h1
    exact ⟨z, tk, by rw [List.getElem?_map, e, ev] <;> rfl, ev⟩
  have pk : (vs.map fun v => keyT (0, v)).Perm (es.toList.map keyT) := by
    have := pm.map fun v => keyT (0, v)
    rw [List.map_map] at this
    exact this
  have I1 : Inv X pins σ H s1 := I.call' (ch := []) o1 (Un.kept k1) (I.hok.kept k1) (by rw [g1]; exact I.bare) (fun _ z => nomatch z)
  refine wpAny_bind (wpAny_newList ?_ (by rw [len]; exact line))
  have new : (s1.heap.push (seqObj "list" vs.toArray 0)).get? s1.heap.objs.size = some (seqObj "list" vs.toArray 0) := Heap.get?_push_size _ rfl
  refine wpAny_bind (wpAny_holding (wpAny_call_entry PyProof.Rows.slot_list_sort ⟨_, new, rfl⟩ PyProof.Rows.entry_list_sort
    (list_sort_treeKSt strKind_oneLt (s := { s1 with heap := s1.heap.push (seqObj "list" vs.toArray 0) }) new hS.keysOf (fun v1 v2 rest e => keyKind_strs (by rw [← e]; exact hS)) (by rw [len]; exact line) fun st' hp hs _ => ⟨_, rfl, ?_⟩)
    (PyProof.Rows.args_list_sort _)))
  obtain ⟨ys, y1, y2, y3⟩ := sorted_out_str hS hp hs
  obtain ⟨e', he'⟩ := PyProof.Rows.sortedHeap_at (vs := vs) (out := (arrOf st').map (·.2)) new
  have ylen : ys.length = n := by rw [y2.length_eq, List.length_map, len]
  have size : (ys.map V.str).length ≤ sizeLine := by rw [List.length_map, ylen]; exact line
  have old : ∀ b o, s1.heap.get? b = some o → (sortedHeap (s1.heap.push (seqObj "list" vs.toArray 0)) s1.heap.objs.size vs ((arrOf st').map (·.2))).get? b = some o := fun b o e => by
    have hb := Heap.lt_size e
    rw [PyProof.Rows.sortedHeap_old (Nat.ne_of_lt hb) (by rw [size_push']; exact Nat.lt_succ_of_lt hb)]
    exact Heap.get?_push_of_some _ e
  have yk := y2.trans pk
  exact wpAny_pure ⟨_, rfl, .ref s1.heap.objs.size, upd H s1.heap.objs.size (.lst (ys.map V.str)), I1.laid (t' := s1.toks) old (Nat.le_refl _) ⟨size, ((arrOf st').map (·.2)).toList, e', vals_of_strs y1, by rw [Array.toArray_toList]; exact he'⟩, rfl, q ys _ (yk.nodup_iff.mpr nd) (fun k => by rw [yk.mem_iff, ← hm k]) ylen y3 (I1.hok.fresh (Nat.le_refl _))⟩
end FF
/-! Fivefault, part 52: set(xs), xs a list of texts. -/
namespace FF
open PySem PySem.Spec PyProof.Rows L2
section
variable {P : Program} {w : World} {A : Around} {E : Value → Shared → Prop} {s : Shared}
theorem setT_update {I : Addr} {fp wr : List Addr} {G : Array GenState → Array GenState → Prop} {n : Nat} {Pv : Nat → Value → Prop} {St : Nat → Shared → Prop} {R : Result → Shared → Prop}
    (W : WalksS P w A.in1 I fp wr G n Pv St) (D : Addr) (hD : D ∉ fp) (zs : List Str) (hn : n = zs.length) (hb : zs.length + 1 < scanBound) (hval : ∀ i v, Pv i v → ∃ z t, zs[i]? = some z ∧ v = .str z t) :
    ∀ (k i : Nat) (s : Shared), n - i = k → i ≤ n → St i s → (∃ c, c ≤ i ∧ SetT w s.heap D (fun j => decide (j ∈ zs.take i)) c) →
      (∀ s' c, Moved (D :: wr) G s s' → c ≤ n → SetT w s'.heap D (fun j => decide (j ∈ zs)) c → R (.ok (.ret .none)) s') →
      codeAny (model P w) A (.builtin "set.update.loop" ⟨[.ref D, .ref I], []⟩) R s := by
  have hw : D ∉ wr := fun h => hD (W.sub _ h)
  have sub : ∀ b ∈ wr, b ∈ D :: wr := fun b hb => List.mem_cons_of_mem _ hb
  intro k
  induction k with
  | zero =>
    intro i s hk hi hst ⟨c, hc, hS⟩ hR
    obtain rfl : i = n := by omega
    refine codeAny_builtin PyProof.Rows.F.entry_set_update_loop ?_
    rw [Around.under_plainId PyProof.Rows.F.plain_set_update_loop _]
    show wpAny _ A.in1 (pyNext (.ref I) >>= _) _ _ s
    refine wpAny_bind (W.done s _ _ hst fun s' hm => ?_)
    show wpAny _ A.in1 (ret Value.none) _ _ s'
    rw [List.take_of_length_le (by omega)] at hS
    exact wpAny_pure (hR s' c (hm.mono sub) hc (hS.at fun o e => hm.heap D o hw e))
  | succ k ih =>
    intro i s hk hi hst ⟨c, hc, hS⟩ hR
    have hlt : i < n := by omega
    refine codeAny_builtin PyProof.Rows.F.entry_set_update_loop ?_
    rw [Around.under_plainId PyProof.Rows.F.plain_set_update_loop _]
    show wpAny _ A.in1 (pyNext (.ref I) >>= _) _ _ s
    refine wpAny_bind (W.item i s _ _ hlt hst fun v s' hP hst' hm => ?_)
    obtain ⟨z, t, hz, rfl⟩ := hval i v hP
    have h1 : SetT w s'.heap D (fun j => decide (j ∈ zs.take i)) c := hS.at fun o e => hm.heap D o hw e
    show wpAny _ A.in1 (holding [Value.str z t] (setAdd D (.str z t)) >>= _) _ _ s'
    refine wpAny_bind (wpAny_holding ?_)
    unfold setAdd
    refine wpAny_holding (wpAny_bind ((strKind P w).pyHash (k := z) (strKind_is _ _ _ _) ?_))
    refine setT_hashed (s := { s' with toks := s'.toks + 1 }) h1 (by omega) fun h' sb h2 => ?_
    have h3 : SetT w h' D (fun j => decide (j ∈ zs.take (i + 1))) (if decide (z ∈ zs.take i) = true then c else c + 1) := h2.congr fun j => by
      rw [List.take_add_one, hz]
      simp [List.mem_append]
    have c3 : (if decide (z ∈ zs.take i) = true then c else c + 1) ≤ i + 1 := by split <;> omega
    refine wpAny_pure ⟨plainId_quiet PyProof.Rows.F.plain_set_update_loop _, ih (i + 1) _ (by omega) hlt (W.frame _ s' _ _ hst' (Nat.le_succ _) fun b hb o e => ?_) ⟨_, c3, h3⟩ fun s'' c2 m2 hc2 h4 => ?_⟩
    · rw [sb.2 b (fun h : b = D => hD (by rw [← h]; exact hb))]
      exact e
    · refine hR s'' c2 (Moved.trans W.gtrans ((hm.mono sub).then_heap (Nat.le_succ _) fun b o hb e => ?_) m2) hc2 h4
      rw [sb.2 b (fun h : b = D => hb (by rw [h]; exact List.mem_cons_self))]
      exact e
set_option maxRecDepth 100000 in
set_option maxHeartbeats 3200000 in
theorem call_set_strs {l : Addr} {items : Array Value} (zs : List Str) {Q : Value → Shared → Prop} (hh : A.handled = none) (hl : s.heap.IsList l items) (hit : StrsAre items.toList zs) (hb : zs.length + 1 < scanBound)
    (h : ∀ (h' : Heap) (tk c : Nat), SetT w h' s.heap.objs.size (fun j => decide (j ∈ zs)) c → c ≤ zs.length → (∀ b o, s.heap.get? b = some o → h'.get? b = some o) → Q (.ref s.heap.objs.size) { s with heap := h', toks := tk }) :
    wpAny (model P w) A (call (.type "set") [.ref l]) Q E s := by
  have isz : items.size = zs.length := by
    have q := StrsAre.length hit
    rw [Array.length_toList] at q
    exact q
  obtain ⟨c, tl, hmro⟩ := PySem.F.called_set.mro
  have hmade := PySem.F.called_set.made
  have hsub := PySem.F.called_set.sub
  refine wpAny_call (codeAny_of_tree ?_)
  show wpAny _ _ (callAny (.type "set") _) _ _ _
  refine wpAny_pure ⟨Code.quiet_builtin _ (by decide +kernel), codeAny_builtin PySem.F.entry_type_call ?_⟩
  rw [Around.under_plain (weight_type_call_type "set" [.ref l] []) rfl]
  have h1 := PySem.F.called_set.notType
  have h2 := PySem.F.called_set.canCreate
  have hct := PySem.F.typeCall_set_1 (.ref l)
  repeat (any_goals (first | assumption | wp_step))
  refine codeAny_mono (code_set_led1 (.ref l) (E := E) (Q₁ := fun obj s₁ => obj = .ref s.heap.objs.size ∧ s₁ = { s with heap := s.heap.push (emptySet w) }) ⟨rfl, rfl⟩) fun r s₁ hr => ?_
  cases r with
  | error e => exact hr
  | ok fl =>
    cases fl with
    | ret obj =>
      obtain ⟨rfl, rfl⟩ := hr
      have hS : (s.heap.push (emptySet w)).get? s.heap.objs.size = some (emptySet w) := Heap.get?_push_size _ rfl
      have hT : Shared.TypeIs { s with heap := s.heap.push (emptySet w) } (.ref s.heap.objs.size) "set" := ⟨_, hS, rfl⟩
      have hli := PySem.F.called_set.init.lookup
      have hbi := PySem.F.called_set.init.bind (.ref s.heap.objs.size)
      repeat (any_goals (first | assumption | wp_step))
      refine codeAny_mono (codeAny_call_builtin (R := wants (fun r s₂ => r = .none ∧ ∃ h' tk c, s₂ = { s with heap := h', toks := tk } ∧ SetT w h' s.heap.objs.size (fun j => decide (j ∈ zs)) c ∧ c ≤ zs.length ∧
          (∀ b o, s.heap.get? b = some o → h'.get? b = some o)) E) PySem.F.called_set.init.plain PySem.F.entry_set_init (check_set_init_1 hT ?_)) fun r₂ s₂ hr₂ => ?_
      · obtain ⟨ol, hol, hcl, nl, hdl⟩ := hl
        obtain ⟨ocls, odict, odata, oslots⟩ := ol
        simp only at hcl hdl
        subst hcl; subst hdl
        have hol' : (s.heap.push (emptySet w)).get? l = some { cls := .type "list", dict := odict, data := .seq items nl, slots := oslots } := Heap.get?_push_of_some _ hol
        have hsls := PySem.F.sub_list_set
        have hslf := PySem.F.sub_list_frozenset
        have hne : (Value.type "list" == Value.type "dict") = false := by decide
        have hl1 : (s.heap.push (emptySet w)).IsList l items := ⟨_, hol', rfl, nl, rfl⟩
        unfold Builtin.«set.__init__» noKeywords Builtin.Frozenset.updateFrom
        generalize hPI : pyIter = PI
        wp_walk
        subst hPI
        refine wpAny_pyIter_list hl1 ?_
        refine wpAny_bind (wpAny_runValue ?_)
        have lS : l < s.heap.objs.size := Heap.lt_size hol
        have hh3 : A.in1.in1.in1.handled = none := by simp [hh]
        have neI : l ≠ (s.heap.push (emptySet w)).objs.size := by
          rw [Heap.size_push]; exact Nat.ne_of_lt (Nat.lt_succ_of_lt lS)
        have sf : s.heap.objs.size ∉ [(s.heap.push (emptySet w)).objs.size, l] := by
          rw [Heap.size_push]; simp only [List.mem_cons, List.mem_singleton, List.not_mem_nil, or_false, not_or]
          exact ⟨Nat.ne_of_lt (Nat.lt_succ_self _), Nat.ne_of_gt lS⟩
        have hval : ∀ (i : Nat) (v : Value), items[i]? = some v → ∃ z t, zs[i]? = some z ∧ v = .str z t := fun i v hv => by
          obtain ⟨z, t, e1, e2⟩ := StrsAre.item hit i v (by rw [Array.getElem?_toList]; exact hv)
          exact ⟨z, t, e2, e1⟩
        refine setT_update ((Walks.list hh3 _ l neI items).toS) s.heap.objs.size sf zs isz hb hval (items.size - 0) 0 _ (by omega) (Nat.zero_le _)
          ⟨⟨_, Heap.get?_push_size _ rfl, rfl, rfl⟩, (hl1.push _)⟩ ?hS0 ?hR
        case hS0 =>
          have g : ((s.heap.push (emptySet w)).push { cls := .type "list_iterator", data := .fields #[.ref l, .int 0 0] }).get? s.heap.objs.size = some (emptySet w) := Heap.get?_push_of_some _ hS
          exact ⟨0, Nat.le_refl 0, (setT_at (ho := g)).congr fun j => by simp⟩
        case hR =>
          intro s' c' hm hc' hS'
          obtain ⟨h', g2, d', tk', os'⟩ := s'
          have eg : g2 = s.gens := hm.gens
          have ed : d' = s.drawn := hm.drawn
          have eo : os' = s.os := hm.os
          subst eg; subst ed; subst eo
          show wpAny _ _ _ _ _ _
          refine wpAny_pure ?_
          show wpAny _ _ (ret Value.none) _ _ _
          rw [isz] at hc'
          refine wpAny_pure ⟨rfl, h', tk', c', rfl, hS', hc', fun b o e => ?_⟩
          have hb0 : b < s.heap.objs.size := Heap.lt_size e
          have hb1 : b ≠ s.heap.objs.size := Nat.ne_of_lt hb0
          have hb2 : b ≠ (s.heap.push (emptySet w)).objs.size := by
            rw [Heap.size_push]; exact Nat.ne_of_lt (Nat.lt_succ_of_lt hb0)
          exact hm.heap b o (by simp only [List.mem_cons, List.mem_singleton, List.not_mem_nil, or_false, not_or]; exact ⟨hb1, hb2⟩) (Heap.get?_push_of_some _ (Heap.get?_push_of_some _ e))
      · cases r₂ with
        | error e => exact hr₂
        | ok fl₂ =>
          cases fl₂ with
          | ret r =>
            obtain ⟨rfl, h', tk, c', rfl, hS', hc', hk'⟩ := hr₂
            repeat (any_goals (first | assumption | wp_step))
            exact h _ _ _ hS' hc' hk'
          | _ => exact hr₂.elim
    | _ => exact hr.elim
end
/-- set(xs), xs a list of texts -/
def rSetS (K : PySem.W.Frag) (w : World) : List V → Hp → VK → Prop := fun xs H Q => ∃ (p : Addr) (zs : List Str), xs = [.ref p] ∧ SqL K H p (zs.map V.str) ∧ zs.length ≤ 1000 ∧ ∀ D n, H D = none → n ≤ zs.length → Q (.ref D) (upd H D (SetTO w D (fun j => decide (j ∈ zs)) n))
theorem cr_setS {X : Cx} (hc : X.calm = true) : CallR X (.type "set") (rSetS X.K X.w) := by
  intro pins s σ H xs us Q I r h
  obtain ⟨p, zs, rfl, hq, hl, q⟩ := h
  obtain ⟨u, rfl, r1⟩ := r.one
  cases r1
  obtain ⟨its, rv, pt, hz⟩ := I.list hq
  refine call_set_strs zs (I.ok.hd hc) pt.isList (strs_of_vals rv) (by unfold scanBound; omega) fun h' tk c R1 hcn k => ?_
  have hn : H s.heap.objs.size = none := I.hok.fresh (Nat.le_refl _)
  exact ⟨.ref _, upd H s.heap.objs.size (SetTO X.w s.heap.objs.size (fun j => decide (j ∈ zs)) c), I.laid (t' := tk) k (Nat.le_refl _) (setTO_new R1), rfl, q _ _ hn hcn⟩
end FF
/-! Fivefault, part 53: yield from xs, xs a list; max(xs, default = n). -/
namespace FF
open PySem PySem.Spec PyProof.Rows L2
section
variable {prog : Program} {w : World} {A : Around} {E : Value → Shared → Prop} {s : Shared}
end
/-! ### max(xs, default = n), xs a list of ints -/
end FF
/-! Fivefault, part 54: {x for x in xs if ..} over a list, texts. -/
namespace FF
open PySem PySem.Spec PyProof.Rows L2
end FF
/-! Fivefault, part 55: {e for a in xs for b in ys}. -/
namespace FF
open PySem PySem.Spec PyProof.Rows L2
section
variable {prog : Program} {w : World} {A : Around} {R : Result → Shared → Prop} {s : Shared} {el ga ia gb ib : Expr} {cs ds : List Expr} {scope : Scope} {pos : Pos} {it : Value} {D : Addr} {env : Env}
end
end FF
/-! Fivefault, part 56: {z for x in xs for z in f(x)} over lists, texts. -/
namespace FF
open PySem PySem.Spec PyProof.Rows L2
end FF
/-! Fivefault, part 57: x != y by an own __eq__ (no own __ne__). -/
namespace FF
open PySem PySem.Spec PyProof.Rows L2
section
variable {M : Model} {prog : Program} {w : World} {A : Around} {E : Value → Shared → Prop} {s : Shared} {K : PySem.W.Frag} {x y C f : Addr} {ox : Obj} {od : Option Obj}
end
end FF
/-! Fivefault, part 58: comprehensions over the keys of a dict, and with two fors, told by the place. -/
namespace FF
open PySem PySem.Spec PyProof.Rows L2
section
variable {K : PySem.W.Frag} {D d : Addr} {o : Obj} {kvs : List (Key × V)} {te : TE} {vs : List Nat} {j : Nat} {σ : L2.St} {H1 : Hp} {Qd : Hp → Prop}
theorem lc_mapK (R : Nat → V → Hp → Prop) (mono : ∀ i y H H', SameT H H' → R i y H → R i y H') (hD : H1 D = none) (hk : H1 d = some (.frz o (.dK kvs))) (hz : kvs.length ≤ sizeLine)
    (hw : ∀ x, wipe ((wipe σ vs).set j (some x)) vs = wipe σ vs)
    (step : ∀ i k v H2, kvs[i]? = some (k, v) → Same H1 H2 → ∀ Q' : VK, (∀ y H3, Same H2 H3 → R i y H3 → Q' y H3) → te ((wipe σ vs).set j (some (kV k))) H2 Q')
    (done : ∀ H2 ys, Same H1 H2 → H2 D = some (.lst ys) → ys.length = kvs.length → (∀ (i : Nat) (y : V), ys[i]? = some y → R i y H2) → Qd H2) :
    ∃ W : Nat → Nat → Hp → Prop, (∃ m, W 0 m (upd H1 D (.lst []))) ∧ ∀ i m H, W i m H →
      ((Itk d o kvs).stop i H ∧ Qd H) ∨ ((Itk d o kvs).go i H ∧ ∃ Nx : Hp → Prop, (∀ H', Nx H' → ∃ m', m' < m ∧ W (i + 1) m' H') ∧ ∀ x H', (Itk d o kvs).yld i H x H' → gName j x (wipe σ vs) H' fun σ2 H2 => wipe σ2 vs = wipe σ vs ∧ tYes σ2 H2 fun b H3 =>
        if b = true then te σ2 H3 fun y H4 => ∃ acc, H4 D = some (.lst acc) ∧ acc.length < sizeLine ∧ Nx (upd H4 D (.lst (acc ++ [y]))) else Nx H3) :=
  lc_it walk_keys (fun i H => Same H1 H ∧ ∃ ys, H D = some (.lst ys) ∧ ys.length = i ∧ ∀ m y, ys[m]? = some y → R m y H)
    ⟨same_new hD _, [], upd_same, rfl, fun m y q => by simp at q⟩ (fun i H _ p => p.1 _ _ hk)
    (fun i x H H' hi p y => by
      obtain ⟨rfl, k, v, hkv, rfl⟩ := y
      exact ⟨hw _, lc_turn mono hD p (Nat.lt_of_lt_of_le hi hz) (step i k v _ hkv p.1)⟩)
    fun H ⟨e, ys, h1, h2, h3⟩ => done H ys e h1 h2 h3
end
section
variable {K : PySem.W.Frag} {D : Addr} {J : It} {n n1 : Nat} {Po P1 : Nat → V → Prop} {wi1 : TI} {te : TE} {vs vs1 : List Nat} {jo ji : Nat} {σ : L2.St} {H1 : Hp} {Qd : Hp → Prop}
end
end FF
/-! Fivefault, part 59: dicts whose keys are texts, whole numbers and nested tuples of such: what stands in the model's heap. -/
namespace FF
open PySem PySem.Spec PyProof.Rows L2
open Sem (wp)
mutual
def nkD : PyData → NestedKey
  | .none => .none
  | .bool b => .num (if b = true then 1 else 0)
  | .int i => .num i
  | .str x => .text x
  | .tuple ds => .tup (nkDs ds)
  | .list _ => .none
  | .dict _ => .none
def nkDs : List PyData → List NestedKey
  | [] => []
  | d :: ds => nkD d :: nkDs ds
end
mutual
/-- data that may be a key: no bools, lists, dicts -/
def keyB : PyData → Bool
  | .none => true
  | .bool _ => false
  | .int _ => true
  | .str _ => true
  | .tuple ds => keyBs ds
  | .list _ => false
  | .dict _ => false
def keyBs : List PyData → Bool
  | [] => true
  | d :: ds => keyB d && keyBs ds
end
/-- a row as it is stored: the key, the key's value, the value -/
abbrev NRow := NestedKey × Value × Value
def entN (w : World) (x : NRow) : DictEntry := ⟨x.1.hash w, x.2.1, x.2.2⟩
section
variable {prog : Program} {w : World} {A : Around} {E : Value → Shared → Prop} {s : Shared} {es : Array DictEntry} {xs : List NRow} {k : NestedKey} {key : Value}
theorem ent_at (he : es.toList = xs.map (entN w)) (j : Nat) : es[j]? = (xs[j]?).map (entN w) := by
  rw [← Array.getElem?_toList, he]
  exact List.getElem?_map
theorem ent_size (he : es.toList = xs.map (entN w)) : es.size = xs.length := by
  have := congrArg List.length he
  rwa [Array.length_toList, List.length_map] at this
abbrev plc (w : World) (es : Array DictEntry) (k : NestedKey) : List Nat := placesWithHash es.size (fun i => es[i]?.map (·.hash)) (k.hash w)
theorem plc_of (he : es.toList = xs.map (entN w)) {i : Nat} {x : NRow} (hi : xs[i]? = some x) (e : x.1 = k) : i ∈ plc w es k := by
  unfold plc placesWithHash
  refine List.mem_filter.mpr ⟨List.mem_range.mpr ?_, ?_⟩
  · rw [ent_size he]
    exact (List.getElem?_eq_some_iff.mp hi).1
  · dsimp only
    rw [ent_at he, hi, ← e]
    exact beq_self_eq_true _
/-- what stands behind the places that were looked at: nothing found, or the one -/
def Seen (xs : List NRow) (k : NestedKey) (pre : List Nat) (hit : Option Nat) : Prop :=
  (hit = none ∧ ∀ i ∈ pre, ∀ x, xs[i]? = some x → x.1 ≠ k) ∨ ∃ j x, hit = some j ∧ j ∈ pre ∧ xs[j]? = some x ∧ x.1 = k
theorem Seen.no {pre : List Nat} {hit : Option Nat} (h : Seen xs k pre hit) {i : Nat} {x : NRow} (hi : xs[i]? = some x) (e : x.1 ≠ k) : Seen xs k (pre ++ [i]) hit := by
  rcases h with ⟨h1, h2⟩ | ⟨j, y, h1, h2, h3⟩
  · refine .inl ⟨h1, fun m hm y hy => ?_⟩
    rcases List.mem_append.mp hm with hm | hm
    · exact h2 m hm y hy
    · rw [List.mem_singleton.mp hm, hi] at hy
      cases hy
      exact e
  · exact .inr ⟨j, y, h1, List.mem_append_left _ h2, h3⟩
theorem Seen.end_ (he : es.toList = xs.map (entN w)) {hit : Option Nat} (h : Seen xs k (plc w es k) hit) : (hit = none ∧ ∀ x ∈ xs, x.1 ≠ k) ∨ ∃ j x, hit = some j ∧ xs[j]? = some x ∧ x.1 = k := by
  rcases h with ⟨h1, h2⟩ | ⟨j, y, h1, h2, h3⟩
  · refine .inl ⟨h1, fun x hx e => ?_⟩
    obtain ⟨i, hi⟩ := List.mem_iff_getElem?.mp hx
    exact h2 i (plc_of he hi e) x hi e
  · exact .inr ⟨j, y, h1, h3⟩
end
end FF
/-! Fivefault, part 60: dicts whose keys are nested tuples: read and written. -/
namespace FF
open PySem PySem.Spec PyProof.Rows L2
open Sem (wp)
/-- at d stands the dict of these rows -/
def DictN (w : World) (h : Heap) (d : Addr) (xs : List NRow) : Prop := ∃ (o : Obj) (es : Array DictEntry) (ep : Nat), h.get? d = some o ∧ o.ExactDict ∧ o.data = .dict es ep ∧ es.toList = xs.map (entN w)
theorem DictN.ty {w : World} {s : Shared} {d : Addr} {xs : List NRow} (h : DictN w s.heap d xs) : s.TypeIs (.ref d) "dict" := let ⟨o, _, _, h1, h2, _⟩ := h; ⟨o, h1, h2.1⟩
theorem DictN.new {w : World} (h : Heap) : DictN w (h.push { cls := .type "dict", data := .dict #[] }) h.objs.size [] := ⟨_, #[], 0, Heap.get?_push_size _ rfl, ⟨rfl, rfl, rfl⟩, rfl, rfl⟩
section
variable {prog : Program} {w : World} {A : Around} {E : Value → Shared → Prop} {s : Shared} {xs : List NRow} {k : NestedKey} {key v : Value} {d : Addr}
end

/-! ### in the abstract heap -/
abbrev KRow := V × PyData × V
def kdR (r : KRow) (x : NRow) : Prop := r.2.1 = r.2.1 ∧ x.1 = nkD r.2.1 ∧ RelV r.1 x.2.1 ∧ RelV r.2.2 x.2.2
/-- the dict at a, its rows (key, what the key is, value) in the order of insertion -/
def kdO (w : World) (a : Addr) (rows : List KRow) : HO := .ext fun h => rows.length ≤ sizeLine ∧ (a == sysModules) = false ∧ ∃ xs : List NRow, Paired kdR rows xs ∧ DictN w h a xs
def KeyOk (K : PySem.W.Frag) (H : Hp) (y : V) (d : PyData) : Prop := Tp K H y d ∧ keyB d = true ∧ (nkD d).depth ≤ 8
structure KD (K : PySem.W.Frag) (w : World) (H : Hp) (a : Addr) (rows : List KRow) : Prop where
  obj : Rd H a (kdO w a rows)
  keys : ∀ r ∈ rows, KeyOk K H r.1 r.2.1
  nod : (rows.map fun r => nkD r.2.1).Nodup
def kGet (kvs : List (PyData × V)) (d : PyData) : Option V := (kvs.find? fun r => decide (nkD r.1 = nkD d)).map (·.2)
def kPut (rows : List KRow) (y : V) (d : PyData) (v : V) : List KRow := if (kGet (rows.map Prod.snd) d).isSome = true then rows.map (fun r => if nkD r.2.1 = nkD d then (r.1, r.2.1, v) else r) else rows ++ [(y, d, v)]
theorem KeyOk.up {K : PySem.W.Frag} {H H' : Hp} {y : V} {d : PyData} (h : KeyOk K H y d) (e : SameT H H') : KeyOk K H' y d := ⟨h.1.up e, h.2⟩
theorem KD.up {K : PySem.W.Frag} {w : World} {H H' : Hp} {a : Addr} {rows : List KRow} (h : KD K w H a rows) (e : Same H H') : KD K w H' a rows := ⟨same_rd e h.obj, fun r hr => (h.keys r hr).up (Same.T e), h.nod⟩
theorem kPut_keys (rows : List KRow) (y : V) (d : PyData) (v : V) : (kPut rows y d v).map (fun r => (r.1, r.2.1)) = if (kGet (rows.map Prod.snd) d).isSome = true then rows.map (fun r => (r.1, r.2.1)) else rows.map (fun r => (r.1, r.2.1)) ++ [(y, d)] := by
  unfold kPut
  split
  · rw [List.map_map]
    refine List.map_congr_left fun r _ => ?_
    dsimp only [Function.comp]
    split <;> rfl
  · rw [List.map_append] <;> rfl
theorem kGet_none_iff {kvs : List (PyData × V)} {d : PyData} : kGet kvs d = none ↔ ∀ r ∈ kvs, nkD r.1 ≠ nkD d := by
  unfold kGet
  rw [Option.map_eq_none_iff, List.find?_eq_none]
  refine forall_congr' fun r => forall_congr' fun _ => ?_
  rw [decide_eq_true_eq]
theorem KD.put_keys {K : PySem.W.Frag} {w : World} {H H' : Hp} {a : Addr} {rows : List KRow} {y v : V} {d : PyData} (h : KD K w H a rows) (hk : KeyOk K H y d) (e : SameT H H') : (∀ r ∈ kPut rows y d v, KeyOk K H' r.1 r.2.1) ∧ ((kPut rows y d v).map fun r => nkD r.2.1).Nodup := by
  have kk := kPut_keys rows y d v
  constructor
  · intro r hr
    have hm : (r.1, r.2.1) ∈ (kPut rows y d v).map fun r => (r.1, r.2.1) := List.mem_map_of_mem (f := fun r : KRow => (r.1, r.2.1)) hr
    rw [kk] at hm
    have old : (r.1, r.2.1) ∈ rows.map (fun r => (r.1, r.2.1)) → KeyOk K H' r.1 r.2.1 := fun hm => by
      obtain ⟨r', hr', er⟩ := List.mem_map.mp hm
      have e1 : r'.1 = r.1 := congrArg (fun p : V × PyData => p.1) er
      have e2 : r'.2.1 = r.2.1 := congrArg (fun p : V × PyData => p.2) er
      rw [← e1, ← e2]
      exact (h.keys r' hr').up e
    split at hm
    · exact old hm
    · rcases List.mem_append.mp hm with hm | hm
      · exact old hm
      · rw [List.mem_singleton] at hm
        have h1 : r.1 = y := congrArg Prod.fst hm
        have h2 : r.2.1 = d := congrArg Prod.snd hm
        rw [h1, h2]
        exact hk.up e
  · have e1 : (kPut rows y d v).map (fun r => nkD r.2.1) = ((kPut rows y d v).map fun r => (r.1, r.2.1)).map fun p => nkD p.2 := by rw [List.map_map] <;> rfl
    have e2 : rows.map (fun r => nkD r.2.1) = (rows.map fun r => (r.1, r.2.1)).map fun p => nkD p.2 := by rw [List.map_map] <;> rfl
    have nod := h.nod
    rw [e2] at nod
    rw [e1, kk]
    split
    · exact nod
    · next hs =>
      rw [List.map_append, List.nodup_append]
      refine ⟨nod, by simp, fun x hx z hz => ?_⟩
      have hz : z = nkD d := by simpa using hz
      subst hz
      rw [← e2] at hx
      obtain ⟨r, hr, rfl⟩ := List.mem_map.mp hx
      have hg : kGet (rows.map Prod.snd) d = none := by
        cases q : kGet (rows.map Prod.snd) d with
        | none => rfl
        | some _ => rw [q] at hs; exact absurd rfl hs
      exact kGet_none_iff.mp hg r.2 (List.mem_map_of_mem hr)
section
variable {X : Cx} {pins : List (Addr × Obj)} {σ : L2.St} {H : Hp} {s : Shared}
variable {a : Addr} {rows : List KRow} {y v : V} {d : PyData} {u r : Value} {A : Around} {E : Value → Shared → Prop}
theorem KD.put (D : KD X.K X.w H a rows) (hw : H a = some (kdO X.w a rows)) (hk : KeyOk X.K H y d) : KD X.K X.w (upd H a (kdO X.w a (kPut rows y d v))) a (kPut rows y d v) := by
  have e : SameT H (upd H a (kdO X.w a (kPut rows y d v))) := (SameT.refl H).upd fun xs z => by rw [hw] at z; cases z
  obtain ⟨h1, h2⟩ := D.put_keys (v := v) hk e
  exact ⟨.inl upd_same, h1, h2⟩
end
theorem KD.new {K : PySem.W.Frag} {w : World} {H : Hp} {p : Addr} : KD K w (upd H p (kdO w p [])) p [] := ⟨.inl upd_same, (fun r hr => nomatch hr), List.nodup_nil⟩
end FF
/-! Fivefault, part 61: rules for dicts whose keys are nested tuples; the dict comprehension. -/
namespace FF
open PySem PySem.Spec PyProof.Rows L2
section
variable {X : Cx} {pins : List (Addr × Obj)} {σ : L2.St} {H : Hp} {s : Shared} {o i e value : Expr} {pos pos' : Pos} {td ty tv : TE} {a : Addr} {rows : List KRow}
end
section
variable {prog : Program} {w : World} {A : Around} {R : Result → Shared → Prop} {s : Shared} {ek ev ga ia : Expr} {cs : List Expr} {scope : Scope} {pos : Pos} {it : Value} {D : Addr} {env : Env}
end
end FF
/-! Fivefault, part 62: walks over lists while other things change (the guard is the list itself). -/
namespace FF
open PySem PySem.Spec PyProof.Rows L2
section
variable {K : PySem.W.Frag} {a : Addr} {xs : List V} {g : TG} {tb : TS} {D : Ends} {σ : L2.St} {H : Hp}
end
end FF
/-! Comprehensions with a test that the items' data decide. -/
namespace FF
open PySem PySem.Spec PyProof.Rows L2
section
variable {K : PySem.W.Frag} {a D : Addr} {xs : List V} {ds : List PyData} {g : TG} {tt : TT} {te : TE} {vs : List Nat} {j : Nat} {σ : L2.St} {H1 : Hp} {Qd : Hp → Prop}
end
end FF
/-! Fivefault, part 63: sorted over pairs of whole numbers. -/
namespace FF
open PySem PySem.Spec PyProof.Rows L2
end FF
/-! Fivefault, part 64: dict(list of pairs) whose keys are nested tuples. -/
namespace FF
open PySem PySem.Spec PyProof.Rows L2
open Sem (wp)
section
variable {prog : Program} {w : World} {A : Around} {E : Value → Shared → Prop}
end
section
variable {X : Cx}
end
end FF
/-! Fivefault, part 65: for target in d, keys nested (the dict is locked). -/
namespace FF
open PySem PySem.Spec PyProof.Rows L2
open Sem (wp)
section
variable {X : Cx} {pins : List (Addr × Obj)} {σ : L2.St} {H : Hp} {s : Shared} {d : Addr} {o : Obj} {rows : List KRow}
end
section
variable {P : Program} {w : World} {K : PySem.W.Frag} {tg : Expr} {d : Addr} {o : Obj} {es : Array DictEntry} {ep : Nat}
end
section
variable {w : World} {d : Addr} {o : Obj} {rows : List KRow} {g : TG} {tb : TS} {D : Ends} {σ : L2.St} {H : Hp}
end
section
variable {prog : Program} {w : World} {A : Around} {E : Value → Shared → Prop} {s : Shared}
end
end FF
/-! Fivefault, part 66: xs[::-1], xs a list. -/
namespace FF
open PySem PySem.Spec PyProof.Rows L2
end FF
/-! Fivefault, part 67: a comprehension's list known as a list while its items are told. -/
namespace FF
open PySem PySem.Spec PyProof.Rows L2
section
variable {K : PySem.W.Frag} {a D : Addr} {xs : List V} {te : TE} {vs : List Nat} {j : Nat} {σ : L2.St} {H1 : Hp} {Qd : Hp → Prop}
end
end FF
/-! Fivefault, part 68: a generator's body with for and if, run into a list or up to its first item. -/
namespace FF
open PySem PySem.Spec PyProof.Rows L2 GenW
/-- who runs the generator -/
inductive Md
  | ls (S : Addr)
  | fs
def Md.pins (M : Md) (ys : List V) (P : List (Addr × Obj)) : Prop := match M with
  | .ls S => ∃ (acc : Array Value) (c : Nat), Vals ys acc.toList ∧ P = [(S, lstObj acc c)]
  | .fs => ys = [] ∧ P = []
/-- the first item -/
def FstY (X : Cx) (Yd : V → Hp → Prop) : Protocol := fun _ _ v s _ => ∃ x ip σ H, RelV x v ∧ Inv X ip σ H s ∧ Yd x H
def Md.proto (X : Cx) (Yd : V → Hp → Prop) : Md → Protocol
  | .ls S => GY X S
  | .fs => FstY X Yd
def MI (X : Cx) (M : Md) (ip : List (Addr × Obj)) (ys : List V) (σ : L2.St) (H : Hp) (s : Shared) : Prop := ∃ P, M.pins ys P ∧ Inv X (P ++ ip) σ H s
theorem mi_gi {X : Cx} {S : Addr} {ip : List (Addr × Obj)} {ys : List V} {σ : L2.St} {H : Hp} {s : Shared} : MI X (.ls S) ip ys σ H s ↔ GI X S ip ys σ H s :=
  ⟨fun ⟨_, ⟨acc, c, r, e⟩, I⟩ => ⟨acc, c, r, by rw [e] at I; exact I⟩, fun ⟨acc, c, r, I⟩ => ⟨_, ⟨acc, c, r, rfl⟩, I⟩⟩
structure MC (X : Cx) (M : Md) (ip : List (Addr × Obj)) (A : Around) (c : Code) (fs : List Frame) (gd : Bool → Bool) : Prop where
  own : ∀ S, M = .ls S → (∀ p ∈ X.pn, p.1 ≠ S) ∧ (∀ p ∈ ip, p.1 ≠ S) ∧ Apart X S
  around : A.over c fs = X.A
  split : splitAtGen fs = none
  guard : fs.any Frame.guarded = false
  gd : gd false = false
/-- what is wanted behind a statement; yd: of the first item, if it alone is wanted -/
structure GE where
  nx : List V → L2.St → Hp → Prop
  rt : List V → VK
  bk : List V → L2.St → Hp → Prop := fun _ _ _ => False
  ct : List V → L2.St → Hp → Prop := fun _ _ _ => False
  yd : V → Hp → Prop := fun _ _ => True
abbrev TM := GE → List V → L2.St → Hp → Prop
def GE.at (D : GE) (ys : List V) : Ends := { nx := D.nx ys, rt := D.rt ys, bk := D.bk ys, ct := D.ct ys }
def MSP (X : Cx) (M : Md) (ip : List (Addr × Obj)) (D : GE) (ys : List V) (f : Flow) (s : Shared) : Prop :=
  match f with
  | .next => ∃ σ H, MI X M ip ys σ H s ∧ D.nx ys σ H
  | .brk => ∃ σ H, MI X M ip ys σ H s ∧ D.bk ys σ H
  | .cont => ∃ σ H, MI X M ip ys σ H s ∧ D.ct ys σ H
  | .ret u => ∃ v σ H, MI X M ip ys σ H s ∧ RelV v u ∧ D.rt ys v H
structure MK (X : Cx) (M : Md) (ip : List (Addr × Obj)) (A : Around) (R : GenEnd) (c : Code) (fs : List Frame) (K : Flow → Sem PySem.Fin) (J : Value → Sem PySem.Fin) (D : GE) : Prop where
  ok : ∀ (n : Nat) (ys : List V) (s₀ s : Shared) (f : Flow), n + ys.length = sizeLine → MSP X M ip D ys f s → Seg (model X.prog X.w) A R (M.proto X D.yd) n s₀ c (K f) fs s
  exc : ∀ (n : Nat) (s₀ : Shared) (e : Value) (s : Shared), X.xe e s → Seg (model X.prog X.w) A R (M.proto X D.yd) n s₀ c (J e) fs s
structure MS (X : Cx) (st : Stmt) (t : TM) : Prop where
  run : ∀ (M : Md) (A : Around) (ip : List (Addr × Obj)) (R : GenEnd) (n : Nat) (ys : List V) (s₀ : Shared) (c : Code) (fs : List Frame) (K : Flow → Sem PySem.Fin) (J : Value → Sem PySem.Fin) (gd : Bool → Bool) (lv : List Value → List Value) (s : Shared) (σ : L2.St) (H : Hp) (D : GE),
    MC X M ip A c fs gd → n + ys.length = sizeLine → MK X M ip A R c fs K J D → MI X M ip ys σ H s → t D ys σ H →
    Seg (model X.prog X.w) A R (M.proto X D.yd) n s₀ c ((exec st X.env).wrap K J gd lv) fs s
structure MSs (X : Cx) (sts : List Stmt) (t : TM) : Prop where
  run : ∀ (M : Md) (A : Around) (ip : List (Addr × Obj)) (R : GenEnd) (n : Nat) (ys : List V) (s₀ : Shared) (c : Code) (fs : List Frame) (K : Flow → Sem PySem.Fin) (J : Value → Sem PySem.Fin) (gd : Bool → Bool) (lv : List Value → List Value) (s : Shared) (σ : L2.St) (H : Hp) (D : GE),
    MC X M ip A c fs gd → n + ys.length = sizeLine → MK X M ip A R c fs K J D → MI X M ip ys σ H s → t D ys σ H →
    Seg (model X.prog X.w) A R (M.proto X D.yd) n s₀ c ((execs sts X.env).wrap K J gd lv) fs s
section
variable {X : Cx} {st : Stmt} {rest : List Stmt}
theorem sp_msp {M : Md} {P ip : List (Addr × Obj)} {s : Shared} {D : GE} {ys : List V} {f : Flow} (hp : M.pins ys P) (h : SP X (P ++ ip) (D.at ys) f s) : MSP X M ip D ys f s := by
  cases f with
  | next => exact h.imp fun σ h => h.imp fun H ⟨I, q⟩ => ⟨⟨P, hp, I⟩, q⟩
  | brk => exact h.imp fun σ h => h.imp fun H ⟨I, q⟩ => ⟨⟨P, hp, I⟩, q⟩
  | cont => exact h.imp fun σ h => h.imp fun H ⟨I, q⟩ => ⟨⟨P, hp, I⟩, q⟩
  | ret u => exact h.imp fun v h => h.imp fun σ h => h.imp fun H ⟨I, r, q⟩ => ⟨⟨P, hp, I⟩, r, q⟩
def tMPs (t : TS) : TM := fun D ys σ H => t (D.at ys) σ H
theorem ms_ps {t : TS} (h : PS X st t) : MS X st (tMPs t) where
  run := fun M A ip R n ys s₀ c fs K J gd lv s σ H D g hn k hI ht => by
    obtain ⟨P, hp, I⟩ := hI
    refine seg_wrap (wpAny_mono (by rw [g.around]; exact h.run (P ++ ip) s σ H (D.at ys) I ht) ?_ ?_)
    · exact fun f s' q => k.ok n ys s₀ s' f hn (sp_msp hp q)
    · exact fun x s' q => k.exc n s₀ x s' q
def tM0 : TM := fun D ys σ H => D.nx ys σ H
theorem mss_nil : MSs X [] tM0 where
  run := fun M A ip R n ys s₀ c fs K J gd lv s σ H D _ hn k hI ht => seg_execs_nil (k.ok n ys s₀ s Flow.next hn ⟨σ, H, hI, ht⟩)
def tMThen (t u : TM) : TM := fun D ys σ H => t { D with nx := fun ys' σ' H' => u D ys' σ' H' } ys σ H
theorem mss_cons {t u : TM} (a : MS X st t) (b : MSs X rest u) : MSs X (st :: rest) (tMThen t u) where
  run := fun M A ip R n ys s₀ c fs K J gd lv s σ H D g hn k hI ht => by
    refine seg_execs_cons (a.run M A ip R n ys s₀ c fs _ J gd lv s σ H { D with nx := fun ys' σ' H' => u D ys' σ' H' } g hn ⟨?_, k.exc⟩ hI ht)
    intro m zs s1 s2 f hm q
    cases f with
    | next => exact q.elim fun σ' q => q.elim fun H' q => b.run M A ip R m zs s1 c fs K J gd lv s2 σ' H' D g hm k q.1 q.2
    | brk => exact k.ok m zs s1 s2 Flow.brk hm q
    | cont => exact k.ok m zs s1 s2 Flow.cont hm q
    | ret u => exact k.ok m zs s1 s2 (Flow.ret u) hm q
theorem mss_one {t : TM} (a : MS X st t) : MSs X [st] (tMThen t tM0) := mss_cons a mss_nil
/-! ### yield -/
def tMYield (te : TE) : TM := fun D ys σ H => ys.length < sizeLine ∧ te σ H fun x H1 => (ys = [] → D.yd x H1) ∧ D.nx (ys ++ [x]) σ H1
theorem ms_yield {e : Expr} {yp pos : Pos} {te : TE} (he : PE X e te) (hco : X.env.scope.isCoroutine = false := by rfl) (hi : interactive X.env = false := by rfl) : MS X (.Expr (.Yield (some e) yp) pos) (tMYield te) where
  run := fun M A ip R n ys s₀ c fs K J gd lv s σ H D g hn k hI ht => by
    obtain ⟨hlt, ht⟩ := ht
    obtain ⟨m, rfl⟩ := Nat.exists_eq_add_of_lt (show 0 < n by omega)
    rw [Nat.zero_add] at hn ⊢
    obtain ⟨P, hp, I⟩ := id hI
    refine seg_Expr_Yield g.split g.gd g.guard (wpAny_mono (by rw [g.around]; exact he.run (P ++ ip) s σ H _ I ht) ?_ (fun x s' q => k.exc _ s₀ x s' q)) hco hi
    rintro v s' ⟨x, H1, I1, rv, q1, q2⟩ kap hk
    cases M with
    | fs => exact ⟨x, P ++ ip, σ, H1, rv, I1, q1 hp.1⟩
    | ls S =>
      have G1 : GI X S ip ys σ H1 s' := mi_gi.mp ⟨P, hp, I1⟩
      obtain ⟨o1, o2, o3⟩ := g.own S rfl
      refine ⟨ys, x, ip, σ, H1, hn, rv, G1, fun s2 z => hk Value.none s2 (k.ok m (ys ++ [x]) s2 s2 Flow.next ?_ ⟨σ, H1, mi_gi.mpr (G1.woken o1 o2 o3 rv z), q2⟩)⟩
      rw [List.length_append, List.length_singleton]
      omega
/-! ### if -/
def tMIf (tc : TT) (t u : TM) : TM := fun D ys σ H => tc σ H fun b H1 => if b = true then t D ys σ H1 else u D ys σ H1
theorem ms_if {test : Expr} {a b : List Stmt} {pos : Pos} {tc : TT} {t u : TM} (hc : PT X test tc) (ha : MSs X a t) (hb : MSs X b u) : MS X (.If test a b pos) (tMIf tc t u) where
  run := fun M A ip R n ys s₀ c fs K J gd lv s σ H D g hn k hI ht => by
    obtain ⟨P, hp, I⟩ := id hI
    refine seg_at ?_
    show Seg _ _ _ _ _ _ _ ((isTrue test X.env (eval test X.env) >>= fun d => if d = true then execs a X.env else execs b X.env).wrap K J gd lv) _ _
    refine seg_bind_wrap (wpAny_mono (by rw [g.around]; exact hc.run (P ++ ip) s σ H _ I ht) ?_ (fun x s' q => k.exc _ s₀ x s' q))
    rintro d s' ⟨H1, I1, q⟩
    cases d with
    | true => exact ha.run M A ip R n ys s₀ c fs K J gd lv s' σ H1 D g hn k ⟨P, hp, I1⟩ (by rw [if_pos rfl] at q; exact q)
    | false => exact hb.run M A ip R n ys s₀ c fs K J gd lv s' σ H1 D g hn k ⟨P, hp, I1⟩ (by rw [if_neg Bool.false_ne_true] at q; exact q)
/-! ### for -/
def tMFor (wi : TI) (g : TG) (tb : TM) : TM := fun D ys σ H => wi σ H fun J H1 => ∃ W : Nat → Nat → List V → L2.St → Hp → Prop, (∃ m, W 0 m ys σ H1) ∧ ∀ i m ys σ H, W i m ys σ H →
  (J.stop i H ∧ D.nx ys σ H) ∨ (J.go i H ∧ ∃ N : List V → L2.St → Hp → Prop, (∀ ys' σ' H', N ys' σ' H' → ∃ m', m' < m ∧ W (i + 1) m' ys' σ' H') ∧ ∀ x H', J.yld i H x H' → g x σ H' fun σ2 H2 => tb { D with nx := N, ct := N, bk := D.nx } ys σ2 H2)
/-- a loop's code over the frame that called it -/
theorem mc_loop {M : Md} {ip : List (Addr × Obj)} {A : Around} {c c' : Code} {fs : List Frame} {gd : Bool → Bool} {k : Result → Sem PySem.Fin} {l kp : List Value} {p : Pos} (g : MC X M ip A c fs gd) (hw : c'.weight = 0) (hu : c'.cUnits = 0) :
    MC X M ip A c' (.ret k none (gd false) l c p kp :: fs) id where
  own := g.own
  around := (over_loop hw hu).trans g.around
  split := congrArg (Option.map _) g.split
  guard := by
    show (gd false || fs.any Frame.guarded) = false
    rw [g.gd, g.guard] <;> rfl
  gd := rfl
theorem seg_came {M : Md} {ip : List (Addr × Obj)} {A : Around} {R : GenEnd} {c : Code} {fs : List Frame} {K : Flow → Sem PySem.Fin} {J : Value → Sem PySem.Fin} {gd : Bool → Bool} {lv : List Value → List Value} {D : GE} {n : Nat} {s₀ s : Shared} {e : Value}
    (g : MC X M ip A c fs gd) (k : MK X M ip A R c fs K J D) (h : cameBackBy (model X.prog X.w) X.A X.env X.xe e s) :
    Seg (model X.prog X.w) A R (M.proto X D.yd) n s₀ c (((Sem.raise e : Sem Flow).onRaise (cameBack X.env)).wrap K J gd lv) fs s := by
  show Seg _ _ _ _ _ _ _ (((cameBack X.env e).bind fun _ => (Sem.raise e : Sem Flow)).wrap K J gd lv) _ _
  rw [Sem.bind_eq_wrap, Sem.wrap_wrap]
  refine seg_wrap (wpAny_mono (by rw [g.around]; exact h) (fun _ s' q => k.exc n s₀ e s' q) fun x s' q => k.exc n s₀ x s' q)
/-- what for does behind a turn -/
def turnEnd (tg : Expr) (it : Value) (body : List Stmt) (env : Env) (f : Flow) : Sem PySem.Fin := match f with
  | .next | .cont => again (.forLoop tg it body [] env)
  | .brk => pure (.done .next)
  | .ret u => pure (.done (.ret u))
abbrev noted (env : Env) (e : Value) : Sem PySem.Fin := (do noteFrame e env; theTreesLotGoes e : Sem Unit).bind fun _ => .raise e
/-- a turn of for's loop -/
theorem seg_forTurn {prog : Program} {w : World} {A : Around} {R : GenEnd} {Y : Protocol} {n : Nat} {s₀ s : Shared} {fs : List Frame} {env : Env} {tg : Expr} {it : Value} {body : List Stmt}
    (h : wpAny (model prog w) (A.over (.forLoop tg it body [] env) fs) (pyNext it) (fun r s1 => match r with
        | none => Seg (model prog w) A R Y n s₀ (.forLoop tg it body [] env) (.pure (.again (.block [] env))) fs s1
        | some v => Seg (model prog w) A R Y n s₀ (.forLoop tg it body [] env) ((letOwnedTupleGo tg it v >>= fun _ => assign tg env v >>= fun _ => execs body env >>= turnEnd tg it body env).wrap Sem.pure (noted env) id id) fs s1)
      (fun x s' => Seg (model prog w) A R Y n s₀ (.forLoop tg it body [] env) (noted env x) fs s') s) :
    Seg (model prog w) A R Y n s₀ (.forLoop tg it body [] env) ((model prog w).den (.forLoop tg it body [] env)) fs s := by
  show Seg _ A R Y n s₀ _ ((forTurn tg it body [] env).onRaise fun x => do noteFrame x env; theTreesLotGoes x) fs s
  unfold forTurn
  rw [Sem.onRaise_eq_wrap]
  refine seg_at ?_
  refine seg_bind_wrap (m := (pyNext it).onRaise fun _ => standAt { tg.pos with line := 0 }) (wpAny_onRaise (wpAny_mono h ?_ fun x s' q => wpAny_standAt q))
  rintro (_ | v) s1 q
  · exact q
  · have e : (fun f : Flow => (match f with
      | .next => again (.forLoop tg it body [] env)
      | .cont => again (.forLoop tg it body [] env)
      | .brk => pure (.done .next)
      | .ret v => pure (.done (.ret v)) : Sem PySem.Fin)) = turnEnd tg it body env := by
      funext f
      cases f <;> rfl
    rw [← e] at q
    exact q
theorem pins_fst {M : Md} {ys zs : List V} {P Q : List (Addr × Obj)} (h : M.pins ys P) (k : M.pins zs Q) : P.map (·.1) = Q.map (·.1) := by
  cases M with
  | fs => rw [h.2, k.2]
  | ls S =>
    obtain ⟨_, _, _, rfl⟩ := h
    obtain ⟨_, _, _, rfl⟩ := k
    rfl
/-- the frame of a loop's caller -/
abbrev backFr (env : Env) (K : Flow → Sem PySem.Fin) (J : Value → Sem PySem.Fin) (gd : Bool → Bool) (lv : List Value → List Value) (c : Code) (p : Pos) : Frame :=
  .ret (fun r => ((match r with
    | .ok f => (.pure f : Sem Flow)
    | .error e => .raise e).onRaise (cameBack env)).wrap K J gd lv) none (gd false) (lv []) c p []
theorem ms_for {tg iter : Expr} {body : List Stmt} {pos : Pos} {wi : TI} {g : TG} {tb : TM} (hp : PassesOwn (model X.prog X.w) X.A X.env X.xe) (hcalm : X.calm = true) (hi : PI X tg iter wi) (hg : PG X tg g) (hb : MSs X body tb)
    (hs : ∀ x, foldedSetIterable iter X.env x = pure x := by intro _; rfl) : MS X (.For tg iter body [] pos) (tMFor wi g tb) where
  run := fun M A ip R n ys s₀ c fs K J gd lv s σ H D gc hn k hI ht => by
    obtain ⟨P, hpn, I⟩ := id hI
    refine seg_at ?_
    show Seg _ _ _ _ _ _ _ ((eval iter X.env >>= fun x0 => foldedSetIterable iter X.env x0 >>= fun x => standAt iter.pos >>= fun _ => holding [x] (pyIter x) >>= fun it => runOwn (.forLoop tg it body [] X.env) X.env).wrap K J gd lv) _ _
    refine seg_bind_wrap (wpAny_mono (by rw [gc.around]; exact hi.run (P ++ ip) s σ H _ I ht) ?_ fun x s' q => k.exc _ s₀ x s' q)
    intro v s1 q1
    rw [hs v]
    refine seg_at ?_
    show Seg _ _ _ _ _ _ _ ((holding [v] (pyIter v) >>= fun it => runOwn (.forLoop tg it body [] X.env) X.env).wrap K J gd lv) _ _
    refine seg_bind_wrap (wpAny_holding (wpAny_mono (by rw [gc.around]; exact q1) ?_ fun x s' q => k.exc _ s₀ x s' q))
    rintro itv s2 ⟨it, fp, tn, J2, H2, rfl, I2, T, st2, f2, W, ⟨m0, w0⟩, turn⟩
    refine seg_call fun p => ?_
    have gl : MC X M ip A (.forLoop tg (.ref it) body [] X.env) (backFr X.env K J gd lv c p :: fs) id := mc_loop gc rfl rfl
    have stat : ∀ {H' : Hp} {zs : List V} {Q : List (Addr × Obj)}, M.pins zs Q → (∀ b ∈ fp, H' b = none) → ∀ b ∈ fp, FpOk X (Q ++ ip) H' b := fun {H' zs Q} hq h b hb => by
      obtain ⟨_, a1, a2, a3, a4, a5⟩ := f2 b hb
      refine ⟨h b hb, a1, a2, a3, a4, fun p hp => ?_⟩
      rcases List.mem_append.mp hp with hp | hp
      · exact a5 p (List.mem_append_left _ hp)
      · rcases List.mem_append.mp hp with hp | hp
        · obtain ⟨q, hq2, e⟩ := List.mem_map.mp (show p.1 ∈ P.map (·.1) by rw [pins_fst hpn hq]; exact List.mem_map_of_mem hp)
          rw [← e]
          exact a5 q (List.mem_append_right _ (List.mem_append_left _ hq2))
        · exact a5 p (List.mem_append_right _ (List.mem_append_right _ hp))
    have ee : ∀ (n : Nat) (s₀ : Shared) (x : Value) (s' : Shared), X.xe x s' → Seg (model X.prog X.w) A R (M.proto X D.yd) n s₀ (.forLoop tg (.ref it) body [] X.env) (noted X.env x) (backFr X.env K J gd lv c p :: fs) s' := fun n s₀ x s' hx => by
      rw [show noted X.env x = (do noteFrame x X.env; theTreesLotGoes x : Sem Unit).wrap (fun _ => .raise x) .raise id id from Sem.bind_eq_wrap _ _]
      refine seg_wrap (wpAny_bind (wpAny_mono (by rw [gl.around]; exact hp x s' hx) (fun _ s3 h3 => wpAny_theTreesLotGoes ?_) fun y s3 h3 => ?_))
      · exact seg_leaf (.error x) (seg_came gc k h3)
      · exact seg_leaf (.error y) (seg_came gc k h3)
    have loop : ∀ (m i n : Nat) (ys : List V) (s₀ s : Shared) (σ : L2.St) (H : Hp), n + ys.length = sizeLine → W i m ys σ H → MI X M ip ys σ H s → tn i s.heap → (∀ b ∈ fp, H b = none) →
        Seg (model X.prog X.w) A R (M.proto X D.yd) n s₀ (.forLoop tg (.ref it) body [] X.env) ((model X.prog X.w).den (.forLoop tg (.ref it) body [] X.env)) (backFr X.env K J gd lv c p :: fs) s := by
      intro m
      induction m using Nat.strongRecOn with
      | ind m ih =>
        rintro i n ys s₀ s σ H hn w ⟨Q, hQ, I⟩ st fr
        refine seg_forTurn ?_
        rw [gl.around]
        rcases turn i m ys σ H w with ⟨stop, qn⟩ | ⟨go, N, hN, step⟩
        · refine wpAny_mono (T.done X rfl rfl rfl hcalm i (Q ++ ip) s σ H X.xe I (stat hQ fr) st stop) ?_ fun x s' q => ee n s₀ x s' q
          rintro r s' ⟨rfl, I'⟩
          exact seg_again rfl (seg_leaf (.ok .next) (k.ok n ys s₀ s' .next hn ⟨σ, H, ⟨Q, hQ, I'⟩, qn⟩))
        · refine wpAny_mono (T.item X rfl rfl rfl hcalm i (Q ++ ip) s σ H X.xe I (stat hQ fr) st go) ?_ fun x s' q => ee n s₀ x s' q
          rintro r s3 ⟨u, rfl, h4⟩
          refine seg_bind_wrap (wpAny_mono (by rw [gl.around]; exact h4) ?_ fun x s' q => ee n s₀ x s' q)
          rintro _ s5 ⟨x, H5, I5, r5, y5, st5, fr5⟩
          have hst := stat hQ fr5
          have I5' := I5.pinned hst (T.obj _ _ st5)
          refine seg_bind_wrap (wpAny_mono (by rw [gl.around]; exact hg.run _ s5 σ H5 x u _ I5' r5 (step x H5 y5)) ?_ fun x s' q => ee n s₀ x s' q)
          rintro _ s6 ⟨σ6, H6, I6, q6⟩
          rw [Sem.bind_eq_wrap' (execs body X.env), Sem.wrap_wrap]
          rw [List.append_assoc] at I6
          refine hb.run M A (ip ++ pinsAt fp s5.heap) R n ys s₀ _ _ _ _ _ _ s6 σ6 H6 { D with nx := N, ct := N, bk := D.nx } ⟨fun S e => ?_, gl.around, gl.split, gl.guard, rfl⟩ hn ⟨?_, fun n' s' x s3 q => ee n' s' x s3 q⟩ ⟨Q, hQ, I6⟩ q6
          · obtain ⟨o1, o2, o3⟩ := gc.own S e
            refine ⟨o1, fun p hp => ?_, o3⟩
            rcases List.mem_append.mp hp with hp | hp
            · exact o2 p hp
            · subst e
              obtain ⟨acc, cc, _, rfl⟩ := hQ
              have := (hst p.1 (of_pinsAt hp).1).2.2.2.2.2 (S, lstObj acc cc) (List.mem_append_right _ (List.mem_append_left _ List.mem_cons_self))
              exact fun z => this z.symm
          · intro n' ys' s₀' s7 f hn' q7
            have again : ∀ {σ7 : L2.St} {H7 : Hp}, MI X M (ip ++ pinsAt fp s5.heap) ys' σ7 H7 s7 → N ys' σ7 H7 → Seg (model X.prog X.w) A R (M.proto X D.yd) n' s₀' (.forLoop tg (.ref it) body [] X.env) (.pure (.again (.forLoop tg (.ref it) body [] X.env))) (backFr X.env K J gd lv c p :: fs) s7 := fun {σ7 H7} I7 n7 => by
              obtain ⟨m', hm, w7⟩ := hN ys' σ7 H7 n7
              obtain ⟨Q7, hQ7, J7⟩ := I7
              rw [← List.append_assoc] at J7
              refine seg_again rfl (ih m' hm (i + 1) n' ys' s₀' s7 σ7 H7 hn' w7 ⟨Q7, hQ7, J7.unpinned⟩ (T.keep _ _ _ st5 fun b hb o e => (J7.pin (b, o) (List.mem_append_right _ (List.mem_append_right _ (mem_pinsAt hb e)))).1) fun b hb => ?_)
              obtain ⟨o, e, _⟩ := T.obj _ _ st5 b hb
              exact (J7.pin (b, o) (List.mem_append_right _ (List.mem_append_right _ (mem_pinsAt hb e)))).2.1
            have un : ∀ {σ7 : L2.St} {H7 : Hp}, MI X M (ip ++ pinsAt fp s5.heap) ys' σ7 H7 s7 → MI X M ip ys' σ7 H7 s7 := fun {σ7 H7} ⟨Q7, hQ7, J7⟩ => ⟨Q7, hQ7, by rw [← List.append_assoc] at J7; exact J7.unpinned⟩
            cases f with
            | next => exact q7.elim fun σ7 q => q.elim fun H7 q => again q.1 q.2
            | cont => exact q7.elim fun σ7 q => q.elim fun H7 q => again q.1 q.2
            | brk => exact q7.elim fun σ7 q => q.elim fun H7 q => seg_leaf (.ok .next) (k.ok n' ys' s₀' s7 .next hn' ⟨σ7, H7, un q.1, q.2⟩)
            | ret v => exact q7.elim fun x7 q => q.elim fun σ7 q => q.elim fun H7 q => seg_leaf (.ok (.ret v)) (k.ok n' ys' s₀' s7 (.ret v) hn' ⟨x7, σ7, H7, un q.1, q.2.1, q.2.2⟩)
    exact loop m0 0 n ys s₀ s2 σ H2 hn w0 ⟨P, hpn, I2⟩ st2 fun b hb => (f2 b hb).1
end
end FF
/-! Fivefault, part 69: list(g(..)) and the first item of g(..), g a generator def with for and if. -/
namespace FF
open PySem PySem.Spec PyProof.Rows L2 GenW
/-- run into a list: the library's form -/
def tGOf (t : TM) : TGn := fun D ys σ H => t { nx := D.nx, rt := D.rt, bk := D.bk, ct := D.ct } ys σ H
theorem gss_of {X : Cx} {sts : List Stmt} {t : TM} (h : MSs X sts t) : GSs X sts (tGOf t) where
  run := fun A S ip R n ys s₀ c fs K J gd lv s σ H D g hn k hI ht => by
    have conv : ∀ {ys : List V} {f : Flow} {s : Shared}, MSP X (.ls S) ip { nx := D.nx, rt := D.rt, bk := D.bk, ct := D.ct } ys f s → GSP X S ip D ys f s := fun {ys f s} q => by
      cases f with
      | next => exact q.imp fun σ q => q.imp fun H q => ⟨mi_gi.mp q.1, q.2⟩
      | brk => exact q.imp fun σ q => q.imp fun H q => ⟨mi_gi.mp q.1, q.2⟩
      | cont => exact q.imp fun σ q => q.imp fun H q => ⟨mi_gi.mp q.1, q.2⟩
      | ret u => exact q.imp fun v q => q.imp fun σ q => q.imp fun H q => ⟨mi_gi.mp q.1, q.2.1, q.2.2⟩
    refine h.run (.ls S) A ip R n ys s₀ c fs K J gd lv s σ H { nx := D.nx, rt := D.rt, bk := D.bk, ct := D.ct } ⟨fun S' e => ?_, g.over, g.split, g.guard, g.gd⟩ hn ⟨fun n' ys' s1 s2 f hn' q => k.ok n' ys' s1 s2 f hn' (conv q), fun n' s1 e s2 q => k.exc n' s1 e s2 q⟩ (mi_gi.mpr hI) ht
    cases e
    exact ⟨g.pn, g.ip, g.apart⟩
/-- the promise of a generator def of which the first item alone is taken: what is wanted at the end, of the first item, of an exception -/
abbrev SpF := List V → Hp → (Hp → Prop) → (V → Hp → Prop) → XK → Prop
def FEnd (P : Program) (w : World) (outer : List Env) (H : Hp) (s : Shared) (a : Addr) (g : Nat) (Qe : Hp → Prop) (E : XK) : GenEnd := fun _ _ r s1 =>
  ((r = .ok (.ret .none) ∨ r = .ok .next) ∧ ∃ H', s1.os = s.os ∧ AllBare s1.gens ∧ Un (frs outer) [] H H' s.heap s1.heap ∧ HOk P w H' s1.heap ∧ Qe H') ∨
  ∃ e, r = .error e ∧ (CX P w outer H s E e s1 ∧ s1.heap.IsGen a g)
def FItem (P : Program) (w : World) (outer : List Env) (H : Hp) (s : Shared) (Yd : V → Hp → Prop) : Protocol := fun _ _ v s1 _ =>
  ∃ x H', RelV x v ∧ s1.os = s.os ∧ AllBare s1.gens ∧ Un (frs outer) [] H H' s.heap s1.heap ∧ HOk P w H' s1.heap ∧ Yd x H'
def FMade (P : Program) (w : World) (k : Nat) (outer : List Env) (H : Hp) (s : Shared) (Qe : Hp → Prop) (Yd : V → Hp → Prop) (E : XK) (u : Value) (s' : Shared) : Prop :=
  ∃ (a : Addr) (g : Nat) (c : Code), u = .ref a ∧ s'.heap.IsGen a g ∧ s'.gens[g]? = some (.fresh c) ∧ s'.os = s.os ∧ AllBare s'.gens ∧ s'.heap.NoLimit ∧ (∀ b o, s.heap.get? b = some o → s'.heap.get? b = some o) ∧
    ∀ (A : Around) (s2 : Shared), Room k A → A.frames = some outer → (∀ b o, s'.heap.get? b = some o → s2.heap.get? b = some o) → s2.os = s.os → AllBare s2.gens →
      Seg (model P w) A (FEnd P w outer H s a g Qe E) (FItem P w outer H s Yd) sizeLine s2 c ((model P w).den c) [] s2
structure GFst (P : Program) (w : World) (K : PySem.W.Frag) (mg : Str → Option Value) (base : Heap) (k : Nat) (f : Addr) (fd : FuncData) (ps : List Str) (sp : SpF) : Prop where
  len : ∀ vs H Qe Yd E, sp vs H Qe Yd E → vs.length = ps.length
  run : ∀ (A : Around) (outer : List Env) (s : Shared) (H : Hp) (args : Args) (us : List Value) (vs : List V) (Qe : Hp → Prop) (Yd : V → Hp → Prop) (E : XK), Room k A → Env0 P w K mg base A outer s H → BindsTo s fd args (ps.zip us) → Vals vs us → sp vs H Qe Yd E →
    codeAny (model P w) A (.call (.ref f) args) (fun r s' => match r with
      | .ok (.ret u) => FMade P w k outer H s Qe Yd E u s'
      | _ => False) s
theorem gfst_of {P : Program} {w : World} {K : PySem.W.Frag} {mg : Str → Option Value} {base : Heap} {k : Nat} {f : Addr} {name qual : Str} {params : Arguments} {body : List Stmt} {scope : Scope} {dV kV doc pm cdv ct oc : Value} {an od : Option Addr}
    {osl : Array (Option Value)} {N ps : List Str} {sp : SpF} (lk : K.lookup f = some ⟨oc, od, .func (PySem.W.fnOf name qual params body scope dV kV doc pm an cdv ct), osl⟩) (hcd : PySem.W.codeIn K cdv qual = true) (S : GScope N ps scope)
    (len : ∀ vs H Qe Yd E, sp vs H Qe Yd E → vs.length = ps.length)
    (hbody : ∀ (A : Around) (outer : List Env) (s : Shared) (H : Hp) (vs : List V) (Qe : Hp → Prop) (Yd : V → Hp → Prop) (E : XK) (pn : List (Addr × Obj)), Room k (A.deeper (envOfC qual scope s.heap.objs.size f cdv)) → sp vs H Qe Yd E →
      ∃ t, MSs (gcxOf P w K mg base N qual scope f cdv A outer s H E pn) body t ∧ t { nx := fun ys _ H' => ys = [] → Qe H', rt := fun ys v H' => ys = [] → v = .non ∧ Qe H', yd := Yd } [] (start N vs) H) :
    GFst P w K mg base (k + 1) f (PySem.W.fnOf name qual params body scope dV kV doc pm an cdv ct) ps sp := by
  refine ⟨len, fun A outer s H args us vs Qe Yd E hr e0 hb r hsp => ?_⟩
  have hlen := len _ _ _ _ _ hsp
  have hKin : K.In s.heap := e0.mod.kin.keeps fun b o e => (e0.bs b o e).1
  have hlim : s.heap.NoLimit := e0.mod.nolimit.keeps fun b o e => (e0.bs b o e).1
  have kinds : ∀ y ∈ ps.zip us, scope.names.lookup y.1 = some .local ∨ (scope.names.lookup y.1 = some .cell ∧ ((cellsFrom (s.heap.objs.size + 1) scope.names []).lookup y.1).isSome = true) := fun y hy =>
    (S.par y.1 (List.of_mem_zip (a := y.1) (b := y.2) hy).1).imp id fun q => ⟨q, PySem.W.cellsFrom_some _ _ _ (.inl q)⟩
  refine codeAny_call_generator hr.depth (hKin _ _ lk) rfl S.co S.gen rfl (PySem.W.codeRec_of hKin hcd) (hb _ _ _ _ ?_)
  refine wpAny_newFunctionEnv_cells S.kind kinds fun env he s1 x => ?_
  subst he
  obtain ⟨h1, tk, es1, hk1⟩ := x.done
  have hlim1 : s1.heap.NoLimit := hlim.keeps x.toInCall.keep
  refine ⟨hlim1, ?_⟩
  have lt1 : s.heap.objs.size < s1.heap.objs.size := x.toInCall.ns.lt
  suffices main : ∀ (go : Obj) (nm qn : Value) (tk2 : Nat), go.cls = .type "generator" → go.data = .fields #[.int s1.gens.size 0, nm, qn] → go.slots = #[] → (∀ h : Heap, (h.push go).get? h.objs.size = some go) →
      FMade P w (k + 1) outer H s Qe Yd E (.ref s1.heap.objs.size) { s1 with gens := s1.gens.push (.fresh (.func body (envOfC qual scope s.heap.objs.size f cdv))), toks := tk2, heap := s1.heap.push go } from
    main _ _ _ _ rfl rfl rfl fun h => Heap.get?_push_size _ rfl
  intro go nm qn tk2 c1 c2 c3 c4
  have isg : ∀ h : Heap, h.get? s1.heap.objs.size = some go → h.IsGen s1.heap.objs.size s1.gens.size := fun h e => ⟨go, nm, qn, e, c1, c2, c3⟩
  have at1 := c4 s1.heap
  refine ⟨s1.heap.objs.size, s1.gens.size, _, rfl, isg _ at1, Array.getElem?_push_size .., by rw [es1], AllBare.push (by rw [es1]; exact e0.bare) rfl, hlim1.keeps fun b o e => Heap.get?_push_of_some _ e, fun b o e => Heap.get?_push_of_some _ (x.toInCall.keep b o e), ?_⟩
  intro Aw s2 hrw hfr hk2 hos hba
  obtain ⟨t, ht, hq⟩ := hbody Aw outer s H vs Qe Yd E [(s1.heap.objs.size, go)] (hrw.deeper _) hsp
  have J1 := inv_startG (E := E) S hrw.hd (⟨hfr, e0.mod, e0.bs, e0.bsz, e0.funs, e0.frf, e0.hok, e0.bare⟩ : Env0 P w K mg base Aw outer s H) hlen r x
  have kp2 : ∀ b o, s1.heap.get? b = some o → s2.heap.get? b = some o := fun b o e => hk2 b o (Heap.get?_push_of_some _ e)
  have J2 := J1.call' (ch := []) (s' := s2) (hos.trans (by rw [es1])) (Un.kept kp2) (J1.hok.kept kp2) hba fun b z => (nomatch z)
  have at2 : s2.heap.get? s1.heap.objs.size = some go := hk2 _ go at1
  have J3 : Inv (gcxOf P w K mg base N qual scope f cdv Aw outer s H E [(s1.heap.objs.size, go)]) [] (start N vs) H s2 := Inv.pinnedG J2 fun p hp => by
    rw [List.append_nil] at hp
    rw [List.mem_singleton.mp hp]
    exact ⟨at2, J1.hok.fresh (Nat.le_refl _), Nat.ne_of_gt lt1, J1.nofs (Nat.le_refl _), fun v q => by rw [c2] at q; cases q⟩
  refine seg_func (seg_imp (R := fun n s₀ r s' => match r with
      | .ok (.ret u) => ∃ H', s'.os = s.os ∧ AllBare s'.gens ∧ Un (frs outer) [] H H' s.heap s'.heap ∧ HOk P w H' s'.heap ∧ u = .none ∧ Qe H'
      | .error e => CX P w outer H s E e s' ∧ ∀ p ∈ [(s1.heap.objs.size, go)], s'.heap.get? p.1 = some p.2
      | _ => False) (Y := FstY (gcxOf P w K mg base N qual scope f cdv Aw outer s H E [(s1.heap.objs.size, go)]) Yd) (fun n s₀ r s' q => ?_) (fun n s₀ v s' kap kap' _ q => ?_) sizeLine ?_)
  · match r, q with
    | .ok (.ret u), ⟨H', q1, q2, q3, q4, q5, q6⟩ => exact .inl ⟨.inl (by rw [q5]), H', q1, q2, q3, q4, q6⟩
    | .error e, ⟨q1, q2⟩ => exact .inr ⟨e, rfl, q1, isg _ (q2 _ (List.mem_singleton.mpr rfl))⟩
  · obtain ⟨y, ip, σ', H', rv, J, hy⟩ := q
    exact ⟨y, H', rv, J.os, J.bare, J.base, J.hok, hy⟩
  · refine ht.run .fs Aw [] _ sizeLine [] s2 _ [] _ _ id id s2 (start N vs) H _ ⟨fun S' e => (nomatch e), over_func, rfl, rfl, rfl⟩ rfl ⟨fun n ys s₀ s' fl hn q => ?_, fun n s₀ e s' hx => ?_⟩ ⟨[], ⟨rfl, rfl⟩, J3⟩ hq
    · cases fl with
      | next =>
        obtain ⟨σ', H', ⟨P', ⟨rfl, rfl⟩, J⟩, hQ⟩ := q
        exact seg_end (.ok (.ret .none)) ⟨H', J.os, J.bare, J.base, J.hok, rfl, hQ rfl⟩
      | brk => exact q.elim fun _ q => q.elim fun _ q => q.2.elim
      | cont => exact q.elim fun _ q => q.elim fun _ q => q.2.elim
      | ret u =>
        obtain ⟨v, σ', H', ⟨P', ⟨rfl, rfl⟩, J⟩, rv, hQ⟩ := q
        obtain ⟨hv, hq2⟩ := hQ rfl
        subst hv
        exact seg_end (.ok (.ret u)) ⟨H', J.os, J.bare, J.base, J.hok, rv, hq2⟩
    · refine seg_wrap ?_
      rw [over_func]
      exact wpAny_mono hx (fun _ s3 q => seg_end (.error e) q) fun _ s3 q => q.elim
/-! ### the first item taken -/
structure PFst (X : Cx) (k : Nat) (e : Expr) (tg : L2.St → Hp → (Hp → Prop) → (V → Hp → Prop) → Prop) (E : XK) : Prop where
  run : ∀ (pins : List (Addr × Obj)) (s : Shared) (σ : L2.St) (H : Hp) (Qe : Hp → Prop) (Yd : V → Hp → Prop), Inv X pins σ H s → tg σ H Qe Yd → wpAny (model X.prog X.w) X.A (eval e X.env)
    (fun u s' => ∃ H1 sc, Inv X pins σ H1 sc ∧ FMade X.prog X.w k X.stack H1 sc Qe Yd E u s') X.xe s
def tCallF (sp : SpF) (E : XK) (t : TA) : L2.St → Hp → (Hp → Prop) → (V → Hp → Prop) → Prop := fun σ H Qe Yd => t σ H fun vs H1 => sp vs H1 Qe Yd E
theorem pfst_call {X : Cx} {k : Nat} {f : Addr} {fd : FuncData} {ps : List Str} {sp : SpF} {E : XK} {x : Str} {p pos' : Pos} {e : Expr} {es : List Expr} {t : TA} (F : GFst X.prog X.w X.K X.mg X.base k f fd ps sp) (hr : Room k X.A) (hg : Gl X x) (hm : X.mg x = some (.ref f)) (hk : PySem.W.keepIn X.K (.ref f) = true) (hb : Binds X.K fd ps [])
    (ha : PA X (e :: es) t) (hdb : (x == ("__debug__" : Str)) = false := by decide) (he : starEach (e :: es) X.env = (false, eval e X.env) :: starEach es X.env := by rfl) (hpl : (backTo pos' (starEach es X.env)).any (·.1) = false := by rfl) :
    PFst X k (.Call (.Name x p) (e :: es) [] pos') (tCallF sp E t) E where
  run := fun pins s σ H Qe Yd I h => by
    refine wpAny_Call_Name_kw (ld_glob I hg hm ?_ hdb)
    refine PySem.W.callWith_K (h₀ := X.base) I.ok.mod.kin hk (thn (ha.run pos' pins s σ H _ I h) fun us s1 ⟨vs, H1, I1, r, q⟩ => ⟨I1.kIn, ?_⟩) he hpl
    have hl : us.length = ps.length := by rw [← r.length]; exact F.len _ _ _ _ _ q
    have hbd := hb s1 us I1.kIn (by rw [List.append_nil]; exact hl)
    rw [List.append_nil] at hbd
    refine wpAny_call (codeAny_mono (F.run X.A X.stack s1 H1 ⟨us, []⟩ us vs Qe Yd E hr I1.env0 hbd r q) fun r s' hq => ?_)
    match r, hq with
    | .ok (.ret u), hq => exact ⟨H1, s1, I1, hq⟩
end FF
/-! Fivefault, part 70: for x in g(..): return .. (the first item alone is taken). -/
namespace FF
open PySem PySem.Spec PyProof.Rows L2 GenW
def tFirst (tg : L2.St → Hp → (Hp → Prop) → (V → Hp → Prop) → Prop) (g : TG) (tb : TS) : TS := fun D σ H => tg σ H (fun H' => D.nx σ H') fun v H' => g v σ H' fun σ2 H2 => tb { D with nx := fun _ _ => False, ct := fun _ _ => False, bk := D.nx } σ2 H2
theorem ps_first {X : Cx} {k : Nat} {e : Expr} {tg : L2.St → Hp → (Hp → Prop) → (V → Hp → Prop) → Prop} {E : XK} {x : Str} {p pos : Pos} {body : List Stmt} {g : TG} {tb : TS} (h : PFst X k e tg E) (hx : Passes (CX X.prog X.w) X E) (hns : NoStop X.K E) (hr : Room (k + 3) X.A) (hp : PassesOwn (model X.prog X.w) X.A X.env X.xe)
    (hg : PG X (.Name x p) g) (hb : PSs X body tb) (hs : ∀ y, foldedSetIterable e X.env y = pure y := by intro _; rfl) : PS X (.For (.Name x p) e body [] pos) (tFirst tg g tb) where
  run := fun pins s σ H D I q => by
    refine wpAny_For (thn (h.run pins s σ H _ _ I q) fun u s1 ⟨H1, sc, I1, hG⟩ => ?_) hs
    obtain ⟨a, gn, c, rfl, hgen, hgs, hos, hba, hlim, hkp, wake⟩ := hG
    refine wpAny_pyIter_gen hgen ?_
    refine codeAny_forLoop_any (fun _ s' => s' = s1) ?_ 0 rfl
    rintro n s2 rfl
    have hroom : Room k X.A.in1 := ⟨hr.hd, by have := hr.dp; show X.A.depth + 3 * k + 5 < _; omega, by have := hr.un; show X.A.units + 1 + 16 * k + 200 < _; omega⟩
    refine wpAny_passesOwn hp (next_genG (n := sizeLine) (F := fun _ _ s3 => ∃ H', s3.os = sc.os ∧ AllBare s3.gens ∧ Un (frs X.stack) [] H1 H' sc.heap s3.heap ∧ HOk X.prog X.w H' s3.heap ∧ D.nx σ H') (Er := fun e s3 => CX X.prog X.w X.stack H1 sc E e s3 ∧ s3.heap.IsGen a gn)
      (Y := FItem X.prog X.w X.stack H1 sc fun v H' => g v σ H' fun σ2 H2 => tb { D with nx := fun _ _ => False, ct := fun _ _ => False, bk := D.nx } σ2 H2) hr.hd hlim (by have := hr.dp; show X.A.depth < _; omega) hgen hgs
      ⟨rfl, wake X.A.in1 _ hroom I1.ok.frames (fun b o e => e) hos (allBare_setGen hba rfl)⟩ ?_ ?_ ?_)
    · rintro v s3 gs' hbare ⟨y, H', rv, os3, ba3, un3, ok3, yd⟩
      have I3 : Inv X pins σ H' (s3.setGen gn gs') := I1.call' (ch := []) os3 un3 ok3 (allBare_setGen ba3 hbare) fun b z => (nomatch z)
      show wpAny _ _ (letOwnedTupleGo (.Name x p) (.ref a) v) _ _ _
      unfold letOwnedTupleGo
      refine wpAny_pure ?_
      refine wpAny_passesOwn hp (thn (hg.run pins _ σ H' y v _ I3 rv yd) fun _ s4 ⟨σ4, H4, I4, q4⟩ => ?_)
      refine wpAny_passesOwn hp (thn (hb.run pins s4 σ4 H4 _ I4 q4) fun f s5 q5 => ?_)
      cases f with
      | next => exact q5.elim fun _ z => z.elim fun _ z => z.2.elim
      | cont => exact q5.elim fun _ z => z.elim fun _ z => z.2.elim
      | brk => exact q5
      | ret v => exact q5
    · rintro s3 ⟨H', os3, ba3, un3, ok3, q3⟩ h' hk
      exact wpAny_execs_nil ⟨σ, H', I1.call' (ch := []) (s' := { s3.setGen gn .finished with heap := h' }) os3 (un3.trans (Un.kept hk)) (ok3.kept hk) (allBare_setGen ba3 rfl) fun b z => (nomatch z), q3⟩
    · rintro ex s3 ⟨hc, hg3⟩
      have kin : X.K.In s3.heap := by
        obtain ⟨b0, B, H', cls, d, _, fl, _, ub, _⟩ := id hc
        refine I1.ok.mod.kin.keeps fun b o eb => fl.1 b o (ub.keep b o (I1.bs b o eb).1 (I1.bs b o eb).2 fun hm => ?_)
        rcases List.mem_cons.mp (I1.stkSub b hm) with z | z
        · have l1 := Heap.lt_size eb
          rw [z] at l1
          exact absurd (Nat.lt_of_lt_of_le l1 (Nat.le_trans I1.ok.bsz I1.ok.above)) (Nat.lt_irrefl _)
        · exact I1.ok.nofr eb z
      refine ⟨hg3, notStop_of hns kin hc, hx pins σ H1 sc ex _ I1 ?_⟩
      obtain ⟨b0, B, H', cls, d, z1, fl, z2, ub, z3, z4, z5, z6⟩ := hc
      exact ⟨b0, B, H', cls, d, z1, fl, z2, ub, z3, z4, allBare_setGen z5 rfl, z6⟩
end FF
/-! Fivefault, part 71: for inside a generator's body, by a walk. -/
namespace FF
open PySem PySem.Spec PyProof.Rows L2 GenW
theorem mfor_it {J : It} {n : Nat} {G : Hp → Prop} {Y : Nat → Hp → V → Hp → Prop} (w : Walk J n G Y) {g : TG} {tb : TM} {D : GE} {ys : List V} {σ : L2.St} {H : Hp} (Pv : Nat → List V → L2.St → Hp → Prop) (h0 : Pv 0 ys σ H) (hG : ∀ i ys σ H, i ≤ n → Pv i ys σ H → G H)
    (hs : ∀ i ys σ H x H', i < n → Pv i ys σ H → Y i H x H' → g x σ H' fun σ2 H2 => tb { D with nx := Pv (i + 1), ct := Pv (i + 1), bk := D.nx } ys σ2 H2) (hd : ∀ ys σ H, Pv n ys σ H → D.nx ys σ H) :
    ∃ W : Nat → Nat → List V → L2.St → Hp → Prop, (∃ m, W 0 m ys σ H) ∧ ∀ i m ys σ H, W i m ys σ H →
      (J.stop i H ∧ D.nx ys σ H) ∨ (J.go i H ∧ ∃ N : List V → L2.St → Hp → Prop, (∀ ys' σ' H', N ys' σ' H' → ∃ m', m' < m ∧ W (i + 1) m' ys' σ' H') ∧ ∀ x H', J.yld i H x H' → g x σ H' fun σ2 H2 => tb { D with nx := N, ct := N, bk := D.nx } ys σ2 H2) := by
  refine ⟨fun i m ys σ H => m = n - i ∧ i ≤ n ∧ Pv i ys σ H, ⟨n, by simp, Nat.zero_le _, h0⟩, ?_⟩
  rintro i m ys σ H ⟨rfl, hi, p⟩
  have q := hG i ys σ H hi p
  by_cases hlt : i < n
  · exact .inr ⟨w.goes i H hlt q, Pv (i + 1), fun ys' σ' H' p' => ⟨n - (i + 1), by omega, rfl, hlt, p'⟩, fun x H' y => hs i ys σ H x H' hlt p (w.yields i H x H' hlt q y)⟩
  · have e : i = n := by omega
    subst e
    exact .inl ⟨w.stops H q, hd ys σ H p⟩
/-- range(n) -/
theorem mfor_range {lo : Int} {n : Nat} {g : TG} {tb : TM} {D : GE} {ys : List V} {σ : L2.St} {H : Hp} (Pv : Nat → List V → L2.St → Hp → Prop) (h0 : Pv 0 ys σ H)
    (hs : ∀ i ys σ H, i < n → Pv i ys σ H → g (.int (lo + i)) σ H fun σ2 H2 => tb { D with nx := Pv (i + 1), ct := Pv (i + 1), bk := D.nx } ys σ2 H2) (hd : ∀ ys σ H, Pv n ys σ H → D.nx ys σ H) :
    ∃ W : Nat → Nat → List V → L2.St → Hp → Prop, (∃ m, W 0 m ys σ H) ∧ ∀ i m ys σ H, W i m ys σ H →
      ((Itr lo n).stop i H ∧ D.nx ys σ H) ∨ ((Itr lo n).go i H ∧ ∃ N : List V → L2.St → Hp → Prop, (∀ ys' σ' H', N ys' σ' H' → ∃ m', m' < m ∧ W (i + 1) m' ys' σ' H') ∧ ∀ x H', (Itr lo n).yld i H x H' → g x σ H' fun σ2 H2 => tb { D with nx := N, ct := N, bk := D.nx } ys σ2 H2) :=
  mfor_it walk_range Pv h0 (fun _ _ _ _ _ _ => trivial) (fun i ys σ H x H' hi p y => by
    obtain ⟨e1, e2⟩ := y
    subst e1 e2
    exact hs i ys σ _ hi p) hd
/-- a generator def, of which the first item alone is taken -/
structure DefF (P : Program) (w : World) (K : PySem.W.Frag) (mg : Str → Option Value) (base : Heap) (x : Str) (k : Nat) (ps : List Str) (sp : SpF) : Prop where
  ex : ∃ (f : Addr) (fd : FuncData), GFst P w K mg base k f fd ps sp ∧ mg x = some (.ref f) ∧ PySem.W.keepIn K (.ref f) = true ∧ Binds K fd ps []
/-- for x in g(..): return .. -/
theorem ps_firstD {X : Cx} {k j : Nat} {gn : Str} {ps : List Str} {sp : SpF} {E : XK} {x : Str} {p pos p1 pos1 : Pos} {e : Expr} {es : List Expr} {t : TA} {body : List Stmt} {g : TG} {tb : TS} (D : DefF X.prog X.w X.K X.mg X.base gn k ps sp) (hx : Passes (CX X.prog X.w) X E) (hns : NoStop X.K E) (hr : Room j X.A) (hkj : k + 3 ≤ j) (hp : PassesOwn (model X.prog X.w) X.A X.env X.xe)
    (ha : PA X (e :: es) t) (hg : PG X (.Name x p) g) (hb : PSs X body tb) (hgl : Gl X gn := by rfl) (hdb : (gn == ("__debug__" : Str)) = false := by decide) (he : starEach (e :: es) X.env = (false, eval e X.env) :: starEach es X.env := by rfl) (hpl : (backTo pos1 (starEach es X.env)).any (·.1) = false := by rfl)
    (hs : ∀ y, foldedSetIterable (.Call (.Name gn p1) (e :: es) [] pos1) X.env y = pure y := by intro _; rfl) : PS X (.For (.Name x p) (.Call (.Name gn p1) (e :: es) [] pos1) body [] pos) (tFirst (tCallF sp E t) g tb) := by
  obtain ⟨f, fd, F, hm, hk, hbd⟩ := D.ex
  exact ps_first (pfst_call F (hr.mono (by omega)) hgl hm hk hbd ha hdb he hpl) hx hns (hr.mono hkj) hp hg hb hs
end FF
/-! Fivefault, part 72: exceptions that are no StopIteration. -/
namespace FF
open PySem PySem.Spec PyProof.Rows L2 GenW
def noStE (K : PySem.W.Frag) (E : XK) : XK := fun cls d H => E cls d H ∧ PySem.W.subIn K cls (.type "StopIteration") = some false
theorem noStE_ok {K : PySem.W.Frag} {E : XK} : NoStop K (noStE K E) := fun _ _ _ h => h.2
end FF
/-! Fivefault, part 73: match: literals, names, alternatives, sequences over a tuple. -/
namespace FF
open PySem PySem.Spec PyProof.Rows L2
abbrev TP := V → L2.St → Hp → (Option (List V) → Hp → Prop) → Prop
abbrev TPs := List V → L2.St → Hp → (Option (List V) → Hp → Prop) → Prop
/-- what a pattern's match leaves: nothing bound, or the values of its names -/
def MP (X : Cx) (pins : List (Addr × Obj)) (σ : L2.St) (ns : List Str) (Q : Option (List V) → Hp → Prop) (r : Option (List (Str × Value))) (s' : Shared) : Prop := match r with
  | none => ∃ H', Inv X pins σ H' s' ∧ Q none H'
  | some bs => ∃ vs H', Inv X pins σ H' s' ∧ bs.map (·.1) = ns ∧ Vals vs (bs.map (·.2)) ∧ Q (some vs) H'
structure PPat (X : Cx) (p : Pattern) (ns : List Str) (t : TP) : Prop where
  run : ∀ (pins : List (Addr × Obj)) (s : Shared) (σ : L2.St) (H : Hp) (v : V) (u : Value) (Q : Option (List V) → Hp → Prop), Inv X pins σ H s → RelV v u → t v σ H Q →
    wpAny (model X.prog X.w) X.A (matchPattern p X.env u) (MP X pins σ ns Q) X.xe s
structure PPats (X : Cx) (ps : List Pattern) (ns : List Str) (t : TPs) : Prop where
  run : ∀ (pins : List (Addr × Obj)) (s : Shared) (σ : L2.St) (H : Hp) (vs : List V) (us : List Value) (Q : Option (List V) → Hp → Prop), Inv X pins σ H s → Vals vs us → t vs σ H Q →
    wpAny (model X.prog X.w) X.A (matchEach ps X.env us) (MP X pins σ ns Q) X.xe s
section
variable {X : Cx} {pos : Pos}
/-- names and their slots -/
inductive Bnd (X : Cx) : List Str → List Nat → Prop
  | nil : Bnd X [] []
  | cons {x : Str} {i : Nat} {ns : List Str} {is : List Nat} : X.N[i]? = some x → Loc X.env.scope x → (X.fn x = true ∨ X.env.scope.names.lookup x = some .local) → Bnd X ns is → Bnd X (x :: ns) (i :: is)
/-- the cases -/
structure PMs (X : Cx) (cs : List MatchCase) (t : V → TS) : Prop where
  run : ∀ (pins : List (Addr × Obj)) (s : Shared) (σ : L2.St) (H : Hp) (v : V) (u : Value) (first : Bool) (D : Ends), Inv X pins σ H s → RelV v u → t v D σ H → wpAny (model X.prog X.w) X.A (matchCases cs X.env u first) (SP X pins D) X.xe s
end
end FF
/-! Fivefault, part 74: an item of a list or a tuple. -/
namespace FF
open PySem PySem.Spec PyProof.Rows L2
end FF
/-! Fivefault, part 75: {e for .. in xs if ..} over a list or a tuple, texts. -/
namespace FF
open PySem PySem.Spec PyProof.Rows L2
end FF
/-! Fivefault, part 76: a law's def at its only call, from outside, where no repr is under way; repr of data. -/
namespace FF
open PySem PySem.Spec PyProof.Rows L2
/-- what a function does at the call from outside -/
structure FnTop (P : Program) (w : World) (K : PySem.W.Frag) (mg : Str → Option Value) (base : Heap) (CX : CXT) (f : Addr) (fd : FuncData) (ps : List Str) (sp : Sp) : Prop where
  run : ∀ (s : Shared) (H : Hp) (args : Args) (us : List Value) (vs : List V) (Q : VK) (E : XK), Env0 P w K mg base callerA [] s H → BindsTo s fd args (ps.zip us) → Vals vs us → sp vs H Q E →
    codeAny (model P w) callerA (.call (.ref f) args) (CR CX [] P w H s Q E) s
end FF
/-! Fivefault, part 77: sorted(d), d a dict with whole numbers as keys. -/
namespace FF
open PySem PySem.Spec PyProof.Rows L2
end FF
/-! Fivefault, part 78: sorted(xs), whole numbers, any number of them. -/
namespace FF
open PySem PySem.Spec PyProof.Rows L2
end FF
/-! Fivefault, part 79: isinstance of dicts, too; != of dicts and of lists of different lengths; [e for x in z], z a text, told by the place. -/
namespace FF
open PySem PySem.Spec PyProof.Rows L2
def dictD : PyData := .dict []
def listD : PyData := .list []
def rIsC (K : PySem.W.Frag) (T : String) (f : PyData → Bool) : List V → Hp → VK → Prop := fun xs H Q => rIsD K T f xs H Q ∨ (∃ (a : Addr) (kvs : List (Key × V)), xs = [.ref a, .ty T] ∧ H a = some (.dK kvs) ∧ Q (.bl (f dictD)) H) ∨ ∃ (a : Addr) (ys : List V), xs = [.ref a, .ty T] ∧ H a = some (.lst ys) ∧ Q (.bl (f listD)) H
theorem call_isC_ {X : Cx} {T : String} {f : PyData → Bool} (hk : ∀ d, kitB (tyN d) T = some (f d)) : CallR X (.builtin "isinstance") (rIsC X.K T f) := by
  intro pins s σ H xs us Q I r h
  rcases h with h | ⟨a, kvs, rfl, ha, q⟩ | ⟨a, ys, rfl, ha, q⟩
  · exact call_isD hk pins s σ H xs us Q I r h
  · exact call_isi pins s σ H _ us Q I r ⟨.ref a, .ty T, _, _, _, rfl, .ty T, .base (.dK ha), kit_ty (hk dictD), q⟩
  · exact call_isi pins s σ H _ us Q I r ⟨.ref a, .ty T, _, _, _, rfl, .ty T, .base (.lst ha), kit_ty (hk listD), q⟩
theorem call_isC {X : Cx} (K : PySem.W.Frag) {T : String} {f : PyData → Bool} (hk : ∀ d, kitB (tyN d) T = some (f d)) (h : X.K = K := by rfl) : CallR X (.builtin "isinstance") (rIsC K T f) := by subst h; exact call_isC_ hk
section
variable {te : TE} {vs : List Nat} {j D : Nat} {σ : L2.St} {H1 : Hp} {Qd : Hp → Prop}
end
end FF
/-! Fivefault, part 80: g(e, .., k = v), g a generator def; a def by two promises. -/
namespace FF
open PySem PySem.Spec PyProof.Rows L2
section
variable {X : Cx} {k n : Nat} {f : Addr} {fd : FuncData} {ps ks : List Str} {sp : SpG} {E : XK} {x : Str} {p pos : Pos} {e : Expr} {es : List Expr} {t : TA} {kws : List Keyword} {tk : TA} {g : List Value → List Value → List Value} {gV : List V → List V → List V}
theorem run_gfnN {pins : List (Addr × Obj)} {σ : L2.St} {H : Hp} {s : Shared} {us ws : List Value} {vs zs : List V} {cont : List V → Hp → Prop} {E1 : Value → Shared → Prop} (F : GFn X.prog X.w X.K X.mg X.base k f fd ps sp) (hr : Room k X.A) (hb : KBn X.K fd ps n ks g gV)
    (I : Inv X pins σ H s) (r : Vals vs us) (rz : Vals zs ws) (l1 : vs.length = n) (l2 : zs.length = ks.length) (h : sp (gV vs zs) H cont E) :
    wpAny (model X.prog X.w) X.A (call (.ref f) us (ks.zip ws)) (fun u s' => ∃ H1 sc ex, Inv X pins σ H1 sc ∧ ExOk X pins ex ∧ GMade X.prog X.w k X.stack H1 sc ex cont E u s') E1 s := by
  have r2 := hb.rel r rz
  refine wpAny_call (codeAny_mono (F.run X.A X.stack s H ⟨us, ks.zip ws⟩ (g us ws) (gV vs zs) cont E hr I.env0 (hb.to s us ws I.kIn (r.length.symm.trans l1) (rz.length.symm.trans l2)) r2 h) fun r s' hq => ?_)
  cases r with
  | error e => exact False.elim hq
  | ok fl =>
    cases fl with
    | ret u => exact ⟨H, s, [], I, .nil, hq⟩
    | next => exact False.elim hq
    | brk => exact False.elim hq
    | cont => exact False.elim hq
def tCallGN (n m : Nat) (sp : SpG) (gV : List V → List V → List V) (E : XK) (t tk : TA) : TGen := fun σ H cont => t σ H fun vs H1 => tk σ H1 fun zs H2 => vs.length = n ∧ zs.length = m ∧ sp (gV vs zs) H2 cont E
theorem pgen_callN (F : GFn X.prog X.w X.K X.mg X.base k f fd ps sp) (hr : Room k X.A) (hg : Gl X x) (hm : X.mg x = some (.ref f)) (hk : PySem.W.keepIn X.K (.ref f) = true) (hb : KBn X.K fd ps n ks g gV)
    (ha : PA X (e :: es) t) (hkw : PK X kws tk) (hall : (backToKw pos (keywordEach kws X.env)).all (·.1.isSome) = true := by rfl) (hks : (backToKw pos (keywordEach kws X.env)).filterMap (·.1) = ks := by rfl)
    (hdb : (x == ("__debug__" : Str)) = false := by decide) (he : starEach (e :: es) X.env = (false, eval e X.env) :: starEach es X.env := by rfl)
    (hpl : ((backTo pos (starEach (e :: es) X.env)).any (·.1) || (backToKw pos (keywordEach kws X.env)).any (·.1.isNone)) = false := by rfl) :
    PGen X k (.Call (.Name x p) (e :: es) kws pos) (tCallGN n ks.length sp gV E t tk) E := by
  refine ⟨fun pins s σ H cont I h => ?_⟩
  refine wpAny_Call_Name_kw (ld_glob I hg hm ?_ hdb)
  refine PySem.W.callWith_KW (h₀ := X.base) I.ok.mod.kin hk hall (thn (ha.run pos pins s σ H _ I h) fun us s1 ⟨vs, H1, I1, r, q⟩ => ?_) hpl he
  refine thn (hkw.run pos pins s1 σ H1 _ I1 q) fun ws s2 ⟨zs, H2, I2, rz, l1, l2, q2⟩ => ⟨I2.kIn, ?_⟩
  rw [hks]
  exact run_gfnN F hr hb I2 r rz l1 l2 q2
end
/-- a def that keeps two promises -/
theorem FnOk.or_ {P : Program} {w : World} {K : PySem.W.Frag} {mg : Str → Option Value} {base : Heap} {CX : CXT} {k : Nat} {f : Addr} {fd : FuncData} {ps : List Str} {sp sp' : Sp} (F : FnOk P w K mg base CX k f fd ps sp) (G : FnOk P w K mg base CX k f fd ps sp') : FnOk P w K mg base CX k f fd ps (fun vs H Q E => sp vs H Q E ∨ sp' vs H Q E) := by
  refine ⟨fun vs H Q E h => h.elim (F.len vs H Q E) (G.len vs H Q E), fun A outer s H args us vs Q E h1 h2 h3 h4 h => ?_⟩
  rcases h with h | h
  · exact F.run A outer s H args us vs Q E h1 h2 h3 h4 h
  · exact G.run A outer s H args us vs Q E h1 h2 h3 h4 h
end FF
/-! Fivefault, part 81: the Hook that walks the heap with a set of bits (less memory). -/
namespace FF
open PySem PySem.Spec PyProof.Rows L2
end FF
namespace FF
open PySem PySem.Spec PyProof.Rows L2
def top (i : Nat) : Stmt := PySem.Challenge.pw_fivefault_k31_cases_in_order.main.body.getD i (.Pass ⟨0, 0, 0, 0⟩)
def clsSt (s : Stmt) (i : Nat) : Stmt := match s with
  | .ClassDef _ _ _ b .. => b.getD i (.Pass ⟨0, 0, 0, 0⟩)
  | _ => .Pass ⟨0, 0, 0, 0⟩
abbrev s_is_letter : Stmt := top 10
theorem sc_is_letter : FnScope ["value"] ["value"] (defScope s_is_letter) := ⟨rfl, rfl, rfl, by decide +kernel, rfl, by decide +kernel, by decide +kernel⟩
abbrev s_measured : Stmt := top 11
theorem sc_measured : FnScope ["value", "max_depth", "sizes", "part"] ["value", "max_depth"] (defScope s_measured) := ⟨rfl, rfl, rfl, by decide +kernel, rfl, by decide +kernel, by decide +kernel⟩
abbrev s_is_term : Stmt := top 12
theorem sc_is_term : FnScope ["value", "max_depth", "max_size"] ["value", "max_depth", "max_size"] (defScope s_is_term) := ⟨rfl, rfl, rfl, by decide +kernel, rfl, by decide +kernel, by decide +kernel⟩
abbrev s_parts_of : Stmt := top 13
theorem sc_parts_of : FnScope ["term"] ["term"] (defScope s_parts_of) := ⟨rfl, rfl, rfl, by decide +kernel, rfl, by decide +kernel, by decide +kernel⟩
abbrev s_walked : Stmt := top 14
theorem sc_walked : FnScope ["term", "found", "part"] ["term"] (defScope s_walked) := ⟨rfl, rfl, rfl, by decide +kernel, rfl, by decide +kernel, by decide +kernel⟩
abbrev s_is_name : Stmt := top 18
theorem sc_is_name : FnScope ["text", "sign"] ["text"] (defScope s_is_name) := ⟨rfl, rfl, rfl, by decide +kernel, rfl, by decide +kernel, by decide +kernel⟩
abbrev s_text_of : Stmt := top 19
theorem sc_text_of : FnScope ["term", "operator", "parts", "texts", "part"] ["term"] (defScope s_text_of) := ⟨rfl, rfl, rfl, by decide +kernel, rfl, by decide +kernel, by decide +kernel⟩
abbrev s_is_goal : Stmt := top 20
theorem sc_is_goal : FnScope ["value"] ["value"] (defScope s_is_goal) := ⟨rfl, rfl, rfl, by decide +kernel, rfl, by decide +kernel, by decide +kernel⟩
abbrev s_is_rule : Stmt := top 21
theorem sc_is_rule : FnScope ["value"] ["value"] (defScope s_is_rule) := ⟨rfl, rfl, rfl, by decide +kernel, rfl, by decide +kernel, by decide +kernel⟩
abbrev s_words_of : Stmt := top 25
theorem sc_words_of : FnScope ["pairs", "by_text", "left", "right", "word", "text"] ["pairs"] (defScope s_words_of) := ⟨rfl, rfl, rfl, by decide +kernel, rfl, by decide +kernel, by decide +kernel⟩
abbrev s_pairs_in : Stmt := top 26
theorem sc_pairs_in : FnScope ["rules", "goal", "name", "left", "right"] ["rules", "goal"] (defScope s_pairs_in) := ⟨rfl, rfl, rfl, by decide +kernel, rfl, by decide +kernel, by decide +kernel⟩
abbrev s_need_list : Stmt := top 27
theorem sc_need_list : FnScope ["rules", "names", "index", "rule"] ["rules"] (defScope s_need_list) := ⟨rfl, rfl, rfl, by decide +kernel, rfl, by decide +kernel, by decide +kernel⟩
abbrev s_checked_words : Stmt := top 28
theorem sc_checked_words : FnScope ["rules", "goal", "words"] ["rules", "goal"] (defScope s_checked_words) := ⟨rfl, rfl, rfl, by decide +kernel, rfl, by decide +kernel, by decide +kernel⟩
abbrev s_goal_words : Stmt := top 29
theorem sc_goal_words : FnScope ["rules", "goal"] ["rules", "goal"] (defScope s_goal_words) := ⟨rfl, rfl, rfl, by decide +kernel, rfl, by decide +kernel, by decide +kernel⟩
abbrev s_truth_in : Stmt := top 31
theorem sc_truth_in : FnScope ["term", "case", "values", "part", "strong"] ["term", "case"] (defScope s_truth_in) := ⟨rfl, rfl, rfl, by decide +kernel, rfl, by decide +kernel, by decide +kernel⟩
abbrev s_is_kept : Stmt := top 32
theorem sc_is_kept : FnScope ["left", "right", "case"] ["left", "right", "case"] (defScope s_is_kept) := ⟨rfl, rfl, rfl, by decide +kernel, rfl, by decide +kernel, by decide +kernel⟩
abbrev s_is_broken : Stmt := top 33
theorem sc_is_broken : FnScope ["left", "right", "case"] ["left", "right", "case"] (defScope s_is_broken) := ⟨rfl, rfl, rfl, by decide +kernel, rfl, by decide +kernel, by decide +kernel⟩
abbrev s_letters_of : Stmt := top 34
theorem sc_letters_of : FnScope ["words", "word"] ["words"] (defScope s_letters_of) := ⟨rfl, rfl, rfl, by decide +kernel, rfl, by decide +kernel, by decide +kernel⟩
abbrev s_is_counter : Stmt := top 35
theorem sc_is_counter : FnScope ["rules", "goal", "case", "name", "left", "right"] ["rules", "goal", "case"] (defScope s_is_counter) := ⟨rfl, rfl, rfl, by decide +kernel, rfl, by decide +kernel, by decide +kernel⟩
abbrev s_case_at : Stmt := top 36
theorem sc_case_at : FnScope ["names", "number", "last", "at", "letter"] ["names", "number"] (defScope s_case_at) := ⟨rfl, rfl, rfl, by decide +kernel, rfl, by decide +kernel, by decide +kernel⟩
abbrev s_cases : Stmt := top 37
theorem sc_cases : GScope ["rules", "goal", "names", "number", "case"] ["rules", "goal"] (defScope s_cases) := ⟨rfl, rfl, rfl, by decide +kernel, rfl, by decide +kernel, by decide +kernel⟩
abbrev s_first_case : Stmt := top 38
theorem sc_first_case : FnScope ["rules", "goal", "case"] ["rules", "goal"] (defScope s_first_case) := ⟨rfl, rfl, rfl, by decide +kernel, rfl, by decide +kernel, by decide +kernel⟩
abbrev s_law_source : Stmt := top 40
theorem sc_law_source : FnScope ["_law_script"] ["_law_script"] (defScope s_law_source) := ⟨rfl, rfl, rfl, by decide +kernel, rfl, by decide +kernel, by decide +kernel⟩
abbrev s_law_take : Stmt := top 41
theorem sc_law_take : FnScope ["_law_source_here", "_law_many", "_law_cell", "_law_digit", "_law_mixed_here"] ["_law_source_here", "_law_many"] (defScope s_law_take) := ⟨rfl, rfl, rfl, by decide +kernel, rfl, by decide +kernel, by decide +kernel⟩
abbrev s_law_pick : Stmt := top 42
theorem sc_law_pick : FnScope ["_law_source_here", "_law_row"] ["_law_source_here", "_law_row"] (defScope s_law_pick) := ⟨rfl, rfl, rfl, by decide +kernel, rfl, by decide +kernel, by decide +kernel⟩
abbrev s_law_mixed : Stmt := top 43
theorem sc_law_mixed : FnScope ["_law_source_here", "_law_row", "_law_found", "_law_one"] ["_law_source_here", "_law_row"] (defScope s_law_mixed) := ⟨rfl, rfl, rfl, by decide +kernel, rfl, by decide +kernel, by decide +kernel⟩
abbrev s_law_same : Stmt := top 44
theorem sc_law_same : FnScope ["_law_found", "_law_due", "_law_key", "_law_one", "_law_other"] ["_law_found", "_law_due"] (defScope s_law_same) := ⟨rfl, rfl, rfl, by decide +kernel, rfl, by decide +kernel, by decide +kernel⟩
abbrev s_law_parts : Stmt := top 45
theorem sc_law_parts : FnScope ["_law_word"] ["_law_word"] (defScope s_law_parts) := ⟨rfl, rfl, rfl, by decide +kernel, rfl, by decide +kernel, by decide +kernel⟩
abbrev s_law_text : Stmt := top 46
theorem sc_law_text : FnScope ["_law_word", "_law_texts", "_law_one"] ["_law_word"] (defScope s_law_text) := ⟨rfl, rfl, rfl, by decide +kernel, rfl, by decide +kernel, by decide +kernel⟩
abbrev s_law_walk : Stmt := top 47
theorem sc_law_walk : FnScope ["_law_word", "_law_found", "_law_one"] ["_law_word"] (defScope s_law_walk) := ⟨rfl, rfl, rfl, by decide +kernel, rfl, by decide +kernel, by decide +kernel⟩
abbrev s_law_signs_in : Stmt := top 48
theorem sc_law_signs_in : FnScope ["_law_word", "_law_one"] ["_law_word"] (defScope s_law_signs_in) := ⟨rfl, rfl, rfl, by decide +kernel, rfl, by decide +kernel, by decide +kernel⟩
abbrev s_law_by_text : Stmt := top 49
theorem sc_law_by_text : FnScope ["_law_row", "_law_texts", "_law_one", "_law_text_here"] ["_law_row"] (defScope s_law_by_text) := ⟨rfl, rfl, rfl, by decide +kernel, rfl, by decide +kernel, by decide +kernel⟩
abbrev s_law_pairs : Stmt := top 50
theorem sc_law_pairs : FnScope ["_law_premises_here", "_law_aim", "_law_name", "_law_left", "_law_right"] ["_law_premises_here", "_law_aim"] (defScope s_law_pairs) := ⟨rfl, rfl, rfl, by decide +kernel, rfl, by decide +kernel, by decide +kernel⟩
abbrev s_law_words : Stmt := top 51
theorem sc_law_words : FnScope ["_law_pairs_here", "_law_found", "_law_left", "_law_right"] ["_law_pairs_here"] (defScope s_law_words) := ⟨rfl, rfl, rfl, by decide +kernel, rfl, by decide +kernel, by decide +kernel⟩
abbrev s_law_term : Stmt := top 52
theorem sc_law_term : FnScope ["_law_source_here", "_law_signs_here", "_law_deep", "_law_room", "_law_many", "_law_operator", "_law_k"] ["_law_source_here", "_law_signs_here", "_law_deep", "_law_room"] (defScope s_law_term) := ⟨rfl, rfl, rfl, by decide +kernel, rfl, by decide +kernel, by decide +kernel⟩
abbrev s_law_signs : Stmt := top 53
theorem sc_law_signs : FnScope ["_law_source_here", "_law_most", "_law_every"] ["_law_source_here", "_law_most"] (defScope s_law_signs) := ⟨rfl, rfl, rfl, by decide +kernel, rfl, by decide +kernel, by decide +kernel⟩
abbrev s_law_names : Stmt := top 54
theorem sc_law_names : FnScope ["_law_source_here", "_law_many", "_law_mletters", "_law_msize", "_law_at", "_law_first", "_law_step", "_law_found", "_law_k", "_law_signs_here"] ["_law_source_here", "_law_many"] (defScope s_law_names) := ⟨rfl, rfl, rfl, by decide +kernel, rfl, by decide +kernel, by decide +kernel⟩
abbrev s_law_kept_few : Stmt := top 55
theorem sc_law_kept_few : FnScope ["_law_premises_here", "_law_aim", "_law_most", "_law_found", "_law_one"] ["_law_premises_here", "_law_aim", "_law_most"] (defScope s_law_kept_few) := ⟨rfl, rfl, rfl, by decide +kernel, rfl, by decide +kernel, by decide +kernel⟩
abbrev s_law_known_goal : Stmt := top 56
theorem sc_law_known_goal : FnScope ["_law_source_here", "_law_signs_here", "_law_x", "_law_y", "_law_z", "_law_k", "_law_some"] ["_law_source_here", "_law_signs_here"] (defScope s_law_known_goal) := ⟨rfl, rfl, rfl, by decide +kernel, rfl, by decide +kernel, by decide +kernel⟩
abbrev s_law_goal : Stmt := top 57
theorem sc_law_goal : FnScope ["_law_source_here", "_law_signs_here", "_law_premises_here", "_law_way", "_law_left", "_law_right", "_law_k"] ["_law_source_here", "_law_signs_here", "_law_premises_here"] (defScope s_law_goal) := ⟨rfl, rfl, rfl, by decide +kernel, rfl, by decide +kernel, by decide +kernel⟩
abbrev s_law_premises : Stmt := top 58
theorem sc_law_premises : FnScope ["_law_source_here", "_law_signs_here", "_law_most", "_law_found", "_law_name", "_law_left", "_law_right"] ["_law_source_here", "_law_signs_here", "_law_most"] (defScope s_law_premises) := ⟨rfl, rfl, rfl, by decide +kernel, rfl, by decide +kernel, by decide +kernel⟩
abbrev s_law_scene : Stmt := top 59
theorem sc_law_scene : FnScope ["_law_source_here", "_law_most", "_law_words_here", "_law_signs_here", "_law_premises_here", "_law_aim"] ["_law_source_here", "_law_most", "_law_words_here"] (defScope s_law_scene) := ⟨rfl, rfl, rfl, by decide +kernel, rfl, by decide +kernel, by decide +kernel⟩
abbrev s_law_truth : Stmt := top 60
theorem sc_law_truth : FnScope ["_law_word", "_law_case_now", "_law_values", "_law_one", "_law_strong", "_law_value"] ["_law_word", "_law_case_now"] (defScope s_law_truth) := ⟨rfl, rfl, rfl, by decide +kernel, rfl, by decide +kernel, by decide +kernel⟩
abbrev s_law_holds : Stmt := top 61
theorem sc_law_holds : FnScope ["_law_left", "_law_right", "_law_case_now"] ["_law_left", "_law_right", "_law_case_now"] (defScope s_law_holds) := ⟨rfl, rfl, rfl, by decide +kernel, rfl, by decide +kernel, by decide +kernel⟩
abbrev s_law_fails : Stmt := top 62
theorem sc_law_fails : FnScope ["_law_left", "_law_right", "_law_case_now"] ["_law_left", "_law_right", "_law_case_now"] (defScope s_law_fails) := ⟨rfl, rfl, rfl, by decide +kernel, rfl, by decide +kernel, by decide +kernel⟩
abbrev s_law_counters : Stmt := top 63
theorem sc_law_counters : FnScope ["_law_premises_here", "_law_aim", "_law_case_now", "_law_name", "_law_left", "_law_right"] ["_law_premises_here", "_law_aim", "_law_case_now"] (defScope s_law_counters) := ⟨rfl, rfl, rfl, by decide +kernel, rfl, by decide +kernel, by decide +kernel⟩
abbrev s_law_cases : Stmt := top 64
theorem sc_law_cases : FnScope ["_law_signs_here", "_law_found", "_law_sign", "_law_more", "_law_case_now", "_law_value", "_law_later"] ["_law_signs_here"] (defScope s_law_cases) := ⟨rfl, rfl, rfl, by decide +kernel, rfl, by decide +kernel, by decide +kernel⟩
abbrev s_law_rule_error : Stmt := top 65
theorem sc_law_rule_error : FnScope ["_law_ask", "_law_told", "_law_word", "e"] ["_law_ask"] (defScope s_law_rule_error) := ⟨rfl, rfl, rfl, by decide +kernel, rfl, by decide +kernel, by decide +kernel⟩
abbrev s_law_all_signs : Stmt := top 66
theorem sc_law_all_signs : FnScope ["_law_some", "_law_found", "_law_word"] ["_law_some"] (defScope s_law_all_signs) := ⟨rfl, rfl, rfl, by decide +kernel, rfl, by decide +kernel, by decide +kernel⟩
abbrev s_law : Stmt := top 67
theorem sc_law : FnScope ["_law_script", "_law_source_here", "_law_turn", "_law_premises_here", "_law_aim", "_law_signs_here", "_law_due", "_law_one", "_law_goal_now", "_law_wide", "_law_later", "_law_asks"] ["_law_script"] (defScope s_law) := ⟨rfl, rfl, rfl, by decide +kernel, rfl, by decide +kernel, by decide +kernel⟩
abbrev s_FaultError_init : Stmt := clsSt (top 1) 0
theorem sc_FaultError_init : FnScope ["self", "code"] ["self", "code"] (defScope s_FaultError_init) := ⟨rfl, rfl, rfl, by decide +kernel, rfl, by decide +kernel, by decide +kernel⟩
abbrev s_InvalidRules_init : Stmt := clsSt (top 2) 0
theorem sc_InvalidRules_init : FnScope ["self", "index"] ["self", "index"] (defScope s_InvalidRules_init) := ⟨rfl, rfl, rfl, by decide +kernel, rfl, by decide +kernel, by decide +kernel⟩
abbrev s_InvalidGoal_init : Stmt := clsSt (top 3) 0
theorem sc_InvalidGoal_init : FnScope ["self"] ["self"] (defScope s_InvalidGoal_init) := ⟨rfl, rfl, rfl, by decide +kernel, rfl, by decide +kernel, by decide +kernel⟩
abbrev s_TooManyTerms_init : Stmt := clsSt (top 4) 0
theorem sc_TooManyTerms_init : FnScope ["self", "count"] ["self", "count"] (defScope s_TooManyTerms_init) := ⟨rfl, rfl, rfl, by decide +kernel, rfl, by decide +kernel, by decide +kernel⟩
structure Top (K : PySem.W.Frag) (mg : Str → Option Value) : Prop where
  b_ValueError : mg "ValueError" = none
  b_all : mg "all" = none
  b_any : mg "any" = none
  b_bool : mg "bool" = none
  b_dict : mg "dict" = none
  b_enumerate : mg "enumerate" = none
  b_int : mg "int" = none
  b_isinstance : mg "isinstance" = none
  b_len : mg "len" = none
  b_list : mg "list" = none
  b_range : mg "range" = none
  b_set : mg "set" = none
  b_sorted : mg "sorted" = none
  b_str : mg "str" = none
  b_sum : mg "sum" = none
  b_tuple : mg "tuple" = none
  b_zip : mg "zip" = none
  g_LETTERS : ∃ t, mg "LETTERS" = some (.str "abcdefgh" t)
  g_OPERATORS : mg "OPERATORS" = some (.ref (He.ga K "OPERATORS"))
  t_OPERATORS : ∀ H, SqT K H (He.ga K "OPERATORS") [.str "&", .str "|"]
  g_MAX_DEPTH : ∃ t, mg "MAX_DEPTH" = some (.int 5 t)
  g_MAX_SIZE : ∃ t, mg "MAX_SIZE" = some (.int 24 t)
  g_SMALL_LETTERS : ∃ t, mg "SMALL_LETTERS" = some (.str "abcdefghijklmnopqrstuvwxyz" t)
  g_MAX_NAME : ∃ t, mg "MAX_NAME" = some (.int 6 t)
  g_MAX_RULES : ∃ t, mg "MAX_RULES" = some (.int 12 t)
  g_MAX_TERMS : ∃ t, mg "MAX_TERMS" = some (.int 24 t)
  c_FaultError : mg "FaultError" = some (.ref (He.ga K "FaultError"))
  c_InvalidRules : mg "InvalidRules" = some (.ref (He.ga K "InvalidRules"))
  c_InvalidGoal : mg "InvalidGoal" = some (.ref (He.ga K "InvalidGoal"))
  c_TooManyTerms : mg "TooManyTerms" = some (.ref (He.ga K "TooManyTerms"))
  x_InvalidRules : OwnX K "InvalidRules" "FaultError"
  x_InvalidGoal : OwnX K "InvalidGoal" "FaultError"
  x_TooManyTerms : OwnX K "TooManyTerms" "FaultError"
  n_InvalidRules_index : PySem.W.findIn K (.ref (He.ga K "InvalidRules")) "index" = some none
  n_TooManyTerms_count : PySem.W.findIn K (.ref (He.ga K "TooManyTerms")) "count" = some none
  e_InvalidRules : PySem.W.exmOne K (.ref (He.ga K "InvalidRules")) (.ref (He.ga K "InvalidRules")) = some true
  e_InvalidGoal : PySem.W.exmOne K (.ref (He.ga K "InvalidGoal")) (.ref (He.ga K "InvalidGoal")) = some true
  e_TooManyTerms : PySem.W.exmOne K (.ref (He.ga K "TooManyTerms")) (.ref (He.ga K "TooManyTerms")) = some true
  e_InvalidGoal_InvalidRules : PySem.W.exmOne K (.ref (He.ga K "InvalidGoal")) (.ref (He.ga K "InvalidRules")) = some false
  e_TooManyTerms_InvalidRules : PySem.W.exmOne K (.ref (He.ga K "TooManyTerms")) (.ref (He.ga K "InvalidRules")) = some false
  e_TooManyTerms_InvalidGoal : PySem.W.exmOne K (.ref (He.ga K "TooManyTerms")) (.ref (He.ga K "InvalidGoal")) = some false
  ns_InvalidRules : PySem.W.subIn K (.ref (He.ga K "InvalidRules")) (.type "StopIteration") = some false
  ns_InvalidGoal : PySem.W.subIn K (.ref (He.ga K "InvalidGoal")) (.type "StopIteration") = some false
  ns_TooManyTerms : PySem.W.subIn K (.ref (He.ga K "TooManyTerms")) (.type "StopIteration") = some false
  fe : FeC K "FaultError"
end FF

namespace FF
open PySem PySem.Spec PyProof.Rows L2
def d_is_letter : He.DefD := ⟨("is_letter", none), "is_letter", "is_letter", defArgs s_is_letter, defBody s_is_letter, defScope s_is_letter, [], []⟩
def d_measured : He.DefD := ⟨("measured", none), "measured", "measured", defArgs s_measured, defBody s_measured, defScope s_measured, [], []⟩
def d_is_term : He.DefD := ⟨("is_term", none), "is_term", "is_term", defArgs s_is_term, defBody s_is_term, defScope s_is_term, [], [("max_depth", .int 5), ("max_size", .int 24)]⟩
def d_parts_of : He.DefD := ⟨("parts_of", none), "parts_of", "parts_of", defArgs s_parts_of, defBody s_parts_of, defScope s_parts_of, [], []⟩
def d_walked : He.DefD := ⟨("walked", none), "walked", "walked", defArgs s_walked, defBody s_walked, defScope s_walked, [], []⟩
def d_is_name : He.DefD := ⟨("is_name", none), "is_name", "is_name", defArgs s_is_name, defBody s_is_name, defScope s_is_name, [], []⟩
def d_text_of : He.DefD := ⟨("text_of", none), "text_of", "text_of", defArgs s_text_of, defBody s_text_of, defScope s_text_of, [], []⟩
def d_is_goal : He.DefD := ⟨("is_goal", none), "is_goal", "is_goal", defArgs s_is_goal, defBody s_is_goal, defScope s_is_goal, [], []⟩
def d_is_rule : He.DefD := ⟨("is_rule", none), "is_rule", "is_rule", defArgs s_is_rule, defBody s_is_rule, defScope s_is_rule, [], []⟩
def d_words_of : He.DefD := ⟨("words_of", none), "words_of", "words_of", defArgs s_words_of, defBody s_words_of, defScope s_words_of, [], []⟩
def d_pairs_in : He.DefD := ⟨("pairs_in", none), "pairs_in", "pairs_in", defArgs s_pairs_in, defBody s_pairs_in, defScope s_pairs_in, [], []⟩
def d_need_list : He.DefD := ⟨("need_list", none), "need_list", "need_list", defArgs s_need_list, defBody s_need_list, defScope s_need_list, [], []⟩
def d_checked_words : He.DefD := ⟨("checked_words", none), "checked_words", "checked_words", defArgs s_checked_words, defBody s_checked_words, defScope s_checked_words, [], []⟩
def d_goal_words : He.DefD := ⟨("goal_words", none), "goal_words", "goal_words", defArgs s_goal_words, defBody s_goal_words, defScope s_goal_words, [], []⟩
def d_truth_in : He.DefD := ⟨("truth_in", none), "truth_in", "truth_in", defArgs s_truth_in, defBody s_truth_in, defScope s_truth_in, [], []⟩
def d_is_kept : He.DefD := ⟨("is_kept", none), "is_kept", "is_kept", defArgs s_is_kept, defBody s_is_kept, defScope s_is_kept, [], []⟩
def d_is_broken : He.DefD := ⟨("is_broken", none), "is_broken", "is_broken", defArgs s_is_broken, defBody s_is_broken, defScope s_is_broken, [], []⟩
def d_letters_of : He.DefD := ⟨("letters_of", none), "letters_of", "letters_of", defArgs s_letters_of, defBody s_letters_of, defScope s_letters_of, [], []⟩
def d_is_counter : He.DefD := ⟨("is_counter", none), "is_counter", "is_counter", defArgs s_is_counter, defBody s_is_counter, defScope s_is_counter, [], []⟩
def d_case_at : He.DefD := ⟨("case_at", none), "case_at", "case_at", defArgs s_case_at, defBody s_case_at, defScope s_case_at, [], []⟩
def d_cases : He.DefD := ⟨("cases", none), "cases", "cases", defArgs s_cases, defBody s_cases, defScope s_cases, [], []⟩
def d_first_case : He.DefD := ⟨("first_case", none), "first_case", "first_case", defArgs s_first_case, defBody s_first_case, defScope s_first_case, [], []⟩
def d_law_source : He.DefD := ⟨("_law_source", none), "_law_source", "_law_source", defArgs s_law_source, defBody s_law_source, defScope s_law_source, [], []⟩
def d_law_take : He.DefD := ⟨("_law_take", none), "_law_take", "_law_take", defArgs s_law_take, defBody s_law_take, defScope s_law_take, [], []⟩
def d_law_pick : He.DefD := ⟨("_law_pick", none), "_law_pick", "_law_pick", defArgs s_law_pick, defBody s_law_pick, defScope s_law_pick, [], []⟩
def d_law_mixed : He.DefD := ⟨("_law_mixed", none), "_law_mixed", "_law_mixed", defArgs s_law_mixed, defBody s_law_mixed, defScope s_law_mixed, [], []⟩
def d_law_same : He.DefD := ⟨("_law_same", none), "_law_same", "_law_same", defArgs s_law_same, defBody s_law_same, defScope s_law_same, [], []⟩
def d_law_parts : He.DefD := ⟨("_law_parts", none), "_law_parts", "_law_parts", defArgs s_law_parts, defBody s_law_parts, defScope s_law_parts, [], []⟩
def d_law_text : He.DefD := ⟨("_law_text", none), "_law_text", "_law_text", defArgs s_law_text, defBody s_law_text, defScope s_law_text, [], []⟩
def d_law_walk : He.DefD := ⟨("_law_walk", none), "_law_walk", "_law_walk", defArgs s_law_walk, defBody s_law_walk, defScope s_law_walk, [], []⟩
def d_law_signs_in : He.DefD := ⟨("_law_signs_in", none), "_law_signs_in", "_law_signs_in", defArgs s_law_signs_in, defBody s_law_signs_in, defScope s_law_signs_in, [], []⟩
def d_law_by_text : He.DefD := ⟨("_law_by_text", none), "_law_by_text", "_law_by_text", defArgs s_law_by_text, defBody s_law_by_text, defScope s_law_by_text, [], []⟩
def d_law_pairs : He.DefD := ⟨("_law_pairs", none), "_law_pairs", "_law_pairs", defArgs s_law_pairs, defBody s_law_pairs, defScope s_law_pairs, [], []⟩
def d_law_words : He.DefD := ⟨("_law_words", none), "_law_words", "_law_words", defArgs s_law_words, defBody s_law_words, defScope s_law_words, [], []⟩
def d_law_term : He.DefD := ⟨("_law_term", none), "_law_term", "_law_term", defArgs s_law_term, defBody s_law_term, defScope s_law_term, [], []⟩
def d_law_signs : He.DefD := ⟨("_law_signs", none), "_law_signs", "_law_signs", defArgs s_law_signs, defBody s_law_signs, defScope s_law_signs, [], []⟩
def d_law_names : He.DefD := ⟨("_law_names", none), "_law_names", "_law_names", defArgs s_law_names, defBody s_law_names, defScope s_law_names, [], []⟩
def d_law_kept_few : He.DefD := ⟨("_law_kept_few", none), "_law_kept_few", "_law_kept_few", defArgs s_law_kept_few, defBody s_law_kept_few, defScope s_law_kept_few, [], []⟩
def d_law_known_goal : He.DefD := ⟨("_law_known_goal", none), "_law_known_goal", "_law_known_goal", defArgs s_law_known_goal, defBody s_law_known_goal, defScope s_law_known_goal, [], []⟩
def d_law_goal : He.DefD := ⟨("_law_goal", none), "_law_goal", "_law_goal", defArgs s_law_goal, defBody s_law_goal, defScope s_law_goal, [], []⟩
def d_law_premises : He.DefD := ⟨("_law_premises", none), "_law_premises", "_law_premises", defArgs s_law_premises, defBody s_law_premises, defScope s_law_premises, [], []⟩
def d_law_scene : He.DefD := ⟨("_law_scene", none), "_law_scene", "_law_scene", defArgs s_law_scene, defBody s_law_scene, defScope s_law_scene, [], []⟩
def d_law_truth : He.DefD := ⟨("_law_truth", none), "_law_truth", "_law_truth", defArgs s_law_truth, defBody s_law_truth, defScope s_law_truth, [], []⟩
def d_law_holds : He.DefD := ⟨("_law_holds", none), "_law_holds", "_law_holds", defArgs s_law_holds, defBody s_law_holds, defScope s_law_holds, [], []⟩
def d_law_fails : He.DefD := ⟨("_law_fails", none), "_law_fails", "_law_fails", defArgs s_law_fails, defBody s_law_fails, defScope s_law_fails, [], []⟩
def d_law_counters : He.DefD := ⟨("_law_counters", none), "_law_counters", "_law_counters", defArgs s_law_counters, defBody s_law_counters, defScope s_law_counters, [], []⟩
def d_law_cases : He.DefD := ⟨("_law_cases", none), "_law_cases", "_law_cases", defArgs s_law_cases, defBody s_law_cases, defScope s_law_cases, [], []⟩
def d_law_rule_error : He.DefD := ⟨("_law_rule_error", none), "_law_rule_error", "_law_rule_error", defArgs s_law_rule_error, defBody s_law_rule_error, defScope s_law_rule_error, [], []⟩
def d_law_all_signs : He.DefD := ⟨("_law_all_signs", none), "_law_all_signs", "_law_all_signs", defArgs s_law_all_signs, defBody s_law_all_signs, defScope s_law_all_signs, [], []⟩
def d_law : He.DefD := ⟨("law", none), "law", "law", defArgs s_law, defBody s_law, defScope s_law, [], []⟩
def d_FaultError_init : He.DefD := ⟨("FaultError", some "__init__"), "__init__", "FaultError.__init__", defArgs s_FaultError_init, defBody s_FaultError_init, defScope s_FaultError_init, [], []⟩
def d_InvalidRules_init : He.DefD := ⟨("InvalidRules", some "__init__"), "__init__", "InvalidRules.__init__", defArgs s_InvalidRules_init, defBody s_InvalidRules_init, defScope s_InvalidRules_init, [], []⟩
def d_InvalidGoal_init : He.DefD := ⟨("InvalidGoal", some "__init__"), "__init__", "InvalidGoal.__init__", defArgs s_InvalidGoal_init, defBody s_InvalidGoal_init, defScope s_InvalidGoal_init, [], []⟩
def d_TooManyTerms_init : He.DefD := ⟨("TooManyTerms", some "__init__"), "__init__", "TooManyTerms.__init__", defArgs s_TooManyTerms_init, defBody s_TooManyTerms_init, defScope s_TooManyTerms_init, [], []⟩
def fn : List He.DefD := [d_is_letter, d_measured, d_is_term, d_parts_of, d_walked, d_is_name, d_text_of, d_is_goal, d_is_rule, d_words_of, d_pairs_in, d_need_list, d_checked_words, d_goal_words, d_truth_in, d_is_kept, d_is_broken, d_letters_of, d_is_counter, d_case_at, d_cases, d_first_case, d_law_source, d_law_take, d_law_pick, d_law_mixed, d_law_same, d_law_parts, d_law_text, d_law_walk, d_law_signs_in, d_law_by_text, d_law_pairs, d_law_words, d_law_term, d_law_signs, d_law_names, d_law_kept_few, d_law_known_goal, d_law_goal, d_law_premises, d_law_scene, d_law_truth, d_law_holds, d_law_fails, d_law_counters, d_law_cases, d_law_rule_error, d_law_all_signs, d_law, d_FaultError_init, d_InvalidRules_init, d_InvalidGoal_init, d_TooManyTerms_init]
def fa : List He.Fa := [.free "ValueError", .free "all", .free "any", .free "bool", .free "dict", .free "enumerate", .free "int", .free "isinstance", .free "len", .free "list", .free "range", .free "set", .free "sorted", .free "str", .free "sum", .free "tuple", .free "zip", .str "LETTERS" "abcdefgh", .glo "OPERATORS", .int "MAX_DEPTH" 5, .int "MAX_SIZE" 24, .str "SMALL_LETTERS" "abcdefghijklmnopqrstuvwxyz", .int "MAX_NAME" 6, .int "MAX_RULES" 12, .int "MAX_TERMS" 24, .glo "FaultError", .glo "InvalidRules", .glo "InvalidGoal", .glo "TooManyTerms", .noat "InvalidRules" "index", .noat "TooManyTerms" "count", .exm "InvalidRules" "InvalidRules" true, .exm "InvalidGoal" "InvalidGoal" true, .exm "TooManyTerms" "TooManyTerms" true, .exm "InvalidGoal" "InvalidRules" false, .exm "TooManyTerms" "InvalidRules" false, .exm "TooManyTerms" "InvalidGoal" false, .glo "is_letter", .glo "measured", .glo "is_term", .glo "parts_of", .glo "walked", .glo "is_name", .glo "text_of", .glo "is_goal", .glo "is_rule", .glo "words_of", .glo "pairs_in", .glo "need_list", .glo "checked_words", .glo "goal_words", .glo "truth_in", .glo "is_kept", .glo "is_broken", .glo "letters_of", .glo "is_counter", .glo "case_at", .glo "cases", .glo "first_case", .glo "_law_source", .glo "_law_take", .glo "_law_pick", .glo "_law_mixed", .glo "_law_same", .glo "_law_parts", .glo "_law_text", .glo "_law_walk", .glo "_law_signs_in", .glo "_law_by_text", .glo "_law_pairs", .glo "_law_words", .glo "_law_term", .glo "_law_signs", .glo "_law_names", .glo "_law_kept_few", .glo "_law_known_goal", .glo "_law_goal", .glo "_law_premises", .glo "_law_scene", .glo "_law_truth", .glo "_law_holds", .glo "_law_fails", .glo "_law_counters", .glo "_law_cases", .glo "_law_rule_error", .glo "_law_all_signs", .glo "law"]
def ex (K : PySem.W.Frag) : Bool := He.tupB K "OPERATORS" [.str "&", .str "|"] && ownXB K "InvalidRules" "FaultError" && ownXB K "InvalidGoal" "FaultError" && ownXB K "TooManyTerms" "FaultError" && decide (PySem.W.subIn K (.ref (He.ga K "InvalidRules")) (.type "StopIteration") = some false) && decide (PySem.W.subIn K (.ref (He.ga K "InvalidGoal")) (.type "StopIteration") = some false) && decide (PySem.W.subIn K (.ref (He.ga K "TooManyTerms")) (.type "StopIteration") = some false) && feCB K "FaultError"
theorem top_of {K : PySem.W.Frag} {h : Heap} {mg : Str → Option Value} (X : K.In h) (G : h.Ns mainGlobals mg) (c : He.SaysD fa fn K) (e : ex K = true) : Top K mg where
  b_ValueError := He.free_ok X G (c.fact 0 (f := .free "ValueError") rfl)
  b_all := He.free_ok X G (c.fact 1 (f := .free "all") rfl)
  b_any := He.free_ok X G (c.fact 2 (f := .free "any") rfl)
  b_bool := He.free_ok X G (c.fact 3 (f := .free "bool") rfl)
  b_dict := He.free_ok X G (c.fact 4 (f := .free "dict") rfl)
  b_enumerate := He.free_ok X G (c.fact 5 (f := .free "enumerate") rfl)
  b_int := He.free_ok X G (c.fact 6 (f := .free "int") rfl)
  b_isinstance := He.free_ok X G (c.fact 7 (f := .free "isinstance") rfl)
  b_len := He.free_ok X G (c.fact 8 (f := .free "len") rfl)
  b_list := He.free_ok X G (c.fact 9 (f := .free "list") rfl)
  b_range := He.free_ok X G (c.fact 10 (f := .free "range") rfl)
  b_set := He.free_ok X G (c.fact 11 (f := .free "set") rfl)
  b_sorted := He.free_ok X G (c.fact 12 (f := .free "sorted") rfl)
  b_str := He.free_ok X G (c.fact 13 (f := .free "str") rfl)
  b_sum := He.free_ok X G (c.fact 14 (f := .free "sum") rfl)
  b_tuple := He.free_ok X G (c.fact 15 (f := .free "tuple") rfl)
  b_zip := He.free_ok X G (c.fact 16 (f := .free "zip") rfl)
  g_LETTERS := He.str_ok X G (c.fact 17 (f := .str "LETTERS" "abcdefgh") rfl)
  g_OPERATORS := He.glo_ok X G (c.fact 18 (f := .glo "OPERATORS") rfl)
  t_OPERATORS := fun H => He.tupB_ok (vs := [.str "&", .str "|"]) (by simp only [ex, Bool.and_eq_true] at e; simp only [e]) H
  g_MAX_DEPTH := He.int_ok X G (c.fact 19 (f := .int "MAX_DEPTH" 5) rfl)
  g_MAX_SIZE := He.int_ok X G (c.fact 20 (f := .int "MAX_SIZE" 24) rfl)
  g_SMALL_LETTERS := He.str_ok X G (c.fact 21 (f := .str "SMALL_LETTERS" "abcdefghijklmnopqrstuvwxyz") rfl)
  g_MAX_NAME := He.int_ok X G (c.fact 22 (f := .int "MAX_NAME" 6) rfl)
  g_MAX_RULES := He.int_ok X G (c.fact 23 (f := .int "MAX_RULES" 12) rfl)
  g_MAX_TERMS := He.int_ok X G (c.fact 24 (f := .int "MAX_TERMS" 24) rfl)
  c_FaultError := He.glo_ok X G (c.fact 25 (f := .glo "FaultError") rfl)
  c_InvalidRules := He.glo_ok X G (c.fact 26 (f := .glo "InvalidRules") rfl)
  c_InvalidGoal := He.glo_ok X G (c.fact 27 (f := .glo "InvalidGoal") rfl)
  c_TooManyTerms := He.glo_ok X G (c.fact 28 (f := .glo "TooManyTerms") rfl)
  x_InvalidRules := ownXB_ok (by simp only [ex, Bool.and_eq_true] at e; simp only [e])
  x_InvalidGoal := ownXB_ok (by simp only [ex, Bool.and_eq_true] at e; simp only [e])
  x_TooManyTerms := ownXB_ok (by simp only [ex, Bool.and_eq_true] at e; simp only [e])
  n_InvalidRules_index := He.noat_ok (c.fact 29 (f := .noat "InvalidRules" "index") rfl)
  n_TooManyTerms_count := He.noat_ok (c.fact 30 (f := .noat "TooManyTerms" "count") rfl)
  e_InvalidRules := He.exm_ok (c.fact 31 (f := .exm "InvalidRules" "InvalidRules" true) rfl)
  e_InvalidGoal := He.exm_ok (c.fact 32 (f := .exm "InvalidGoal" "InvalidGoal" true) rfl)
  e_TooManyTerms := He.exm_ok (c.fact 33 (f := .exm "TooManyTerms" "TooManyTerms" true) rfl)
  e_InvalidGoal_InvalidRules := He.exm_ok (c.fact 34 (f := .exm "InvalidGoal" "InvalidRules" false) rfl)
  e_TooManyTerms_InvalidRules := He.exm_ok (c.fact 35 (f := .exm "TooManyTerms" "InvalidRules" false) rfl)
  e_TooManyTerms_InvalidGoal := He.exm_ok (c.fact 36 (f := .exm "TooManyTerms" "InvalidGoal" false) rfl)
  ns_InvalidRules := of_decide_eq_true (by simp only [ex, Bool.and_eq_true] at e; simp only [e])
  ns_InvalidGoal := of_decide_eq_true (by simp only [ex, Bool.and_eq_true] at e; simp only [e])
  ns_TooManyTerms := of_decide_eq_true (by simp only [ex, Bool.and_eq_true] at e; simp only [e])
  fe := feCB_ok (by simp only [ex, Bool.and_eq_true] at e; simp only [e])
def loose : List PySem.Str := [("FaultError" : PySem.Str), ("InvalidRules" : PySem.Str), ("InvalidGoal" : PySem.Str), ("TooManyTerms" : PySem.Str), ("LETTERS" : PySem.Str), ("OPERATORS" : PySem.Str), ("MAX_DEPTH" : PySem.Str), ("MAX_SIZE" : PySem.Str), ("is_letter" : PySem.Str), ("measured" : PySem.Str), ("is_term" : PySem.Str), ("parts_of" : PySem.Str), ("walked" : PySem.Str), ("SMALL_LETTERS" : PySem.Str), ("MAX_NAME" : PySem.Str), ("is_name" : PySem.Str), ("text_of" : PySem.Str), ("is_goal" : PySem.Str), ("is_rule" : PySem.Str), ("MAX_RULES" : PySem.Str), ("MAX_TERMS" : PySem.Str), ("words_of" : PySem.Str), ("pairs_in" : PySem.Str), ("need_list" : PySem.Str), ("checked_words" : PySem.Str), ("goal_words" : PySem.Str), ("truth_in" : PySem.Str), ("is_kept" : PySem.Str), ("is_broken" : PySem.Str), ("letters_of" : PySem.Str), ("is_counter" : PySem.Str), ("case_at" : PySem.Str), ("cases" : PySem.Str), ("first_case" : PySem.Str), ("_law_source" : PySem.Str), ("_law_take" : PySem.Str), ("_law_pick" : PySem.Str), ("_law_mixed" : PySem.Str), ("_law_same" : PySem.Str), ("_law_parts" : PySem.Str), ("_law_text" : PySem.Str), ("_law_walk" : PySem.Str), ("_law_signs_in" : PySem.Str), ("_law_by_text" : PySem.Str), ("_law_pairs" : PySem.Str), ("_law_words" : PySem.Str), ("_law_term" : PySem.Str), ("_law_signs" : PySem.Str), ("_law_names" : PySem.Str), ("_law_kept_few" : PySem.Str), ("_law_known_goal" : PySem.Str), ("_law_goal" : PySem.Str), ("_law_premises" : PySem.Str), ("_law_scene" : PySem.Str), ("_law_truth" : PySem.Str), ("_law_holds" : PySem.Str), ("_law_fails" : PySem.Str), ("_law_counters" : PySem.Str), ("_law_cases" : PySem.Str), ("_law_rule_error" : PySem.Str), ("_law_all_signs" : PySem.Str)]
abbrev R : PySem.W.OpenRow := PySem.W.OpenLaw.row PySem.Challenge.rw_fivefault_k31_cases_in_order
abbrev hk : PySem.W.Hook := hookY 4 fa fn [("law", none)] ex
def ob (s : PySem.W.SharedT) : He.AlX := obsY 4 fa fn [("law", none)] ex (HandSHeadRun.getT s)
theorem ob_eq (s : PySem.W.SharedT) : ob s = hk.obs s.abs := obsY_eq (HandSHeadRun.getT_eq s)
theorem run (w : World) : HandSHeadRun.RunEq R (PySem.W.view R.prog [67]) hk ob 20000 loose w := by
  intro os
  kernel_rfl
end FF
namespace FF
open PySem PySem.Spec PyProof.Rows L2
/-! ### the draws' source -/
def srcGood (c : Addr) (xs : List V) : Prop := ∃ pos big seed cnt : Int, xs = [.ref c, .int pos, .int big, .int seed, .int cnt] ∧ 0 ≤ pos ∧ 0 ≤ seed ∧ seed < 2147483629
/-- at s stands a source of draws -/
def Src (H : Hp) (s : Addr) : Prop := ∃ (c : Addr) (ns : List Int), H s = some (hid (srcGood c) s) ∧ H c = some (.lst (ns.map V.int))
theorem Src.up {H H' : Hp} {s : Addr} (e : Same H H') (h : Src H s) : Src H' s := by
  obtain ⟨c, ns, h1, h2⟩ := h
  exact ⟨c, ns, e _ _ h1, e _ _ h2⟩
def spTakeL : Sp := fun vs H Q _ => ∃ (s c : Addr) (many : Int) (xs : List V) (ns : List Int), vs = [.ref s, .int many] ∧ 0 < many ∧ many < 1073741824 ∧ H s = some (.lst xs) ∧ srcGood c xs ∧ H c = some (.lst (ns.map V.int)) ∧ c ≠ s ∧
  ∀ n ys, 0 ≤ n → n < many → srcGood c ys → Q (.int n) (upd H s (.lst ys))
/-- a draw: some number below many; nothing is seen to change -/
def spTake : Sp := fun vs H Q _ => ∃ (s : Addr) (many : Int), vs = [.ref s, .int many] ∧ 0 < many ∧ many < 1073741824 ∧ Src H s ∧ ∀ n, 0 ≤ n → n < many → Q (.int n) H
section
variable {P : Program} {w : World} {K : PySem.W.Frag} {mg : Str → Option Value} {base : Heap}
theorem ok_take {f : Addr} {fd : FuncData} (F : FunD K "_law_take" "_law_take" (defArgs s_law_take) (defBody s_law_take) (defScope s_law_take) [] [] f fd) (hm : mg "_law_take" = some (.ref f)) (T : Top K mg) : Def P w K mg base "_law_take" 1 ["_law_source_here", "_law_many"] spTakeL := by
  refine def_mk F hm (F.bindsN fun _ _ _ _ _ _ us hl => match us, hl with | [_, _], _ => rfl) sc_law_take (fun vs H Q E h => ?_) (fun cdv A outer s H vs Q E hr h => ?_)
  · obtain ⟨s, c, many, xs, ns, rfl, _⟩ := h
    rfl
  obtain ⟨s, c, many, xs, ns, rfl, m0, m1, hs, ⟨pos, big, seed, cnt, rfl, p0, s0, s1⟩, hc, ncs, q⟩ := h
  refine ⟨_, (C8.pss_cut (ps_if (PW.pt (pw_and (pt_cmpR op_eq (pe_ix (ix_listK K) (pv 0) pe_int (fun _ _ => rfl)) pe_int (nomark _)) (pw_and1 (pt_cmpR op_lt (pe_ix (ix_listK K) (pv 0) pe_int (fun _ _ => rfl)) (pe_callB (call_lenK K) (by rfl) T.b_len (by decide +kernel) (pa_cons (pe_ix (ix_listK K) (pv 0) pe_int (fun _ _ => rfl)) pa_nil)) (nomark _)))))
  (pss_cons (ps_set (i := 2) sc_law_take.nd rfl (Or.inl rfl) (pe_ix (ix_listK K) (pe_ix (ix_listK K) (pv 0) pe_int (fun _ _ => rfl)) (pe_ix (ix_listK K) (pv 0) pe_int (fun _ _ => rfl)) (fun _ _ => rfl)))
  (pss_cons (ps_asg (pe_op op_add (pe_ix (ix_listK K) (pv 0) pe_int (fun _ _ => rfl)) pe_int) (pg_sub (pv 0) pe_int set_list))
  (pss_one (ps_if (pt_cmpR op_ge (pv 2) (pe_op op_pow pe_int pe_int) (nomark _))
  (pss_one (ps_asg (pv 2) (pg_sub (pv 0) pe_int set_list)))
  (pss_one (ps_asg (pe_op op_mod (pe_callTy call_int1 (by rfl) T.b_int (by decide +kernel) (pa_cons (pe_op op_add (pe_op op_add (pe_op op_mul (pe_ix (ix_listK K) (pv 0) pe_int (fun _ _ => rfl)) pe_int) (pe_op op_mul (pe_op op_mod (pe_callTy call_int1 (by rfl) T.b_int (by decide +kernel) (pa_cons (pv 2) pa_nil)) pe_int) pe_int)) pe_int) pa_nil)) pe_int) (pg_sub (pv 0) pe_int set_list)))))))
  pss_nil)
  (pss_cons (ps_if (pt_cmpR op_gt (pe_ix (ix_listK K) (pv 0) pe_int (fun _ _ => rfl)) pe_int (nomark _))
  (pss_cons (ps_set (i := 3) sc_law_take.nd rfl (Or.inl rfl) (pe_op op_mod (pe_callTy call_int1 (by rfl) T.b_int (by decide +kernel) (pa_cons (pe_ix (ix_listK K) (pv 0) pe_int (fun _ _ => rfl)) pa_nil)) (pv 1)))
  (pss_cons (ps_asg (pe_op op_fdiv (pe_ix (ix_listK K) (pv 0) pe_int (fun _ _ => rfl)) (pv 1)) (pg_sub (pv 0) pe_int set_list))
  (pss_one (ps_ret (pv 3)))))
  pss_nil)
  (pss_cons (ps_asg (pe_op op_add (pe_ix (ix_listK K) (pv 0) pe_int (fun _ _ => rfl)) pe_int) (pg_sub (pv 0) pe_int set_list))
  (pss_cons (ps_set (i := 4) sc_law_take.nd rfl (Or.inl rfl) (pe_op op_add (pe_op op_mod (pe_callTy call_int1 (by rfl) T.b_int (by decide +kernel) (pa_cons (pe_op op_mul (pe_ix (ix_listK K) (pv 0) pe_int (fun _ _ => rfl)) (pe_ix (ix_listK K) (pv 0) pe_int (fun _ _ => rfl))) pa_nil)) pe_int) (pe_op op_mul pe_int (pe_ix (ix_listK K) (pv 0) pe_int (fun _ _ => rfl)))))
  (pss_cons (ps_asg (pe_op op_mod (pe_callTy call_int1 (by rfl) T.b_int (by decide +kernel) (pa_cons (pe_op op_add (pe_op op_add (pe_op op_mul (pv 4) pe_int) (pe_ix (ix_listK K) (pv 0) pe_int (fun _ _ => rfl))) pe_int) pa_nil)) pe_int) (pg_sub (pv 0) pe_int set_list))
  (pss_one (ps_ret (pe_op op_mod (pe_callTy call_int1 (by rfl) T.b_int (by decide +kernel) (pa_cons (pe_op op_add (pe_op op_fdiv (pe_ix (ix_listK K) (pv 0) pe_int (fun _ _ => rfl)) pe_int) (pe_op op_mul (pe_op op_mod (pe_callTy call_int1 (by rfl) T.b_int (by decide +kernel) (pa_cons (pe_ix (ix_listK K) (pv 0) pe_int (fun _ _ => rfl)) pa_nil)) pe_int) pe_int)) pa_nil)) (pv 1))))))))), ?_⟩
  refine ⟨fun σ' H' => ∃ (ys : List V) (oc : Option V), σ' = [some (.ref s), some (.int many), oc, none, none] ∧ H' = upd H s (.lst ys) ∧ srcGood c ys, ?_, ?_⟩
  · have skip : ∃ (ys : List V) (oc : Option V), ([some (.ref s), some (.int many), none, none, none] : L2.St) = [some (.ref s), some (.int many), oc, none, none] ∧ H = upd H s (.lst ys) ∧ srcGood c ys :=
      ⟨_, none, rfl, by
        funext b
        unfold upd
        split
        · next e => rw [e, hs]
        · rfl, pos, big, seed, cnt, rfl, p0, s0, s1⟩
    refine ⟨_, rfl, s, _, _, _, rfl, rfl, SqL.of hs, rfl, rfl, _, rfl, ?_⟩
    refine if_int (fun h1 => ?_) (fun h1 => skip)
    refine ⟨_, rfl, s, _, _, _, rfl, rfl, SqL.of hs, rfl, _, rfl, s, _, _, _, rfl, rfl, SqL.of hs, rfl, _, ns.length, rfl, .inl ⟨_, SqL.of hc, (List.length_map _).symm⟩, _, _, rfl, rfl, _, rfl, ?_⟩
    refine if_dec (fun h2 => ?_) (fun h2 => skip)
    have hp : pos.toNat < ns.length := by omega
    have hat : atI (ns.map V.int) pos = some (.int ns[pos.toNat]) := by
      have e : ((pos.toNat : Nat) : Int) = pos := by omega
      have h : atI (ns.map V.int) ((pos.toNat : Nat) : Int) = some (.int ns[pos.toNat]) := atI_nat (by rw [List.getElem?_map, List.getElem?_eq_getElem hp] <;> rfl)
      rw [e] at h
      exact h
    refine ⟨_, rfl, s, _, _, _, rfl, rfl, SqL.of hs, rfl, _, rfl, s, _, _, _, rfl, rfl, SqL.of hs, rfl, c, _, _, _, rfl, rfl, SqL.of hc, hat, ?_⟩
    refine ⟨_, rfl, s, _, _, _, rfl, rfl, SqL.of hs, rfl, _, _, rfl, rfl, _, rfl, s, _, _, 1, rfl, rfl, hs, rfl, ?_⟩
    refine ⟨_, rfl, _, _, rfl, rfl, ⟨by decide, by decide, by decide⟩, _, _, rfl, rfl, _, rfl, ?_⟩
    refine if_dec (fun h3 => ?_) (fun h3 => ?_)
    · refine ⟨_, rfl, _, rfl, s, _, _, 2, rfl, rfl, upd_same, rfl, ?_⟩
      rw [upd_upd]
      exact ⟨_, _, rfl, rfl, pos + 1, _, seed, cnt, rfl, by omega, s0, s1⟩
    · refine ⟨_, rfl, s, _, _, _, rfl, rfl, SqL.of upd_same, rfl, _, _, rfl, rfl, .inr ⟨by decide, by decide⟩, ?_⟩
      refine ⟨_, rfl, .inl ⟨_, rfl, _, _, rfl, rfl, (by show (0 : Int) < _; decide), _, _, rfl, rfl, .inr ⟨by decide, by decide⟩, _, _, rfl, rfl, _, _, rfl, rfl, .inl ⟨_, rfl, _, _, rfl, rfl, (by show (0 : Int) < _; decide), _, rfl, s, _, _, 3, rfl, rfl, upd_same, rfl, ?_⟩⟩⟩
      rw [upd_upd]
      exact ⟨_, _, rfl, rfl, pos + 1, _, _, cnt, rfl, by omega, Int.emod_nonneg _ (by decide), Int.emod_lt_of_pos _ (by decide)⟩
  · rintro _ _ ⟨_, oc, rfl, rfl, pos, big, seed, cnt, rfl, p0, s0, s1⟩
    refine ⟨_, rfl, s, _, _, _, rfl, rfl, SqL.of upd_same, rfl, _, _, rfl, rfl, _, rfl, ?_⟩
    refine if_dec (fun h1 => ?_) (fun h1 => ?_)
    · refine ⟨_, rfl, s, _, _, _, rfl, rfl, SqL.of upd_same, rfl, .inl ⟨_, rfl, _, rfl, _, _, rfl, rfl, m0, ?_⟩⟩
      refine ⟨_, rfl, s, _, _, _, rfl, rfl, SqL.of upd_same, rfl, _, rfl, _, _, rfl, rfl, ⟨m0, m1⟩, _, rfl, s, _, _, 2, rfl, rfl, upd_same, rfl, _, rfl, ?_⟩
      rw [upd_upd]
      exact q _ _ (Int.emod_nonneg _ (by omega)) (Int.emod_lt_of_pos _ m0) ⟨pos, _, seed, cnt, rfl, p0, s0, s1⟩
    · refine ⟨_, rfl, s, _, _, _, rfl, rfl, SqL.of upd_same, rfl, _, _, rfl, rfl, _, rfl, s, _, _, 4, rfl, rfl, upd_same, rfl, ?_⟩
      rw [upd_upd]
      refine ⟨_, rfl, s, _, _, _, rfl, rfl, SqL.of upd_same, rfl, _, rfl, s, _, _, _, rfl, rfl, SqL.of upd_same, rfl, _, _, rfl, rfl, .inl ⟨by omega, by omega⟩, .inl ⟨_, rfl, _, _, rfl, rfl, (by show (0 : Int) < _; decide), _, rfl, s, _, _, _, rfl, rfl, SqL.of upd_same, rfl, _, _, rfl, rfl, .inl ⟨by decide, by decide⟩, _, _, rfl, rfl, ?_⟩⟩
      refine ⟨_, rfl, _, _, rfl, rfl, .inr ⟨by decide, by decide⟩, _, rfl, s, _, _, _, rfl, rfl, SqL.of upd_same, rfl, _, _, rfl, rfl, _, _, rfl, rfl, .inl ⟨_, rfl, _, _, rfl, rfl, (by show (0 : Int) < _; decide), _, rfl, s, _, _, 3, rfl, rfl, upd_same, rfl, ?_⟩⟩
      rw [upd_upd]
      refine ⟨_, rfl, s, _, _, _, rfl, rfl, SqL.of upd_same, rfl, _, _, rfl, rfl, ⟨by decide, by decide⟩, _, rfl, s, _, _, _, rfl, rfl, SqL.of upd_same, rfl, .inl ⟨_, rfl, _, _, rfl, rfl, (by show (0 : Int) < _; decide), _, _, rfl, rfl, .inr ⟨by decide, by decide⟩, _, _, rfl, rfl, .inl ⟨_, rfl, _, rfl, _, _, rfl, rfl, m0, ?_⟩⟩⟩
      exact q _ _ (Int.emod_nonneg _ (by omega)) (Int.emod_lt_of_pos _ m0) ⟨pos, _, _, _, rfl, p0, Int.emod_nonneg _ (by decide), Int.emod_lt_of_pos _ (by decide)⟩
theorem take_hid (D : Def P w K mg base "_law_take" 1 ["_law_source_here", "_law_many"] spTakeL) : Def P w K mg base "_law_take" 1 ["_law_source_here", "_law_many"] spTake := by
  refine D.open_ (fun vs H Q E h => ?_) (fun vs H Q E h => ?_)
  · obtain ⟨s, many, rfl, _⟩ := h
    rfl
  · obtain ⟨s, many, rfl, m0, m1, ⟨c, ns, hs, hc⟩, q⟩ := h
    have ncs : c ≠ s := by
      intro e
      rw [e, hs] at hc
      cases hc
    refine ⟨s, srcGood c, hs, fun xs hg => ⟨s, c, many, xs, ns, rfl, m0, m1, upd_same, hg, by rw [upd_ne ncs]; exact hc, ncs, fun n ys n0 n1 hy => ⟨ys, upd_same, hy, ?_⟩⟩⟩
    rw [upd_upd, upd_back hs]
    exact q n n0 n1
end
end FF
namespace FF
open PySem PySem.Spec PyProof.Rows L2
theorem cutV_map {α : Type} {f : α → V} {l : List α} {lo hi : Option Int} : ∃ m : List α, cutV (l.map f) lo hi = m.map f ∧ m.length ≤ l.length := by
  refine ⟨(l.drop (HT.sIx l.length 0 lo)).take (HT.sIx l.length l.length hi - HT.sIx l.length 0 lo), ?_, ?_⟩
  · unfold cutV
    rw [List.length_map, List.map_take, List.map_drop]
  · rw [List.length_take, List.length_drop]
    omega
theorem cut_front {xs : List V} {k : Int} (h0 : 0 ≤ k) : cutV xs none (some k) = xs.take k.toNat := by
  obtain ⟨n, rfl⟩ : ∃ n : Nat, k = (n : Int) := ⟨k.toNat, by omega⟩
  unfold cutV
  rw [HT.sIx_none, HT.sIx_nat, List.drop_zero, Nat.sub_zero, Int.toNat_natCast]
  rcases Nat.le_total n xs.length with h | h
  · rw [Nat.min_eq_left h]
  · rw [Nat.min_eq_right h, List.take_length, List.take_of_length_le h]
def spSourceL (K : PySem.W.Frag) : Sp := fun vs H Q _ => ∃ (a : Addr) (ns : List Int), vs = [.ref a] ∧ SqL K H a (ns.map V.int) ∧
  ∀ (r c : Addr) (ms : List Int) H', H r = none → Same H H' → H' r = some (.lst [.ref c, .int 0, .int 0, .int 3818, .int 0]) → H' c = some (.lst (ms.map V.int)) → r ≠ c → Q (.ref r) H'
def spSource (K : PySem.W.Frag) : Sp := fun vs H Q _ => ∃ (a : Addr) (ns : List Int), vs = [.ref a] ∧ SqL K H a (ns.map V.int) ∧ ∀ (r : Addr) H', Same H H' → Src H' r → Q (.ref r) H'
def spPick (K : PySem.W.Frag) : Sp := fun vs H Q _ => ∃ (s r : Addr) (xs : List V), vs = [.ref s, .ref r] ∧ Src H s ∧ SqL K H r xs ∧ xs ≠ [] ∧ xs.length ≤ 20000 ∧ ∀ v, v ∈ xs → Q v H
def spMixed (K : PySem.W.Frag) : Sp := fun vs H Q _ => ∃ (s r : Addr) (xs : List V), vs = [.ref s, .ref r] ∧ Src H s ∧ SqL K H r xs ∧ xs.length ≤ 20000 ∧
  ∀ (p : Addr) H' ys, H p = none → Same H H' → H' p = some (.lst ys) → ys.Perm xs → Q (.ref p) H'
section
variable {P : Program} {w : World} {K : PySem.W.Frag} {mg : Str → Option Value} {base : Heap}
theorem ok_source {f : Addr} {fd : FuncData} (F : FunD K "_law_source" "_law_source" (defArgs s_law_source) (defBody s_law_source) (defScope s_law_source) [] [] f fd) (hm : mg "_law_source" = some (.ref f)) (T : Top K mg) : Def P w K mg base "_law_source" 1 ["_law_script"] (spSource K) := by
  have D : Def P w K mg base "_law_source" 1 ["_law_script"] (spSourceL K) := by
    refine def_mk F hm (F.bindsN fun _ _ _ _ _ _ us hl => match us, hl with | [_], _ => rfl) sc_law_source (fun vs H Q E h => ?_) (fun cdv A outer s H vs Q E hr h => ?_)
    · obtain ⟨a, ns, rfl, _⟩ := h
      rfl
    obtain ⟨a, ns, rfl, hS, q⟩ := h
    refine ⟨_, (pss_one (ps_ret (pe_lst (pa_cons (pe_callTy (call_list_ofK K) (by rfl) T.b_list (by decide +kernel) (pa_cons (pe_slice (sl_listK K) (pv 0) po_none (po_some pe_int)) pa_nil)) (pa_cons pe_int (pa_cons pe_int (pa_cons pe_int (pa_cons pe_int pa_nil)))))))), ?_⟩
    refine ⟨_, rfl, 63, rfl, a, _, rfl, hS, fun p hp => ⟨p, _, rfl, .inl (SqL.of upd_same), fun l hl => ⟨(by show 5 ≤ sizeLine; decide), fun r hr0 => ?_⟩⟩⟩
    obtain ⟨ms, hms, _⟩ := cutV_map (f := V.int) (l := ns) (lo := none) (hi := some 63)
    rw [hms] at hl hr0 ⊢
    have e1 := same_new hp (.lst (ms.map V.int))
    have e2 := same_new hl (.lst (ms.map V.int))
    have e3 := same_new hr0 (.lst [.ref l, .int 0, .int 0, .int 3818, .int 0])
    have nrl : r ≠ l := fun z => by rw [z, upd_same] at hr0; cases hr0
    exact q r l ms _ ((e1.trans e2).free hr0) ((e1.trans e2).trans e3) upd_same (by rw [upd_ne nrl.symm]; exact upd_same) nrl
  refine D.shut_ (fun vs H Q E h => ?_) (fun vs H Q E h => ?_)
  · obtain ⟨a, ns, rfl, _⟩ := h
    rfl
  · obtain ⟨a, ns, rfl, hS, q⟩ := h
    refine ⟨a, ns, rfl, hS, fun r c ms H' hr0 e hr1 hc nrc => ⟨r, srcGood c, _, hr0, hr1, ⟨0, 0, 3818, 0, rfl, by omega, by omega, by omega⟩, ?_⟩⟩
    refine q r _ (fun b o h => ?_) ⟨c, ms, upd_same, by rw [upd_ne nrc.symm]; exact hc⟩
    rw [upd_ne (ne_of_none h hr0)]
    exact e _ _ h
theorem ok_pick {f : Addr} {fd : FuncData} (F : FunD K "_law_pick" "_law_pick" (defArgs s_law_pick) (defBody s_law_pick) (defScope s_law_pick) [] [] f fd) (hm : mg "_law_pick" = some (.ref f)) (T : Top K mg)
    (D_law_take : Def P w K mg base "_law_take" 1 ["_law_source_here", "_law_many"] spTake) : Def P w K mg base "_law_pick" 2 ["_law_source_here", "_law_row"] (spPick K) := by
  refine def_mk F hm (F.bindsN fun _ _ _ _ _ _ us hl => match us, hl with | [_, _], _ => rfl) sc_law_pick (fun vs H Q E h => ?_) (fun cdv A outer s H vs Q E hr h => ?_)
  · obtain ⟨s, r, xs, rfl, _⟩ := h
    rfl
  obtain ⟨s, r, xs, rfl, hs, hx, hn, hz, q⟩ := h
  have hl : 0 < xs.length := List.length_pos_iff.mpr hn
  refine ⟨_, (pss_one (ps_ret (pe_ix (ix_listK K) (pv 1) (pe_def D_law_take hr (by first | decide | omega) (pa_cons (pv 0) (pa_cons (pe_callB (call_lenK K) (by rfl) T.b_len (by decide +kernel) (pa_cons (pv 1) pa_nil)) pa_nil))) (fun _ _ => rfl)))), ?_⟩
  refine ⟨_, rfl, _, rfl, _, rfl, _, xs.length, rfl, .inl ⟨_, hx, rfl⟩, s, _, rfl, by omega, by omega, hs, fun k k0 k1 => ?_⟩
  have hk : k.toNat < xs.length := by omega
  have hat : atI xs k = some xs[k.toNat] := by
    have e : ((k.toNat : Nat) : Int) = k := by omega
    have h : atI xs ((k.toNat : Nat) : Int) = some xs[k.toNat] := atI_nat (List.getElem?_eq_getElem hk)
    rw [e] at h
    exact h
  exact ⟨r, xs, k, _, rfl, rfl, hx, hat, q _ (List.getElem_mem hk)⟩
theorem ok_mixed {f : Addr} {fd : FuncData} (F : FunD K "_law_mixed" "_law_mixed" (defArgs s_law_mixed) (defBody s_law_mixed) (defScope s_law_mixed) [] [] f fd) (hm : mg "_law_mixed" = some (.ref f)) (T : Top K mg)
    (D_law_take : Def P w K mg base "_law_take" 1 ["_law_source_here", "_law_many"] spTake) : Def P w K mg base "_law_mixed" 2 ["_law_source_here", "_law_row"] (spMixed K) := by
  refine def_mk F hm (F.bindsN fun _ _ _ _ _ _ us hl => match us, hl with | [_, _], _ => rfl) sc_law_mixed (fun vs H Q E h => ?_) (fun cdv A outer s H vs Q E hr h => ?_)
  · obtain ⟨s, r, xs, rfl, _⟩ := h
    rfl
  obtain ⟨s, r, xs, rfl, hs, hx, hz, q⟩ := h
  refine ⟨_, (pss_cons (ps_set (i := 2) sc_law_mixed.nd rfl (Or.inl rfl) (pe_lst pa_nil))
  (pss_cons (ps_for PassesOwn.never rfl (pi_listK K (pv 1)) (pg_name (i := 3) sc_law_mixed.nd rfl (Or.inl rfl) (.inl rfl))
  (pss_one (ps_expr (pe_bmK K PySem.F.plainAttrs_list PySem.F.slot_list_insert PySem.F.type_list_insert mt_insert (pv 2) (pa_cons (pe_def D_law_take hr (by first | decide | omega) (pa_cons (pv 0) (pa_cons (pe_op op_add (pe_callB (call_lenK K) (by rfl) T.b_len (by decide +kernel) (pa_cons (pv 2) pa_nil)) pe_int) pa_nil))) (pa_cons (pv 3) pa_nil))))))
  (pss_one (ps_ret (pv 2))))), ?_⟩
  refine ⟨by decide, fun p hp => ?_⟩
  have e1 := same_new hp (.lst [])
  refine ⟨_, rfl, r, rfl, ⟨_, up_l e1 hx⟩, for_list (K := K) (a := r) (xs := xs) (fun i σ H' => ∃ (ys : List V) (o : Option V), σ = [some (.ref s), some (.ref r), some (.ref p), o] ∧ Same H H' ∧ H' p = some (.lst ys) ∧ ys.Perm (xs.take i))
    ⟨[], none, rfl, e1, upd_same, by rw [List.take_zero]⟩ (fun i σ H' _ ⟨_, _, _, e, _⟩ => up_l e hx) ?_ ?_⟩
  · rintro i x σ H' hi ⟨ys, o, rfl, e, hp1, hperm⟩
    have hi2 := (List.getElem?_eq_some_iff.mp hi).1
    have hyl : ys.length = i := by
      rw [hperm.length_eq, List.length_take]
      omega
    refine ⟨_, rfl, .inl ⟨rfl, _, SqL.of hp1⟩, _, rfl, _, rfl, _, ys.length, rfl, .inl ⟨_, SqL.of hp1, rfl⟩, _, _, rfl, rfl, s, _, rfl, by omega, by omega, hs.up e, fun k k0 k1 => ?_⟩
    refine ⟨_, rfl, p, ys, k, x, rfl, rfl, hp1, lt_line (by omega), k0, by omega, ?_⟩
    refine ⟨_, _, rfl, fun b o2 h => ?_, upd_same, ?_⟩
    · rw [upd_ne (ne_of_none h hp)]
      exact e _ _ h
    · rw [List.take_succ, hi]
      have h1 : (ys.take k.toNat ++ [x] ++ ys.drop k.toNat).Perm (x :: ys) := by
        rw [List.append_assoc]
        refine List.perm_middle.trans ?_
        show (x :: (ys.take k.toNat ++ ys.drop k.toNat)).Perm _
        rw [List.take_append_drop]
      refine h1.trans ?_
      refine (List.Perm.cons x hperm).trans ?_
      exact (List.perm_append_singleton x (xs.take i)).symm
  · rintro σ H' ⟨ys, o, rfl, e, hp1, hperm⟩
    rw [List.take_length] at hperm
    exact ⟨_, rfl, q p H' ys hp e hp1 hperm⟩
end
end FF
namespace FF
open PySem PySem.Spec PyProof.Rows L2
/-! ### drawn terms -/
/-- a drawn term: n operators deep at most -/
def Drawn : Nat → PyData → Prop
  | 0, d => isLet d = true
  | n + 1, d => isLet d = true ∨ ∃ o ps, d = .tuple (o :: ps) ∧ isOp o = true ∧ 2 ≤ ps.length ∧ ps.length ≤ 8 ∧ ∀ p, p ∈ ps → Drawn n p
theorem let_shape {d : PyData} (h : isLet d = true) : ∃ c, d = .str ⟨#[c]⟩ ∧ c ∈ lettersS.cps.toList := by
  cases d with
  | str z =>
    obtain ⟨⟨l⟩⟩ := z
    match l, h with
    | [c], h => exact ⟨c, rfl, of_decide_eq_true h⟩
  | _ => cases h
theorem lettersS_val : lettersS.cps.toList = [97, 98, 99, 100, 101, 102, 103, 104] := by decide +kernel
theorem let_nice {d : PyData} (h : isLet d = true) : nice d = true := by
  obtain ⟨c, rfl, hc⟩ := let_shape h
  rw [lettersS_val] at hc
  simp only [nice, Bool.and_eq_true, decide_eq_true_eq]
  refine ⟨by show 1 ≤ 20000; decide, ?_⟩
  show (#[c].all fun x => decide (x < 0x110000)) = true
  have : c < 0x110000 := by
    simp only [List.mem_cons, List.not_mem_nil, or_false] at hc
    omega
  simp [this]
theorem let_depth {d : PyData} (h : isLet d = true) : d.depth = 0 := by
  obtain ⟨c, rfl, hc⟩ := let_shape h
  rw [PyData.depth]
theorem op_shape {d : PyData} (h : isOp d = true) : d = .str ("&" : Str) ∨ d = .str ("|" : Str) := by
  cases d with
  | str z =>
    have h2 : (decide (z = ("&" : Str)) || decide (z = ("|" : Str))) = true := h
    rw [Bool.or_eq_true, decide_eq_true_eq, decide_eq_true_eq] at h2
    rcases h2 with e | e
    · exact .inl (by rw [e])
    · exact .inr (by rw [e])
  | _ => cases h
theorem op_nice {d : PyData} (h : isOp d = true) : Nice 0 d := by
  rcases op_shape h with rfl | rfl
  · exact ⟨by decide +kernel, by rw [PyData.depth]; exact Nat.le_refl _⟩
  · exact ⟨by decide +kernel, by rw [PyData.depth]; exact Nat.le_refl _⟩
theorem drawn_nice : ∀ {n : Nat} {d : PyData}, Drawn n d → Nice n d
  | 0, d, h => ⟨let_nice h, Nat.le_of_eq (let_depth h)⟩
  | n + 1, d, h => by
    rcases h with h | ⟨o, ps, rfl, ho, h2, h4, hp⟩
    · exact ⟨let_nice h, by rw [let_depth h]; omega⟩
    · refine Nice.tuple (by simp; omega) fun p hm => ?_
      rcases List.mem_cons.mp hm with e | hm
      · rw [e]
        exact (op_nice ho).mono (Nat.zero_le _)
      · exact drawn_nice (hp p hm)
theorem drawn_mono : ∀ {m n : Nat} {d : PyData}, Drawn m d → m ≤ n → Drawn n d
  | 0, 0, _, h, _ => h
  | 0, _ + 1, _, h, _ => .inl h
  | m + 1, n + 1, _, h, hm => by
    rcases h with h | ⟨o, ps, e, ho, h2, h4, hp⟩
    · exact .inl h
    · exact .inr ⟨o, ps, e, ho, h2, h4, fun p hm2 => drawn_mono (hp p hm2) (by omega)⟩
def spSigns : Sp := fun vs H Q _ => ∃ (s : Addr) (most : Int), vs = [.ref s, .int most] ∧ 0 < most ∧ most < 1073741824 ∧ Src H s ∧
  ∀ (p : Addr) H' zs, Same H H' → H' p = some (.lst (zs.map V.str)) → zs ≠ [] → zs.length ≤ 8 → (∀ z, z ∈ zs → isLetS z = true) → Q (.ref p) H'
section
variable {P : Program} {w : World} {K : PySem.W.Frag} {mg : Str → Option Value} {base : Heap}
theorem ok_signs {f : Addr} {fd : FuncData} (F : FunD K "_law_signs" "_law_signs" (defArgs s_law_signs) (defBody s_law_signs) (defScope s_law_signs) [] [] f fd) (hm : mg "_law_signs" = some (.ref f)) (T : Top K mg)
    (D_law_take : Def P w K mg base "_law_take" 1 ["_law_source_here", "_law_many"] spTake) (D_law_mixed : Def P w K mg base "_law_mixed" 2 ["_law_source_here", "_law_row"] (spMixed K)) : Def P w K mg base "_law_signs" 3 ["_law_source_here", "_law_most"] spSigns := by
  refine def_mk F hm (F.bindsN fun _ _ _ _ _ _ us hl => match us, hl with | [_, _], _ => rfl) sc_law_signs (fun vs H Q E h => ?_) (fun cdv A outer s H vs Q E hr h => ?_)
  · obtain ⟨s, m, rfl, _⟩ := h
    rfl
  obtain ⟨s, m, rfl, m0, m1, hs, q⟩ := h
  refine ⟨_, (pss_cons (ps_set (i := 2) sc_law_signs.nd rfl (Or.inl rfl) (pe_def D_law_mixed hr (by first | decide | omega) (pa_cons (pv 0) (pa_cons (pe_callTy (call_list_s rfl) (by rfl) T.b_list (by decide +kernel) (pa_cons pe_str pa_nil)) pa_nil))))
  (pss_one (ps_ret (pe_slice (sl_listK K) (pv 2) po_none (po_some (pe_op op_add pe_int (pe_def D_law_take hr (by first | decide | omega) (pa_cons (pv 0) (pa_cons (pv 1) pa_nil))))))))), ?_⟩
  refine ⟨_, rfl, lettersS, rfl, by decide +kernel, fun l hl => ?_⟩
  have e1 := same_new hl (.lst (lettersS.cps.toList.map fun c => V.str ⟨#[c]⟩))
  refine ⟨s, l, _, rfl, hs.up e1, SqL.of upd_same, by rw [List.length_map, lettersS_val]; decide, fun p H' ys hp e2 hp2 hperm => ?_⟩
  have e3 := e1.trans e2
  refine ⟨_, rfl, _, rfl, _, rfl, s, m, rfl, m0, m1, hs.up e3, fun n n0 n1 => ?_⟩
  refine ⟨_, _, rfl, rfl, _, rfl, p, _, rfl, SqL.of hp2, fun r hr0 => ?_⟩
  have ek : (1 + n).toNat = n.toNat + 1 := by omega
  have hperm2 : ys.Perm (lettersS.cps.toList.map fun c => V.str ⟨#[c]⟩) := hperm
  have hlen : ys.length = 8 := by rw [hperm2.length_eq, List.length_map, lettersS_val] <;> rfl
  have hall : ∀ y, y ∈ ys → ∃ z : Str, y = .str z ∧ isLetS z = true := fun y hy => by
    obtain ⟨c, hc, rfl⟩ := List.mem_map.mp (hperm2.mem_iff.mp hy)
    exact ⟨_, rfl, decide_eq_true hc⟩
  obtain ⟨zs, hzs, hz2⟩ : ∃ zs : List Str, ys = zs.map V.str ∧ ∀ z, z ∈ zs → isLetS z = true := by
    clear hperm hperm2 hlen hp2 hr0
    induction ys with
    | nil => exact ⟨[], rfl, fun z h => by cases h⟩
    | cons y ys ih =>
      obtain ⟨z, rfl, hz⟩ := hall y (List.mem_cons_self ..)
      obtain ⟨zs, rfl, h2⟩ := ih fun y hy => hall y (List.mem_cons_of_mem _ hy)
      refine ⟨z :: zs, rfl, fun u hu => ?_⟩
      rcases List.mem_cons.mp hu with e | hu
      · rw [e]; exact hz
      · exact h2 u hu
  subst hzs
  rw [cut_front (by omega), ek, ← List.map_take]
  rw [List.length_map] at hlen
  refine q r _ (zs.take (n.toNat + 1)) (e3.trans (same_new hr0 _)) upd_same ?_ ?_ (fun z hz => hz2 z (List.mem_of_mem_take hz))
  · intro e
    have := congrArg List.length e
    rw [List.length_take, List.length_nil] at this
    omega
  · rw [List.length_take]
    omega
end
end FF
namespace FF
open PySem PySem.Spec PyProof.Rows L2
theorem sum_in {f : PyData → Int} {B : Int} : ∀ {l : List PyData}, (∀ p ∈ l, 1 ≤ f p ∧ f p ≤ B) → (0 : Int) ∉ l.map f ∧ (l.length : Int) ≤ (l.map f).sum ∧ (l.map f).sum ≤ (l.length : Int) * B
  | [], _ => ⟨by simp, by simp, by simp⟩
  | x :: r, h => by
    obtain ⟨h1, h2, h3⟩ := sum_in (l := r) fun p hp => h p (List.mem_cons_of_mem _ hp)
    obtain ⟨a1, a2⟩ := h x List.mem_cons_self
    refine ⟨fun z => ?_, ?_, ?_⟩
    · rcases List.mem_cons.mp (show (0 : Int) ∈ f x :: r.map f from z) with z | z
      · omega
      · exact h1 z
    · rw [List.map_cons, List.sum_cons, List.length_cons]
      omega
    · rw [List.map_cons, List.sum_cons, List.length_cons]
      have : ((r.length + 1 : Nat) : Int) * B = (r.length : Int) * B + B := by
        rw [Int.natCast_add, Int.add_mul]
        simp
      omega
theorem tup_let {ps : List PyData} : isLet (.tuple ps) = false := rfl
theorem meas_drawn : ∀ {n : Nat} {d : PyData}, Drawn n d → ∀ m, n < m → 1 ≤ meas m d ∧ meas m d ≤ ((8 ^ n : Nat) : Int)
  | 0, d, h, m, hm => by
    rw [meas_let (show isLet d = true from h), if_pos (by omega)]
    exact ⟨Int.le_refl _, Int.le_refl _⟩
  | n + 1, d, h, m, hm => by
    rcases h with h | ⟨o, ps, rfl, ho, h2, h4, hp⟩
    · rw [meas_let h, if_pos (by omega)]
      refine ⟨Int.le_refl _, ?_⟩
      have : 1 ≤ 8 ^ (n + 1) := Nat.one_le_pow _ _ (by decide)
      omega
    obtain ⟨k, rfl⟩ : ∃ k, m = k + 1 := ⟨m - 1, by omega⟩
    rw [meas_up tup_let (by omega)]
    have hs := sum_in (f := meas k) (B := ((8 ^ n : Nat) : Int)) (l := ps) fun p hpp => meas_drawn (hp p hpp) k (by omega)
    match ps, h2, h4, hs with
    | y :: z :: r, h2, h4, hs =>
      show 1 ≤ (if isOp o = true then (if (0 : Int) ∈ ((y :: z :: r).map (meas k)) then 0 else ((y :: z :: r).map (meas k)).sum) else 0) ∧ (if isOp o = true then (if (0 : Int) ∈ ((y :: z :: r).map (meas k)) then 0 else ((y :: z :: r).map (meas k)).sum) else 0) ≤ _
      rw [if_pos ho, if_neg hs.1]
      refine ⟨Int.le_trans (by simp only [List.length_cons]; omega) hs.2.1, Int.le_trans hs.2.2 ?_⟩
      rw [Nat.pow_succ, Nat.mul_comm, Int.natCast_mul]
      exact Int.mul_le_mul_of_nonneg_right (by omega) (Int.natCast_nonneg _)
end FF
namespace FF
open PySem PySem.Spec PyProof.Rows L2
def spTermR (K : PySem.W.Frag) (n : Nat) : Sp := fun vs H Q _ => ∃ (s g rm c : Addr) (deep r : Int) (zs : List Str) (ns : List Int), vs = [.ref s, .ref g, .int deep, .ref rm] ∧ H s = some (hid (srcGood c) s) ∧ H c = some (.lst (ns.map V.int)) ∧ c ≠ rm ∧ H g = some (.lst (zs.map V.str)) ∧ zs ≠ [] ∧ zs.length ≤ 20000 ∧ (∀ z, z ∈ zs → isLetS z = true) ∧
  H rm = some (.lst [.int r]) ∧ 0 ≤ r ∧ r < 1000 ∧ deep.toNat < n ∧ ∀ v H' d r', SameB rm H H' → H' rm = some (.lst [.int r']) → 0 ≤ r' → r' ≤ r → Tp K H' v d → Drawn (deep.toNat - 1) d → (∀ m, deep.toNat - 1 < m → meas m d = r - r' + 1) → Q v H'
theorem sameB_refl {a : Addr} {H : Hp} : SameB a H H := fun _ _ _ h => h
theorem SameB.trans' {a : Addr} {H H1 H2 : Hp} (x : SameB a H H1) (y : SameB a H1 H2) : SameB a H H2 := fun b u n h => y b u n (x b u n h)
theorem sameB_of {a : Addr} {H H1 : Hp} (x : Same H H1) : SameB a H H1 := fun b u _ h => x b u h
theorem sameB_upd {a : Addr} {H : Hp} {o : HO} : SameB a H (upd H a o) := fun b u n h => by rw [upd_ne n]; exact h
theorem tpa_snoc {K : PySem.W.Frag} {H : Hp} {v : V} {d : PyData} (h : Tp K H v d) : ∀ {vs : List V} {ds : List PyData}, TpAll K H vs ds → TpAll K H (vs ++ [v]) (ds ++ [d])
  | _, _, .nil => .cons h .nil
  | _, _, .cons x r => .cons x (tpa_snoc h r)
section
variable {P : Program} {w : World} {K : PySem.W.Frag} {mg : Str → Option Value} {base : Heap}
theorem ok_termR_step {n : Nat} {f : Addr} {fd : FuncData} (F : FunD K "_law_term" "_law_term" (defArgs s_law_term) (defBody s_law_term) (defScope s_law_term) [] [] f fd) (hm : mg "_law_term" = some (.ref f)) (T : Top K mg)
    (D_law_take : Def P w K mg base "_law_take" 1 ["_law_source_here", "_law_many"] spTake) (D_law_pick : Def P w K mg base "_law_pick" 2 ["_law_source_here", "_law_row"] (spPick K))
    (D_law_term : Def P w K mg base "_law_term" (n + 2) ["_law_source_here", "_law_signs_here", "_law_deep", "_law_room"] (spTermR K n)) : Def P w K mg base "_law_term" (n + 3) ["_law_source_here", "_law_signs_here", "_law_deep", "_law_room"] (spTermR K (n + 1)) := by
  refine def_mk F hm (F.bindsN fun _ _ _ _ _ _ us hl => match us, hl with | [_, _, _, _], _ => rfl) sc_law_term (fun vs H Q E h => ?_) (fun cdv A outer s H vs Q E hr h => ?_)
  · obtain ⟨s, g, rm, c, m, r, zs, ns, rfl, _⟩ := h
    rfl
  obtain ⟨s, g, rm, c, m, r, zs, ns, rfl, hs, hc, hcr, hg, hz, hzl, hlet, hrm, r0, r1, hmn, q⟩ := h
  have hsrc : Src H s := ⟨c, ns, hs, hc⟩
  have hgr : g ≠ rm := fun e => by
    rw [e, hrm] at hg
    have e2 : ([V.int r] : List V) = zs.map V.str := HO.lst.inj (Option.some.inj hg)
    cases zs with
    | nil => exact hz rfl
    | cons z t => cases (List.cons.inj e2).1
  have hsr : s ≠ rm := fun e => by
    rw [e, hrm] at hs
    exact hid_lst (Option.some.inj hs).symm
  refine ⟨_, (pss_cons (ps_set (i := 4) sc_law_term.nd rfl (Or.inl rfl) (pe_op op_add pe_int (pe_op op_fdiv (pe_def D_law_take hr (by first | decide | omega) (pa_cons (pv 0) (pa_cons pe_int pa_nil))) pe_int)))
  (pss_cons (ps_if (PW.pt (pw_or (pt_cmpR op_lt (pv 2) pe_int (nomark _)) (pw_or (pt_cmpR op_lt (pe_ix (ix_listK K) (pv 3) pe_int (fun _ _ => rfl)) (pe_op op_sub (pv 4) pe_int) (nomark _)) (pw_or1 (pt_cmpR op_eq (pe_def D_law_take hr (by first | decide | omega) (pa_cons (pv 0) (pa_cons pe_int pa_nil))) pe_int (nomark _))))))
  (pss_one (ps_ret (pe_def D_law_pick hr (by first | decide | omega) (pa_cons (pv 0) (pa_cons (pv 1) pa_nil)))))
  pss_nil)
  (pss_cons (ps_asg (pe_op op_add (pe_op op_sub (pe_ix (ix_listK K) (pv 3) pe_int (fun _ _ => rfl)) (pv 4)) pe_int) (pg_sub (pv 3) pe_int set_list))
  (pss_cons (ps_set (i := 5) sc_law_term.nd rfl (Or.inl rfl) (pe_def D_law_pick hr (by first | decide | omega) (pa_cons (pv 0) (pa_cons (pe_lst (pa_cons pe_str (pa_cons pe_str pa_nil))) pa_nil))))
  (pss_one (ps_ret (pe_callTy (call_tuple_ofK K) (by rfl) T.b_tuple (by decide +kernel) (pa_cons (pe_op op_cat (pe_lst (pa_cons (pv 5) pa_nil)) (pe_lc (own := [("_law_k", 6)]) rfl sc_law_term.nd (pi_range1 (by rfl) T.b_range (pa_cons (pv 4) pa_nil)) (blkOk_by (by kernel_rfl)) (fun _ _ _ _ _ => (pg_name (i := 6) sc_law_term.nd rfl (Or.inl rfl) (.inr rfl))) (fun _ _ _ _ _ => pts_nil) (fun _ _ _ _ _ => (pe_def D_law_term hr (by first | decide | omega) (pa_cons (pv 0) (pa_cons (pv 1) (pa_cons (pe_op op_sub (pv 2) pe_int) (pa_cons (pv 3) pa_nil)))))))) pa_nil)))))))), ?_⟩
  refine ⟨_, rfl, s, 5, rfl, by omega, by omega, hsrc, fun t t0 t1 => ?_⟩
  refine ⟨_, _, rfl, rfl, ⟨by decide, by decide⟩, _, _, rfl, rfl, ?_⟩
  have pick : spPick K [.ref s, .ref g] H Q E := by
    refine ⟨s, g, _, rfl, hsrc, SqL.of hg, fun e => hz (List.map_eq_nil_iff.mp e), by rw [List.length_map]; exact hzl, fun v hv => ?_⟩
    obtain ⟨z, hz3, rfl⟩ := List.mem_map.mp hv
    have h0 : Drawn 0 (.str z) := hlet z hz3
    refine q _ H _ r sameB_refl hrm r0 (Int.le_refl _) (.str z) (drawn_mono h0 (Nat.zero_le _)) fun m hm => ?_
    rw [meas_let (show isLet (.str z) = true from hlet z hz3), if_pos (by omega)]
    omega
  refine ⟨_, rfl, _, _, rfl, rfl, _, rfl, ?_⟩
  refine if_dec (fun h1 => ⟨_, rfl, _, rfl, pick⟩) (fun h1 => ?_)
  refine ⟨_, rfl, rm, _, _, _, rfl, rfl, SqL.of hrm, at0, _, rfl, _, _, rfl, rfl, _, _, rfl, rfl, _, rfl, ?_⟩
  refine if_dec (fun h2 => ⟨_, rfl, _, rfl, pick⟩) (fun h2 => ?_)
  refine ⟨_, rfl, s, 4, rfl, by omega, by omega, hsrc, fun t2 t20 t21 => ⟨rfl, _, rfl, ?_⟩⟩
  refine if_int (fun h3 => ⟨_, rfl, _, rfl, pick⟩) (fun h3 => ?_)
  refine ⟨_, rfl, rm, _, _, _, rfl, rfl, SqL.of hrm, at0, _, rfl, _, _, rfl, rfl, _, _, rfl, rfl, _, rfl, rm, _, 0, 0, rfl, rfl, hrm, rfl, ?_⟩
  have eB : SameB rm H (upd H rm (.lst (([V.int r] : List V).set 0 (.int (r - (2 + t / 2) + 1))))) := sameB_upd
  have hrmB : upd H rm (.lst (([V.int r] : List V).set 0 (.int (r - (2 + t / 2) + 1)))) rm = some (.lst [.int (r - (2 + t / 2) + 1)]) := upd_same
  generalize upd H rm (.lst (([V.int r] : List V).set 0 (.int (r - (2 + t / 2) + 1)))) = HB at eB hrmB ⊢
  have hrB : (r - (2 + t / 2) + 1 : Int) ≥ 0 := by omega
  have hrB2 : (r - (2 + t / 2) + 1 : Int) ≤ r := by omega
  obtain ⟨mn, hmn2⟩ : ∃ mn : Nat, (2 + t / 2 : Int) = mn := ⟨(2 + t / 2).toNat, by omega⟩
  have hsB := eB _ _ hsr hs
  have hcB := eB _ _ hcr hc
  have hgB := eB _ _ hgr hg
  refine ⟨_, rfl, by decide +kernel, fun p1 hp1 => ?_⟩
  have e1 := same_new hp1 (.lst [.str ("&" : Str), .str ("|" : Str)])
  refine ⟨s, p1, _, rfl, ⟨c, ns, e1 _ _ hsB, e1 _ _ hcB⟩, SqL.of upd_same, by simp, by simp, fun o ho => ?_⟩
  have ho2 : ∃ z, o = .str z ∧ isOp (.str z) = true := by
    simp only [List.mem_cons, List.not_mem_nil, or_false] at ho
    rcases ho with rfl | rfl
    · exact ⟨_, rfl, by decide +kernel⟩
    · exact ⟨_, rfl, by decide +kernel⟩
  obtain ⟨z, rfl, hz9⟩ := ho2
  refine ⟨_, rfl, (by show 1 ≤ sizeLine; decide), fun p2 hp2 => ?_⟩
  have e2 := e1.trans (same_new hp2 (.lst [.str z]))
  refine ⟨_, rfl, _, rfl, by omega, by omega, fun D hD => ?_⟩
  have hp22 : upd (upd HB p1 (.lst [.str ("&" : Str), .str ("|" : Str)])) p2 (.lst [.str z]) p2 = some (.lst [.str z]) := upd_same
  generalize upd (upd HB p1 (.lst [.str ("&" : Str), .str ("|" : Str)])) p2 (.lst [.str z]) = H2 at e2 hD hp22 ⊢
  have hDr : D ≠ rm := fun e => by
    have := e2 _ _ hrmB
    rw [← e, hD] at this
    cases this
  have hp2r : p2 ≠ rm := fun e => by
    have := e2 _ _ hrmB
    rw [← e, hp22] at this
    have e3 : ([V.str z] : List V) = [V.int (r - (2 + t / 2) + 1)] := HO.lst.inj (Option.some.inj this)
    cases (List.cons.inj e3).1
  rw [show (2 + t / 2 : Int).toNat = mn by omega]
  refine lc_range (fun i H' => SameB rm H2 H' ∧ ∃ ys ds r', H' D = some (.lst ys) ∧ ys.length = i ∧ TpAll K H' ys ds ∧ (∀ d ∈ ds, Drawn (m.toNat - 1 - 1) d) ∧ H' rm = some (.lst [.int r']) ∧ 0 ≤ r' ∧ r' ≤ r - (2 + t / 2) + 1 ∧
    ∀ m', m.toNat - 1 - 1 < m' → (ds.map (meas m')).sum = r - (2 + t / 2) + 1 - r' + i) ⟨sameB_of (same_new hD _), [], [], _, upd_same, rfl, .nil, (fun d h => by cases h), ?_, hrB, Int.le_refl _, (fun m' _ => by simp)⟩ ?_ ?_
  · rw [upd_ne (Ne.symm hDr)]
    exact e2 _ _ hrmB
  · rintro i H' hi ⟨e, ys, ds, r', hD', hl, hds, hdr, hrm', r0', rle, hsum⟩
    refine ⟨rfl, ?_⟩
    refine ⟨_, rfl, _, rfl, _, rfl, _, _, rfl, rfl, _, rfl, s, g, rm, c, m - 1, r', zs, ns, rfl, e _ _ hsr (e2 _ _ hsB), e _ _ hcr (e2 _ _ hcB), hcr, e _ _ hgr (e2 _ _ hgB), hz, hzl, hlet, hrm', r0', by omega, by omega, fun v H3 d r'' e3 hrm3 r0'' rle' hd hdd hmm => ⟨ys, e3 _ _ hDr hD', le_line (by omega), ?_⟩⟩
    have hD3 := e3 _ _ hDr hD'
    have sT : SameT H3 (upd H3 D (.lst (ys ++ [v]))) := (SameT.refl H3).updL hD3
    refine ⟨fun b u hb hu => ?_, ys ++ [v], ds ++ [d], r'', upd_same, by rw [List.length_append, hl] <;> rfl, tpa_snoc (hd.up sT) ((hds.up (sameT_b hrm' e3)).up sT), fun x hx => ?_, ?_, r0'', by omega, fun m' hm' => ?_⟩
    · rw [upd_ne (ne_of_none hu hD)]
      exact e3 _ _ hb (e _ _ hb hu)
    · rw [show (m - 1).toNat - 1 = m.toNat - 1 - 1 by omega] at hdd
      rcases List.mem_append.mp hx with hx | hx
      · exact hdr x hx
      · rw [List.mem_singleton.mp hx]
        exact hdd
    · rw [upd_ne (Ne.symm hDr)]
      exact hrm3
    · rw [List.map_append, List.sum_append, hsum m' hm', List.map_cons, List.map_nil, List.sum_cons, List.sum_nil, hmm m' (by omega)]
      push_cast
      omega
  · rintro H' ⟨e, ys, ds, r', hD', hl, hds, hdr, hrm', r0', rle, hsum⟩
    have hlen := hds.len
    refine ⟨p2, D, _, _, rfl, rfl, e _ _ hp2r hp22, hD', le_line (by simp; omega), fun p3 hp3 => ?_⟩
    have e4 := same_new hp3 (.lst ([.str z] ++ ys))
    refine ⟨p3, _, rfl, .inl ⟨SqL.of upd_same, fun p4 hp4 => ?_⟩⟩
    have e5 := same_new hp4 (.tup ([.str z] ++ ys))
    have e45 := e4.trans e5
    refine q _ _ (.tuple (.str z :: ds)) r' (((eB.trans' (sameB_of e2)).trans' e).trans' (sameB_of e45)) (e45 _ _ hrm') r0' (by omega) (.tup (.inl upd_same) (.cons (.str z) ((hds.up (Same.T e4)).up (Same.T e5)))) ?_ fun m' hm' => ?_
    · have h9 : Drawn (m.toNat - 1 - 1 + 1) (.tuple (.str z :: ds)) := .inr ⟨_, ds, rfl, hz9, by omega, by omega, hdr⟩
      rw [show m.toNat - 1 - 1 + 1 = m.toNat - 1 by omega] at h9
      exact h9
    · obtain ⟨j, rfl⟩ : ∃ j, m' = j + 1 := ⟨m' - 1, by omega⟩
      have hs4 := hsum j (by omega)
      have hin := sum_in (f := meas j) (B := ((8 ^ (m.toNat - 1 - 1) : Nat) : Int)) (l := ds) fun p hp => meas_drawn (hdr p hp) j (by omega)
      rw [meas_up tup_let (by omega)]
      match ds, hin, hs4, hlen with
      | [], _, _, hlen => exact absurd hlen (by rw [hl]; simp; omega)
      | [_], _, _, hlen => exact absurd hlen (by rw [hl]; simp; omega)
      | y :: x :: r2, hin, hs4, _ =>
        show (if isOp (.str z) = true then (if (0 : Int) ∈ ((y :: x :: r2).map (meas j)) then 0 else ((y :: x :: r2).map (meas j)).sum) else 0) = _
        rw [if_pos hz9, if_neg hin.1, hs4]
        omega
theorem ok_termR {f : Addr} {fd : FuncData} (F : FunD K "_law_term" "_law_term" (defArgs s_law_term) (defBody s_law_term) (defScope s_law_term) [] [] f fd) (hm : mg "_law_term" = some (.ref f)) (T : Top K mg)
    (D_law_take : Def P w K mg base "_law_take" 1 ["_law_source_here", "_law_many"] spTake) (D_law_pick : Def P w K mg base "_law_pick" 2 ["_law_source_here", "_law_row"] (spPick K)) :
    ∀ n : Nat, Def P w K mg base "_law_term" (n + 2) ["_law_source_here", "_law_signs_here", "_law_deep", "_law_room"] (spTermR K n)
  | 0 => (def_none F hm (F.bindsN fun _ _ _ _ _ _ us hl => match us, hl with | [_, _, _, _], _ => rfl) fun vs H Q E ⟨_, _, _, _, _, _, _, _, _, _, _, _, _, _, _, _, _, _, _, h, _⟩ => by omega).mono (Nat.zero_le _)
  | n + 1 => ok_termR_step F hm T D_law_take D_law_pick (ok_termR F hm T D_law_take D_law_pick n)
end
end FF
namespace FF
open PySem PySem.Spec PyProof.Rows L2
section
variable {P : Program} {w : World} {K : PySem.W.Frag} {mg : Str → Option Value} {base : Heap}
theorem fn_fe {f : Addr} {fd : FuncData} (F : FunD K "__init__" "FaultError.__init__" (defArgs s_FaultError_init) (defBody s_FaultError_init) (defScope s_FaultError_init) [] [] f fd) (T : Top K mg) : FnOk P w K mg base CX0 1 f fd ["self", "code"] (spFE K) := by
  refine FunD.ok F sc_FaultError_init (fun vs H Q E h => ?_) (fun cdv A outer s0 H vs Q E hr h => ?_)
  · obtain ⟨a, C, z, rfl, _⟩ := h
    rfl
  obtain ⟨a, C, z, rfl, hC, hno, ha, q⟩ := h
  refine ⟨_, PSs.nox (pss_cons (ps_expr (pe_veinit (by rfl) T.b_ValueError T.fe.ve (pa_cons (pv 0) (pa_cons (pv 1) pa_nil)))) (pss_one (ps_ost (pv 0) (pv 1)))), ?_⟩
  refine ⟨_, rfl, _, rfl, a, C, [z], rfl, (show 1 ≤ 1000 by decide), hC, ha, ?_⟩
  exact ⟨_, rfl, _, rfl, a, C, rfl, hC, hno, .inl ⟨ha, fun dx hdx hne => q dx hdx hne⟩⟩
theorem fn_InvalidRules {f : Addr} {fd fdg : FuncData} (F : FunD K "__init__" "InvalidRules.__init__" (defArgs s_InvalidRules_init) (defBody s_InvalidRules_init) (defScope s_InvalidRules_init) [] [] f fd) (T : Top K mg)
    (FE : FnOk P w K mg base CX0 1 (He.ma K (He.ga K "FaultError") "__init__") fdg ["self", "code"] (spFE K)) (hb : Binds K fdg ["self", "code"] []) : FnOk P w K mg base CX0 2 f fd ["self", "index"] (spIni1 K "InvalidRules" "index") := by
  refine FunD.ok F sc_InvalidRules_init (fun vs H Q E h => ?_) (fun cdv A outer s0 H vs Q E hr h => ?_)
  · obtain ⟨a, C, y, rfl, _⟩ := h
    rfl
  obtain ⟨a, C, y, rfl, hC, hno, hnf, ha, q⟩ := h
  refine ⟨_, PSs.nox (pss_cons (ps_expr (pe_clsfn (by rfl) T.c_FaultError T.fe.rd ⟨T.fe.at_, rfl⟩ FE hr T.fe.kp hb pass0 (pa_cons (pv 0) (pa_cons pe_str pa_nil)))) (pss_one (ps_ost (pv 0) (pv 1)))), ?_⟩
  refine ⟨_, rfl, a, C, _, rfl, hC, hno, ha, fun dx hdx hne => ?_⟩
  exact ⟨_, rfl, _, rfl, a, C, rfl, hC, hnf, .inr ⟨dx, [("code", .str "InvalidRules")], upd_same, by rw [upd_ne hne, upd_same], (show 1 ≤ 900 by decide), q dx hdx hne⟩⟩
theorem fn_InvalidGoal {f : Addr} {fd fdg : FuncData} (F : FunD K "__init__" "InvalidGoal.__init__" (defArgs s_InvalidGoal_init) (defBody s_InvalidGoal_init) (defScope s_InvalidGoal_init) [] [] f fd) (T : Top K mg)
    (FE : FnOk P w K mg base CX0 1 (He.ma K (He.ga K "FaultError") "__init__") fdg ["self", "code"] (spFE K)) (hb : Binds K fdg ["self", "code"] []) : FnOk P w K mg base CX0 2 f fd ["self"] (spIni K "InvalidGoal") := by
  refine FunD.ok F sc_InvalidGoal_init (fun vs H Q E h => ?_) (fun cdv A outer s0 H vs Q E hr h => ?_)
  · obtain ⟨a, C, rfl, _⟩ := h
    rfl
  obtain ⟨a, C, rfl, hC, hno, ha, q⟩ := h
  refine ⟨_, PSs.nox (pss_one (ps_expr (pe_clsfn (by rfl) T.c_FaultError T.fe.rd ⟨T.fe.at_, rfl⟩ FE hr T.fe.kp hb pass0 (pa_cons (pv 0) (pa_cons pe_str pa_nil))))), ?_⟩
  exact ⟨_, rfl, a, C, _, rfl, hC, hno, ha, q⟩
theorem fn_TooManyTerms {f : Addr} {fd fdg : FuncData} (F : FunD K "__init__" "TooManyTerms.__init__" (defArgs s_TooManyTerms_init) (defBody s_TooManyTerms_init) (defScope s_TooManyTerms_init) [] [] f fd) (T : Top K mg)
    (FE : FnOk P w K mg base CX0 1 (He.ma K (He.ga K "FaultError") "__init__") fdg ["self", "code"] (spFE K)) (hb : Binds K fdg ["self", "code"] []) : FnOk P w K mg base CX0 2 f fd ["self", "count"] (spIni1 K "TooManyTerms" "count") := by
  refine FunD.ok F sc_TooManyTerms_init (fun vs H Q E h => ?_) (fun cdv A outer s0 H vs Q E hr h => ?_)
  · obtain ⟨a, C, y, rfl, _⟩ := h
    rfl
  obtain ⟨a, C, y, rfl, hC, hno, hnf, ha, q⟩ := h
  refine ⟨_, PSs.nox (pss_cons (ps_expr (pe_clsfn (by rfl) T.c_FaultError T.fe.rd ⟨T.fe.at_, rfl⟩ FE hr T.fe.kp hb pass0 (pa_cons (pv 0) (pa_cons pe_str pa_nil)))) (pss_one (ps_ost (pv 0) (pv 1)))), ?_⟩
  refine ⟨_, rfl, a, C, _, rfl, hC, hno, ha, fun dx hdx hne => ?_⟩
  exact ⟨_, rfl, _, rfl, a, C, rfl, hC, hnf, .inr ⟨dx, [("code", .str "TooManyTerms")], upd_same, by rw [upd_ne hne, upd_same], (show 1 ≤ 900 by decide), q dx hdx hne⟩⟩
end
end FF
namespace FF
open PySem PySem.Spec PyProof.Rows L2
section
variable {P : Program} {w : World} {K : PySem.W.Frag} {mg : Str → Option Value} {base : Heap}
/-- is_letter(value): for data -/
def spIsLetter (K : PySem.W.Frag) : Sp := fun vs H Q _ => ∃ (v : V) (d : PyData), vs = [v] ∧ Dp K H v d ∧ nice d = true ∧ Q (.bl (isLet d)) H
theorem ok_is_letter {f : Addr} {fd : FuncData} (F : FunD K "is_letter" "is_letter" (defArgs s_is_letter) (defBody s_is_letter) (defScope s_is_letter) [] [] f fd) (hm : mg "is_letter" = some (.ref f)) (T : Top K mg) : Def P w K mg base "is_letter" 1 ["value"] (spIsLetter K) := by
  refine def_mk F hm (F.bindsN fun _ _ _ _ _ _ us hl => match us, hl with | [_], _ => rfl) sc_is_letter (fun vs H Q E h => ?_) (fun cdv A outer s H vs Q E hr h => ?_)
  · obtain ⟨v, d, rfl, _⟩ := h
    rfl
  obtain ⟨v, d, rfl, hd, hn, q⟩ := h
  refine ⟨_, (pss_one (ps_ret (pe_and (pe_callB (call_isK K kb_str) (by rfl) T.b_isinstance (by decide +kernel) (pa_cons (pv 0) (pa_cons (pe_bltn (v := .ty "str") (by rfl) T.b_str (by decide +kernel) rfl) pa_nil))) (pe_and (pe_cmpR op_eq (pe_callB (call_lenK K) (by rfl) T.b_len (by decide +kernel) (pa_cons (pv 0) pa_nil)) pe_int (nomark _)) (pe_one (pe_cmpR op_in_sign (pv 0) (pe_gs T.g_LETTERS) rfl)))))), ?_⟩
  refine ⟨_, rfl, v, d, rfl, hd, _, rfl, ?_⟩
  cases hd with
  | str z =>
    refine iteT ⟨_, rfl, _, z.length, rfl, ⟨nice_str hn, rfl⟩, rfl, _, rfl, ?_⟩
    refine if_int (fun h1 => ?_) (fun h1 => ?_)
    · obtain ⟨c, rfl⟩ := len1 (z := z) (by omega)
      exact ⟨_, rfl, c, lettersS, rfl, rfl, q⟩
    · rw [show isLet (.str z) = false from isLetS_no (by omega)] at q
      exact q
  | non => exact iteF q
  | bl b => exact iteF q
  | int i => exact iteF q
  | lst _ _ => exact iteF q
  | tup _ _ => exact iteF q
/-- measured(value, max_depth), below n deep -/
def spMeasured (K : PySem.W.Frag) (n : Nat) : Sp := fun vs H Q _ => ∃ (v : V) (d : PyData) (m : Int), vs = [v, .int m] ∧ Dp K H v d ∧ nice d = true ∧ m.toNat < n ∧ ∀ H', Same H H' → Q (.int (meas m.toNat d)) H'
theorem inv_op {z : Str} : inV (.str z) [.str ("&" : Str), .str ("|" : Str)] = isOp (.str z) := by
  show ((("&" : Str) == z) || ((("|" : Str) == z) || false)) = (decide (z = ("&" : Str)) || decide (z = ("|" : Str)))
  rw [Bool.or_false, Bool.beq_comm (a := ("&" : Str)), Bool.beq_comm (a := ("|" : Str)), Bool.beq_eq_decide_eq, Bool.beq_eq_decide_eq]
theorem flat_ints (ns : List Int) : (ns.map V.int).all flatV = true := by
  rw [List.all_eq_true]
  intro v hv
  obtain ⟨n, _, rfl⟩ := List.mem_map.mp hv
  rfl
theorem in_ints {i : Int} {ns : List Int} : inV (.int i) (ns.map V.int) = decide (i ∈ ns) := by
  unfold inV
  rw [List.any_map]
  induction ns with
  | nil => rfl
  | cons n ns ih =>
    rw [List.any_cons, ih]
    show ((n == i) || decide (i ∈ ns)) = decide (i ∈ n :: ns)
    by_cases h : i = n
    · subst h; simp
    · have : (n == i) = false := beq_eq_false_iff_ne.mpr (fun z => h z.symm)
      rw [this, Bool.false_or]
      simp [h]
theorem ok_measured_step {n : Nat} {f : Addr} {fd : FuncData} (F : FunD K "measured" "measured" (defArgs s_measured) (defBody s_measured) (defScope s_measured) [] [] f fd) (hm : mg "measured" = some (.ref f)) (T : Top K mg) (D_is_letter : Def P w K mg base "is_letter" 1 ["value"] (spIsLetter K))
    (D_measured : Def P w K mg base "measured" (n + 1) ["value", "max_depth"] (spMeasured K n)) : Def P w K mg base "measured" (n + 2) ["value", "max_depth"] (spMeasured K (n + 1)) := by
  refine def_mk F hm (F.bindsN fun _ _ _ _ _ _ us hl => match us, hl with | [_, _], _ => rfl) sc_measured (fun vs H Q E h => ?_) (fun cdv A outer s H vs Q E hr h => ?_)
  · obtain ⟨v, d, m, rfl, _⟩ := h
    rfl
  obtain ⟨v, d, m, rfl, hd, hn, hm, q⟩ := h
  refine ⟨_, (pss_cons (ps_if (pt_val (pe_def D_is_letter hr (by first | decide | omega) (pa_cons (pv 0) pa_nil)))
  (pss_one (ps_ret (pe_callTy call_int1 (by rfl) T.b_int (by decide +kernel) (pa_cons (pe_cmpR op_gt (pv 1) pe_int (nomark _)) pa_nil))))
  pss_nil)
  (pss_cons (ps_if (PW.pt (pw_or (pt_cmpR op_lt (pv 1) pe_int (nomark _)) (pw_or (pt_not (pt_val (pe_callB (call_isK K kb_tup) (by rfl) T.b_isinstance (by decide +kernel) (pa_cons (pv 0) (pa_cons (pe_bltn (v := .ty "tuple") (by rfl) T.b_tuple (by decide +kernel) rfl) pa_nil))))) (pw_or1 (pt_cmpR op_lt (pe_callB (call_lenK K) (by rfl) T.b_len (by decide +kernel) (pa_cons (pv 0) pa_nil)) pe_int (nomark _))))))
  (pss_one (ps_ret pe_int))
  pss_nil)
  (pss_cons (ps_if (PW.pt (pw_or (pt_not (pt_val (pe_callB (call_isK K kb_str) (by rfl) T.b_isinstance (by decide +kernel) (pa_cons (pe_ix (ix_tupK K) (pv 0) pe_int (fun _ _ => rfl)) (pa_cons (pe_bltn (v := .ty "str") (by rfl) T.b_str (by decide +kernel) rfl) pa_nil))))) (pw_or1 (pt_cmpR (op_notIn_seqK K) (pe_ix (ix_tupK K) (pv 0) pe_int (fun _ _ => rfl)) (pe_gT T.g_OPERATORS) (by rfl)))))
  (pss_one (ps_ret pe_int))
  pss_nil)
  (pss_cons (ps_setLc (i := 2) (own := [("part", 3)]) rfl sc_measured.nd rfl rfl (sw_true rfl rfl rfl (by kernel_rfl)) (pi_tupK K (pe_slice (sl_tupK K) (pv 0) (po_some pe_int) po_none)) (blkOk_by (by kernel_rfl)) (fun _ _ _ _ _ => (pg_name (i := 3) sc_measured.nd rfl (Or.inl rfl) (.inr rfl))) (fun _ _ _ _ _ => pts_nil) (fun _ _ _ _ _ => (pe_def D_measured hr (by first | decide | omega) (pa_cons (pv 3) (pa_cons (pe_op op_sub (pv 1) pe_int) pa_nil)))))
  (pss_one (ps_ret (pe_ifExp (pt_cmpR (op_in_seqK K) pe_int (pv 2) (by rfl)) pe_int (pe_callB (cr_sumK K rfl) (by rfl) T.b_sum (by decide +kernel) (pa_cons (pv 2) pa_nil))))))))), ?_⟩
  refine ⟨_, rfl, v, d, rfl, hd, hn, _, rfl, ?_⟩
  refine if_b (fun hl => ?_) (fun hl => ?_)
  · refine ⟨_, rfl, _, _, rfl, rfl, .inr ⟨_, rfl, ?_⟩⟩
    refine qi (q H (Same.refl H)) ?_
    rw [meas_let hl]
    by_cases h0 : 0 < m
    · rw [if_pos (by omega), if_pos (decide_eq_true h0)]
    · rw [if_neg (by omega), if_neg (by simpa using h0)]
  refine ⟨_, rfl, _, _, rfl, rfl, _, rfl, ?_⟩
  refine if_dec (fun h2 => ?_) (fun h2 => ?_)
  · exact (qi (q H (Same.refl H)) (meas_low hl (by omega)))
  obtain ⟨k, hk⟩ : ∃ k, m.toNat = k + 2 := ⟨m.toNat - 2, by omega⟩
  rw [hk] at q hm
  have no : measP (meas (k + 1)) d = 0 → Q (.int 0) H := fun e => qi (q H (Same.refl H)) (by rw [meas_up hl (by omega), e])
  refine ⟨_, rfl, v, d, rfl, hd, _, rfl, ?_⟩
  cases hd with
  | tup ht ha =>
    rename_i a xs ds
    refine ⟨_, rfl, _, xs.length, rfl, .inr ⟨xs, ht, rfl⟩, _, _, rfl, rfl, _, rfl, ?_⟩
    have hlen := da_len ha
    refine if_dec (fun h3 => ?_) (fun h3 => ?_)
    · refine no ?_
      match ds, hlen with
      | [], _ => rfl
      | [_], _ => rfl
      | [_, _], _ => rfl
      | _ :: _ :: _ :: _, e => simp at e; omega
    have h4 : 3 ≤ ds.length := by omega
    match ds, ha, h4 with
    | [], _, e => exact absurd e (by simp)
    | [_], _, e => exact absurd e (by simp)
    | [_, _], _, e => exact absurd e (by simp)
    | x :: y :: z :: r, .cons (v := vx) (vs := vr) hx hp, e =>
    refine ⟨_, rfl, a, _, _, vx, rfl, rfl, ht, at0, _, x, rfl, hx, _, rfl, ?_⟩
    have noOp : isOp x = false → Q (.int 0) H := fun e => no (by show (if isOp x = true then _ else _) = _; rw [if_neg (by rw [e]; decide)])
    refine if_nb (fun h5 => ?_) (fun h5 => ?_)
    · exact noOp (by cases x <;> first | rfl | cases h5)
    cases hx with
    | str zx =>
    refine ⟨_, rfl, a, _, _, _, rfl, rfl, ht, at0, _, _, rfl, .inr (T.t_OPERATORS H), rfl, rfl, _, rfl, ?_⟩
    refine if_nb (fun h6 => ?_) (fun h6 => ?_)
    · exact noOp (inv_op.symm.trans h6)
    refine ⟨_, rfl, _, rfl, a, _, rfl, ht, notWhole1, fun p hp0 => ⟨p, rfl, ⟨_, SqT.of upd_same⟩, fun D hD => ?_⟩⟩
    rw [cut1] at hD ⊢
    have e1 := same_new hp0 (.tup vr)
    refine lc_mapT (j := 3) (fun i u _ => ∃ d, (y :: z :: r)[i]? = some d ∧ u = .int (meas (k + 1) d)) (fun _ _ _ _ _ h => h) hD (SqT.of upd_same) ?_ (fun _ => rfl) ?_ ?_
    · have := nice_tl hn
      have := da_len hp
      exact le_line (by simp at *; omega)
    · intro i x H2 hx e2 Q' k'
      obtain ⟨d, hd1, hd2⟩ := da_get hp hx
      refine ⟨_, rfl, _, rfl, _, _, rfl, rfl, x, d, m - 1, rfl, up_d (e1.trans e2) hd2, nice_ti hn (List.mem_cons_of_mem _ (List.mem_of_getElem? hd1)), by omega, fun H' e3 => k' _ _ e3 ⟨d, hd1, ?_⟩⟩
      rw [show (m - 1).toNat = k + 1 by omega]
    · intro H2 ys e2 hD2 hl2 hy
      have hmap : ys = ((y :: z :: r).map (meas (k + 1))).map V.int := by
        rw [List.map_map]
        exact eq_map_of (hl2.trans (da_len hp)) fun i u hu => hy i u hu
      subst hmap
      refine ⟨_, rfl, D, _, rfl, .inl (SqL.of hD2), rfl, flat_ints _, _, rfl, ?_⟩
      have e3 := e1.trans e2
      have fin := q H2 e3
      rw [meas_up hl (by omega)] at fin
      have fin2 : Q (.int (if (0 : Int) ∈ ((y :: z :: r).map (meas (k + 1))) then 0 else ((y :: z :: r).map (meas (k + 1))).sum)) H2 := by
        refine qi fin ?_
        show (if isOp (.str zx) = true then _ else _) = _
        rw [if_pos (inv_op.symm.trans h6)]
      show (if (inV (.int 0) (((y :: z :: r).map (meas (k + 1))).map V.int)) = true then _ else _)
      rw [in_ints]
      refine if_dec (fun h7 => ?_) (fun h7 => ?_)
      · rw [if_pos h7] at fin2
        exact fin2
      · rw [if_neg h7] at fin2
        exact ⟨_, rfl, D, _, rfl, SqL.of hD2, fin2⟩
    | _ => cases h5
  | str z => exact no rfl
  | non => exact no rfl
  | bl b => exact no rfl
  | int i => exact no rfl
  | lst _ _ => exact no rfl
end
end FF
namespace FF
open PySem PySem.Spec PyProof.Rows L2
abbrev inB (m s : Int) : Bool := decide (1 ≤ m) && decide (m ≤ s)
def spIsTerm (K : PySem.W.Frag) : Sp := fun vs H Q _ => ∃ (v : V) (d : PyData) (md ms : Int), vs = [v, .int md, .int ms] ∧ Dp K H v d ∧ nice d = true ∧ md.toNat < 11 ∧ ∀ H', Same H H' → Q (.bl (inB (meas md.toNat d) ms)) H'
section
variable {P : Program} {w : World} {K : PySem.W.Frag} {mg : Str → Option Value} {base : Heap}
theorem fn_is_term {f : Addr} {fd : FuncData} (F : FunD K "is_term" "is_term" (defArgs s_is_term) (defBody s_is_term) (defScope s_is_term) [] [("max_depth", .int 5), ("max_size", .int 24)] f fd) (T : Top K mg)
    (D_measured : Def P w K mg base "measured" 12 ["value", "max_depth"] (spMeasured K 11)) : FnOk P w K mg base CX0 13 f fd ["value", "max_depth", "max_size"] (spIsTerm K) := by
  refine fn_mk F sc_is_term (fun vs H Q E h => ?_) (fun cdv A outer s H vs Q E hr h => ?_)
  · obtain ⟨v, d, md, ms, rfl, _⟩ := h
    rfl
  obtain ⟨v, d, md, ms, rfl, hd, hn, h10, q⟩ := h
  refine ⟨_, (pss_one (ps_ret (pe_chain op_le op_le pe_int (pe_def D_measured hr (by first | decide | omega) (pa_cons (pv 0) (pa_cons (pv 1) pa_nil))) (pv 2)))), ?_⟩
  refine ⟨_, rfl, _, rfl, v, d, md, rfl, hd, hn, h10, fun H1 e => ?_⟩
  refine ⟨_, _, rfl, rfl, _, rfl, ?_⟩
  have q1 := q H1 e
  refine if_dec (fun h1 => ?_) (fun h1 => ?_)
  · refine ⟨_, rfl, _, _, rfl, rfl, qb q1 ?_⟩
    show (decide (1 ≤ meas md.toNat d) && decide (meas md.toNat d ≤ ms)) = decide (meas md.toNat d ≤ ms)
    rw [decide_eq_true (show (1 : Int) ≤ meas md.toNat d from h1), Bool.true_and]
  · refine qb q1 ?_
    show (decide (1 ≤ meas md.toNat d) && decide (meas md.toNat d ≤ ms)) = false
    rw [decide_eq_false (show ¬ (1 : Int) ≤ meas md.toNat d from h1), Bool.false_and]
section
variable {f : Addr} {fd : FuncData} (F : FunD K "is_term" "is_term" (defArgs s_is_term) (defBody s_is_term) (defScope s_is_term) [] [("max_depth", .int 5), ("max_size", .int 24)] f fd)
theorem bind_a (F : FunD K "is_term" "is_term" (defArgs s_is_term) (defBody s_is_term) (defScope s_is_term) [] [("max_depth", .int 5), ("max_size", .int 24)] f fd) : ∃ ds, Vals [.int 5, .int 24] ds ∧ Binds K fd ["value", "max_depth", "max_size"] ds :=
  F.binds0 1 (by simp) rfl fun D doc pm an cdv ct us ks hu hk => match us, ks, hu, hk with
    | [_], [_, _], _, _ => ⟨_, _, _, _, _, _, rfl, rfl, _, _, _, _, _, _, rfl, rfl, rfl⟩
end
end
end FF
namespace FF
open PySem PySem.Spec PyProof.Rows L2
section
variable {P : Program} {w : World} {K : PySem.W.Frag} {mg : Str → Option Value} {base : Heap}
end
end FF
namespace FF
open PySem PySem.Spec PyProof.Rows L2
def partT (f : PyData → Str) : PyData → Str
  | .str z => z
  | p => ("(" : Str) ++ f p ++ ")"
/-- the text of a term, at most n deep -/
def textD : Nat → PyData → Str
  | 0, _ => ""
  | n + 1, d => match d with
    | .str z => z
    | .tuple (.str o :: ps) => Txt.join ((" " : Str) ++ o ++ " ") (ps.map (partT (textD n)))
    | _ => ""
def spText (K : PySem.W.Frag) (n : Nat) : Sp := fun vs H Q _ => ∃ (v : V) (d : PyData) (m : Nat), vs = [v] ∧ Tp K H v d ∧ Drawn m d ∧ m < n ∧ n ≤ 7 ∧ ∀ H', Same H H' → Q (.str (textD (m + 1) d)) H'
theorem drawn_shape {m : Nat} {d : PyData} (h : Drawn m d) : (∃ z, d = .str z ∧ isLet d = true) ∨ ∃ o ps k, d = .tuple (.str o :: ps) ∧ isOp (.str o) = true ∧ 2 ≤ ps.length ∧ ps.length ≤ 8 ∧ m = k + 1 ∧ ∀ p ∈ ps, Drawn k p := by
  have lt : isLet d = true → ∃ z, d = .str z ∧ isLet d = true := fun hl => by
    cases d with
    | str z => exact ⟨z, rfl, hl⟩
    | _ => cases hl
  match m, h with
  | 0, h => exact .inl (lt h)
  | k + 1, .inl h => exact .inl (lt h)
  | k + 1, .inr ⟨o, ps, e, ho, h2, h4, hp⟩ =>
    cases o with
    | str z => exact .inr ⟨z, ps, k, e, ho, h2, h4, rfl, hp⟩
    | _ => cases ho
theorem tpa_get {K : PySem.W.Frag} {H : Hp} : ∀ {vs : List V} {ds : List PyData} {i : Nat} {v : V}, TpAll K H vs ds → vs[i]? = some v → ∃ d, ds[i]? = some d ∧ Tp K H v d
  | _, _, 0, _, .cons h _, e => by cases e; exact ⟨_, rfl, h⟩
  | _, _, i + 1, _, .cons _ t, e => tpa_get (i := i) t e
theorem sum_le {f : PyData → Str} {B : Nat} : ∀ {l : List PyData}, (∀ p ∈ l, (f p).length ≤ B) → ((l.map f).map (·.length)).sum ≤ l.length * B
  | [], _ => Nat.zero_le _
  | x :: r, h => by
    have h1 := h x List.mem_cons_self
    have h2 := sum_le (l := r) fun p hp => h p (List.mem_cons_of_mem _ hp)
    rw [List.map_cons, List.map_cons, List.sum_cons, List.length_cons, Nat.succ_mul]
    omega
theorem sep_len {o : Str} (ho : isOp (.str o) = true) : ((" " : Str) ++ o ++ " ").length = 3 := by
  rcases op_shape ho with h | h
  · rw [PyData.str.inj h]
    decide +kernel
  · rw [PyData.str.inj h]
    decide +kernel
theorem app_len (a b : Str) : (a ++ b).length = a.length + b.length := by
  show (a.cps ++ b.cps).size = _
  rw [Array.size_append] <;> rfl
theorem text_len : ∀ {n : Nat} {d : PyData}, Drawn n d → (textD (n + 1) d).length + 7 ≤ 8 * 8 ^ n := by
  have lt : ∀ {z : Str}, isLet (.str z) = true → z.length = 1 := fun {z} h => by
    obtain ⟨c, e, _⟩ := let_shape h
    rw [PyData.str.inj e] <;> rfl
  intro n
  induction n with
  | zero =>
    intro d h
    rcases drawn_shape h with ⟨z, rfl, hz⟩ | ⟨_, _, _, _, _, _, _, e, _⟩
    · show z.length + 7 ≤ _
      rw [lt hz]
      decide
    · cases e
  | succ n ih =>
    intro d h
    have p1 : 1 ≤ 8 ^ n := Nat.one_le_pow _ _ (by decide)
    rcases drawn_shape h with ⟨z, rfl, hz⟩ | ⟨o, ps, k, rfl, ho, l2, l4, e, hp⟩
    · show z.length + 7 ≤ _
      rw [lt hz, Nat.pow_succ]
      omega
    · cases e
      have hs : ∀ p ∈ ps, (partT (textD (n + 1)) p).length ≤ 8 * 8 ^ n - 5 := fun p hpp => by
        have h1 := ih (hp p hpp)
        rcases drawn_shape (hp p hpp) with ⟨z, rfl, hz⟩ | ⟨o2, ps2, _, rfl, _⟩
        · show z.length ≤ _
          rw [lt hz]
          omega
        · show (("(" : Str) ++ textD (n + 1) _ ++ ")").length ≤ _
          rw [app_len, app_len]
          have e1 : ("(" : Str).length = 1 := by decide +kernel
          have e2 : (")" : Str).length = 1 := by decide +kernel
          omega
      have hj := StrLaws.join_length_le ((" " : Str) ++ o ++ " ") (ps.map (partT (textD (n + 1))))
      have hsum := sum_le hs
      rw [sep_len ho, List.length_map] at hj
      show (Txt.join ((" " : Str) ++ o ++ " ") (ps.map (partT (textD (n + 1))))).length + 7 ≤ _
      have hj2 : (Txt.join ((" " : Str) ++ o ++ " ") (ps.map (partT (textD (n + 1))))).length ≤ ((ps.map (partT (textD (n + 1)))).map (·.length)).sum + ps.length * 3 := by
        rw [TL.join_eq]
        exact hj
      have hm : ps.length * (8 * 8 ^ n - 5) ≤ 8 * (8 * 8 ^ n - 5) := Nat.mul_le_mul_right _ l4
      rw [Nat.pow_succ]
      omega
section
variable {P : Program} {w : World} {K : PySem.W.Frag} {mg : Str → Option Value} {base : Heap}
theorem ok_text_of_step {n : Nat} {f : Addr} {fd : FuncData} (F : FunD K "text_of" "text_of" (defArgs s_text_of) (defBody s_text_of) (defScope s_text_of) [] [] f fd) (hm : mg "text_of" = some (.ref f)) (T : Top K mg)
    (D_text_of : Def P w K mg base "text_of" n ["term"] (spText K n)) : Def P w K mg base "text_of" (n + 1) ["term"] (spText K (n + 1)) := by
  refine def_mk F hm (F.bindsN fun _ _ _ _ _ _ us hl => match us, hl with | [_], _ => rfl) sc_text_of (fun vs H Q E h => ?_) (fun cdv A outer s H vs Q E hr h => ?_)
  · obtain ⟨v, d, m, rfl, _⟩ := h
    rfl
  obtain ⟨v, d, m, rfl, hd, hdr, hmn, hn10, q⟩ := h
  refine ⟨_, (pss_cons (ps_if (pt_val (pe_callB (call_isK K kb_str) (by rfl) T.b_isinstance (by decide +kernel) (pa_cons (pv 0) (pa_cons (pe_bltn (v := .ty "str") (by rfl) T.b_str (by decide +kernel) rfl) pa_nil))))
  (pss_one (ps_ret (pv 0)))
  pss_nil)
  (pss_cons (ps_asg (pv 0) (pg_star2 rfl (pgs_cons (pg_name (i := 1) sc_text_of.nd rfl (Or.inl rfl) (.inl rfl)) (pgs_cons (pg_name (i := 2) sc_text_of.nd rfl (Or.inl rfl) (.inl rfl)) pgs_nil))))
  (pss_cons (ps_setLc (i := 3) (own := [("part", 4)]) rfl sc_text_of.nd rfl rfl (sw_true rfl rfl rfl (by kernel_rfl)) (pi_listK K (pv 2)) (blkOk_by (by kernel_rfl)) (fun _ _ _ _ _ => (pg_name (i := 4) sc_text_of.nd rfl (Or.inl rfl) (.inr rfl))) (fun _ _ _ _ _ => pts_nil) (fun _ _ _ _ _ => (pe_ifExp (pt_val (pe_callB (call_isK K kb_str) (by rfl) T.b_isinstance (by decide +kernel) (pa_cons (pv 4) (pa_cons (pe_bltn (v := .ty "str") (by rfl) T.b_str (by decide +kernel) rfl) pa_nil)))) (pv 4) (pe_joined (PJ.cons pe_str (PJ.cons (pe_fmt (pe_def D_text_of hr (by first | decide | omega) (pa_cons (pv 4) pa_nil))) (PJ.cons pe_str PJ.nil)))))))
  (pss_one (ps_ret (pe_joinK K (pe_joined (PJ.cons pe_str (PJ.cons (pe_fmt (pv 1)) (PJ.cons pe_str PJ.nil)))) (pv 3))))))), ?_⟩
  refine ⟨_, rfl, v, d, rfl, hd.dp, _, rfl, ?_⟩
  rcases drawn_shape hdr with ⟨z, rfl, _⟩ | ⟨o, ps, k, rfl, ho, l2, l4, rfl, hps⟩
  · cases hd with
    | str z => exact iteT ⟨_, rfl, q H (Same.refl H)⟩
  cases hd with
  | tup ht ha =>
  cases ha with
  | @cons vo vr _ _ hvo hvr =>
  rename_i a
  cases hvo with
  | str o =>
  refine iteF ?_
  refine ⟨_, rfl, a, .str o, vr, rfl, ht.sqT, fun p hp => ?_⟩
  have e1 := same_new hp (.lst vr)
  have lr := hvr.len
  have p4 : 8 ^ k ≤ 8 ^ 5 := Nat.pow_le_pow_right (by decide) (by omega)
  have hB : ∀ {n : Nat}, n ≤ 8 * 8 ^ 5 + 100 → n ≤ sizeLine := fun h => Nat.le_trans h (by decide +kernel)
  refine ⟨.str o, [.ref p], rfl, .ref p, [], rfl, rfl, ?_⟩
  refine ⟨_, rfl, p, rfl, ⟨_, SqL.of upd_same⟩, fun D hD => ?_⟩
  refine lc_mapL (j := 4) (fun i u _ => ∃ d, ps[i]? = some d ∧ u = .str (partT (textD (k + 1)) d)) (fun _ _ _ _ _ h => h) hD (SqL.of upd_same) (le_line (by omega)) (fun _ => rfl) ?_ ?_
  · intro i x H2 hx e2 Q' k'
    obtain ⟨d, hd1, hd2⟩ := tpa_get hvr hx
    have hd3 := (hd2.up (Same.T e1)).up (Same.T e2)
    have hdr2 := hps d (List.mem_of_getElem? hd1)
    have tl := text_len hdr2
    refine ⟨_, rfl, x, d, rfl, hd3.dp, _, rfl, ?_⟩
    rcases drawn_shape hdr2 with ⟨z, rfl, _⟩ | ⟨o2, ps2, k2, rfl, _⟩
    · cases hd3 with
      | str z => exact iteT ⟨_, rfl, k' _ _ (Same.refl _) ⟨_, hd1, rfl⟩⟩
    · refine iteF ?_
      refine ⟨"(", rfl, by decide +kernel, _, rfl, x, _, k, rfl, hd3, hdr2, by omega, by omega, fun H3 e3 => .inl ⟨_, rfl, hB (by omega), _, rfl, ?_, ")", rfl, ?_, k' _ _ e3 ⟨_, hd1, ?_⟩⟩⟩
      · rw [app_len]
        have h1 : (Str.empty ++ ("(" : Str)).length = 1 := by decide +kernel
        exact hB (by omega)
      · rw [app_len, app_len]
        have h1 : (Str.empty ++ ("(" : Str)).length = 1 := by decide +kernel
        have h2 : (")" : Str).length = 1 := by decide +kernel
        exact hB (by omega)
      · rfl
  intro H2 ys e2 hD2 hl2 hy
  have hmap : ys = (ps.map (partT (textD (k + 1)))).map V.str := by
    rw [List.map_map]
    exact eq_map_of (hl2.trans lr) fun i u hu => hy i u hu
  subst hmap
  have q2 := q H2 (e1.trans e2)
  have ev : textD (k + 1 + 1) (.tuple (.str o :: ps)) = Txt.join ((" " : Str) ++ o ++ " ") (ps.map (partT (textD (k + 1)))) := rfl
  rw [ev] at q2
  have sl := sep_len ho
  have hs0 : Str.empty ++ (" " : Str) = (" " : Str) := by decide +kernel
  have lo : o.length = 1 := by
    rcases op_shape ho with h | h
    · rw [PyData.str.inj h]
      decide +kernel
    · rw [PyData.str.inj h]
      decide +kernel
  have l1 : (" " : Str).length = 1 := by decide +kernel
  refine ⟨" ", rfl, by decide +kernel, _, rfl, .inl ⟨o, rfl, hB (by omega), o, rfl, ?_, " ", rfl, ?_, ⟨_, rfl⟩, _, rfl, _, D, ps.map (partT (textD (k + 1))), rfl, rfl, .inl (SqL.of hD2), ?_, ?_⟩⟩
  · rw [hs0, app_len]
    exact hB (by omega)
  · rw [hs0, sl]
    exact hB (by omega)
  · rw [hs0, sl, List.length_map]
    have hs : ∀ p ∈ ps, (partT (textD (k + 1)) p).length ≤ 8 * 8 ^ k + 2 := fun p hpp => by
      have h1 := text_len (hps p hpp)
      rcases drawn_shape (hps p hpp) with ⟨z, rfl, hz⟩ | ⟨o2, ps2, _, rfl, _⟩
      · have h2 : textD (k + 1) (.str z) = z := rfl
        rw [h2] at h1
        show z.length ≤ _
        omega
      · show (("(" : Str) ++ textD (k + 1) _ ++ ")").length ≤ _
        rw [app_len, app_len]
        have e1 : ("(" : Str).length = 1 := by decide +kernel
        have e2 : (")" : Str).length = 1 := by decide +kernel
        omega
    have hsum := sum_le hs
    have hm : ps.length * (8 * 8 ^ k + 2) ≤ 8 * (8 * 8 ^ k + 2) := Nat.mul_le_mul_right _ l4
    omega
  · rw [hs0]
    exact q2
end
end FF
namespace FF
open PySem PySem.Spec PyProof.Rows L2
section
variable {P : Program} {w : World} {K : PySem.W.Frag} {mg : Str → Option Value} {base : Heap}
theorem ok_law_text_step {n : Nat} {f : Addr} {fd : FuncData} (F : FunD K "_law_text" "_law_text" (defArgs s_law_text) (defBody s_law_text) (defScope s_law_text) [] [] f fd) (hm : mg "_law_text" = some (.ref f)) (T : Top K mg)
    (D_law_text : Def P w K mg base "_law_text" n ["_law_word"] (spText K n)) : Def P w K mg base "_law_text" (n + 1) ["_law_word"] (spText K (n + 1)) := by
  refine def_mk F hm (F.bindsN fun _ _ _ _ _ _ us hl => match us, hl with | [_], _ => rfl) sc_law_text (fun vs H Q E h => ?_) (fun cdv A outer s H vs Q E hr h => ?_)
  · obtain ⟨v, d, m, rfl, _⟩ := h
    rfl
  obtain ⟨v, d, m, rfl, hd, hdr, hmn, hn10, q⟩ := h
  refine ⟨_, (pss_cons (ps_if (pt_val (pe_callB (call_isK K kb_str) (by rfl) T.b_isinstance (by decide +kernel) (pa_cons (pv 0) (pa_cons (pe_bltn (v := .ty "str") (by rfl) T.b_str (by decide +kernel) rfl) pa_nil))))
  (pss_one (ps_ret (pv 0)))
  pss_nil)
  (pss_cons (ps_setLc (i := 1) (own := [("_law_one", 2)]) rfl sc_law_text.nd rfl rfl (sw_true rfl rfl rfl (by kernel_rfl)) (pi_tupK K (pe_slice (sl_tupK K) (pv 0) (po_some pe_int) po_none)) (blkOk_by (by kernel_rfl)) (fun _ _ _ _ _ => (pg_name (i := 2) sc_law_text.nd rfl (Or.inl rfl) (.inr rfl))) (fun _ _ _ _ _ => pts_nil) (fun _ _ _ _ _ => (pe_ifExp (pt_val (pe_callB (call_isK K kb_str) (by rfl) T.b_isinstance (by decide +kernel) (pa_cons (pv 2) (pa_cons (pe_bltn (v := .ty "str") (by rfl) T.b_str (by decide +kernel) rfl) pa_nil)))) (pv 2) (pe_op op_add_str (pe_op op_add_str pe_str (pe_def D_law_text hr (by first | decide | omega) (pa_cons (pv 2) pa_nil))) pe_str))))
  (pss_one (ps_ret (pe_joinK K (pe_op op_add_str (pe_op op_add_str pe_str (pe_ix (ix_tupK K) (pv 0) pe_int (fun _ _ => rfl))) pe_str) (pv 1)))))), ?_⟩
  refine ⟨_, rfl, v, d, rfl, hd.dp, _, rfl, ?_⟩
  rcases drawn_shape hdr with ⟨z, rfl, _⟩ | ⟨o, ps, k, rfl, ho, l2, l4, rfl, hps⟩
  · cases hd with
    | str z => exact iteT ⟨_, rfl, q H (Same.refl H)⟩
  cases hd with
  | tup ht ha =>
  cases ha with
  | @cons vo vr _ _ hvo hvr =>
  rename_i a
  cases hvo with
  | str o =>
  refine iteF ?_
  have lr := hvr.len
  have p4 : 8 ^ k ≤ 8 ^ 5 := Nat.pow_le_pow_right (by decide) (by omega)
  have hB : ∀ {n : Nat}, n ≤ 8 * 8 ^ 5 + 100 → n ≤ sizeLine := fun h => Nat.le_trans h (by decide +kernel)
  refine ⟨_, rfl, _, rfl, a, _, rfl, ht.sqT, notWhole1, fun p hp0 => ⟨p, rfl, ⟨_, SqT.of upd_same⟩, fun D hD => ?_⟩⟩
  rw [cut1] at hD ⊢
  have e1 := same_new hp0 (.tup vr)
  refine lc_mapT (j := 2) (fun i u _ => ∃ d, ps[i]? = some d ∧ u = .str (partT (textD (k + 1)) d)) (fun _ _ _ _ _ h => h) hD (SqT.of upd_same) (le_line (by omega)) (fun _ => rfl) ?_ ?_
  · intro i x H2 hx e2 Q' k'
    obtain ⟨d, hd1, hd2⟩ := tpa_get hvr hx
    have hd3 := (hd2.up (Same.T e1)).up (Same.T e2)
    have hdr2 := hps d (List.mem_of_getElem? hd1)
    have tl := text_len hdr2
    refine ⟨_, rfl, x, d, rfl, hd3.dp, _, rfl, ?_⟩
    rcases drawn_shape hdr2 with ⟨z, rfl, _⟩ | ⟨o2, ps2, k2, rfl, _⟩
    · cases hd3 with
      | str z => exact iteT ⟨_, rfl, k' _ _ (Same.refl _) ⟨_, hd1, rfl⟩⟩
    · refine iteF ?_
      refine ⟨_, rfl, x, _, k, rfl, hd3, hdr2, by omega, by omega, fun H3 e3 => ⟨_, _, rfl, rfl, ?_, _, _, rfl, rfl, ?_, k' _ _ e3 ⟨_, hd1, rfl⟩⟩⟩
      · have h1 : ("(" : Str).length = 1 := by decide +kernel
        exact hB (by omega)
      · rw [app_len]
        have h1 : ("(" : Str).length = 1 := by decide +kernel
        have h2 : (")" : Str).length = 1 := by decide +kernel
        exact hB (by omega)
  intro H2 ys e2 hD2 hl2 hy
  have hmap : ys = (ps.map (partT (textD (k + 1)))).map V.str := by
    rw [List.map_map]
    exact eq_map_of (hl2.trans lr) fun i u hu => hy i u hu
  subst hmap
  have q2 := q H2 (e1.trans e2)
  have ev : textD (k + 1 + 1) (.tuple (.str o :: ps)) = Txt.join ((" " : Str) ++ o ++ " ") (ps.map (partT (textD (k + 1)))) := rfl
  rw [ev] at q2
  have sl := sep_len ho
  have lo : o.length = 1 := by
    rcases op_shape ho with h | h
    · rw [PyData.str.inj h]
      decide +kernel
    · rw [PyData.str.inj h]
      decide +kernel
  have l1 : (" " : Str).length = 1 := by decide +kernel
  refine ⟨_, rfl, a, _, _, _, rfl, rfl, up_t (e1.trans e2) ht.sqT, at0, _, _, rfl, rfl, ?_, _, _, rfl, rfl, ?_, ⟨_, rfl⟩, _, rfl, _, D, ps.map (partT (textD (k + 1))), rfl, rfl, .inl (SqL.of hD2), ?_, q2⟩
  · exact hB (by omega)
  · rw [app_len]
    exact hB (by omega)
  · rw [sl, List.length_map]
    have hs : ∀ p ∈ ps, (partT (textD (k + 1)) p).length ≤ 8 * 8 ^ k + 2 := fun p hpp => by
      have h1 := text_len (hps p hpp)
      rcases drawn_shape (hps p hpp) with ⟨z, rfl, hz⟩ | ⟨o2, ps2, _, rfl, _⟩
      · have h2 : textD (k + 1) (.str z) = z := rfl
        rw [h2] at h1
        show z.length ≤ _
        omega
      · show (("(" : Str) ++ textD (k + 1) _ ++ ")").length ≤ _
        rw [app_len, app_len]
        have e1 : ("(" : Str).length = 1 := by decide +kernel
        have e2 : (")" : Str).length = 1 := by decide +kernel
        omega
    have hsum := sum_le hs
    have hm : ps.length * (8 * 8 ^ k + 2) ≤ 8 * (8 * 8 ^ k + 2) := Nat.mul_le_mul_right _ l4
    omega
end
end FF
/-! words of terms: walked, their texts in order -/
namespace FF
open PySem PySem.Spec PyProof.Rows L2
def partsD : PyData → List PyData
  | .tuple (_ :: ps) => ps
  | _ => []
def walkD : Nat → PyData → List PyData
  | 0, d => [d]
  | n + 1, d => d :: (partsD d).flatMap (walkD n)
theorem let_parts {d : PyData} (h : isLet d = true) : partsD d = [] := by
  cases d with
  | str z => rfl
  | _ => cases h
theorem parts_drawn {k : Nat} {d p : PyData} (h : Drawn (k + 1) d) (hp : p ∈ partsD d) : Drawn k p := by
  rcases h with h | ⟨o, ps, rfl, _, _, _, hps⟩
  · rw [let_parts h] at hp
    cases hp
  · exact hps p hp
theorem parts0 {d : PyData} (h : Drawn 0 d) : partsD d = [] := let_parts h
theorem parts_len {n : Nat} {d : PyData} (h : Drawn n d) : (partsD d).length ≤ 8 := by
  cases n with
  | zero =>
    rw [parts0 h]
    decide
  | succ n =>
    rcases h with h | ⟨o, ps, rfl, _, _, h4, _⟩
    · rw [let_parts h]
      decide
    · exact h4
theorem flat_le {f : PyData → List PyData} {B : Nat} : ∀ {l : List PyData}, (∀ p ∈ l, (f p).length ≤ B) → (l.flatMap f).length ≤ l.length * B
  | [], _ => Nat.zero_le _
  | x :: r, h => by
    have h1 := h x List.mem_cons_self
    have h2 := flat_le (l := r) fun p hp => h p (List.mem_cons_of_mem _ hp)
    rw [List.flatMap_cons, List.length_append, List.length_cons, Nat.succ_mul]
    omega
theorem walk_len : ∀ {n : Nat} {d : PyData}, Drawn n d → (walkD (n + 1) d).length + 1 ≤ 2 * 8 ^ n := by
  intro n
  induction n with
  | zero =>
    intro d h
    show (d :: (partsD d).flatMap (walkD 0)).length + 1 ≤ 2
    rw [parts0 h]
    exact Nat.le_refl 2
  | succ n ih =>
    intro d h
    show (d :: (partsD d).flatMap (walkD (n + 1))).length + 1 ≤ _
    have hl := parts_len h
    have h1 : ∀ p ∈ partsD d, (walkD (n + 1) p).length ≤ 2 * 8 ^ n - 1 := fun p hp => by
      have := ih (parts_drawn h hp)
      omega
    have h2 := flat_le h1
    have h3 : (partsD d).length * (2 * 8 ^ n - 1) ≤ 8 * (2 * 8 ^ n - 1) := Nat.mul_le_mul_right _ hl
    have h4 : 1 ≤ 8 ^ n := Nat.one_le_pow _ _ (by decide)
    rw [List.length_cons, Nat.pow_succ]
    omega
theorem walk_drawn : ∀ {n : Nat} {d : PyData}, Drawn n d → ∀ w ∈ walkD (n + 1) d, Drawn n w := by
  intro n
  induction n with
  | zero =>
    intro d h w hw
    have hw : w ∈ d :: (partsD d).flatMap (walkD 0) := hw
    rw [parts0 h] at hw
    rw [List.mem_singleton.mp hw]
    exact h
  | succ n ih =>
    intro d h w hw
    rcases List.mem_cons.mp (show w ∈ d :: (partsD d).flatMap (walkD (n + 1)) from hw) with rfl | hw
    · exact h
    · obtain ⟨p, hp, hw⟩ := List.mem_flatMap.mp hw
      exact drawn_mono (ih (parts_drawn h hp) w hw) (Nat.le_succ _)
/-! ### the texts in order -/
def leS (a b : Str) : Bool := !ltCps b.cps.toList a.cps.toList
theorem leS_trans (a b c : Str) (h1 : leS a b = true) (h2 : leS b c = true) : leS a c = true := by
  unfold leS at *
  rw [ltCps_eq] at *
  simp only [Bool.not_eq_true', decide_eq_false_iff_not, List.not_lt] at *
  exact List.le_trans h1 h2
theorem leS_total (a b : Str) : (leS a b || leS b a) = true := by
  unfold leS
  rw [ltCps_eq, ltCps_eq]
  simp only [Bool.or_eq_true, Bool.not_eq_true', decide_eq_false_iff_not, List.not_lt]
  exact List.le_total _ _
theorem leS_antisymm {a b : Str} (h1 : leS a b = true) (h2 : leS b a = true) : a = b := by
  unfold leS at *
  rw [ltCps_eq] at *
  simp only [Bool.not_eq_true', decide_eq_false_iff_not, List.not_lt] at *
  have := List.le_antisymm h1 h2
  obtain ⟨⟨x⟩⟩ := a
  obtain ⟨⟨y⟩⟩ := b
  cases this
  rfl
theorem rising_all : ∀ {l : List Str} {p : Str}, risingS p l = true → (∀ x ∈ l, leS p x = true) ∧ l.Pairwise fun a b => leS a b = true
  | [], _, _ => ⟨(fun x h => by cases h), List.Pairwise.nil⟩
  | y :: l, p, h => by
    have h : (!ltCps y.cps.toList p.cps.toList && risingS y l) = true := h
    obtain ⟨h1, h2⟩ := Bool.and_eq_true_iff.mp h
    obtain ⟨k1, k2⟩ := rising_all h2
    have k0 : leS p y = true := h1
    refine ⟨fun x hx => ?_, .cons k1 k2⟩
    rcases List.mem_cons.mp hx with rfl | hx
    · exact k0
    · exact leS_trans _ _ _ k0 (k1 x hx)
theorem sorted_pw {l : List Str} (h : sortedS l = true) : l.Pairwise fun a b => leS a b = true := by
  cases l with
  | nil => exact .nil
  | cons x l => exact .cons (rising_all h).1 (rising_all h).2
def sortT (ks : List Str) : List Str := ks.mergeSort leS
theorem sort_eq {ys ks : List Str} (hp : ys.Perm ks) (hs : sortedS ys = true) : ys = sortT ks := by
  refine List.Perm.eq_of_pairwise (le := fun a b => leS a b = true) (fun a b _ _ h1 h2 => leS_antisymm h1 h2) (sorted_pw hs) ?_ (hp.trans (List.mergeSort_perm ks leS).symm)
  exact List.pairwise_mergeSort leS_trans leS_total ks
/-! ### dicts of data by texts -/
abbrev DD := List (Str × PyData)
def ddPut (dd : DD) (k : Str) (v : PyData) : DD := if (dd.any fun e => decide (e.1 = k)) = true then dd.map (fun e => if e.1 = k then (e.1, v) else e) else dd ++ [(k, v)]
def ddGet (dd : DD) (k : Str) : Option PyData := (dd.find? fun e => decide (e.1 = k)).map (·.2)
inductive DRel (K : PySem.W.Frag) (H : Hp) : List (Key × V) → DD → Prop
  | nil : DRel K H [] []
  | cons {k : Str} {v : V} {d : PyData} {kvs : List (Key × V)} {dd : DD} : Tp K H v d → DRel K H kvs dd → DRel K H ((.inr k, v) :: kvs) ((k, d) :: dd)
section
variable {K : PySem.W.Frag} {H H' : Hp}
theorem DRel.up (e : SameT H H') : ∀ {kvs : List (Key × V)} {dd : DD}, DRel K H kvs dd → DRel K H' kvs dd
  | _, _, .nil => .nil
  | _, _, .cons h r => .cons (h.up e) (r.up e)
theorem DRel.keys : ∀ {kvs : List (Key × V)} {dd : DD}, DRel K H kvs dd → kvs.map (·.1) = (dd.map (·.1)).map Sum.inr
  | _, _, .nil => rfl
  | _, _, .cons _ r => by
    show _ :: _ = _ :: _
    rw [r.keys] <;> rfl
theorem DRel.len {kvs : List (Key × V)} {dd : DD} (h : DRel K H kvs dd) : kvs.length = dd.length := by
  have := congrArg List.length h.keys
  simpa using this
theorem DRel.any {k : Str} : ∀ {kvs : List (Key × V)} {dd : DD}, DRel K H kvs dd → (kvs.any fun e => decide (e.1 = Sum.inr k)) = dd.any fun e => decide (e.1 = k)
  | _, _, .nil => rfl
  | _, _, .cons (k := k2) _ r => by
    rw [List.any_cons, List.any_cons, r.any]
    congr 1
    exact decide_eq_decide.mpr ⟨fun e => Sum.inr.inj e, fun e => congrArg Sum.inr e⟩
theorem DRel.repl {k : Str} {v : V} {d : PyData} (h : Tp K H v d) : ∀ {kvs : List (Key × V)} {dd : DD}, DRel K H kvs dd → DRel K H (kvs.map fun e => if e.1 = (Sum.inr k : Key) then (e.1, v) else e) (dd.map fun e => if e.1 = k then (e.1, d) else e)
  | _, _, .nil => .nil
  | _, _, .cons (k := k2) (v := v2) (d := d2) h2 r => by
    rw [List.map_cons, List.map_cons]
    by_cases e : k2 = k
    · subst e
      rw [if_pos rfl, if_pos rfl]
      exact .cons h (r.repl h)
    · rw [if_neg (fun z => e (Sum.inr.inj z)), if_neg e]
      exact .cons h2 (r.repl h)
theorem DRel.snoc {k : Str} {v : V} {d : PyData} (h : Tp K H v d) : ∀ {kvs : List (Key × V)} {dd : DD}, DRel K H kvs dd → DRel K H (kvs ++ [(.inr k, v)]) (dd ++ [(k, d)])
  | _, _, .nil => .cons h .nil
  | _, _, .cons h2 r => .cons h2 (r.snoc h)
theorem DRel.put {k : Str} {v : V} {d : PyData} {kvs : List (Key × V)} {dd : DD} (r : DRel K H kvs dd) (h : Tp K H v d) : DRel K H (putK kvs (.inr k) v) (ddPut dd k d) := by
  unfold putK ddPut
  rw [r.any (k := k)]
  split
  · exact r.repl h
  · exact r.snoc h
theorem DRel.get {k : Str} {d : PyData} : ∀ {kvs : List (Key × V)} {dd : DD}, DRel K H kvs dd → ddGet dd k = some d → ∃ v, valV kvs (.inr k) = some v ∧ Tp K H v d
  | _, _, .nil, e => by cases e
  | _, _, .cons (k := k2) (v := v2) (d := d2) (kvs := kvs) (dd := dd) h2 r, e => by
    by_cases hk : k2 = k
    · subst hk
      have : ddGet ((k2, d2) :: dd) k2 = some d2 := by simp [ddGet]
      rw [this] at e
      cases e
      exact ⟨v2, valV_pos rfl, h2⟩
    · have : ddGet ((k2, d2) :: dd) k = ddGet dd k := by simp [ddGet, List.find?_cons, hk]
      rw [this] at e
      obtain ⟨v, h3, h4⟩ := r.get e
      exact ⟨v, (valV_neg fun z => hk (Sum.inr.inj z)).trans h3, h4⟩
end
theorem ddPut_len (dd : DD) (k : Str) (v : PyData) : (ddPut dd k v).length ≤ dd.length + 1 := by
  unfold ddPut
  split
  · rw [List.length_map]
    exact Nat.le_succ _
  · rw [List.length_append]
    exact Nat.le_refl _
theorem ddGet_mem {dd : DD} {j : Str} (h : j ∈ dd.map (·.1)) : ∃ w, ddGet dd j = some w := by
  induction dd with
  | nil => cases h
  | cons a r ih =>
    by_cases e : a.1 = j
    · exact ⟨a.2, by simp [ddGet, List.find?_cons, e]⟩
    · have : ddGet (a :: r) j = ddGet r j := by simp [ddGet, List.find?_cons, e]
      rw [this]
      exact ih ((List.mem_cons.mp h).resolve_left fun q => e q.symm)
def dictT (f : PyData → Str) (ws : List PyData) : DD := ws.foldl (fun dd w => ddPut dd (f w) w) []
/-- the words in the order of their texts -/
def byText (f : PyData → Str) (ws : List PyData) : List PyData := (sortT ((dictT f ws).map (·.1))).map fun t => (ddGet (dictT f ws) t).getD .none
theorem ddPut_all {P : Str × PyData → Prop} {dd : DD} {k : Str} {v : PyData} (h : ∀ e ∈ dd, P e) (hv : P (k, v)) : ∀ e ∈ ddPut dd k v, P e := fun e he => by
  unfold ddPut at he
  split at he
  · obtain ⟨a, ha, rfl⟩ := List.mem_map.mp he
    split
    · rename_i q
      rw [q]
      exact hv
    · exact h a ha
  · rcases List.mem_append.mp he with he | he
    · exact h e he
    · rw [List.mem_singleton.mp he]
      exact hv
theorem dict_all {P : Str × PyData → Prop} {f : PyData → Str} : ∀ {ws : List PyData} {dd : DD}, (∀ e ∈ dd, P e) → (∀ w ∈ ws, P (f w, w)) → ∀ e ∈ ws.foldl (fun dd w => ddPut dd (f w) w) dd, P e
  | [], _, h, _ => h
  | w :: ws, _, h, hw => dict_all (ws := ws) (ddPut_all h (hw w List.mem_cons_self)) fun x hx => hw x (List.mem_cons_of_mem _ hx)
theorem dict_len {f : PyData → Str} : ∀ (ws : List PyData) (dd : DD), (ws.foldl (fun dd w => ddPut dd (f w) w) dd).length ≤ dd.length + ws.length
  | [], _ => Nat.le_refl _
  | w :: ws, dd => by
    have h1 := dict_len (f := f) ws (ddPut dd (f w) w)
    have h2 := ddPut_len dd (f w) w
    show (ws.foldl _ (ddPut dd (f w) w)).length ≤ _
    rw [List.length_cons]
    omega
theorem byText_len (f : PyData → Str) (ws : List PyData) : (byText f ws).length = (dictT f ws).length := by
  unfold byText sortT
  rw [List.length_map, (List.mergeSort_perm _ _).length_eq, List.length_map]
theorem get_in {dd : DD} {k : Str} {w : PyData} (h : ddGet dd k = some w) : (k, w) ∈ dd := by
  unfold ddGet at h
  cases q : dd.find? fun e => decide (e.1 = k) with
  | none =>
    rw [q] at h
    cases h
  | some e =>
    rw [q] at h
    have h1 := List.mem_of_find?_eq_some q
    have h2 := List.find?_some q
    have h3 : e.1 = k := of_decide_eq_true h2
    have h4 : e.2 = w := Option.some.inj h
    rw [← h3, ← h4]
    exact h1
theorem byText_mem {f : PyData → Str} {ws : List PyData} {w : PyData} (h : w ∈ byText f ws) : w ∈ ws := by
  obtain ⟨t, ht, rfl⟩ := List.mem_map.mp h
  have ht2 : t ∈ (dictT f ws).map (·.1) := (List.mergeSort_perm _ _).mem_iff.mp ht
  obtain ⟨w, hw⟩ := ddGet_mem ht2
  rw [hw]
  exact dict_all (P := fun e => e.2 ∈ ws) (ws := ws) (dd := []) (fun e he => by cases he) (fun w hw => hw) _ (get_in hw)
end FF
/-! parts_of, walked and the law's twins -/
namespace FF
open PySem PySem.Spec PyProof.Rows L2
def spParts (K : PySem.W.Frag) : Sp := fun vs H Q _ => ∃ (v : V) (d : PyData) (m : Nat), vs = [v] ∧ Tp K H v d ∧ Drawn m d ∧ ∀ p us H', Same H H' → H p = none → H' p = some (.tup us) → TpAll K H' us (partsD d) → Q (.ref p) H'
def spPartsL (K : PySem.W.Frag) : Sp := fun vs H Q _ => ∃ (v : V) (d : PyData) (m : Nat), vs = [v] ∧ Tp K H v d ∧ Drawn m d ∧ ∀ p us H', Same H H' → H p = none → H' p = some (.lst us) → TpAll K H' us (partsD d) → Q (.ref p) H'
def spWalked (K : PySem.W.Frag) (n : Nat) : Sp := fun vs H Q _ => ∃ (v : V) (d : PyData) (m : Nat), vs = [v] ∧ Tp K H v d ∧ Drawn m d ∧ m < n ∧ n ≤ 8 ∧ ∀ p us H', Same H H' → H p = none → H' p = some (.lst us) → TpAll K H' us (walkD (m + 1) d) → Q (.ref p) H'
theorem walk_step {k : Nat} {d : PyData} : walkD (k + 2) d = d :: (partsD d).flatMap (walkD (k + 1)) := rfl
theorem walk_zero {d : PyData} (h : Drawn 0 d) : ∀ n, walkD n d = [d]
  | 0 => rfl
  | n + 1 => by
    show d :: (partsD d).flatMap (walkD n) = _
    rw [parts0 h] <;> rfl
/-- one step of walking serves every depth -/
theorem walk_parts {m : Nat} {d : PyData} (h : Drawn m d) : ∃ j, walkD (m + 1) d = d :: (partsD d).flatMap (walkD (j + 1)) ∧ (∀ p ∈ partsD d, Drawn j p) ∧ (m = 0 ∧ j = 0 ∨ m = j + 1) := by
  cases m with
  | zero =>
    refine ⟨0, ?_, fun p hp => ?_, .inl ⟨rfl, rfl⟩⟩
    · rw [walk_zero h, parts0 h] <;> rfl
    · rw [parts0 h] at hp
      cases hp
  | succ k => exact ⟨k, rfl, fun p hp => parts_drawn h hp, .inr rfl⟩
theorem flat_take {α β : Type} {f : α → List β} {l : List α} {i : Nat} {x : α} (h : l[i]? = some x) : (l.take (i + 1)).flatMap f = (l.take i).flatMap f ++ f x := by
  have : l.take (i + 1) = l.take i ++ [x] := by
    rw [List.take_add_one, h] <;> rfl
  rw [this, List.flatMap_append, List.flatMap_singleton]
section
variable {P : Program} {w : World} {K : PySem.W.Frag} {mg : Str → Option Value} {base : Heap}
theorem ok_parts_of {f : Addr} {fd : FuncData} (F : FunD K "parts_of" "parts_of" (defArgs s_parts_of) (defBody s_parts_of) (defScope s_parts_of) [] [] f fd) (hm : mg "parts_of" = some (.ref f)) (T : Top K mg) : Def P w K mg base "parts_of" 1 ["term"] (spParts K) := by
  refine def_mk F hm (F.bindsN fun _ _ _ _ _ _ us hl => match us, hl with | [_], _ => rfl) sc_parts_of (fun vs H Q E h => ?_) (fun cdv A outer s H vs Q E hr h => ?_)
  · obtain ⟨v, d, m, rfl, _⟩ := h
    rfl
  obtain ⟨v, d, m, rfl, hd, hdr, q⟩ := h
  refine ⟨_, (pss_one (ps_ret (pe_ifExp (pt_val (pe_callB (call_isK K kb_str) (by rfl) T.b_isinstance (by decide +kernel) (pa_cons (pv 0) (pa_cons (pe_bltn (v := .ty "str") (by rfl) T.b_str (by decide +kernel) rfl) pa_nil)))) (pe_tup pa_nil) (pe_slice (sl_tupK K) (pv 0) (po_some pe_int) po_none)))), ?_⟩
  refine ⟨_, rfl, v, d, rfl, hd.dp, _, rfl, ?_⟩
  rcases drawn_shape hdr with ⟨z, rfl, _⟩ | ⟨o, ps, k, rfl, ho, l2, l4, rfl, hps⟩
  · exact iteT ⟨(by show 0 ≤ sizeLine; decide), fun p hp => q p _ _ (same_new hp _) hp upd_same .nil⟩
  cases hd with
  | tup ht ha =>
  cases ha with
  | @cons vo vr _ _ hvo hvr =>
  rename_i a
  refine iteF ⟨_, rfl, _, rfl, a, _, rfl, ht.sqT, notWhole1, fun p hp0 => ?_⟩
  rw [cut1]
  exact q p vr _ (same_new hp0 _) hp0 upd_same (hvr.up (Same.T (same_new hp0 _)))
theorem ok_law_parts {f : Addr} {fd : FuncData} (F : FunD K "_law_parts" "_law_parts" (defArgs s_law_parts) (defBody s_law_parts) (defScope s_law_parts) [] [] f fd) (hm : mg "_law_parts" = some (.ref f)) (T : Top K mg) : Def P w K mg base "_law_parts" 1 ["_law_word"] (spPartsL K) := by
  refine def_mk F hm (F.bindsN fun _ _ _ _ _ _ us hl => match us, hl with | [_], _ => rfl) sc_law_parts (fun vs H Q E h => ?_) (fun cdv A outer s H vs Q E hr h => ?_)
  · obtain ⟨v, d, m, rfl, _⟩ := h
    rfl
  obtain ⟨v, d, m, rfl, hd, hdr, q⟩ := h
  refine ⟨_, (pss_one (ps_ret (pe_ifExp (pt_val (pe_callB (call_isK K kb_str) (by rfl) T.b_isinstance (by decide +kernel) (pa_cons (pv 0) (pa_cons (pe_bltn (v := .ty "str") (by rfl) T.b_str (by decide +kernel) rfl) pa_nil)))) (pe_lst pa_nil) (pe_callTy (call_list_ofK K) (by rfl) T.b_list (by decide +kernel) (pa_cons (pe_slice (sl_tupK K) (pv 0) (po_some pe_int) po_none) pa_nil))))), ?_⟩
  refine ⟨_, rfl, v, d, rfl, hd.dp, _, rfl, ?_⟩
  rcases drawn_shape hdr with ⟨z, rfl, _⟩ | ⟨o, ps, k, rfl, ho, l2, l4, rfl, hps⟩
  · exact iteT ⟨(by show 0 ≤ sizeLine; decide), fun p hp => q p _ _ (same_new hp _) hp upd_same .nil⟩
  cases hd with
  | tup ht ha =>
  cases ha with
  | @cons vo vr _ _ hvo hvr =>
  rename_i a
  refine iteF ⟨_, rfl, _, rfl, a, _, rfl, ht.sqT, notWhole1, fun p hp0 => ?_⟩
  rw [cut1]
  have e1 := same_new hp0 (.tup vr)
  refine ⟨p, vr, rfl, .inr (SqT.of upd_same), fun l hl => ?_⟩
  have hl0 : H l = none := by
    cases e : H l with
    | none => rfl
    | some u =>
      rw [e1 _ _ e] at hl
      cases hl
  exact q l vr _ (e1.trans (same_new hl _)) hl0 upd_same (hvr.up ((Same.T e1).trans (Same.T (same_new hl _))))
theorem ok_walked_step {n : Nat} {f : Addr} {fd : FuncData} (F : FunD K "walked" "walked" (defArgs s_walked) (defBody s_walked) (defScope s_walked) [] [] f fd) (hm : mg "walked" = some (.ref f)) (T : Top K mg)
    (D_parts_of : Def P w K mg base "parts_of" 1 ["term"] (spParts K)) (D_walked : Def P w K mg base "walked" (n + 1) ["term"] (spWalked K n)) : Def P w K mg base "walked" (n + 2) ["term"] (spWalked K (n + 1)) := by
  refine def_mk F hm (F.bindsN fun _ _ _ _ _ _ us hl => match us, hl with | [_], _ => rfl) sc_walked (fun vs H Q E h => ?_) (fun cdv A outer s H vs Q E hr h => ?_)
  · obtain ⟨v, d, m, rfl, _⟩ := h
    rfl
  obtain ⟨v, d, m, rfl, hd, hdr, hmn, hn10, q⟩ := h
  refine ⟨_, (pss_cons (ps_set (i := 1) sc_walked.nd rfl (Or.inl rfl) (pe_lst (pa_cons (pv 0) pa_nil)))
  (pss_cons (ps_for PassesOwn.never rfl (pi_tupK K (pe_def D_parts_of hr (by first | decide | omega) (pa_cons (pv 0) pa_nil))) (pg_name (i := 2) sc_walked.nd rfl (Or.inl rfl) (.inl rfl))
  (pss_one (ps_expr (pe_bmK K PySem.F.plainAttrs_list PySem.F.slot_list_extend PySem.F.type_list_extend mt_extend (pv 1) (pa_cons (pe_def D_walked hr (by first | decide | omega) (pa_cons (pv 2) pa_nil)) pa_nil)))))
  (pss_one (ps_ret (pv 1))))), ?_⟩
  refine ⟨_, rfl, (by show 1 ≤ sizeLine; decide), fun p hp => ?_⟩
  have e1 := same_new hp (.lst [v])
  have hd1 := hd.up (Same.T e1)
  refine ⟨_, rfl, v, d, m, rfl, hd1, hdr, fun t us H2 e2 ht0 ht2 hu2 => ?_⟩
  refine ⟨t, rfl, ⟨us, SqT.of ht2⟩, ?_⟩
  obtain ⟨j, ew, hj, hmj⟩ := walk_parts hdr
  have hul := hu2.len
  have hpl := parts_len hdr
  have wl := walk_len hdr
  have p4 : 8 ^ m ≤ 8 ^ 7 := Nat.pow_le_pow_right (by decide) (by omega)
  have hB : ∀ {n : Nat}, n ≤ 2 * 8 ^ 7 → n ≤ sizeLine := fun h => Nat.le_trans h (by decide +kernel)
  have tp : p ≠ t := fun z => by
    subst z
    rw [upd_same] at ht0
    cases ht0
  refine for_tup (xs := us) (fun i σ H' => ∃ (fs : List V) (o : Option V), σ = [some v, some (.ref p), o] ∧ Same H H' ∧ H' p = some (.lst fs) ∧ H' t = some (.tup us) ∧ TpAll K H' us (partsD d) ∧ TpAll K H' fs (d :: ((partsD d).take i).flatMap (walkD (j + 1))))
    ⟨[v], none, rfl, e1.trans e2, e2 _ _ upd_same, ht2, hu2, .cons (hd1.up (Same.T e2)) .nil⟩ (fun i σ H' _ ⟨fs, o, _, _, _, ht, _⟩ => SqT.of ht) ?_ ?_
  · rintro i x σ H' hx ⟨fs, o, rfl, e3, hp3, ht3, hu3, hf3⟩
    obtain ⟨y, hy1, hy2⟩ := hu3.get hx
    have hyd := hj y (List.mem_of_getElem? hy1)
    have hjn : j < n := by
      rcases hmj with ⟨hm0, _⟩ | hm1
      · subst hm0
        rw [parts0 hdr] at hy1
        cases hy1
      · omega
    refine ⟨_, rfl, .inl ⟨rfl, _, SqL.of hp3⟩, _, rfl, x, y, j, rfl, hy2, hyd, hjn, by omega, fun r rs H4 e4 hr0 hr4 hrs => ?_⟩
    have hp4 := e4 _ _ hp3
    have lf := hf3.len
    have lr := hrs.len
    have wr := walk_len hyd
    have pj : 8 ^ j ≤ 8 ^ 6 := Nat.pow_le_pow_right (by decide) (by omega)
    refine ⟨p, r, fs, rs, rfl, rfl, hp4, hr4, ?_, ?_⟩
    · -- the size: what is made is a part of the whole
      have h1 := flat_le (f := walkD (j + 1)) (B := 2 * 8 ^ 6) (l := (partsD d).take i) (fun p hp => by
        have := walk_len (hj p (List.mem_of_mem_take hp))
        omega)
      have h2 : ((partsD d).take i).length ≤ 8 := by
        rw [List.length_take]
        omega
      have h3 : ((partsD d).take i).length * (2 * 8 ^ 6) ≤ 8 * (2 * 8 ^ 6) := Nat.mul_le_mul_right _ h2
      rw [List.length_cons] at lf
      refine Nat.le_trans ?_ (show 9 * (2 * 8 ^ 6) + 1 ≤ sizeLine by decide +kernel)
      omega
    have eU : SameT H4 (upd H4 p (.lst (fs ++ rs))) := (SameT.refl H4).updL hp4
    refine ⟨fs ++ rs, _, rfl, ?_, upd_same, ?_, ?_, ?_⟩
    · intro b u hb
      rw [upd_ne (ne_of_none hb hp)]
      exact e4 _ _ (e3 _ _ hb)
    · rw [upd_ne (Ne.symm tp)]
      exact e4 _ _ ht3
    · exact (hu3.up (Same.T e4)).up eU
    · rw [flat_take hy1]
      exact TpAll.app (vs := fs) (ws := rs) ((hf3.up (Same.T e4)).up eU) (hrs.up eU)
  · rintro σ H' ⟨fs, o, rfl, e3, hp3, ht3, hu3, hf3⟩
    refine ⟨_, rfl, q p fs H' e3 hp hp3 ?_⟩
    rw [ew]
    rw [hul, List.take_length] at hf3
    exact hf3
theorem ok_law_walk_step {n : Nat} {f : Addr} {fd : FuncData} (F : FunD K "_law_walk" "_law_walk" (defArgs s_law_walk) (defBody s_law_walk) (defScope s_law_walk) [] [] f fd) (hm : mg "_law_walk" = some (.ref f)) (T : Top K mg)
    (D_law_parts : Def P w K mg base "_law_parts" 1 ["_law_word"] (spPartsL K)) (D_law_walk : Def P w K mg base "_law_walk" (n + 1) ["_law_word"] (spWalked K n)) : Def P w K mg base "_law_walk" (n + 2) ["_law_word"] (spWalked K (n + 1)) := by
  refine def_mk F hm (F.bindsN fun _ _ _ _ _ _ us hl => match us, hl with | [_], _ => rfl) sc_law_walk (fun vs H Q E h => ?_) (fun cdv A outer s H vs Q E hr h => ?_)
  · obtain ⟨v, d, m, rfl, _⟩ := h
    rfl
  obtain ⟨v, d, m, rfl, hd, hdr, hmn, hn10, q⟩ := h
  refine ⟨_, (pss_cons (ps_set (i := 1) sc_law_walk.nd rfl (Or.inl rfl) (pe_lst (pa_cons (pv 0) pa_nil)))
  (pss_cons (ps_for PassesOwn.never rfl (pi_listK K (pe_def D_law_parts hr (by first | decide | omega) (pa_cons (pv 0) pa_nil))) (pg_name (i := 2) sc_law_walk.nd rfl (Or.inl rfl) (.inl rfl))
  (pss_one (ps_set (i := 1) sc_law_walk.nd rfl (Or.inl rfl) (pe_op op_cat (pv 1) (pe_def D_law_walk hr (by first | decide | omega) (pa_cons (pv 2) pa_nil))))))
  (pss_one (ps_ret (pv 1))))), ?_⟩
  refine ⟨_, rfl, (by show 1 ≤ sizeLine; decide), fun p0 hp0 => ?_⟩
  have e1 := same_new hp0 (.lst [v])
  have hd1 := hd.up (Same.T e1)
  refine ⟨_, rfl, v, d, m, rfl, hd1, hdr, fun t us H2 e2 ht0 ht2 hu2 => ?_⟩
  refine ⟨t, rfl, ⟨us, SqL.of ht2⟩, ?_⟩
  obtain ⟨j, ew, hj, hmj⟩ := walk_parts hdr
  have hul := hu2.len
  have hpl := parts_len hdr
  have wl := walk_len hdr
  refine for_list (xs := us) (fun i σ H' => ∃ (p : Addr) (fs : List V) (o : Option V), σ = [some v, some (.ref p), o] ∧ H p = none ∧ Same H H' ∧ H' p = some (.lst fs) ∧ H' t = some (.lst us) ∧ TpAll K H' us (partsD d) ∧ TpAll K H' fs (d :: ((partsD d).take i).flatMap (walkD (j + 1))))
    ⟨p0, [v], none, rfl, hp0, e1.trans e2, e2 _ _ upd_same, ht2, hu2, .cons (hd1.up (Same.T e2)) .nil⟩ (fun i σ H' _ ⟨p, fs, o, _, _, _, _, ht, _⟩ => SqL.of ht) ?_ ?_
  · rintro i x σ H' hx ⟨p, fs, o, rfl, hp, e3, hp3, ht3, hu3, hf3⟩
    obtain ⟨y, hy1, hy2⟩ := hu3.get hx
    have hyd := hj y (List.mem_of_getElem? hy1)
    have hjn : j < n := by
      rcases hmj with ⟨hm0, _⟩ | hm1
      · subst hm0
        rw [parts0 hdr] at hy1
        cases hy1
      · omega
    refine ⟨_, rfl, _, rfl, x, y, j, rfl, hy2, hyd, hjn, by omega, fun r rs H4 e4 hr0 hr4 hrs => ?_⟩
    have lf := hf3.len
    have lr := hrs.len
    have wr := walk_len hyd
    have pj : 8 ^ j ≤ 8 ^ 6 := Nat.pow_le_pow_right (by decide) (by omega)
    refine ⟨p, r, fs, rs, rfl, rfl, e4 _ _ hp3, hr4, ?_, fun p2 hp2 => ?_⟩
    · have h1 := flat_le (f := walkD (j + 1)) (B := 2 * 8 ^ 6) (l := (partsD d).take i) (fun p hp => by
        have := walk_len (hj p (List.mem_of_mem_take hp))
        omega)
      have h2 : ((partsD d).take i).length ≤ 8 := by
        rw [List.length_take]
        omega
      have h3 : ((partsD d).take i).length * (2 * 8 ^ 6) ≤ 8 * (2 * 8 ^ 6) := Nat.mul_le_mul_right _ h2
      rw [List.length_cons] at lf
      refine Nat.le_trans ?_ (show 9 * (2 * 8 ^ 6) + 1 ≤ sizeLine by decide +kernel)
      omega
    have e5 := same_new hp2 (.lst (fs ++ rs))
    have e35 := e3.trans (e4.trans e5)
    have hn2 : H p2 = none := by
      cases e : H p2 with
      | none => rfl
      | some u =>
        rw [(e3.trans e4) _ _ e] at hp2
        cases hp2
    refine ⟨p2, fs ++ rs, _, rfl, hn2, e35, upd_same, e5 _ _ (e4 _ _ ht3), hu3.up (Same.T (e4.trans e5)), ?_⟩
    rw [flat_take hy1]
    exact TpAll.app (vs := fs) (ws := rs) (hf3.up (Same.T (e4.trans e5))) (hrs.up (Same.T e5))
  · rintro σ H' ⟨p, fs, o, rfl, hp, e3, hp3, ht3, hu3, hf3⟩
    refine ⟨_, rfl, q p fs H' e3 hp hp3 ?_⟩
    rw [ew]
    rw [hul, List.take_length] at hf3
    exact hf3
end
end FF
/-! words_of and the law's twins -/
namespace FF
open PySem PySem.Spec PyProof.Rows L2
theorem sameT_d {a : Addr} {kvs : List (Key × V)} {H H' : Hp} (ha : H a = some (.dK kvs)) (e : SameB a H H') : SameT H H' := fun b ys h => e b _ (fun z => by rw [z, ha] at h; cases h) h
theorem yes_ {σ : L2.St} {H : Hp} {A : Bool → Hp → Prop} (h : A true H) : tYes σ H A := h
theorem dcIn_texts {K : PySem.W.Frag} {p D : Addr} {H4 : Hp} {ws : List V} {wd : List PyData} {f : PyData → Str} {tk tv : TE} {vs1 : List Nat} {jv : Nat} {σ2 : L2.St} {dd0 : DD} {Nx : Hp → Prop} (hp : H4 p = some (.lst ws)) (hw : TpAll K H4 ws wd) (hD : ∃ kvs, H4 D = some (.dK kvs) ∧ DRel K H4 kvs dd0) (hz : dd0.length + wd.length < sizeLine)
    (hwipe : ∀ x, wipe ((wipe σ2 vs1).set jv (some x)) vs1 = wipe σ2 vs1)
    (key : ∀ x d H', Tp K H' x d → d ∈ wd → ∀ Q : VK, (∀ H'', Same H' H'' → Q (.str (f d)) H'') → tk ((wipe σ2 vs1).set jv (some x)) H' Q)
    (val : ∀ x H' (Q : VK), Q x H' → tv ((wipe σ2 vs1).set jv (some x)) H' Q)
    (done : ∀ H5, SameB D H4 H5 → (∃ kvs, H5 D = some (.dK kvs) ∧ DRel K H5 kvs (wd.foldl (fun dd w => ddPut dd (f w) w) dd0)) → Nx H5) : tDcIn (Itl K p) (gName jv) tYes tk tv D vs1 σ2 H4 Nx := by
  have hpD : p ≠ D := fun z => by
    obtain ⟨kvs, h, _⟩ := hD
    rw [z, h] at hp
    cases hp
  have hl := hw.len
  refine ⟨fun j k H => k = ws.length - j ∧ j ≤ ws.length ∧ SameB D H4 H ∧ ∃ kvs, H D = some (.dK kvs) ∧ DRel K H kvs ((wd.take j).foldl (fun dd w => ddPut dd (f w) w) dd0), ⟨_, rfl, Nat.zero_le _, sb_refl, hD⟩, ?_⟩
  rintro j k H ⟨rfl, hj, e, kvs, hk, hr⟩
  have hpH := e _ _ hpD hp
  have eT : SameT H4 H := by
    obtain ⟨kv0, h0, _⟩ := hD
    exact sameT_d h0 e
  by_cases hlt : j < ws.length
  · refine .inr ⟨⟨ws, ws[j], SqL.of hpH, by simp [hlt]⟩, fun H' => ∃ k', k' < ws.length - j ∧ (k' = ws.length - (j + 1) ∧ j + 1 ≤ ws.length ∧ SameB D H4 H' ∧ ∃ kvs, H' D = some (.dK kvs) ∧ DRel K H' kvs ((wd.take (j + 1)).foldl (fun dd w => ddPut dd (f w) w) dd0)), fun _ h => h, ?_⟩
    rintro x H' ⟨rfl, hx⟩
    have hx := hx ws (SqL.of hpH)
    obtain ⟨d, hd1, hd2⟩ := (hw.up eT).get hx
    refine ⟨hwipe x, yes_ (if_t ?_)⟩
    refine key x d _ hd2 (List.mem_of_getElem? hd1) _ fun H6 e6 => val x H6 _ ?_
    have hk6 := e6 _ _ hk
    have hr6 := (hr.up (Same.T e6)).put (k := f d) (hd2.up (Same.T e6))
    have take1 : wd.take (j + 1) = wd.take j ++ [d] := by
      rw [List.take_add_one, hd1] <;> rfl
    have hlen : kvs.length < sizeLine := by
      have h1 := hr.len
      have h2 := dict_len (f := f) (wd.take j) dd0
      rw [List.length_take] at h2
      omega
    refine ⟨kvs, .inr (f d), rfl, hk6, hlen, ws.length - (j + 1), by omega, rfl, by omega, fun b u n h => ?_, _, upd_same, ?_⟩
    · rw [upd_ne n]
      exact e6 _ _ (e b u n h)
    · rw [take1, List.foldl_append]
      exact hr6.up fun b ys h => by
        rw [upd_ne (fun z => by rw [z, hk6] at h; cases h)]
        exact h
  · have : j = ws.length := by omega
    subst this
    rw [hl, List.take_length] at hr
    exact .inl ⟨⟨ws, SqL.of hpH, Nat.le_refl _⟩, done H e ⟨kvs, hk, hr⟩⟩
abbrev Prs := List (PyData × PyData)
def prD (prs : Prs) : List PyData := prs.map fun p => .tuple [p.1, p.2]
def wordsOf (prs : Prs) : List PyData := prs.flatMap fun p => walkD 5 p.1 ++ walkD 5 p.2
def vocD (prs : Prs) : List PyData := byText (textD 5) (wordsOf prs)
def PrOk (prs : Prs) : Prop := prs.length ≤ 20 ∧ ∀ p ∈ prs, Drawn 4 p.1 ∧ Drawn 4 p.2
theorem words_drawn {prs : Prs} (h : PrOk prs) : ∀ w ∈ wordsOf prs, Drawn 4 w := fun w hw => by
  obtain ⟨p, hp, hw⟩ := List.mem_flatMap.mp hw
  obtain ⟨h1, h2⟩ := h.2 p hp
  rcases List.mem_append.mp hw with hw | hw
  · exact walk_drawn h1 w hw
  · exact walk_drawn h2 w hw
theorem words_len : ∀ {prs : Prs}, (∀ p ∈ prs, Drawn 4 p.1 ∧ Drawn 4 p.2) → (wordsOf prs).length ≤ prs.length * 16384
  | [], _ => Nat.zero_le _
  | p :: prs, h => by
    obtain ⟨h1, h2⟩ := h p List.mem_cons_self
    have k1 := walk_len h1
    have k2 := walk_len h2
    have k3 := words_len (prs := prs) fun q hq => h q (List.mem_cons_of_mem _ hq)
    have e : 2 * 8 ^ 4 = 8192 := by decide
    rw [e] at k1 k2
    show (walkD 5 p.1 ++ walkD 5 p.2 ++ wordsOf prs).length ≤ _
    have k1' : (walkD 5 p.1).length + 1 ≤ 8192 := k1
    have k2' : (walkD 5 p.2).length + 1 ≤ 8192 := k2
    rw [List.length_append, List.length_append, List.length_cons]
    omega
theorem dict_app {f : PyData → Str} (a b : List PyData) : dictT f (a ++ b) = b.foldl (fun dd w => ddPut dd (f w) w) (dictT f a) := List.foldl_append
theorem words_take {prs : Prs} {i : Nat} {p : PyData × PyData} (h : prs[i]? = some p) : wordsOf (prs.take (i + 1)) = wordsOf (prs.take i) ++ (walkD 5 p.1 ++ walkD 5 p.2) := by
  have : prs.take (i + 1) = prs.take i ++ [p] := by
    rw [List.take_add_one, h] <;> rfl
  unfold wordsOf
  rw [this, List.flatMap_append, List.flatMap_singleton]
theorem pr_get {K : PySem.W.Frag} {H : Hp} {us : List V} {prs : Prs} {i : Nat} {x : V} (h : TpAll K H us (prD prs)) (hx : us[i]? = some x) : ∃ p t vl vr, prs[i]? = some p ∧ x = .ref t ∧ SqU K H t [vl, vr] ∧ Tp K H vl p.1 ∧ Tp K H vr p.2 := by
  obtain ⟨d, h1, h2⟩ := h.get hx
  unfold prD at h1
  rw [List.getElem?_map] at h1
  cases hp : prs[i]? with
  | none =>
    rw [hp] at h1
    cases h1
  | some p =>
    rw [hp] at h1
    cases h1
    cases h2 with
    | @tup t xs _ hs ha =>
    cases ha with
    | @cons vl _ _ _ h3 ha =>
    cases ha with
    | @cons vr _ _ _ h4 ha =>
    cases ha
    exact ⟨p, t, vl, vr, rfl, rfl, hs, h3, h4⟩
def spWordsOf (K : PySem.W.Frag) : Sp := fun vs H Q _ => ∃ (a : Addr) (us : List V) (prs : Prs), vs = [.ref a] ∧ H a = some (.lst us) ∧ TpAll K H us (prD prs) ∧ PrOk prs ∧ ∀ r rs H', Same H H' → H r = none → H' r = some (.lst rs) → TpAll K H' rs (vocD prs) → Q (.ref r) H'
/-- the words of a dict in the order of its keys -/
theorem order_lc {K : PySem.W.Frag} {σ : L2.St} {H1 : Hp} {D p1 : Addr} {vsl : List Nat} {jv dv : Nat} {kvs : List (Key × V)} {dd : DD} {ys : List Str} {Qd : VK} (hkv : H1 D = some (.dK kvs)) (hr : DRel K H1 kvs dd) (hp1 : H1 p1 = some (.lst (ys.map V.str))) (hy : ∀ y ∈ ys, y ∈ dd.map (·.1)) (hz : ys.length ≤ sizeLine)
    (hw : ∀ x, wipe ((wipe σ vsl).set jv (some x)) vsl = wipe σ vsl) (h1 : ∀ x, ((wipe σ vsl).set jv (some x))[dv]? = some (some (.ref D))) (h2 : ∀ x, ((wipe σ vsl).set jv (some x))[jv]? = some (some x))
    (done : ∀ H2 p rs, Same H1 H2 → H1 p = none → H2 p = some (.lst rs) → TpAll K H2 rs (ys.map fun t => (ddGet dd t).getD .none) → Qd (.ref p) H2) :
    ∀ D2, H1 D2 = none → ∃ W : Nat → Nat → Hp → Prop, (∃ m, W 0 m (upd H1 D2 (.lst []))) ∧ ∀ i m H, W i m H →
      ((Itl K p1).stop i H ∧ Qd (.ref D2) H) ∨ ((Itl K p1).go i H ∧ ∃ Nx : Hp → Prop, (∀ H', Nx H' → ∃ m', m' < m ∧ W (i + 1) m' H') ∧ ∀ x H', (Itl K p1).yld i H x H' → gName jv x (wipe σ vsl) H' fun σ2 H2 => wipe σ2 vsl = wipe σ vsl ∧ tYes σ2 H2 fun b H3 =>
        if b = true then tDGet (tVar dv) (tVar jv) σ2 H3 fun y H4 => ∃ acc, H4 D2 = some (.lst acc) ∧ acc.length < sizeLine ∧ Nx (upd H4 D2 (.lst (acc ++ [y]))) else Nx H3) := by
  intro D2 hD2
  refine lc_mapL (fun i y H' => ∃ t, ys[i]? = some t ∧ Tp K H' y ((ddGet dd t).getD .none)) (fun i y H H' e ⟨t, a, b⟩ => ⟨t, a, b.up e⟩) hD2 (SqL.of hp1) (by rw [List.length_map]; exact hz) hw ?_ ?_
  · intro i x H2 hx e Q' k'
    rw [List.getElem?_map] at hx
    cases hy2 : ys[i]? with
    | none =>
      rw [hy2] at hx
      cases hx
    | some t =>
    rw [hy2] at hx
    have hx : V.str t = x := Option.some.inj hx
    subst hx
    obtain ⟨d, hd⟩ := ddGet_mem (hy t (List.mem_of_getElem? hy2))
    obtain ⟨v, hv1, hv2⟩ := hr.get hd
    refine ⟨_, h1 _, _, h2 _, D, v, rfl, ?_, k' v H2 (Same.refl H2) ⟨t, hy2, by rw [hd]; exact hv2.up (Same.T e)⟩⟩
    rw [← hv1]
    exact DGet.k (k := Sum.inr t) (e _ _ hkv)
  · intro H2 zs e h3 h4 h5
    refine done H2 D2 zs e hD2 h3 (TpAll.of_get (by rw [List.length_map, h4, List.length_map]) fun i v d hi hd => ?_)
    obtain ⟨t, h6, h7⟩ := h5 i v hi
    rw [List.getElem?_map, h6] at hd
    cases hd
    exact h7
section
variable {P : Program} {w : World} {K : PySem.W.Frag} {mg : Str → Option Value} {base : Heap}
theorem ok_words_of {f : Addr} {fd : FuncData} (F : FunD K "words_of" "words_of" (defArgs s_words_of) (defBody s_words_of) (defScope s_words_of) [] [] f fd) (hm : mg "words_of" = some (.ref f)) (T : Top K mg)
    (D_walked : Def P w K mg base "walked" 7 ["term"] (spWalked K 6)) (D_text_of : Def P w K mg base "text_of" 7 ["term"] (spText K 7)) : Def P w K mg base "words_of" 10 ["pairs"] (spWordsOf K) := by
  refine def_mk F hm (F.bindsN fun _ _ _ _ _ _ us hl => match us, hl with | [_], _ => rfl) sc_words_of (fun vs H Q E h => ?_) (fun cdv A outer s H vs Q E hr h => ?_)
  · obtain ⟨a, us, prs, rfl, _⟩ := h
    rfl
  obtain ⟨a, us, prs, rfl, ha, hu, hok, q⟩ := h
  have hul : us.length = prs.length := by
    have := hu.len
    unfold prD at this
    rwa [List.length_map] at this
  have hB : ∀ {n : Nat}, n ≤ 400000 → n < sizeLine := fun h => Nat.lt_of_le_of_lt h (by decide)
  refine ⟨_, (pss_cons (ps_set (i := 1) sc_words_of.nd rfl (Or.inr rfl) (pe_dc2 (own := [("left", 2), ("right", 3), ("word", 4)]) (vs1 := [4]) rfl sc_words_of.nd (pi_listK K (pv 0)) (blkOk_by (by kernel_rfl)) (by decide) (fun _ _ _ _ _ => (pg_tupK K (n := 2) rfl (pgs_cons (pg_name (i := 2) sc_words_of.nd rfl (Or.inl rfl) (.inr rfl)) (pgs_cons (pg_name (i := 3) sc_words_of.nd rfl (Or.inl rfl) (.inr rfl)) pgs_nil)))) (fun _ _ _ _ _ => pts_nil) (fun _ _ _ _ _ => (pi_listK K (pe_op op_cat (pe_def D_walked hr (by first | decide | omega) (pa_cons (pv 2) pa_nil)) (pe_def D_walked hr (by first | decide | omega) (pa_cons (pv 3) pa_nil))))) (fun _ _ _ _ _ => (pg_name (i := 4) sc_words_of.nd rfl (Or.inl rfl) (.inr rfl))) (fun _ _ _ _ _ => pts_nil) (fun _ _ _ _ _ => (pe_def D_text_of hr (by first | decide | omega) (pa_cons (pv 4) pa_nil))) (fun _ _ _ _ _ => (pv 4))))
  (pss_one (ps_ret (pe_lc (own := [("text", 5)]) rfl sc_words_of.nd (pi_listK K (pe_callB (cr_sortedDA rfl) (by rfl) T.b_sorted (by decide +kernel) (pa_cons (pv 1) pa_nil))) (blkOk_by (by kernel_rfl)) (fun _ _ _ _ _ => (pg_name (i := 5) sc_words_of.nd rfl (Or.inl rfl) (.inr rfl))) (fun _ _ _ _ _ => pts_nil) (fun _ _ _ _ _ => (pe_dget (hu_of hr) (pv 1) (pv 5) (fun _ _ => rfl))))))), ?_⟩
  refine ⟨_, rfl, a, rfl, ⟨us, SqL.of ha⟩, fun D hD => ?_⟩
  have haD : a ≠ D := ne_of_none ha hD
  refine ⟨fun i m H' => m = us.length - i ∧ i ≤ us.length ∧ Same H H' ∧ ∃ kvs, H' D = some (.dK kvs) ∧ DRel K H' kvs (dictT (textD 5) (wordsOf (prs.take i))), ⟨_, rfl, Nat.zero_le _, same_new hD _, [], upd_same, .nil⟩, ?_⟩
  rintro i m H' ⟨rfl, hi, e, kvs, hk, hr1⟩
  have haH := e _ _ ha
  have hwl : ∀ j, (wordsOf (prs.take j)).length ≤ 327680 := fun j => by
    have h1 := words_len (prs := prs.take j) fun p hp => hok.2 p (List.mem_of_mem_take hp)
    have h2 : (prs.take j).length ≤ 20 := by
      rw [List.length_take]
      have := hok.1
      omega
    omega
  by_cases hlt : i < us.length
  · refine .inr ⟨⟨us, us[i], SqL.of haH, by simp [hlt]⟩, fun H'' => ∃ k', k' < us.length - i ∧ (k' = us.length - (i + 1) ∧ i + 1 ≤ us.length ∧ Same H H'' ∧ ∃ kvs, H'' D = some (.dK kvs) ∧ DRel K H'' kvs (dictT (textD 5) (wordsOf (prs.take (i + 1))))), fun _ h => h, ?_⟩
    rintro x H1 ⟨rfl, hx⟩
    have hx := hx us (SqL.of haH)
    obtain ⟨p, t, vl, vr, hp, rfl, ht, hl, hrr⟩ := pr_get (hu.up (Same.T e)) hx
    obtain ⟨dl, dr⟩ := hok.2 p (List.mem_of_getElem? hp)
    have kl := walk_len dl
    have kr := walk_len dr
    have e8192 : 2 * 8 ^ 4 = 8192 := by decide
    rw [e8192] at kl kr
    refine ⟨t, [vl, vr], rfl, ht.sqT, rfl, vl, [vr], rfl, vr, [], rfl, rfl, rfl, yes_ (if_t ?_)⟩
    refine ⟨_, rfl, vl, p.1, 4, rfl, hl, dl, by decide, by decide, fun p1 us1 H2 e2 hn1 hp1 hu1 => ?_⟩
    refine ⟨_, rfl, vr, p.2, 4, rfl, hrr.up (Same.T e2), dr, by decide, by decide, fun p2 us2 H3 e3 hn2 hp2 hu2 => ?_⟩
    have lu1 := hu1.len
    have lu2 := hu2.len
    refine ⟨p1, p2, us1, us2, rfl, rfl, e3 _ _ hp1, hp2, Nat.le_of_lt (hB (by rw [lu1, lu2]; omega)), fun p3 hp3 => ?_⟩
    have e4 := same_new hp3 (.lst (us1 ++ us2))
    refine ⟨p3, rfl, ⟨_, SqL.of upd_same⟩, ?_⟩
    have e24 := e2.trans (e3.trans e4)
    have hw4 : TpAll K (upd H3 p3 (.lst (us1 ++ us2))) (us1 ++ us2) (walkD 5 p.1 ++ walkD 5 p.2) := TpAll.app (hu1.up (Same.T (e3.trans e4))) (hu2.up (Same.T e4))
    refine dcIn_texts (f := textD 5) (dd0 := dictT (textD 5) (wordsOf (prs.take i))) upd_same hw4 ⟨kvs, e24 _ _ hk, hr1.up (Same.T e24)⟩ ?_ (fun _ => rfl) ?_ (fun x H5 Q' h => ⟨_, rfl, h⟩) ?_
    · have h1 := dict_len (f := textD 5) (wordsOf (prs.take i)) []
      have h2 := hwl i
      refine hB ?_
      have h3 : (dictT (textD 5) (wordsOf (prs.take i))).length ≤ 0 + (wordsOf (prs.take i)).length := h1
      have kl' : (walkD 5 p.1).length + 1 ≤ 8192 := kl
      have kr' : (walkD 5 p.2).length + 1 ≤ 8192 := kr
      rw [List.length_append]
      omega
    · intro x d H5 hx5 hd5 Q' hq
      have hdd : Drawn 4 d := by
        rcases List.mem_append.mp hd5 with h | h
        · exact walk_drawn dl d h
        · exact walk_drawn dr d h
      exact ⟨_, rfl, x, d, 4, rfl, hx5, hdd, by decide, by decide, fun H6 e6 => hq H6 e6⟩
    · rintro H5 e5 ⟨kvs5, hk5, hr5⟩
      refine ⟨us.length - (i + 1), by omega, rfl, by omega, fun b u hb => e5 b u (ne_of_none hb hD) (e24 _ _ (e _ _ hb)), kvs5, hk5, ?_⟩
      rw [words_take hp, dict_app]
      exact hr5
  · have hi2 : i = us.length := by omega
    subst hi2
    rw [hul, List.take_length] at hr1
    refine .inl ⟨⟨us, SqL.of haH, Nat.le_refl _⟩, ?_⟩
    have hdl : (dictT (textD 5) (wordsOf prs)).length ≤ 327680 := by
      have h1 := dict_len (f := textD 5) (wordsOf prs) []
      have h2 := hwl prs.length
      rw [List.take_length] at h2
      have h3 : (dictT (textD 5) (wordsOf prs)).length ≤ 0 + (wordsOf prs).length := h1
      omega
    refine ⟨_, rfl, D, kvs, (dictT (textD 5) (wordsOf prs)).map (·.1), rfl, hk, hr1.keys, fun ys p1 hperm hs hp1 => ⟨p1, rfl, ⟨_, SqL.of upd_same⟩, ?_⟩⟩
    have e1 := same_new hp1 (.lst (ys.map V.str))
    have hys := sort_eq hperm hs
    refine order_lc (dv := 1) (jv := 5) (vsl := [5]) (e1 _ _ hk) (hr1.up (Same.T e1)) upd_same (fun y hy => hperm.mem_iff.mp hy) ?_ (fun _ => rfl) (fun _ => rfl) (fun _ => rfl) fun H2 p rs e2 hn2 h2 h3 => ?_
    · rw [hperm.length_eq, List.length_map]
      exact Nat.le_of_lt (hB (by omega))
    have hpn : H p = none := by
      cases z : H p with
      | none => rfl
      | some u =>
        rw [(e.trans e1) _ _ z] at hn2
        cases hn2
    refine q p rs H2 (e.trans (e1.trans e2)) hpn h2 ?_
    rw [hys] at h3
    exact h3
end
end FF
/-! _law_by_text, _law_words -/
namespace FF
open PySem PySem.Spec PyProof.Rows L2
theorem DRel.merge {K : PySem.W.Frag} {H : Hp} : ∀ {more : List (Key × V)} {md : DD} {kvs : List (Key × V)} {dd : DD}, DRel K H more md → DRel K H kvs dd → DRel K H (mergeK kvs more) (md.foldl (fun a e => ddPut a e.1 e.2) dd)
  | _, _, _, _, .nil, r => r
  | _, _, _, _, .cons h m, r => m.merge (r.put h)
theorem dict_map {f : PyData → Str} (ws : List PyData) (dd : DD) : (ws.map fun w => (f w, w)).foldl (fun a e => ddPut a e.1 e.2) dd = ws.foldl (fun a w => ddPut a (f w) w) dd := by
  rw [List.foldl_map]
theorem pairs_dd {K : PySem.W.Frag} {H : Hp} {f : PyData → Str} : ∀ {ys : List V} {ws : List PyData}, ys.length = ws.length → (∀ (i : Nat) (y : V), ys[i]? = some y → ∃ (t : Addr) (d : PyData) (v : V), ws[i]? = some d ∧ y = .ref t ∧ H t = some (.tup [.str (f d), v]) ∧ Tp K H v d) →
    ∃ (ps : List Addr) (kvs : List (Key × V)), ys = ps.map V.ref ∧ Paired (fun p kv => SqT K H p [kV kv.1, kv.2]) ps kvs ∧ DRel K H kvs (ws.map fun w => (f w, w))
  | [], [], _, _ => ⟨[], [], rfl, .nil, .nil⟩
  | [], _ :: _, h, _ => by cases h
  | _ :: _, [], h, _ => by cases h
  | y :: ys, d :: ws, hl, h => by
    obtain ⟨t, d', v, h1, rfl, h3, h4⟩ := h 0 y rfl
    cases h1
    obtain ⟨ps, kvs, h5, h6, h7⟩ := pairs_dd (ys := ys) (ws := ws) (Nat.succ.inj hl) fun i y hy => h (i + 1) y hy
    exact ⟨t :: ps, (.inr (f d), v) :: kvs, by rw [h5] <;> rfl, .cons (SqT.of h3) h6, .cons h4 h7⟩
def spByText (K : PySem.W.Frag) : Sp := fun vs H Q _ => ∃ (a : Addr) (us : List V) (ws : List PyData), vs = [.ref a] ∧ H a = some (.lst us) ∧ TpAll K H us ws ∧ (∀ w ∈ ws, Drawn 4 w) ∧ ws.length ≤ 330000 ∧ ∀ r rs H', Same H H' → H r = none → H' r = some (.lst rs) → TpAll K H' rs (byText (textD 5) ws) → Q (.ref r) H'
theorem new_none {H H' : Hp} {p : Addr} (e : Same H H') (h : H' p = none) : H p = none := by
  cases z : H p with
  | none => rfl
  | some u =>
    rw [e _ _ z] at h
    cases h
section
variable {P : Program} {w : World} {K : PySem.W.Frag} {mg : Str → Option Value} {base : Heap}
theorem ok_by_text {f : Addr} {fd : FuncData} (F : FunD K "_law_by_text" "_law_by_text" (defArgs s_law_by_text) (defBody s_law_by_text) (defScope s_law_by_text) [] [] f fd) (hm : mg "_law_by_text" = some (.ref f)) (T : Top K mg)
    (D_law_text : Def P w K mg base "_law_text" 7 ["_law_word"] (spText K 7)) : Def P w K mg base "_law_by_text" 10 ["_law_row"] (spByText K) := by
  refine def_mk F hm (F.bindsN fun _ _ _ _ _ _ us hl => match us, hl with | [_], _ => rfl) sc_law_by_text (fun vs H Q E h => ?_) (fun cdv A outer s H vs Q E hr h => ?_)
  · obtain ⟨a, us, ws, rfl, _⟩ := h
    rfl
  obtain ⟨a, us, ws, rfl, ha, hu, hok, hlen, q⟩ := h
  have hul := hu.len
  have hB : ∀ {n : Nat}, n ≤ 400000 → n ≤ sizeLine := fun h => Nat.le_trans h (by decide)
  refine ⟨_, (pss_cons (ps_set (i := 1) sc_law_by_text.nd rfl (Or.inr rfl) (pe_callTy (call_dictP rfl) (by rfl) T.b_dict (by decide +kernel) (pa_cons (pe_lc (own := [("_law_one", 2)]) rfl sc_law_by_text.nd (pi_listK K (pv 0)) (blkOk_by (by kernel_rfl)) (fun _ _ _ _ _ => (pg_name (i := 2) sc_law_by_text.nd rfl (Or.inl rfl) (.inr rfl))) (fun _ _ _ _ _ => pts_nil) (fun _ _ _ _ _ => (pe_tup (pa_cons (pe_def D_law_text hr (by first | decide | omega) (pa_cons (pv 2) pa_nil)) (pa_cons (pv 2) pa_nil))))) pa_nil)))
  (pss_one (ps_ret (pe_lc (own := [("_law_text_here", 3)]) rfl sc_law_by_text.nd (pi_listK K (pe_callB (cr_sortedDA rfl) (by rfl) T.b_sorted (by decide +kernel) (pa_cons (pv 1) pa_nil))) (blkOk_by (by kernel_rfl)) (fun _ _ _ _ _ => (pg_name (i := 3) sc_law_by_text.nd rfl (Or.inl rfl) (.inr rfl))) (fun _ _ _ _ _ => pts_nil) (fun _ _ _ _ _ => (pe_dget (hu_of hr) (pv 1) (pv 3) (fun _ _ => rfl))))))), ?_⟩
  refine ⟨_, rfl, a, rfl, ⟨us, SqL.of ha⟩, fun D1 hD1 => ?_⟩
  refine lc_mapL (j := 2) (fun i y H' => ∃ (t : Addr) (d : PyData) (v : V), ws[i]? = some d ∧ y = .ref t ∧ H' t = some (.tup [.str (textD 5 d), v]) ∧ Tp K H' v d) (fun i y H1 H2 e ⟨t, d, v, h1, h2, h3, h4⟩ => ⟨t, d, v, h1, h2, e _ _ h3, h4.up e⟩) hD1 (SqL.of ha) (hB (by omega)) (fun _ => rfl) ?_ ?_
  · intro i x H2 hx e2 Q' k'
    obtain ⟨d, hd1, hd2⟩ := (hu.up (Same.T e2)).get hx
    refine ⟨_, rfl, x, d, 4, rfl, hd2, hok d (List.mem_of_getElem? hd1), by decide, by decide, fun H3 e3 => ⟨_, rfl, (by show 2 ≤ sizeLine; decide), fun t ht => ?_⟩⟩
    have e4 := same_new ht (.tup [.str (textD 5 d), x])
    exact k' _ _ (e3.trans e4) ⟨t, d, x, hd1, rfl, upd_same, hd2.up (Same.T (e3.trans e4))⟩
  intro H2 ys e2 hD2 hyl hy
  obtain ⟨ps, kvs, rfl, hpair, hrel⟩ := pairs_dd (f := textD 5) (hyl.trans hul) hy
  refine ⟨D1, ps, kvs, rfl, SqL.of hD2, hpair, fun D hD => ?_⟩
  have e3 := same_new hD (.dK (mergeK [] kvs))
  have hr3 : DRel K (upd H2 D (.dK (mergeK [] kvs))) (mergeK [] kvs) (dictT (textD 5) ws) := by
    have := (hrel.merge (kvs := []) (dd := []) .nil).up (Same.T e3)
    rw [dict_map] at this
    exact this
  have hdl : (dictT (textD 5) ws).length ≤ 330000 := by
    have h1 : (dictT (textD 5) ws).length ≤ 0 + ws.length := dict_len (f := textD 5) ws []
    omega
  refine ⟨_, rfl, D, _, (dictT (textD 5) ws).map (·.1), rfl, upd_same, hr3.keys, fun zs p1 hperm hs hp1 => ⟨p1, rfl, ⟨_, SqL.of upd_same⟩, ?_⟩⟩
  have e4 := same_new hp1 (.lst (zs.map V.str))
  have hzs := sort_eq hperm hs
  refine order_lc (dv := 1) (jv := 3) (vsl := [3]) (e4 _ _ upd_same) (hr3.up (Same.T e4)) upd_same (fun y hy => hperm.mem_iff.mp hy) ?_ (fun _ => rfl) (fun _ => rfl) (fun _ => rfl) fun H5 p rs e5 hn5 h5 h6 => ?_
  · rw [hperm.length_eq, List.length_map]
    exact hB (by omega)
  refine q p rs H5 (e2.trans (e3.trans (e4.trans e5))) (new_none (e2.trans (e3.trans e4)) hn5) h5 ?_
  rw [hzs] at h6
  exact h6
theorem ok_law_words {f : Addr} {fd : FuncData} (F : FunD K "_law_words" "_law_words" (defArgs s_law_words) (defBody s_law_words) (defScope s_law_words) [] [] f fd) (hm : mg "_law_words" = some (.ref f)) (T : Top K mg)
    (D_law_walk : Def P w K mg base "_law_walk" 7 ["_law_word"] (spWalked K 6)) (D_law_by_text : Def P w K mg base "_law_by_text" 10 ["_law_row"] (spByText K)) : Def P w K mg base "_law_words" 11 ["_law_pairs_here"] (spWordsOf K) := by
  refine def_mk F hm (F.bindsN fun _ _ _ _ _ _ us hl => match us, hl with | [_], _ => rfl) sc_law_words (fun vs H Q E h => ?_) (fun cdv A outer s H vs Q E hr h => ?_)
  · obtain ⟨a, us, prs, rfl, _⟩ := h
    rfl
  obtain ⟨a, us, prs, rfl, ha, hu, hok, q⟩ := h
  have hul : us.length = prs.length := by
    have := hu.len
    unfold prD at this
    rwa [List.length_map] at this
  have hB : ∀ {n : Nat}, n ≤ 400000 → n ≤ sizeLine := fun h => Nat.le_trans h (by decide)
  have hwl : ∀ j, (wordsOf (prs.take j)).length ≤ 327680 := fun j => by
    have h1 := words_len (prs := prs.take j) fun p hp => hok.2 p (List.mem_of_mem_take hp)
    have h2 : (prs.take j).length ≤ 20 := by
      rw [List.length_take]
      have := hok.1
      omega
    omega
  refine ⟨_, (pss_cons (ps_set (i := 1) sc_law_words.nd rfl (Or.inl rfl) (pe_lst pa_nil))
  (pss_cons (ps_for PassesOwn.never rfl (pi_listK K (pv 0)) (pg_tupK K (n := 2) rfl (pgs_cons (pg_name (i := 2) sc_law_words.nd rfl (Or.inl rfl) (.inl rfl)) (pgs_cons (pg_name (i := 3) sc_law_words.nd rfl (Or.inl rfl) (.inl rfl)) pgs_nil)))
  (pss_one (ps_set (i := 1) sc_law_words.nd rfl (Or.inl rfl) (pe_op op_cat (pe_op op_cat (pv 1) (pe_def D_law_walk hr (by first | decide | omega) (pa_cons (pv 2) pa_nil))) (pe_def D_law_walk hr (by first | decide | omega) (pa_cons (pv 3) pa_nil))))))
  (pss_one (ps_ret (pe_def D_law_by_text hr (by first | decide | omega) (pa_cons (pv 1) pa_nil)))))), ?_⟩
  refine ⟨(by show 0 ≤ sizeLine; decide), fun p0 hp0 => ?_⟩
  have e0 := same_new hp0 (.lst [])
  refine ⟨_, rfl, a, rfl, ⟨us, SqL.of (e0 _ _ ha)⟩, ?_⟩
  refine for_list (xs := us) (fun i σ H' => ∃ (p : Addr) (fs : List V) (o1 o2 : Option V), σ = [some (.ref a), some (.ref p), o1, o2] ∧ Same H H' ∧ H p = none ∧ H' p = some (.lst fs) ∧ TpAll K H' fs (wordsOf (prs.take i)))
    ⟨p0, [], none, none, rfl, e0, hp0, upd_same, .nil⟩ (fun i σ H' _ ⟨_, _, _, _, _, e, _⟩ => SqL.of (e _ _ ha)) ?_ ?_
  · rintro i x σ H1 hx ⟨p, fs, o1, o2, rfl, e, hpn, hp, hfs⟩
    obtain ⟨pr, t, vl, vr, hpr, rfl, ht, hl, hrr⟩ := pr_get (hu.up (Same.T e)) hx
    obtain ⟨dl, dr⟩ := hok.2 pr (List.mem_of_getElem? hpr)
    have kl : (walkD 5 pr.1).length + 1 ≤ 8192 := walk_len dl
    have kr : (walkD 5 pr.2).length + 1 ≤ 8192 := walk_len dr
    have hw0 := hwl i
    have lf := hfs.len
    refine ⟨t, [vl, vr], rfl, ht.sqT, rfl, vl, [vr], rfl, vr, [], rfl, rfl, ?_⟩
    refine ⟨_, rfl, _, rfl, vl, pr.1, 4, rfl, hl, dl, by decide, by decide, fun p1 us1 H2 e2 hn1 hp1 hu1 => ?_⟩
    have lu1 : us1.length = (walkD 5 pr.1).length := hu1.len
    refine ⟨p, p1, fs, us1, rfl, rfl, e2 _ _ hp, hp1, hB (by omega), fun p2 hp2 => ?_⟩
    have e3 := same_new hp2 (.lst (fs ++ us1))
    refine ⟨_, rfl, vr, pr.2, 4, rfl, hrr.up (Same.T (e2.trans e3)), dr, by decide, by decide, fun p3 us3 H4 e4 hn3 hp3 hu3 => ?_⟩
    have lu3 : us3.length = (walkD 5 pr.2).length := hu3.len
    refine ⟨p2, p3, fs ++ us1, us3, rfl, rfl, e4 _ _ upd_same, hp3, hB (by rw [List.length_append]; omega), fun p5 hp5 => ?_⟩
    have e5 := same_new hp5 (.lst (fs ++ us1 ++ us3))
    have eA := e.trans (e2.trans (e3.trans e4))
    refine ⟨p5, _, _, _, rfl, eA.trans e5, new_none eA hp5, upd_same, ?_⟩
    rw [words_take hpr, ← List.append_assoc]
    exact TpAll.app (TpAll.app (hfs.up (Same.T ((e2.trans (e3.trans e4)).trans e5))) (hu1.up (Same.T ((e3.trans e4).trans e5)))) (hu3.up (Same.T e5))
  · rintro σ H1 ⟨p, fs, o1, o2, rfl, e, hpn, hp, hfs⟩
    rw [hul, List.take_length] at hfs
    have h2 := hwl prs.length
    rw [List.take_length] at h2
    exact ⟨_, rfl, p, fs, wordsOf prs, rfl, hp, hfs, words_drawn hok, by omega, fun r rs H2 e2 hn2 hr2 hrs => q r rs H2 (e.trans e2) (new_none e hn2) hr2 hrs⟩
end
end FF
/-! is_name, is_goal, is_rule -/
namespace FF
open PySem PySem.Spec PyProof.Rows L2
abbrev fitsB (d : PyData) : Bool := inB (meas 5 d) 24
abbrev smallS : Str := "abcdefghijklmnopqrstuvwxyz"
def isNameS (z : Str) : Bool := (decide ((1 : Int) ≤ z.length) && decide ((z.length : Int) ≤ 6)) && z.cps.toList.all fun c => decide (c ∈ smallS.cps.toList)
def isGoalD : PyData → Bool
  | .tuple [l, r] => fitsB l && fitsB r
  | _ => false
def isRuleD : PyData → Bool
  | .tuple [.str nm, l, r] => isNameS nm && (fitsB l && fitsB r)
  | _ => false
def spName (K : PySem.W.Frag) : Sp := fun vs H Q _ => ∃ z : Str, vs = [.str z] ∧ z.length ≤ 20000 ∧ ∀ H', Same H H' → Q (.bl (isNameS z)) H'
def spGoal (K : PySem.W.Frag) : Sp := fun vs H Q _ => ∃ (v : V) (d : PyData), vs = [v] ∧ Dp K H v d ∧ nice d = true ∧ ∀ H', Same H H' → Q (.bl (isGoalD d)) H'
def spRule (K : PySem.W.Frag) : Sp := fun vs H Q _ => ∃ (v : V) (d : PyData), vs = [v] ∧ Dp K H v d ∧ nice d = true ∧ ∀ H', Same H H' → Q (.bl (isRuleD d)) H'
theorem all_map {l : List Nat} {f : Nat → Bool} : (l.map f).all id = l.all f := by
  rw [List.all_map] <;> rfl
theorem bls_map {l : List Nat} {f : Nat → Bool} : l.map (fun c => V.bl (f c)) = (l.map f).map V.bl := by
  rw [List.map_map] <;> rfl
theorem nice_sl {z : Str} (h : nice (.str z) = true) : z.length ≤ 20000 := by
  simp only [nice, Bool.and_eq_true, decide_eq_true_eq] at h
  exact h.1
theorem len_two {α : Type} {l : List α} (h : l.length = 2) : ∃ a b, l = [a, b] := match l, h with
  | [a, b], _ => ⟨a, b, rfl⟩
theorem len_three {α : Type} {l : List α} (h : l.length = 3) : ∃ a b c, l = [a, b, c] := match l, h with
  | [a, b, c], _ => ⟨a, b, c, rfl⟩
section
variable {P : Program} {w : World} {K : PySem.W.Frag} {mg : Str → Option Value} {base : Heap}
theorem ok_is_name {f : Addr} {fd : FuncData} (F : FunD K "is_name" "is_name" (defArgs s_is_name) (defBody s_is_name) (defScope s_is_name) [] [] f fd) (hm : mg "is_name" = some (.ref f)) (T : Top K mg) : Def P w K mg base "is_name" 1 ["text"] (spName K) := by
  refine def_mk F hm (F.bindsN fun _ _ _ _ _ _ us hl => match us, hl with | [_], _ => rfl) sc_is_name (fun vs H Q E h => ?_) (fun cdv A outer s H vs Q E hr h => ?_)
  · obtain ⟨z, rfl, _⟩ := h
    rfl
  obtain ⟨z, rfl, hz, q⟩ := h
  have hzl : z.length ≤ sizeLine := le_line hz
  refine ⟨_, (pss_one (ps_ret (pe_and (pe_chain op_le op_le pe_int (pe_callB (call_lenK K) (by rfl) T.b_len (by decide +kernel) (pa_cons (pv 0) pa_nil)) (pe_gi T.g_MAX_NAME)) (pe_one (pe_callB (cr_allK K rfl) (by rfl) T.b_all (by decide +kernel) (pa_cons (pe_lc (own := [("sign", 1)]) rfl sc_is_name.nd (pi_str (pv 0)) (blkOk_by (by kernel_rfl)) (fun _ _ _ _ _ => (pg_name (i := 1) sc_is_name.nd rfl (Or.inl rfl) (.inr rfl))) (fun _ _ _ _ _ => pts_nil) (fun _ _ _ _ _ => (pe_cmpR op_in_sign (pv 1) (pe_gs T.g_SMALL_LETTERS) rfl))) pa_nil)))))), ?_⟩
  refine ⟨_, rfl, _, z.length, rfl, ⟨hzl, rfl⟩, ?_⟩
  refine chain_le (fun Q' h => h) ?_
  refine ⟨_, rfl, ?_⟩
  refine if_b (fun h1 => ?_) (fun h1 => ?_)
  · refine ⟨_, rfl, z, rfl, fun D hD => ?_⟩
    refine lc_strI (j := 1) (fun c => .bl (decide (c ∈ smallS.cps.toList))) hD hzl (fun _ => rfl) ?_ ?_
    · intro c H2 hc Q' hq
      exact ⟨_, rfl, c, smallS, rfl, rfl, hq H2 (Same.refl H2)⟩
    · intro H2 e2 h2
      refine ⟨D, z.cps.toList.map fun c => decide (c ∈ smallS.cps.toList), rfl, ?_, ?_⟩
      · rw [bls_map] at h2
        exact SqL.of h2
      · rw [all_map]
        refine qb (q H2 e2) ?_
        show ((decide ((1 : Int) ≤ z.length) && decide ((z.length : Int) ≤ 6)) && _) = _
        rw [h1, Bool.true_and]
  · refine qb (q H (Same.refl H)) ?_
    show ((decide ((1 : Int) ≤ z.length) && decide ((z.length : Int) ≤ 6)) && _) = false
    rw [h1, Bool.false_and]
theorem ok_is_goal {f fT : Addr} {fd fdT : FuncData} (F : FunD K "is_goal" "is_goal" (defArgs s_is_goal) (defBody s_is_goal) (defScope s_is_goal) [] [] f fd) (hm : mg "is_goal" = some (.ref f)) (T : Top K mg)
    (FT0 : FunD K "is_term" "is_term" (defArgs s_is_term) (defBody s_is_term) (defScope s_is_term) [] [("max_depth", .int 5), ("max_size", .int 24)] fT fdT) (hmT : mg "is_term" = some (.ref fT)) (FT : FnOk P w K mg base CX0 13 fT fdT ["value", "max_depth", "max_size"] (spIsTerm K)) : Def P w K mg base "is_goal" 14 ["value"] (spGoal K) := by
  obtain ⟨da, va, ba⟩ := bind_a FT0
  refine def_mk F hm (F.bindsN fun _ _ _ _ _ _ us hl => match us, hl with | [_], _ => rfl) sc_is_goal (fun vs H Q E h => ?_) (fun cdv A outer s H vs Q E hr h => ?_)
  · obtain ⟨v, d, rfl, _⟩ := h
    rfl
  obtain ⟨v, d, rfl, hd, hn, q⟩ := h
  refine ⟨_, (pss_one (ps_ret (pe_and (pe_callB (call_isK K kb_tup) (by rfl) T.b_isinstance (by decide +kernel) (pa_cons (pv 0) (pa_cons (pe_bltn (v := .ty "tuple") (by rfl) T.b_tuple (by decide +kernel) rfl) pa_nil))) (pe_and (pe_cmpR op_eq (pe_callB (call_lenK K) (by rfl) T.b_len (by decide +kernel) (pa_cons (pv 0) pa_nil)) pe_int (nomark _)) (pe_and (pe_call FT (hr.mono (by decide)) rfl hmT FT0.kp ba va pass0 (pa_cons (pe_ix (ix_tupK K) (pv 0) pe_int (fun _ _ => rfl)) pa_nil)) (pe_one (pe_call FT (hr.mono (by decide)) rfl hmT FT0.kp ba va pass0 (pa_cons (pe_ix (ix_tupK K) (pv 0) pe_int (fun _ _ => rfl)) pa_nil)))))))), ?_⟩
  refine ⟨_, rfl, v, d, rfl, hd, _, rfl, ?_⟩
  have no : isGoalD d = false → Q (.bl false) H := fun e => qb (q H (Same.refl H)) e
  cases hd with
  | tup hs ha =>
    rename_i a us ds
    refine if_t ?_
    have hl := da_len ha
    refine ⟨_, rfl, _, us.length, rfl, .inr ⟨us, hs, rfl⟩, rfl, _, rfl, ?_⟩
    refine if_int (fun h1 => ?_) (fun h1 => ?_)
    · obtain ⟨l, r, rfl⟩ := len_two (l := ds) (by omega)
      cases ha with
      | @cons vl _ _ _ hl' ha =>
      cases ha with
      | @cons vr _ _ _ hr' ha =>
      cases ha
      refine ⟨_, rfl, a, _, _, _, rfl, rfl, hs, at0, vl, l, 5, 24, rfl, hl', nice_ti hn (by simp), by decide, fun H2 e2 => ⟨_, rfl, ?_⟩⟩
      refine if_b (fun h2 => ?_) (fun h2 => ?_)
      · refine ⟨_, rfl, a, _, _, _, rfl, rfl, up_t e2 hs, rfl, vr, r, 5, 24, rfl, up_d e2 hr', nice_ti hn (by simp), by decide, fun H3 e3 => qb (q H3 (e2.trans e3)) ?_⟩
        show (fitsB l && fitsB r) = _
        rw [show fitsB l = true from h2, Bool.true_and] <;> rfl
      · refine qb (q H2 e2) ?_
        show (fitsB l && fitsB r) = false
        rw [show fitsB l = false from h2, Bool.false_and]
    · refine no ?_
      match ds, hl with
      | [], _ => rfl
      | [_], _ => rfl
      | [_, _], hl => exact absurd (by rw [hl]; rfl) h1
      | _ :: _ :: _ :: _, _ => rfl
  | non => exact no rfl
  | bl b => exact no rfl
  | int i => exact no rfl
  | str z => exact no rfl
  | lst _ _ => exact no rfl
theorem ok_is_rule {f : Addr} {fd : FuncData} (F : FunD K "is_rule" "is_rule" (defArgs s_is_rule) (defBody s_is_rule) (defScope s_is_rule) [] [] f fd) (hm : mg "is_rule" = some (.ref f)) (T : Top K mg)
    (D_is_name : Def P w K mg base "is_name" 1 ["text"] (spName K)) (D_is_goal : Def P w K mg base "is_goal" 14 ["value"] (spGoal K)) : Def P w K mg base "is_rule" 15 ["value"] (spRule K) := by
  refine def_mk F hm (F.bindsN fun _ _ _ _ _ _ us hl => match us, hl with | [_], _ => rfl) sc_is_rule (fun vs H Q E h => ?_) (fun cdv A outer s H vs Q E hr h => ?_)
  · obtain ⟨v, d, rfl, _⟩ := h
    rfl
  obtain ⟨v, d, rfl, hd, hn, q⟩ := h
  refine ⟨_, (pss_cons (ps_if (PW.pt (pw_or (pt_not (pt_val (pe_callB (call_isK K kb_tup) (by rfl) T.b_isinstance (by decide +kernel) (pa_cons (pv 0) (pa_cons (pe_bltn (v := .ty "tuple") (by rfl) T.b_tuple (by decide +kernel) rfl) pa_nil))))) (pw_or (pt_cmpR op_ne (pe_callB (call_lenK K) (by rfl) T.b_len (by decide +kernel) (pa_cons (pv 0) pa_nil)) pe_int (nomark _)) (pw_or1 (pt_not (pt_val (pe_callB (call_isK K kb_str) (by rfl) T.b_isinstance (by decide +kernel) (pa_cons (pe_ix (ix_tupK K) (pv 0) pe_int (fun _ _ => rfl)) (pa_cons (pe_bltn (v := .ty "str") (by rfl) T.b_str (by decide +kernel) rfl) pa_nil)))))))))
  (pss_one (ps_ret pe_bl))
  pss_nil)
  (pss_one (ps_ret (pe_and (pe_def D_is_name hr (by first | decide | omega) (pa_cons (pe_ix (ix_tupK K) (pv 0) pe_int (fun _ _ => rfl)) pa_nil)) (pe_one (pe_def D_is_goal hr (by first | decide | omega) (pa_cons (pe_slice (sl_tupK K) (pv 0) (po_some pe_int) po_none) pa_nil))))))), ?_⟩
  have no : isRuleD d = false → Q (.bl false) H := fun e => qb (q H (Same.refl H)) e
  refine ⟨_, rfl, v, d, rfl, hd, _, rfl, ?_⟩
  cases hd with
  | tup hs ha =>
    rename_i a us ds
    refine iteF ?_
    have hl := da_len ha
    refine ⟨_, rfl, _, us.length, rfl, .inr ⟨us, hs, rfl⟩, rfl, _, rfl, ?_⟩
    refine if_bb (b := !decide (us.length = 3)) (by
      congr 1
      exact decide_eq_decide.mpr ⟨fun z => Int.ofNat.inj (V.int.inj z), fun z => by rw [z] <;> rfl⟩) (fun h1 => ?_) (fun h1 => ?_)
    · refine no ?_
      match ds, hl with
      | [], _ => rfl
      | [x], _ => cases x <;> rfl
      | [x, _], _ => cases x <;> rfl
      | [_, _, _], hl =>
        rw [hl] at h1
        cases h1
      | x :: _ :: _ :: _ :: _, _ => cases x <;> rfl
    have h1 : us.length = 3 := by
      by_cases z : us.length = 3
      · exact z
      · rw [decide_eq_false z] at h1
        cases h1
    obtain ⟨nm, l, r, rfl⟩ := len_three (l := ds) (by omega)
    cases ha with
    | @cons vn _ _ _ hn' ha =>
    cases ha with
    | @cons vl _ _ _ hl' ha =>
    cases ha with
    | @cons vr _ _ _ hr' ha =>
    cases ha
    have nn := nice_ti hn (d := nm) (by simp)
    refine ⟨_, rfl, a, _, _, _, rfl, rfl, hs, at0, vn, nm, rfl, hn', _, rfl, ?_⟩
    cases hn' with
    | str z =>
      refine iteF ?_
      refine ⟨_, rfl, a, _, _, _, rfl, rfl, hs, at0, z, rfl, nice_sl nn, fun H2 e2 => ⟨_, rfl, ?_⟩⟩
      refine if_b (fun h2 => ?_) (fun h2 => ?_)
      · refine ⟨_, rfl, _, rfl, a, _, rfl, up_t e2 hs, notWhole1, fun p hp0 => ?_⟩
        rw [cut1]
        have e3 := same_new hp0 (.tup [vl, vr])
        refine ⟨.ref p, .tuple [l, r], rfl, .tup (SqT.of upd_same) (.cons (up_d (e2.trans e3) hl') (.cons (up_d (e2.trans e3) hr') .nil)), ?_, fun H4 e4 => qb (q H4 ((e2.trans e3).trans e4)) ?_⟩
        · have n1 := nice_ti hn (d := l) (by simp)
          have n2 := nice_ti hn (d := r) (by simp)
          simp only [nice, Bool.and_eq_true, decide_eq_true_eq]
          refine ⟨by simp, niceAll_of fun x hx => ?_⟩
          simp only [List.mem_cons, List.not_mem_nil, or_false] at hx
          rcases hx with rfl | rfl
          · exact n1
          · exact n2
        · show (isNameS z && (fitsB l && fitsB r)) = _
          rw [h2, Bool.true_and] <;> rfl
      · refine qb (q H2 e2) ?_
        show (isNameS z && (fitsB l && fitsB r)) = false
        rw [h2, Bool.false_and]
    | non => exact iteT (no rfl)
    | bl b => exact iteT (no rfl)
    | int i => exact iteT (no rfl)
    | lst _ _ => exact iteT (no rfl)
    | tup _ _ => exact iteT (no rfl)
  | non => exact iteT (no rfl)
  | bl b => exact iteT (no rfl)
  | int i => exact iteT (no rfl)
  | str z => exact iteT (no rfl)
  | lst _ _ => exact iteT (no rfl)
end
end FF
/-! need_list, pairs_in, checked_words -/
namespace FF
open PySem PySem.Spec PyProof.Rows L2
def nameOf : PyData → Str
  | .tuple (.str nm :: _) => nm
  | _ => ""
def badAt : List Str → Nat → List PyData → Option Nat
  | _, _, [] => none
  | seen, i, d :: ds => if isRuleD d = true ∧ nameOf d ∉ seen then badAt (seen ++ [nameOf d]) (i + 1) ds else some i
def rulesErr (ds : List PyData) : Option Nat := if 12 < ds.length then some 12 else badAt [] 0 ds
def pairOf : PyData → PyData × PyData
  | .tuple [_, l, r] => (l, r)
  | _ => (.none, .none)
def goalPart : PyData → Prs
  | .tuple [l, r] => [(l, r)]
  | _ => []
def prsOf (ds : List PyData) (g : PyData) : Prs := ds.map pairOf ++ goalPart g
inductive RErr where
  | rules (i : Nat)
  | goal
  | terms (n : Nat)
def isNoneD : PyData → Bool
  | .none => true
  | _ => false
def checkD (ds : List PyData) (g : PyData) : Option RErr := match rulesErr ds with
  | some i => some (.rules i)
  | none => if (!isNoneD g && !isGoalD g) = true then some .goal else if 24 < (vocD (prsOf ds g)).length then some (.terms (vocD (prsOf ds g)).length) else none
def RuleV (K : PySem.W.Frag) (H : Hp) (u : V) (d : PyData) : Prop := Dp K H u d ∧ Nice 50 d ∧ (isRuleD d = true → Tp K H u d ∧ Drawn 4 (pairOf d).1 ∧ Drawn 4 (pairOf d).2)
structure RulesV (K : PySem.W.Frag) (H : Hp) (v : V) (ds : List PyData) : Prop where
  ex : ∃ (a : Addr) (us : List V), v = .ref a ∧ (SqL K H a us ∨ SqT K H a us) ∧ us.length = ds.length ∧ ∀ (i : Nat) (u : V) (d : PyData), us[i]? = some u → ds[i]? = some d → RuleV K H u d
  len : ds.length ≤ 20000
def GoalV (K : PySem.W.Frag) (H : Hp) (v : V) (g : PyData) : Prop := Dp K H v g ∧ Nice 50 g ∧ (isGoalD g = true → Tp K H v g ∧ ∀ p ∈ goalPart g, Drawn 4 p.1 ∧ Drawn 4 p.2)
theorem RuleV.up {K : PySem.W.Frag} {H H' : Hp} {u : V} {d : PyData} (e : Same H H') (h : RuleV K H u d) : RuleV K H' u d := ⟨up_d e h.1, h.2.1, fun q => let ⟨a, b⟩ := h.2.2 q; ⟨a.up (Same.T e), b⟩⟩
theorem RulesV.up {K : PySem.W.Frag} {H H' : Hp} {v : V} {ds : List PyData} (e : Same H H') (h : RulesV K H v ds) : RulesV K H' v ds := by
  obtain ⟨a, us, h1, h2, h3, h4⟩ := h.ex
  exact ⟨⟨a, us, h1, up_s e h2, h3, fun i u d a b => (h4 i u d a b).up e⟩, h.len⟩
theorem GoalV.up {K : PySem.W.Frag} {H H' : Hp} {v : V} {g : PyData} (e : Same H H') (h : GoalV K H v g) : GoalV K H' v g := ⟨up_d e h.1, h.2.1, fun q => let ⟨a, b⟩ := h.2.2 q; ⟨a.up (Same.T e), b⟩⟩
def Err1 (K : PySem.W.Frag) (x f : Str) (y : V) (H : Hp) (E : XK) : Prop := ∀ dd H', Same H H' → H' dd = some (.xd [(f, y), (("code" : Str), .str x)]) → E (.ref (He.ga K x)) (some dd) H'
def Err0 (K : PySem.W.Frag) (x : Str) (H : Hp) (E : XK) : Prop := ∀ dd H', Same H H' → Thr x dd H' → E (.ref (He.ga K x)) dd H'
def ErrOf (K : PySem.W.Frag) (H : Hp) (E : XK) : RErr → Prop
  | .rules i => Err1 K "InvalidRules" "index" (.int i) H E
  | .goal => Err0 K "InvalidGoal" H E
  | .terms n => Err1 K "TooManyTerms" "count" (.int n) H E
theorem Err1.up {K : PySem.W.Frag} {x f : Str} {y : V} {H H1 : Hp} {E : XK} (h : Err1 K x f y H E) (e : Same H H1) : Err1 K x f y H1 E := fun dd H' e2 hd => h dd H' (e.trans e2) hd
theorem Err0.up {K : PySem.W.Frag} {x : Str} {H H1 : Hp} {E : XK} (h : Err0 K x H E) (e : Same H H1) : Err0 K x H1 E := fun dd H' e2 hd => h dd H' (e.trans e2) hd
def spNeedList (K : PySem.W.Frag) : Sp := fun vs H Q E => ∃ (v : V) (ds : List PyData), vs = [v] ∧ RulesV K H v ds ∧ (rulesErr ds = none → ∀ H', Same H H' → Q .non H') ∧ ∀ i, rulesErr ds = some i → Err1 K "InvalidRules" "index" (.int i) H E
def spPairsIn (K : PySem.W.Frag) : Sp := fun vs H Q _ => ∃ (v gv : V) (ds : List PyData) (g : PyData), vs = [v, gv] ∧ RulesV K H v ds ∧ (∀ d ∈ ds, isRuleD d = true) ∧ ds.length ≤ 12 ∧ GoalV K H gv g ∧ (isNoneD g = true ∨ isGoalD g = true) ∧
  ∀ r rs H', Same H H' → H r = none → H' r = some (.lst rs) → TpAll K H' rs (prD (prsOf ds g)) → Q (.ref r) H'
def spChecked (K : PySem.W.Frag) : Sp := fun vs H Q E => ∃ (v gv : V) (ds : List PyData) (g : PyData), vs = [v, gv] ∧ RulesV K H v ds ∧ GoalV K H gv g ∧
  (checkD ds g = none → ∀ r rs H', Same H H' → H r = none → H' r = some (.lst rs) → TpAll K H' rs (vocD (prsOf ds g)) → Q (.ref r) H') ∧ ∀ e, checkD ds g = some e → ErrOf K H E e
theorem rule_shape {d : PyData} (h : isRuleD d = true) : ∃ nm l r, d = .tuple [.str nm, l, r] ∧ isNameS nm = true := by
  match d, h with
  | .tuple [.str nm, l, r], h => exact ⟨nm, l, r, rfl, (Bool.and_eq_true_iff.mp h).1⟩
theorem goal_shape {d : PyData} (h : isGoalD d = true) : ∃ l r, d = .tuple [l, r] := by
  match d, h with
  | .tuple [l, r], _ => exact ⟨l, r, rfl⟩
theorem name_nice {z : Str} (h : isNameS z = true) : Nice 0 (.str z) := by
  obtain ⟨h1, h2⟩ := Bool.and_eq_true_iff.mp h
  have h3 : z.length ≤ 6 := by
    have := of_decide_eq_true (Bool.and_eq_true_iff.mp h1).2
    omega
  refine ⟨?_, Nat.le_of_eq (by rw [PyData.depth])⟩
  simp only [nice, Bool.and_eq_true, decide_eq_true_eq]
  refine ⟨by omega, ?_⟩
  show (z.cps.all fun x => decide (x < 0x110000)) = true
  rw [← Array.all_toList, List.all_eq_true]
  intro c hc
  have h4 := of_decide_eq_true (List.all_eq_true.mp h2 c hc)
  rw [show smallS.cps.toList = [97, 98, 99, 100, 101, 102, 103, 104, 105, 106, 107, 108, 109, 110, 111, 112, 113, 114, 115, 116, 117, 118, 119, 120, 121, 122] by decide +kernel] at h4
  refine decide_eq_true ?_
  simp only [List.mem_cons, List.not_mem_nil, or_false] at h4
  omega
theorem any_str {z : Str} : ∀ l : List Str, ((l.map PyData.str).any fun y => PyData.eqv y (.str z)) = decide (z ∈ l)
  | [] => rfl
  | x :: l => by
    rw [List.map_cons, List.any_cons, any_str l, PyData.eqv]
    by_cases h : x = z
    · subst h
      simp
    · have h2 : ¬ z = x := fun e => h e.symm
      simp [h, h2]
theorem tp_strs {K : PySem.W.Frag} {H : Hp} : ∀ l : List Str, DpAll K H (l.map V.str) (l.map PyData.str)
  | [] => .nil
  | x :: l => .cons (.str x) (tp_strs l)
theorem strs_nice {l : List Str} (hl : l.length ≤ 20000) (h : ∀ z ∈ l, isNameS z = true) : Nice 1 (.list (l.map PyData.str)) := Nice.list (n := 0) (by rw [List.length_map]; exact hl) fun d hd => by
  obtain ⟨z, hz, rfl⟩ := List.mem_map.mp hd
  exact name_nice (h z hz)
theorem Nice.sh {n : Nat} {d : PyData} (h : Nice n d) (hn : n ≤ 60) : SeqAt.shaped d = true := h.shaped (by omega)
theorem badAt_some : ∀ {seen : List Str} {i : Nat} {ds : List PyData} {j : Nat} {d : PyData}, ds[j]? = some d → badAt seen i ds = none → isRuleD d = true
  | seen, i, x :: ds, 0, d, h, e => by
    cases h
    have e : (if isRuleD x = true ∧ nameOf x ∉ seen then badAt (seen ++ [nameOf x]) (i + 1) ds else some i) = none := e
    split at e
    · rename_i q
      exact q.1
    · cases e
  | seen, i, x :: ds, j + 1, d, h, e => by
    have e : (if isRuleD x = true ∧ nameOf x ∉ seen then badAt (seen ++ [nameOf x]) (i + 1) ds else some i) = none := e
    split at e
    · exact badAt_some (ds := ds) (j := j) h e
    · cases e
theorem badAt_step {seen : List Str} {i : Nat} {ds : List PyData} {d : PyData} (h : ds[i]? = some d) : badAt seen i (ds.drop i) = if isRuleD d = true ∧ nameOf d ∉ seen then badAt (seen ++ [nameOf d]) (i + 1) (ds.drop (i + 1)) else some i := by
  have : ds.drop i = d :: ds.drop (i + 1) := by
    have hi := (List.getElem?_eq_some_iff.mp h)
    obtain ⟨hlt, e⟩ := hi
    rw [List.drop_eq_getElem_cons hlt, e]
  rw [this] <;> rfl
theorem rules_ok {ds : List PyData} (h : rulesErr ds = none) : ds.length ≤ 12 ∧ ∀ d ∈ ds, isRuleD d = true := by
  unfold rulesErr at h
  split at h
  · cases h
  · exact ⟨by omega, fun d hd => let ⟨j, hj⟩ := List.getElem?_of_mem hd; badAt_some hj h⟩
section
variable {P : Program} {w : World} {K : PySem.W.Frag} {mg : Str → Option Value} {base : Heap}
theorem ok_need_list {f : Addr} {fd : FuncData} (F : FunD K "need_list" "need_list" (defArgs s_need_list) (defBody s_need_list) (defScope s_need_list) [] [] f fd) (hm : mg "need_list" = some (.ref f)) (T : Top K mg)
    (D_is_rule : Def P w K mg base "is_rule" 15 ["value"] (spRule K)) (x_InvalidRules : RaiseD1 P w K mg base "InvalidRules" "FaultError" 2 "InvalidRules" "index") : DefX P w K mg base "need_list" 16 ["rules"] (spNeedList K) := by
  refine defx_mk F hm (F.bindsN fun _ _ _ _ _ _ us hl => match us, hl with | [_], _ => rfl) sc_need_list (fun vs H Q E h => ?_) (fun cdv A outer s0 H vs Q E hr h tk => ?_)
  · obtain ⟨v, ds, rfl, _⟩ := h
    rfl
  obtain ⟨v, ds, rfl, hR, q1, q2⟩ := h
  obtain ⟨a, us, rfl, hs, hul, hu⟩ := hR.ex
  refine ⟨_, (pss_cons (ps_if (pt_cmpR op_gt (pe_callB (call_lenK K) (by rfl) T.b_len (by decide +kernel) (pa_cons (pv 0) pa_nil)) (pe_gi T.g_MAX_RULES) (nomark _))
  (pss_one (ps_raise rfl tk (pmk_raise1 x_InvalidRules hr (by first | decide | omega) (pa_cons (pe_gi T.g_MAX_RULES) pa_nil) (mono := by intro σ H Q Q' h q; first | exact h _ _ q | exact (let ⟨v, e, q⟩ := q; ⟨v, e, h _ _ q⟩) | exact (let ⟨v, e, x, n, e2, h2, q⟩ := q; ⟨v, e, x, n, e2, h2, h _ _ q⟩) | exact (let ⟨v, e, a, b, c, d, e1, e2, h1, h2, q⟩ := q; ⟨v, e, a, b, c, d, e1, e2, h1, h2, h _ _ q⟩)))))
  pss_nil)
  (pss_cons (ps_set (i := 1) sc_need_list.nd rfl (Or.inl rfl) (pe_lst pa_nil))
  (pss_one (ps_for (passes_of rfl) rfl (pi_enumS K (by rfl) T.b_enumerate (pa_cons (pv 0) pa_nil)) (pg_tupK K (n := 2) rfl (pgs_cons (pg_name (i := 2) sc_need_list.nd rfl (Or.inl rfl) (.inl rfl)) (pgs_cons (pg_name (i := 3) sc_need_list.nd rfl (Or.inl rfl) (.inl rfl)) pgs_nil)))
  (pss_cons (ps_if (PW.pt (pw_or (pt_not (pt_val (pe_def D_is_rule hr (by first | decide | omega) (pa_cons (pv 3) pa_nil)))) (pw_or1 (pt_cmpR (op_inK K (r65 hr)) (pe_ix (ix_tupK K) (pv 3) pe_int (fun _ _ => rfl)) (pv 1) (by rfl)))))
  (pss_one (ps_raise rfl tk (pmk_raise1 x_InvalidRules hr (by first | decide | omega) (pa_cons (pv 2) pa_nil) (mono := by intro σ H Q Q' h q; first | exact h _ _ q | exact (let ⟨v, e, q⟩ := q; ⟨v, e, h _ _ q⟩) | exact (let ⟨v, e, x, n, e2, h2, q⟩ := q; ⟨v, e, x, n, e2, h2, h _ _ q⟩) | exact (let ⟨v, e, a, b, c, d, e1, e2, h1, h2, q⟩ := q; ⟨v, e, a, b, c, d, e1, e2, h1, h2, h _ _ q⟩)))))
  pss_nil)
  (pss_one (ps_expr (pe_bmK K PySem.F.plainAttrs_list PySem.F.slot_list_append PySem.F.type_list_append mt_append (pv 1) (pa_cons (pe_ix (ix_tupK K) (pv 3) pe_int (fun _ _ => rfl)) pa_nil))))))))), ?_⟩
  refine ⟨_, rfl, _, us.length, rfl, len_s hs rfl, _, _, rfl, rfl, _, rfl, ?_⟩
  refine if_dec (fun h1 => ?_) (fun h1 => ?_)
  · exact ⟨.int 12, rfl, fun dd H' e hd => q2 12 (if_pos (by omega)) dd H' e hd⟩
  have h12 : ds.length ≤ 12 := by omega
  have eErr : rulesErr ds = badAt [] 0 ds := if_neg (by omega)
  refine ⟨(by show 0 ≤ sizeLine; decide), fun n hn => ?_⟩
  have e0 := same_new hn (.lst [])
  refine ⟨_, rfl, for_enumS hs e0 (fun i σ H' => ∃ (seen : List Str) (o2 o3 : Option V), σ = [some (.ref a), some (.ref n), o2, o3] ∧ Same H H' ∧ H' n = some (.lst (seen.map V.str)) ∧ (∀ z ∈ seen, isNameS z = true) ∧ seen.length ≤ i ∧ badAt [] 0 ds = badAt seen i (ds.drop i))
    ⟨[], none, none, rfl, e0, upd_same, (fun z h => by cases h), Nat.le_refl _, rfl⟩ (fun i σ H' _ ⟨_, _, _, _, e, _⟩ => e) ?_ ?_⟩
  · rintro i x σ H1 t hx ⟨seen, o2, o3, rfl, e, hn1, hsn, hsl, eb⟩ ht
    have hi : i < ds.length := by
      have := (List.getElem?_eq_some_iff.mp hx).1
      omega
    obtain ⟨d, hd⟩ : ∃ d, ds[i]? = some d := ⟨ds[i], by simp [hi]⟩
    have e2 := same_new ht (.tup [.int (i : Nat), x])
    obtain ⟨r1, r2, r3⟩ := ((hu i x d hx hd).up (e.trans e2))
    have hn2 := e2 _ _ hn1
    rw [badAt_step hd] at eb
    refine ⟨t, [.int (i : Nat), x], rfl, SqT.of upd_same, rfl, _, _, rfl, _, _, rfl, rfl, ?_⟩
    refine ⟨_, rfl, x, d, rfl, r1, r2.ok, fun H3 e3 => ⟨_, rfl, ?_⟩⟩
    have eA := e.trans (e2.trans e3)
    refine if_nb (fun h1 => ?_) (fun h1 => ?_)
    · rw [if_neg (fun q => by rw [h1] at q; cases q.1)] at eb
      exact ⟨_, rfl, _, rfl, fun dd H4 e4 hdd => q2 i (eErr.trans eb) dd H4 (eA.trans e4) hdd⟩
    obtain ⟨nm, l, r, rfl, hnm⟩ := rule_shape h1
    obtain ⟨r4, _⟩ := r3 h1
    cases r4.up (Same.T e3) with
    | @tup ta txs _ hta htx =>
    cases htx with
    | @cons vn _ _ _ hvn _ =>
    cases hvn
    refine ⟨_, rfl, ta, _, _, _, rfl, rfl, hta.sqT, at0, _, rfl, .str nm, seen.map PyData.str, .str nm, .inl (.lst (SqL.of (e3 _ _ hn2)) (tp_strs seen)), (name_nice hnm).sh (by decide), (strs_nice (by omega) hsn).sh (by decide), ?_⟩
    rw [any_str]
    refine ⟨_, rfl, ?_⟩
    refine if_bb (b := decide (nm ∈ seen)) rfl (fun h2 => ?_) (fun h2 => ?_)
    · rw [if_neg (fun q => q.2 (of_decide_eq_true h2))] at eb
      exact ⟨_, rfl, _, rfl, fun dd H4 e4 hdd => q2 i (eErr.trans eb) dd H4 (eA.trans e4) hdd⟩
    · rw [if_pos ⟨h1, of_decide_eq_false h2⟩] at eb
      refine ⟨_, rfl, .inl ⟨rfl, _, SqL.of (e3 _ _ hn2)⟩, _, rfl, ta, _, _, _, rfl, rfl, hta.sqT, at0, n, _, _, rfl, rfl, e3 _ _ hn2, ?_, ?_⟩
      · rw [List.length_map]
        exact lt_line (by omega)
      · refine ⟨seen ++ [nm], _, _, rfl, fun b u hb => ?_, ?_, ?_, ?_, eb⟩
        · rw [upd_ne (ne_of_none hb hn)]
          exact eA _ _ hb
        · rw [List.map_append]
          exact upd_same
        · intro z hz
          rcases List.mem_append.mp hz with hz | hz
          · exact hsn z hz
          · rw [List.mem_singleton.mp hz]
            exact hnm
        · rw [List.length_append, List.length_singleton]
          omega
  · rintro σ H1 ⟨seen, o2, o3, rfl, e, hn1, hsn, hsl, eb⟩
    rw [hul, List.drop_eq_nil_of_le (Nat.le_refl _)] at eb
    exact q1 (eErr.trans eb) H1 e
end
end FF
/-! pairs_in, checked_words, vocabulary -/
namespace FF
open PySem PySem.Spec PyProof.Rows L2
theorem g3_mono {K : PySem.W.Frag} {i j k : Nat} {σ : L2.St} : ∀ (x : V) (H2 : Hp) (A B : L2.St → Hp → Prop), (∀ σ H, A σ H → B σ H) → gTup K 3 (gCons (gName i) (gCons (gName j) (gCons (gName k) gNil))) x σ H2 A → gTup K 3 (gCons (gName i) (gCons (gName j) (gCons (gName k) gNil))) x σ H2 B := by
  rintro x H2 A B f ⟨a, xs, e, h, l, v1, r1, e1, v2, r2, e2, v3, r3, e3, e4, q⟩
  exact ⟨a, xs, e, h, l, v1, r1, e1, v2, r2, e2, v3, r3, e3, e4, f _ _ q⟩
theorem goal_len (g : PyData) : (goalPart g).length ≤ 1 := by
  unfold goalPart
  split
  · exact Nat.le_refl 1
  · exact Nat.zero_le 1
theorem prs_len (ds : List PyData) (g : PyData) : (prsOf ds g).length ≤ ds.length + 1 := by
  unfold prsOf
  rw [List.length_append, List.length_map]
  have := goal_len g
  omega
theorem prs_ok {K : PySem.W.Frag} {H : Hp} {v gv : V} {ds : List PyData} {g : PyData} (hR : RulesV K H v ds) (h1 : ∀ d ∈ ds, isRuleD d = true) (h2 : ds.length ≤ 12) (hG : GoalV K H gv g) (hg : isNoneD g = true ∨ isGoalD g = true) : PrOk (prsOf ds g) := by
  refine ⟨by have := prs_len ds g; omega, fun p hp => ?_⟩
  rcases List.mem_append.mp hp with hp | hp
  · obtain ⟨d, hd, rfl⟩ := List.mem_map.mp hp
    obtain ⟨a, us, _, _, hl, hu⟩ := hR.ex
    obtain ⟨i, hi⟩ := List.getElem?_of_mem hd
    have hlt : i < us.length := by
      have := (List.getElem?_eq_some_iff.mp hi).1
      omega
    exact ((hu i us[i] d (by simp [hlt]) hi).2.2 (h1 d hd)).2
  · rcases hg with hg | hg
    · match g, hg with
      | .none, _ => cases hp
    · exact (hG.2.2 hg).2 p hp
section
variable {P : Program} {w : World} {K : PySem.W.Frag} {mg : Str → Option Value} {base : Heap}
theorem ok_pairs_in {f : Addr} {fd : FuncData} (F : FunD K "pairs_in" "pairs_in" (defArgs s_pairs_in) (defBody s_pairs_in) (defScope s_pairs_in) [] [] f fd) (hm : mg "pairs_in" = some (.ref f)) (T : Top K mg) : Def P w K mg base "pairs_in" 1 ["rules", "goal"] (spPairsIn K) := by
  refine def_mk F hm (F.bindsN fun _ _ _ _ _ _ us hl => match us, hl with | [_, _], _ => rfl) sc_pairs_in (fun vs H Q E h => ?_) (fun cdv A outer s H vs Q E hr h => ?_)
  · obtain ⟨v, gv, ds, g, rfl, _⟩ := h
    rfl
  obtain ⟨v, gv, ds, g, rfl, hR, h1, h2, hG, hg, q⟩ := h
  obtain ⟨a, us, rfl, hs, hul, hu⟩ := hR.ex
  refine ⟨_, (pss_one (ps_ret (pe_op op_cat (pe_lc (own := [("name", 2), ("left", 3), ("right", 4)]) rfl sc_pairs_in.nd (pi_seqK K (pv 0)) (blkOk_by (by kernel_rfl)) (fun _ _ _ _ _ => (pg_tupK K (n := 3) rfl (pgs_cons (pg_name (i := 2) sc_pairs_in.nd rfl (Or.inl rfl) (.inr rfl)) (pgs_cons (pg_name (i := 3) sc_pairs_in.nd rfl (Or.inl rfl) (.inr rfl)) (pgs_cons (pg_name (i := 4) sc_pairs_in.nd rfl (Or.inl rfl) (.inr rfl)) pgs_nil))))) (fun _ _ _ _ _ => pts_nil) (fun _ _ _ _ _ => (pe_tup (pa_cons (pv 3) (pa_cons (pv 4) pa_nil))))) (pe_ifExp (pt_cmp (pc_notN (pv 1)) (by rfl)) (pe_lst (pa_cons (pv 1) pa_nil)) (pe_lst pa_nil))))), ?_⟩
  refine ⟨_, rfl, lc_mapS (fun i y H' => ∃ d, ds[i]? = some d ∧ Tp K H' y (.tuple [(pairOf d).1, (pairOf d).2])) (fun i y H1 H2 e ⟨d, h1, h2⟩ => ⟨d, h1, h2.up e⟩) hs (le_line (by omega)) ?_ g3_mono ?_⟩
  · intro i x H2 hx e Q' k'
    have hi : i < ds.length := by
      have := (List.getElem?_eq_some_iff.mp hx).1
      omega
    obtain ⟨d, hd⟩ : ∃ d, ds[i]? = some d := ⟨ds[i], by simp [hi]⟩
    have hrd := h1 d (List.mem_of_getElem? hd)
    obtain ⟨nm, l, r, rfl, hnm⟩ := rule_shape hrd
    obtain ⟨r4, _⟩ := ((hu i x _ hx hd).up e).2.2 hrd
    cases r4 with
    | @tup ta txs _ hta htx =>
    cases htx with
    | @cons vn _ _ _ hvn htx =>
    cases htx with
    | @cons vl _ _ _ hvl htx =>
    cases htx with
    | @cons vr _ _ _ hvr htx =>
    cases htx
    refine ⟨ta, [vn, vl, vr], rfl, hta.sqT, rfl, vn, _, rfl, vl, _, rfl, vr, _, rfl, rfl, rfl, ?_⟩
    refine ⟨_, rfl, _, rfl, (by show 2 ≤ sizeLine; decide), fun t ht => k' _ _ (same_new ht _) ⟨_, hd, ?_⟩⟩
    have e3 := Same.T (same_new ht (.tup [vl, vr]))
    exact .tup (.inl upd_same) (.cons (hvl.up e3) (.cons (hvr.up e3) .nil))
  intro H2 D ys e2 hD h3 h4 h5
  have hG2 := hG.up e2
  have hys : TpAll K H2 ys (prD (ds.map pairOf)) := TpAll.of_get (by unfold prD; rw [List.length_map, List.length_map, h4, hul]) fun i v d hi hd => by
    obtain ⟨d0, h6, h7⟩ := h5 i v hi
    unfold prD at hd
    rw [List.getElem?_map, List.getElem?_map, h6] at hd
    cases hd
    exact h7
  have fin : ∀ (b : Addr) (zs : List V) (H3 : Hp), Same H2 H3 → H3 b = some (.lst zs) → TpAll K H3 zs (prD (goalPart g)) → rCat (.ref D) (.ref b) H3 Q := fun b zs H3 e3 hb hz => by
    refine ⟨D, b, ys, zs, rfl, rfl, e3 _ _ h3, hb, ?_, fun p hp => ?_⟩
    · have l1 := hz.len
      have l2 : (prD (goalPart g)).length ≤ 1 := by
        unfold prD
        rw [List.length_map]
        exact goal_len g
      exact le_line (by omega)
    · have e4 := same_new hp (.lst (ys ++ zs))
      refine q p _ _ (e2.trans (e3.trans e4)) (new_none (e2.trans e3) hp) upd_same ?_
      unfold prsOf prD
      rw [List.map_append]
      exact TpAll.app (hys.up ((Same.T e3).trans (Same.T e4))) (hz.up (Same.T e4))
  have e0 : ∀ {p : Addr} {o : HO}, H2 p = none → Same H2 (upd H2 p o) := fun h => same_new h _
  refine ⟨_, rfl, ?_⟩
  have hgd := hG2.1
  rcases hg with hg | hg
  · match g, hg with
    | .none, _ =>
    cases hgd
    refine ⟨_, rfl, iteF ⟨(by show 0 ≤ sizeLine; decide), fun p hp => fin p [] _ (e0 hp) upd_same .nil⟩⟩
  · obtain ⟨hgt, _⟩ := hG2.2.2 hg
    obtain ⟨l, r, rfl⟩ := goal_shape hg
    cases hgt with
    | tup ht ha =>
    refine ⟨_, rfl, iteT ⟨_, rfl, (by show 1 ≤ sizeLine; decide), fun p hp => fin p _ _ (e0 hp) upd_same (.cons ?_ .nil)⟩⟩
    exact (Tp.tup ht ha).up (Same.T (e0 hp))
theorem ok_checked {f : Addr} {fd : FuncData} (F : FunD K "checked_words" "checked_words" (defArgs s_checked_words) (defBody s_checked_words) (defScope s_checked_words) [] [] f fd) (hm : mg "checked_words" = some (.ref f)) (T : Top K mg)
    (D_need_list : DefX P w K mg base "need_list" 16 ["rules"] (spNeedList K)) (D_is_goal : Def P w K mg base "is_goal" 14 ["value"] (spGoal K)) (D_pairs_in : Def P w K mg base "pairs_in" 1 ["rules", "goal"] (spPairsIn K)) (D_words_of : Def P w K mg base "words_of" 10 ["pairs"] (spWordsOf K))
    (x_InvalidGoal : RaiseD P w K mg base "InvalidGoal" "FaultError" 2 "InvalidGoal") (x_TooManyTerms : RaiseD1 P w K mg base "TooManyTerms" "FaultError" 2 "TooManyTerms" "count") : DefX P w K mg base "checked_words" 17 ["rules", "goal"] (spChecked K) := by
  refine defx_mk F hm (F.bindsN fun _ _ _ _ _ _ us hl => match us, hl with | [_, _], _ => rfl) sc_checked_words (fun vs H Q E h => ?_) (fun cdv A outer s0 H vs Q E hr h tk => ?_)
  · obtain ⟨v, gv, ds, g, rfl, _⟩ := h
    rfl
  obtain ⟨v, gv, ds, g, rfl, hR, hG, q1, q2⟩ := h
  refine ⟨_, (pss_cons (ps_expr (pe_defx (E := E) D_need_list tk (fun _ _ _ _ h => h) hr (by first | decide | omega) (pa_cons (pv 0) pa_nil)))
  (pss_cons (ps_if (PW.pt (pw_and (pt_cmp (pc_notN (pv 1)) (by rfl)) (pw_and1 (pt_not (pt_val (pe_def D_is_goal hr (by first | decide | omega) (pa_cons (pv 1) pa_nil)))))))
  (pss_one (ps_raise rfl tk (pmk_raise x_InvalidGoal hr (by first | decide | omega))))
  pss_nil)
  (pss_cons (ps_set (i := 2) sc_checked_words.nd rfl (Or.inl rfl) (pe_def D_words_of hr (by first | decide | omega) (pa_cons (pe_def D_pairs_in hr (by first | decide | omega) (pa_cons (pv 0) (pa_cons (pv 1) pa_nil))) pa_nil)))
  (pss_cons (ps_if (pt_cmpR op_gt (pe_callB (call_lenK K) (by rfl) T.b_len (by decide +kernel) (pa_cons (pv 2) pa_nil)) (pe_gi T.g_MAX_TERMS) (nomark _))
  (pss_one (ps_raise rfl tk (pmk_raise1 x_TooManyTerms hr (by first | decide | omega) (pa_cons (pe_callB (call_lenK K) (by rfl) T.b_len (by decide +kernel) (pa_cons (pv 2) pa_nil)) pa_nil) (mono := by intro σ H Q Q' h q; first | exact h _ _ q | exact (let ⟨v, e, q⟩ := q; ⟨v, e, h _ _ q⟩) | exact (let ⟨v, e, x, n, e2, h2, q⟩ := q; ⟨v, e, x, n, e2, h2, h _ _ q⟩) | exact (let ⟨v, e, a, b, c, d, e1, e2, h1, h2, q⟩ := q; ⟨v, e, a, b, c, d, e1, e2, h1, h2, h _ _ q⟩)))))
  pss_nil)
  (pss_one (ps_ret (pv 2))))))), ?_⟩
  refine ⟨_, rfl, v, ds, rfl, hR, fun h1 H1 e1 => ?_, fun i h1 => q2 (.rules i) (by unfold checkD; rw [h1])⟩
  obtain ⟨h12, hall⟩ := rules_ok h1
  have eC : checkD ds g = if (!isNoneD g && !isGoalD g) = true then some .goal else if 24 < (vocD (prsOf ds g)).length then some (.terms (vocD (prsOf ds g)).length) else none := by
    unfold checkD
    rw [h1]
  have hR1 := hR.up e1
  have hG1 := hG.up e1
  have vnon : isNoneD g = true → gv = .non := fun h => by
    have h2 := hG.1
    cases g with
    | none =>
      cases h2
      rfl
    | _ => cases h
  have vnot : isNoneD g = false → decide (gv = .non) = false := fun h => by
    have h2 := hG.1
    refine decide_eq_false fun e => ?_
    subst e
    cases h2
    cases h
  refine ⟨_, rfl, _, rfl, ?_⟩
  by_cases hgood : isNoneD g = true ∨ isGoalD g = true
  · have eC2 : checkD ds g = if 24 < (vocD (prsOf ds g)).length then some (.terms (vocD (prsOf ds g)).length) else none := by
      rw [eC, if_neg]
      rcases hgood with h | h <;> rw [h] <;> simp
    by_cases hno : isNoneD g = true
    · have hv := vnon hno
      subst hv
      obtain ⟨H2, e2, hH2⟩ : ∃ H2, Same H H2 ∧ H2 = H1 := ⟨H1, e1, rfl⟩
      rw [← hH2]
      refine iteF (iteF ?_)
      refine ⟨_, rfl, _, rfl, v, .non, ds, g, rfl, hR.up e2, hall, h12, hG.up e2, hgood, fun r rs H3 e3 hn3 h4 h5 => ⟨r, rs, _, rfl, h4, h5, prs_ok hR hall h12 hG hgood, fun r2 rs2 H4 e4 hn4 h6 h7 => ?_⟩⟩
      have lr := h7.len
      have eA := e2.trans (e3.trans e4)
      refine ⟨_, rfl, _, rs2.length, rfl, .inl ⟨_, SqL.of h6, rfl⟩, _, _, rfl, rfl, _, rfl, ?_⟩
      refine if_dec (fun h8 => ?_) (fun h8 => ?_)
      · refine ⟨_, rfl, _, rs2.length, rfl, .inl ⟨_, SqL.of h6, rfl⟩, _, rfl, fun dd H5 e5 hd => ?_⟩
        have := q2 (.terms (vocD (prsOf ds g)).length) (by rw [eC2, if_pos (by omega)]) dd H5 (eA.trans e5)
        rw [← lr] at this
        exact this hd
      · exact ⟨_, rfl, q1 (by rw [eC2, if_neg (by omega)]) r2 rs2 H4 eA (new_none (e2.trans e3) hn4) h6 h7⟩
    · have hno : isNoneD g = false := by simpa using hno
      have hgg : isGoalD g = true := hgood.resolve_left (by rw [hno]; decide)
      rw [vnot hno]
      refine iteT ⟨_, rfl, gv, g, rfl, (hG.up e1).1, (hG.up e1).2.1.ok, fun H2 e2' => ⟨_, rfl, ?_⟩⟩
      rw [hgg]
      have e2 := e1.trans e2'
      refine iteF ?_
      refine ⟨_, rfl, _, rfl, v, gv, ds, g, rfl, hR.up e2, hall, h12, hG.up e2, hgood, fun r rs H3 e3 hn3 h4 h5 => ⟨r, rs, _, rfl, h4, h5, prs_ok hR hall h12 hG hgood, fun r2 rs2 H4 e4 hn4 h6 h7 => ?_⟩⟩
      have lr := h7.len
      have eA := e2.trans (e3.trans e4)
      refine ⟨_, rfl, _, rs2.length, rfl, .inl ⟨_, SqL.of h6, rfl⟩, _, _, rfl, rfl, _, rfl, ?_⟩
      refine if_dec (fun h8 => ?_) (fun h8 => ?_)
      · refine ⟨_, rfl, _, rs2.length, rfl, .inl ⟨_, SqL.of h6, rfl⟩, _, rfl, fun dd H5 e5 hd => ?_⟩
        have := q2 (.terms (vocD (prsOf ds g)).length) (by rw [eC2, if_pos (by omega)]) dd H5 (eA.trans e5)
        rw [← lr] at this
        exact this hd
      · exact ⟨_, rfl, q1 (by rw [eC2, if_neg (by omega)]) r2 rs2 H4 eA (new_none (e2.trans e3) hn4) h6 h7⟩
  · have hno : isNoneD g = false := by
      cases h : isNoneD g with
      | true => exact absurd (.inl h) hgood
      | false => rfl
    have hgg : isGoalD g = false := by
      cases h : isGoalD g with
      | true => exact absurd (.inr h) hgood
      | false => rfl
    rw [vnot hno]
    refine iteT ⟨_, rfl, gv, g, rfl, (hG.up e1).1, (hG.up e1).2.1.ok, fun H2 e2' => ⟨_, rfl, ?_⟩⟩
    rw [hgg]
    exact iteT fun dd H3 e3 ht => q2 .goal (by rw [eC, hno, hgg]; rfl) dd H3 ((e1.trans e2').trans e3) ht
end
end FF
/-! goal_words -/
namespace FF
open PySem PySem.Spec PyProof.Rows L2
def goalErr (ds : List PyData) (g : PyData) : Option RErr := match rulesErr ds with
  | some i => some (.rules i)
  | none => if isNoneD g = true then some .goal else checkD ds g
def spGoalW (K : PySem.W.Frag) : Sp := fun vs H Q E => ∃ (v gv : V) (ds : List PyData) (g : PyData), vs = [v, gv] ∧ RulesV K H v ds ∧ GoalV K H gv g ∧
  (goalErr ds g = none → ∀ r rs H', Same H H' → H r = none → H' r = some (.lst rs) → TpAll K H' rs (vocD (prsOf ds g)) → Q (.ref r) H') ∧ ∀ e, goalErr ds g = some e → ErrOf K H E e
section
variable {P : Program} {w : World} {K : PySem.W.Frag} {mg : Str → Option Value} {base : Heap}
theorem ok_goal_words {f : Addr} {fd : FuncData} (F : FunD K "goal_words" "goal_words" (defArgs s_goal_words) (defBody s_goal_words) (defScope s_goal_words) [] [] f fd) (hm : mg "goal_words" = some (.ref f)) (T : Top K mg)
    (D_need_list : DefX P w K mg base "need_list" 16 ["rules"] (spNeedList K)) (D_checked_words : DefX P w K mg base "checked_words" 17 ["rules", "goal"] (spChecked K))
    (x_InvalidGoal : RaiseD P w K mg base "InvalidGoal" "FaultError" 2 "InvalidGoal") : DefX P w K mg base "goal_words" 18 ["rules", "goal"] (spGoalW K) := by
  refine defx_mk F hm (F.bindsN fun _ _ _ _ _ _ us hl => match us, hl with | [_, _], _ => rfl) sc_goal_words (fun vs H Q E h => ?_) (fun cdv A outer s0 H vs Q E hr h tk => ?_)
  · obtain ⟨v, gv, ds, g, rfl, _⟩ := h
    rfl
  obtain ⟨v, gv, ds, g, rfl, hR, hG, q1, q2⟩ := h
  refine ⟨_, (pss_cons (ps_expr (pe_defx (E := E) D_need_list tk (fun _ _ _ _ h => h) hr (by first | decide | omega) (pa_cons (pv 0) pa_nil)))
  (pss_cons (ps_if (pt_cmp (pc_isN (pv 1)) (by rfl))
  (pss_one (ps_raise rfl tk (pmk_raise x_InvalidGoal hr (by first | decide | omega))))
  pss_nil)
  (pss_one (ps_ret (pe_defx (E := E) D_checked_words tk (fun _ _ _ _ h => h) hr (by first | decide | omega) (pa_cons (pv 0) (pa_cons (pv 1) pa_nil))))))), ?_⟩
  refine ⟨_, rfl, v, ds, rfl, hR, fun h1 H1 e1 => ?_, fun i h1 => q2 (.rules i) (by unfold goalErr; rw [h1])⟩
  have eC : goalErr ds g = if isNoneD g = true then some .goal else checkD ds g := by
    unfold goalErr
    rw [h1]
  have h2 := hG.1
  by_cases hno : isNoneD g = true
  · match g, hno with
    | .none, _ =>
    cases h2
    refine ⟨_, rfl, _, rfl, iteT fun dd H3 e3 ht => q2 .goal (by rw [eC]; rfl) dd H3 (e1.trans e3) ht⟩
  · rw [if_neg hno] at eC
    have hne : decide (gv = .non) = false := decide_eq_false fun e => by
      subst e
      cases h2
      exact hno rfl
    refine ⟨_, rfl, _, rfl, ?_⟩
    rw [hne]
    refine iteF ⟨_, rfl, _, rfl, v, gv, ds, g, rfl, hR.up e1, hG.up e1, fun h3 r rs H4 e4 hr h5 h6 => ?_, fun e h3 => ?_⟩
    · exact q1 (by rw [eC]; exact h3) r rs H4 (e1.trans e4) (new_none e1 hr) h5 h6
    · have := q2 e (by rw [eC]; exact h3)
      cases e with
      | rules i => exact Err1.up this e1
      | goal => exact Err0.up this e1
      | terms n => exact Err1.up this e1
end
end FF
/-! _law_names, told exactly: valid names, no two alike -/
namespace FF
open PySem PySem.Spec PyProof.Rows L2
theorem smallS_val : smallS.cps.toList = [97, 98, 99, 100, 101, 102, 103, 104, 105, 106, 107, 108, 109, 110, 111, 112, 113, 114, 115, 116, 117, 118, 119, 120, 121, 122] := by decide +kernel
theorem small_get : ∀ k : Nat, k < 26 → smallS.cps.toList[k]? = some (97 + k) := by
  rw [smallS_val]
  decide +kernel
theorem small_at {k : Nat} (h : k < 26) : atI smallS.cps.toList (k : Int) = some (97 + k) := atI_nat (small_get k h)
theorem sum_one {l : List Str} (h : ∀ z ∈ l, z.length = 1) : (l.map (·.length)).sum = l.length := by
  induction l with
  | nil => rfl
  | cons x l ih =>
    rw [List.map_cons, List.sum_cons, ih fun z hz => h z (List.mem_cons_of_mem _ hz), h x List.mem_cons_self, List.length_cons]
    omega
theorem join_one : ∀ l : List Nat, (Str.join ("" : Str) (l.map fun c => (⟨#[c]⟩ : Str))).cps.toList = l
  | [] => rfl
  | [x] => rfl
  | x :: y :: r => by
    show ((#[x] ++ ("" : Str).cps) ++ (Str.join ("" : Str) ((y :: r).map fun c => (⟨#[c]⟩ : Str))).cps).toList = _
    rw [Array.toList_append, Array.toList_append, join_one (y :: r)]
    rfl
theorem join_one_len : ∀ {l : List Str}, (∀ z ∈ l, z.length = 1) → (Str.join ("" : Str) l).length = l.length
  | [], _ => rfl
  | [x], h => h x List.mem_cons_self
  | x :: y :: r, h => by
    have e : (Str.join ("" : Str) (x :: y :: r)).length = x.length + 0 + (Str.join ("" : Str) (y :: r)).length := by
      show ((x.cps ++ ("" : Str).cps) ++ (Str.join ("" : Str) (y :: r)).cps).size = _
      rw [Array.size_append, Array.size_append]
      rfl
    rw [e, join_one_len (l := y :: r) fun z hz => h z (List.mem_cons_of_mem _ hz), h x List.mem_cons_self]
    simp only [List.length_cons]
    omega
/-- the letters of the i-th name -/
def nmL (f st n j i : Nat) : List Nat := (List.replicate n (97 + f)).set j (97 + (f + 1 + st * i) % 26)
def nmS (f st n j i : Nat) : Str := ⟨(nmL f st n j i).toArray⟩
def StepOk (st : Nat) : Prop := st = 1 ∨ st = 3 ∨ st = 5 ∨ st = 7 ∨ st = 9 ∨ st = 11 ∨ st = 15
theorem nm_inj {f st n j a b : Nat} (hs : StepOk st) (hj : j < n) (ha : a < 26) (hb : b < 26) (h : nmS f st n j a = nmS f st n j b) : a = b := by
  have h1 : nmL f st n j a = nmL f st n j b := by
    have := congrArg (fun z : Str => z.cps.toList) h
    simpa [nmS] using this
  have h2 := congrArg (fun l : List Nat => l[j]?) h1
  unfold nmL at h2
  simp only [List.getElem?_set_self', List.getElem?_replicate, hj, if_true, Option.map_some, Option.some.injEq] at h2
  have h3 : (f + 1 + st * a) % 26 = (f + 1 + st * b) % 26 := by
    simpa using h2
  rcases hs with rfl | rfl | rfl | rfl | rfl | rfl | rfl <;> omega
theorem nm_len {f st n j i : Nat} : (nmL f st n j i).length = n := by
  unfold nmL
  rw [List.length_set, List.length_replicate]
theorem nm_mem {f st n j i c : Nat} (hf : f < 26) (h : c ∈ nmL f st n j i) : 97 ≤ c ∧ c < 123 := by
  unfold nmL at h
  rcases List.mem_or_eq_of_mem_set h with h | h
  · have := (List.mem_replicate.mp h).2
    omega
  · have := Nat.mod_lt (f + 1 + st * i) (show 26 > 0 by decide)
    omega
theorem nm_name {f st n j i : Nat} (hf : f < 26) (h1 : 1 ≤ n) (h6 : n ≤ 6) : isNameS (nmS f st n j i) = true := by
  have hl : (nmS f st n j i).length = n := by
    show (nmL f st n j i).toArray.size = n
    rw [List.size_toArray, nm_len]
  unfold isNameS
  rw [hl, decide_eq_true (show (1 : Int) ≤ n by omega), decide_eq_true (show (n : Int) ≤ 6 by omega), Bool.true_and, Bool.true_and, List.all_eq_true]
  intro c hc
  have hc : c ∈ nmL f st n j i := by simpa [nmS] using hc
  obtain ⟨h2, h3⟩ := nm_mem hf hc
  refine decide_eq_true (List.mem_of_getElem? (i := c - 97) ?_)
  rw [small_get (c - 97) (by omega)]
  congr 1
  omega
theorem names_nodup {f st n j m : Nat} (hs : StepOk st) (hj : j < n) (hm : m ≤ 26) : ((List.range m).map (nmS f st n j)).Nodup := by
  refine List.pairwise_map.mpr ?_
  refine List.Pairwise.imp_of_mem (fun {a b} ha hb hab => ?_) (List.nodup_range)
  have ha := List.mem_range.mp ha
  have hb := List.mem_range.mp hb
  exact fun z => hab (nm_inj hs hj (by omega) (by omega) z)
theorem zy_val : ("zyxwvu" : Str).cps.toList = [122, 121, 120, 119, 118, 117] := by decide +kernel
theorem nm_zy {f st n j i : Nat} (hj : j < n) : nmS f st n j i ≠ "zyxwvu" := fun h => by
  have h1 : nmL f st n j i = [122, 121, 120, 119, 118, 117] := by
    have := congrArg (fun z : Str => z.cps.toList) h
    rw [zy_val] at this
    simpa [nmS] using this
  have hn : n = 6 := by
    have := congrArg List.length h1
    rw [nm_len] at this
    exact this
  subst hn
  have at_ : ∀ k, k < 6 → k ≠ j → ([122, 121, 120, 119, 118, 117] : List Nat)[k]? = some (97 + f) := fun k hk hkj => by
    rw [← h1]
    unfold nmL
    rw [List.getElem?_set_ne (Ne.symm hkj), List.getElem?_replicate, if_pos hk]
  by_cases h0 : j = 0
  · subst h0
    have a1 := Option.some.inj (at_ 1 (by decide) (by decide))
    have a2 := Option.some.inj (at_ 2 (by decide) (by decide))
    exact absurd (a1.trans a2.symm) (by decide)
  · by_cases h1 : j = 1
    · subst h1
      have a1 := Option.some.inj (at_ 0 (by decide) (by decide))
      have a2 := Option.some.inj (at_ 2 (by decide) (by decide))
      exact absurd (a1.trans a2.symm) (by decide)
    · have a1 := Option.some.inj (at_ 0 (by decide) (Ne.symm h0))
      have a2 := Option.some.inj (at_ 1 (by decide) (Ne.symm h1))
      exact absurd (a1.trans a2.symm) (by decide)
def spNamesG (K : PySem.W.Frag) : Sp := fun vs H Q _ => ∃ (s : Addr) (m : Nat), vs = [.ref s, .int m] ∧ Src H s ∧ m ≤ 26 ∧ ∀ (r : Addr) (ss : List Str) H', Same H H' → H r = none → H' r = some (.lst (ss.map V.str)) → ss.length = m → (∀ z ∈ ss, isNameS z = true) → ss.Nodup → (∀ z ∈ ss, z ≠ "zyxwvu") → Q (.ref r) H'
section
variable {P : Program} {w : World} {K : PySem.W.Frag} {mg : Str → Option Value} {base : Heap}
theorem ok_namesG {f : Addr} {fd : FuncData} (F : FunD K "_law_names" "_law_names" (defArgs s_law_names) (defBody s_law_names) (defScope s_law_names) [] [] f fd) (hm : mg "_law_names" = some (.ref f)) (T : Top K mg)
    (D_law_take : Def P w K mg base "_law_take" 1 ["_law_source_here", "_law_many"] spTake) (D_law_pick : Def P w K mg base "_law_pick" 2 ["_law_source_here", "_law_row"] (spPick K)) : Def P w K mg base "_law_names" 3 ["_law_source_here", "_law_many"] (spNamesG K) := by
  refine def_mk F hm (F.bindsN fun _ _ _ _ _ _ us hl => match us, hl with | [_, _], _ => rfl) sc_law_names (fun vs H Q E h => ?_) (fun cdv A outer s H vs Q E hr h => ?_)
  · obtain ⟨s, m, rfl, _⟩ := h
    rfl
  obtain ⟨s, m, rfl, hs, hm26, q⟩ := h
  refine ⟨_, (pss_cons (ps_set (i := 2) sc_law_names.nd rfl (Or.inl rfl) pe_str)
  (pss_cons (ps_set (i := 3) sc_law_names.nd rfl (Or.inl rfl) (pe_op op_add pe_int (pe_def D_law_take hr (by first | decide | omega) (pa_cons (pv 0) (pa_cons pe_int pa_nil)))))
  (pss_cons (ps_set (i := 4) sc_law_names.nd rfl (Or.inl rfl) (pe_def D_law_take hr (by first | decide | omega) (pa_cons (pv 0) (pa_cons (pv 3) pa_nil))))
  (pss_cons (ps_set (i := 5) sc_law_names.nd rfl (Or.inl rfl) (pe_def D_law_take hr (by first | decide | omega) (pa_cons (pv 0) (pa_cons pe_int pa_nil))))
  (pss_cons (ps_set (i := 6) sc_law_names.nd rfl (Or.inl rfl) (pe_def D_law_pick hr (by first | decide | omega) (pa_cons (pv 0) (pa_cons (pe_lst (pa_cons pe_int (pa_cons pe_int (pa_cons pe_int (pa_cons pe_int (pa_cons pe_int (pa_cons pe_int (pa_cons pe_int pa_nil)))))))) pa_nil))))
  (pss_cons (ps_set (i := 7) sc_law_names.nd rfl (Or.inl rfl) (pe_lst pa_nil))
  (pss_cons (ps_for PassesOwn.never rfl (pi_range1 (by rfl) T.b_range (pa_cons (pv 1) pa_nil)) (pg_name (i := 8) sc_law_names.nd rfl (Or.inl rfl) (.inl rfl))
  (pss_cons (ps_set (i := 9) sc_law_names.nd rfl (Or.inl rfl) (pe_op op_rep (pe_lst (pa_cons (pe_ix ix_str (pv 2) (pv 5) (fun _ _ => rfl)) pa_nil)) (pv 3)))
  (pss_cons (ps_asg (pe_ix ix_str (pv 2) (pe_op op_mod (pe_callTy call_int1 (by rfl) T.b_int (by decide +kernel) (pa_cons (pe_op op_add (pe_op op_add (pv 5) pe_int) (pe_op op_mul (pv 6) (pv 8))) pa_nil)) pe_int) (fun _ _ => rfl)) (pg_sub (pv 9) (pv 4) set_list))
  (pss_one (ps_expr (pe_bmK K PySem.F.plainAttrs_list PySem.F.slot_list_append PySem.F.type_list_append mt_append (pv 7) (pa_cons (pe_joinK K pe_str (pv 9)) pa_nil)))))))
  (pss_one (ps_ret (pv 7)))))))))), ?_⟩
  refine ⟨_, rfl, s, 6, rfl, by omega, by omega, hs, fun n n0 n1 => ⟨_, _, rfl, rfl, ?_⟩⟩
  refine ⟨_, rfl, _, rfl, s, _, rfl, by omega, by omega, hs, fun at_ a0 a1 => ?_⟩
  refine ⟨_, rfl, s, 26, rfl, by omega, by omega, hs, fun fi f0 f1 => ?_⟩
  refine ⟨_, rfl, (by show 7 ≤ sizeLine; decide), fun p1 hp1 => ?_⟩
  have e1 := same_new hp1 (.lst [.int 1, .int 3, .int 5, .int 7, .int 9, .int 11, .int 15])
  refine ⟨s, p1, _, rfl, hs.up e1, SqL.of upd_same, by simp, by simp, fun v hv => ?_⟩
  obtain ⟨st, rfl, hst⟩ : ∃ st : Nat, v = .int st ∧ StepOk st := by
    simp only [List.mem_cons, List.not_mem_nil, or_false] at hv
    rcases hv with rfl | rfl | rfl | rfl | rfl | rfl | rfl
    · exact ⟨1, rfl, .inl rfl⟩
    · exact ⟨3, rfl, .inr (.inl rfl)⟩
    · exact ⟨5, rfl, .inr (.inr (.inl rfl))⟩
    · exact ⟨7, rfl, .inr (.inr (.inr (.inl rfl)))⟩
    · exact ⟨9, rfl, .inr (.inr (.inr (.inr (.inl rfl))))⟩
    · exact ⟨11, rfl, .inr (.inr (.inr (.inr (.inr (.inl rfl)))))⟩
    · exact ⟨15, rfl, .inr (.inr (.inr (.inr (.inr (.inr rfl)))))⟩
  obtain ⟨f, rfl⟩ : ∃ f : Nat, fi = (f : Int) := ⟨fi.toNat, by omega⟩
  obtain ⟨j, rfl⟩ : ∃ j : Nat, at_ = (j : Int) := ⟨at_.toNat, by omega⟩
  refine ⟨(by show 0 ≤ sizeLine; decide), fun p2 hp2 => ?_⟩
  have e2 := e1.trans (same_new hp2 (.lst []))
  refine ⟨_, rfl, m, rfl, by omega, by omega, ?_⟩
  refine for_range (lo := 0) (n := m) (fun i σ H' => ∃ (ss : List Str) (o8 o9 : Option V), σ = [some (.ref s), some (.int m), some (.str smallS), some (.int (1 + n)), some (.int j), some (.int f), some (.int st), some (.ref p2), o8, o9] ∧ Same H H' ∧ H' p2 = some (.lst (ss.map V.str)) ∧ ss = (List.range i).map (nmS f st (1 + n).toNat j))
    ⟨[], none, none, rfl, e2, upd_same, rfl⟩ ?_ ?_
  · rintro i σ H1 hi ⟨ss, o8, o9, rfl, e, hp, hss⟩
    have hzl : smallS.length ≤ sizeLine := by decide +kernel
    have hl : ss.length = i := by rw [hss, List.length_map, List.length_range]
    obtain ⟨c1, hc1e⟩ : ∃ c1, c1 = 97 + f := ⟨_, rfl⟩
    have hc1 : atI smallS.cps.toList (f : Int) = some c1 := by rw [hc1e]; exact small_at (by omega)
    refine ⟨_, rfl, _, rfl, smallS, (f : Int), c1, rfl, rfl, hzl, hc1, (by show 1 ≤ sizeLine; decide), fun p3 hp3 => ?_⟩
    have e3 := same_new hp3 (.lst [.str ⟨#[c1]⟩])
    refine ⟨_, rfl, p3, 1 + n, _, rfl, rfl, upd_same, by omega, by omega, le_line (by show 1 * (1 + n).toNat ≤ 20000; omega), fun p4 hp4 => ?_⟩
    have e4 := same_new hp4 (.lst (List.replicate (1 + n).toNat [V.str ⟨#[c1]⟩]).flatten)
    have hp44 : upd (upd H1 p3 (.lst [.str ⟨#[c1]⟩])) p4 (.lst (List.replicate (1 + n).toNat [V.str ⟨#[c1]⟩]).flatten) p4 = some (.lst ((List.replicate (1 + n).toNat (⟨#[c1]⟩ : Str)).map V.str)) := by
      rw [upd_same, List.map_replicate]
      congr 2
      generalize (1 + n).toNat = k
      induction k with
      | zero => rfl
      | succ k ih => rw [List.replicate_succ, List.flatten_cons, ih, List.replicate_succ]; rfl
    have eA := e3.trans e4
    have hpA := eA _ _ hp
    have eAll := e.trans eA
    have hp4n := new_none (e.trans e3) hp4
    generalize upd (upd H1 p3 (.lst [.str ⟨#[c1]⟩])) p4 (.lst (List.replicate (1 + n).toNat [V.str ⟨#[c1]⟩]).flatten) = H4 at hp44 hpA eAll ⊢
    have hmod : ((f : Int) + 1 + st * (0 + (i : Int))) % 26 = (((f + 1 + st * i) % 26 : Nat) : Int) := by
      rw [Int.zero_add]
      push_cast
      rfl
    have hmod0 : 0 ≤ ((f : Int) + 1 + st * (0 + (i : Int))) % 26 ∧ ((f : Int) + 1 + st * (0 + (i : Int))) % 26 < 26 := ⟨Int.emod_nonneg _ (by decide), Int.emod_lt_of_pos _ (by decide)⟩
    have hst15 : st ≤ 15 := by rcases hst with rfl | rfl | rfl | rfl | rfl | rfl | rfl <;> decide
    have hsti : (st : Int) * (0 + (i : Int)) = ((st * i : Nat) : Int) := by rw [Int.zero_add]; push_cast; rfl
    have hsti2 : st * i ≤ 15 * 26 := Nat.mul_le_mul hst15 (by omega)
    obtain ⟨c2, hc2e⟩ : ∃ c2, c2 = 97 + (f + 1 + st * i) % 26 := ⟨_, rfl⟩
    have hc2 : atI smallS.cps.toList (((f : Int) + 1 + st * (0 + (i : Int))) % 26) = some c2 := by
      rw [hmod, hc2e]
      exact small_at (Nat.mod_lt _ (by decide))
    refine ⟨_, rfl, _, rfl, _, _, rfl, rfl, _, rfl, _, rfl, _, _, rfl, rfl, .inl ⟨by omega, by omega⟩, _, _, rfl, rfl, .inl ⟨_, rfl, ?_⟩⟩
    have hj : j < (1 + n).toNat := by omega
    have hix : ixN ((List.replicate (1 + n).toNat (⟨#[c1]⟩ : Str)).map V.str).length (j : Int) = some j := by
      rw [List.length_map, List.length_replicate]
      unfold ixN
      rw [if_pos (by omega), if_pos (by omega)]
      rfl
    have hset : ((List.replicate (1 + n).toNat (⟨#[c1]⟩ : Str)).map V.str).set j (.str ⟨#[c2]⟩) = ((List.replicate (1 + n).toNat (⟨#[c1]⟩ : Str)).set j ⟨#[c2]⟩).map V.str := by
      rw [List.map_set]
    have hone : ∀ z ∈ (List.replicate (1 + n).toNat (⟨#[c1]⟩ : Str)).set j ⟨#[c2]⟩, z = ⟨#[c1]⟩ ∨ z = ⟨#[c2]⟩ := fun z hz => by
      rcases List.mem_or_eq_of_mem_set hz with h | h
      · exact .inl (List.mem_replicate.mp h).2
      · exact .inr h
    refine ⟨_, _, rfl, rfl, (by show (0 : Int) < 26; decide), smallS, _, c2, rfl, rfl, hzl, hc2, _, rfl, _, rfl, p4, _, _, j, rfl, rfl, hp44, hix, ?_⟩
    rw [hset]
    have hl4 : ((List.replicate (1 + n).toNat (⟨#[c1]⟩ : Str)).set j ⟨#[c2]⟩).length = (1 + n).toNat := by
      rw [List.length_set, List.length_replicate]
    have hzs : (List.replicate (1 + n).toNat (⟨#[c1]⟩ : Str)).set j ⟨#[c2]⟩ = (nmL f st (1 + n).toNat j i).map fun c => (⟨#[c]⟩ : Str) := by
      unfold nmL
      rw [List.map_set, List.map_replicate, hc1e, hc2e]
    generalize (List.replicate (1 + n).toNat (⟨#[c1]⟩ : Str)).set j ⟨#[c2]⟩ = zs at hone hl4 hzs ⊢
    have p24 : p2 ≠ p4 := fun z => by
      have hA := e3 _ _ hp
      rw [z, hp4] at hA
      cases hA
    have hpB : upd H4 p4 (.lst (zs.map V.str)) p2 = some (.lst (ss.map V.str)) := by
      rw [upd_ne p24]
      exact hpA
    have z1 : ∀ z ∈ zs, z.length = 1 := fun z hz => by rcases hone z hz with rfl | rfl <;> rfl
    have jl : (Txt.join ("" : Str) zs).length = zs.length := by
      rw [TL.join_eq]
      exact join_one_len z1
    refine ⟨_, rfl, .inl ⟨rfl, _, SqL.of hpB⟩, ⟨_, rfl⟩, _, rfl, ("" : Str), p4, zs, rfl, rfl, .inl (SqL.of upd_same), ?_, p2, _, _, rfl, rfl, hpB, ?_, ?_⟩
    · rw [sum_one z1, show ("" : Str).length = 0 from rfl]
      omega
    · rw [List.length_map]
      exact lt_line (by omega)
    · refine ⟨ss ++ [Txt.join ("" : Str) zs], _, _, rfl, fun b u hb => ?_, ?_, ?_⟩
      · rw [upd_ne (ne_of_none hb (new_none e1 hp2)), upd_ne (ne_of_none hb hp4n)]
        exact eAll _ _ hb
      · rw [upd_same, List.map_append] <;> rfl
      · rw [List.range_succ, List.map_append, hss, TL.join_eq, hzs]
        congr 1
        show [_] = [nmS f st (1 + n).toNat j i]
        congr 1
        have hj1 := join_one (nmL f st (1 + n).toNat j i)
        unfold nmS
        cases hx : Str.join ("" : Str) ((nmL f st (1 + n).toNat j i).map fun c => (⟨#[c]⟩ : Str)) with
        | mk cps =>
          rw [hx] at hj1
          rw [← hj1]
  · rintro σ H' ⟨ss, o8, o9, rfl, e, hp, hss⟩
    refine ⟨_, rfl, q p2 ss H' e (new_none e1 hp2) hp (by rw [hss, List.length_map, List.length_range]) (fun z hz => ?_) (by rw [hss]; exact names_nodup hst (by omega) hm26) (fun z hz => ?_)⟩
    · rw [hss] at hz
      obtain ⟨i, hi, rfl⟩ := List.mem_map.mp hz
      exact nm_name (by omega) (by omega) (by omega)
    · rw [hss] at hz
      obtain ⟨i, hi, rfl⟩ := List.mem_map.mp hz
      exact nm_zy (by omega)
end
end FF
/-! scenes: drawn rules and a goal -/
namespace FF
open PySem PySem.Spec PyProof.Rows L2
def SideD (d : PyData) : Prop := Drawn 3 d ∧ meas 5 d ≤ 24
def GoodR (d : PyData) : Prop := ∃ (nm : Str) (l r : PyData), d = .tuple [.str nm, l, r] ∧ isNameS nm = true ∧ SideD l ∧ SideD r
def GoodG (g : PyData) : Prop := ∃ l r, g = .tuple [l, r] ∧ SideD l ∧ SideD r
theorem side4 {d : PyData} (h : SideD d) : Drawn 4 d := drawn_mono h.1 (by decide)
theorem side_fits {d : PyData} (h : SideD d) : fitsB d = true := by
  have h1 := (meas_drawn h.1 5 (by decide)).1
  show (decide (1 ≤ meas 5 d) && decide (meas 5 d ≤ 24)) = true
  rw [decide_eq_true h1, decide_eq_true h.2] <;> rfl
theorem vname_nice {z : Str} (h : isNameS z = true) : Nice 0 (.str z) := by
  unfold isNameS at h
  obtain ⟨h1, h2⟩ := Bool.and_eq_true_iff.mp h
  obtain ⟨_, h4⟩ := Bool.and_eq_true_iff.mp h1
  have h4 := of_decide_eq_true h4
  refine ⟨?_, Nat.le_of_eq (by rw [PyData.depth])⟩
  simp only [nice, Bool.and_eq_true, decide_eq_true_eq]
  refine ⟨by omega, ?_⟩
  show (z.cps.all fun x => decide (x < 0x110000)) = true
  rw [← Array.all_toList, List.all_eq_true]
  intro c hc
  have := of_decide_eq_true (List.all_eq_true.mp h2 c hc)
  rw [smallS_val] at this
  simp only [List.mem_cons, List.not_mem_nil, or_false] at this
  exact decide_eq_true (by omega)
theorem good_nice {d : PyData} (h : GoodR d) : Nice 5 d := by
  obtain ⟨nm, l, r, rfl, h1, h2, h3⟩ := h
  refine Nice.tuple (n := 4) (by simp) fun x hx => ?_
  simp only [List.mem_cons, List.not_mem_nil, or_false] at hx
  rcases hx with rfl | rfl | rfl
  · exact (vname_nice h1).mono (by decide)
  · exact drawn_nice (side4 h2)
  · exact drawn_nice (side4 h3)
theorem goodg_nice {d : PyData} (h : GoodG d) : Nice 5 d := by
  obtain ⟨l, r, rfl, h2, h3⟩ := h
  refine Nice.tuple (n := 4) (by simp) fun x hx => ?_
  simp only [List.mem_cons, List.not_mem_nil, or_false] at hx
  rcases hx with rfl | rfl
  · exact drawn_nice (side4 h2)
  · exact drawn_nice (side4 h3)
theorem good_is {d : PyData} (h : GoodR d) : isRuleD d = true := by
  obtain ⟨nm, l, r, rfl, h1, h2, h3⟩ := h
  show (isNameS nm && (fitsB l && fitsB r)) = true
  rw [h1, side_fits h2, side_fits h3] <;> rfl
theorem goodg_is {d : PyData} (h : GoodG d) : isGoalD d = true := by
  obtain ⟨l, r, rfl, h2, h3⟩ := h
  show (fitsB l && fitsB r) = true
  rw [side_fits h2, side_fits h3] <;> rfl
theorem good_rule {K : PySem.W.Frag} {H : Hp} {u : V} {d : PyData} (h : GoodR d) (t : Tp K H u d) : RuleV K H u d := by
  refine ⟨t.dp, (good_nice h).mono (by decide), fun _ => ⟨t, ?_⟩⟩
  obtain ⟨nm, l, r, rfl, h1, h2, h3⟩ := h
  exact ⟨side4 h2, side4 h3⟩
theorem goodg_goal {K : PySem.W.Frag} {H : Hp} {u : V} {d : PyData} (h : GoodG d) (t : Tp K H u d) : GoalV K H u d := by
  refine ⟨t.dp, (goodg_nice h).mono (by decide), fun _ => ⟨t, fun p hp => ?_⟩⟩
  obtain ⟨l, r, rfl, h2, h3⟩ := h
  have hp : p ∈ [(l, r)] := hp
  rw [List.mem_singleton.mp hp]
  exact ⟨side4 h2, side4 h3⟩
theorem good_pairs {ds : List PyData} {g : PyData} (hd : ∀ d ∈ ds, GoodR d) (hl : ds.length ≤ 19) (hg : GoodG g) : PrOk (prsOf ds g) := by
  obtain ⟨l, r, rfl, h2, h3⟩ := hg
  refine ⟨?_, fun p hp => ?_⟩
  · unfold prsOf
    rw [List.length_append, List.length_map]
    show ds.length + 1 ≤ 20
    omega
  · rcases List.mem_append.mp hp with hp | hp
    · obtain ⟨d, hm, rfl⟩ := List.mem_map.mp hp
      obtain ⟨nm, l, r, rfl, _, h3, h4⟩ := hd d hm
      exact ⟨side4 h3, side4 h4⟩
    · have hp : p ∈ [(l, r)] := hp
      rw [List.mem_singleton.mp hp]
      exact ⟨side4 h2, side4 h3⟩
/-- names apart: the rules of a scene are valid -/
theorem bad_none : ∀ {ds : List PyData} {seen : List Str} {i : Nat}, (∀ d ∈ ds, isRuleD d = true) → (ds.map nameOf).Nodup → (∀ d ∈ ds, nameOf d ∉ seen) → badAt seen i ds = none
  | [], _, _, _, _, _ => rfl
  | d :: r, seen, i, h1, h2, h3 => by
    unfold badAt
    rw [if_pos ⟨h1 d List.mem_cons_self, h3 d List.mem_cons_self⟩]
    rw [List.map_cons] at h2
    obtain ⟨h4, h5⟩ := List.nodup_cons.mp h2
    refine bad_none (fun e he => h1 e (List.mem_cons_of_mem _ he)) h5 fun e he z => ?_
    rcases List.mem_append.mp z with z | z
    · exact h3 e (List.mem_cons_of_mem _ he) z
    · exact h4 (List.mem_map.mpr ⟨e, he, List.mem_singleton.mp z⟩)
theorem scene_ok {ds : List PyData} {g : PyData} (h1 : ∀ d ∈ ds, GoodR d) (h2 : (ds.map nameOf).Nodup) (hl : ds.length ≤ 12) (hg : GoodG g) (hw : (vocD (prsOf ds g)).length ≤ 24) : checkD ds g = none := by
  have hr : rulesErr ds = none := by
    unfold rulesErr
    rw [if_neg (by omega)]
    exact bad_none (fun d hd => good_is (h1 d hd)) h2 fun d _ z => by cases z
  unfold checkD
  rw [hr]
  show (if (!isNoneD g && !isGoalD g) = true then _ else _) = none
  rw [goodg_is hg, if_neg (by simp), if_neg (by omega)]
end FF
/-! scenes: the walks -/
namespace FF
open PySem PySem.Spec PyProof.Rows L2
def spPairsL (K : PySem.W.Frag) : Sp := fun vs H Q _ => ∃ (a : Addr) (gv : V) (us : List V) (ds : List PyData) (g : PyData), vs = [.ref a, gv] ∧ H a = some (.lst us) ∧ TpAll K H us ds ∧ (∀ d ∈ ds, GoodR d) ∧ ds.length ≤ 19 ∧ Tp K H gv g ∧ GoodG g ∧
  ∀ r rs H', Same H H' → H r = none → H' r = some (.lst rs) → TpAll K H' rs (prD (prsOf ds g)) → Q (.ref r) H'
def spKept (K : PySem.W.Frag) : Sp := fun vs H Q _ => ∃ (a : Addr) (gv : V) (us : List V) (ds : List PyData) (g : PyData) (most : Nat), vs = [.ref a, gv, .int most] ∧ H a = some (.lst us) ∧ TpAll K H us ds ∧ (∀ d ∈ ds, GoodR d) ∧ ds.length ≤ 18 ∧ Tp K H gv g ∧ GoodG g ∧ (vocD (prsOf [] g)).length ≤ most ∧
  ∀ r us' ds' H', Same H H' → H r = none → H' r = some (.lst us') → TpAll K H' us' ds' → ds'.Sublist ds → (vocD (prsOf ds' g)).length ≤ most → Q (.ref r) H'
section
variable {P : Program} {w : World} {K : PySem.W.Frag} {mg : Str → Option Value} {base : Heap}
theorem ok_pairsL {f : Addr} {fd : FuncData} (F : FunD K "_law_pairs" "_law_pairs" (defArgs s_law_pairs) (defBody s_law_pairs) (defScope s_law_pairs) [] [] f fd) (hm : mg "_law_pairs" = some (.ref f)) (T : Top K mg) : Def P w K mg base "_law_pairs" 1 ["_law_premises_here", "_law_aim"] (spPairsL K) := by
  refine def_mk F hm (F.bindsN fun _ _ _ _ _ _ us hl => match us, hl with | [_, _], _ => rfl) sc_law_pairs (fun vs H Q E h => ?_) (fun cdv A outer s H vs Q E hr h => ?_)
  · obtain ⟨a, gv, us, ds, g, rfl, _⟩ := h
    rfl
  obtain ⟨a, gv, us, ds, g, rfl, ha, hu, hd, hl, hgt, hg, q⟩ := h
  have hul := hu.len
  refine ⟨_, (pss_one (ps_ret (pe_op op_cat (pe_lc (own := [("_law_name", 2), ("_law_left", 3), ("_law_right", 4)]) rfl sc_law_pairs.nd (pi_listK K (pv 0)) (blkOk_by (by kernel_rfl)) (fun _ _ _ _ _ => (pg_tupK K (n := 3) rfl (pgs_cons (pg_name (i := 2) sc_law_pairs.nd rfl (Or.inl rfl) (.inr rfl)) (pgs_cons (pg_name (i := 3) sc_law_pairs.nd rfl (Or.inl rfl) (.inr rfl)) (pgs_cons (pg_name (i := 4) sc_law_pairs.nd rfl (Or.inl rfl) (.inr rfl)) pgs_nil))))) (fun _ _ _ _ _ => pts_nil) (fun _ _ _ _ _ => (pe_tup (pa_cons (pv 3) (pa_cons (pv 4) pa_nil))))) (pe_lst (pa_cons (pv 1) pa_nil))))), ?_⟩
  refine ⟨_, rfl, a, rfl, ⟨_, SqL.of ha⟩, ?_⟩
  refine lc_mapG (fun i y H' => ∃ d, ds[i]? = some d ∧ Tp K H' y (.tuple [(pairOf d).1, (pairOf d).2])) (fun i y H1 H2 e ⟨d, h1, h2⟩ => ⟨d, h1, h2.up e⟩) (SqL.of ha) (le_line (by omega)) ?_ g3_mono ?_
  · intro i x H2 hx e Q' k'
    obtain ⟨d, hdd, hxd⟩ := hu.get hx
    obtain ⟨nm, l, r, rfl, _⟩ := hd _ (List.mem_of_getElem? hdd)
    cases hxd.up (Same.T e) with
    | @tup ta txs _ hta htx =>
    cases htx with
    | @cons vn _ _ _ hvn htx =>
    cases htx with
    | @cons vl _ _ _ hvl htx =>
    cases htx with
    | @cons vr _ _ _ hvr htx =>
    cases htx
    refine ⟨ta, [vn, vl, vr], rfl, hta.sqT, rfl, vn, _, rfl, vl, _, rfl, vr, _, rfl, rfl, rfl, ?_⟩
    refine ⟨_, rfl, _, rfl, (by show 2 ≤ sizeLine; decide), fun t ht => k' _ _ (same_new ht _) ⟨_, hdd, ?_⟩⟩
    have e3 := Same.T (same_new ht (.tup [vl, vr]))
    exact .tup (.inl upd_same) (.cons (hvl.up e3) (.cons (hvr.up e3) .nil))
  intro H2 D ys e2 hD h3 h4 h5
  have hys : TpAll K H2 ys (prD (ds.map pairOf)) := TpAll.of_get (by unfold prD; rw [List.length_map, List.length_map, h4, hul]) fun i v d hi hd => by
    obtain ⟨d0, h6, h7⟩ := h5 i v hi
    unfold prD at hd
    rw [List.getElem?_map, List.getElem?_map, h6] at hd
    cases hd
    exact h7
  refine ⟨_, rfl, (by show 1 ≤ sizeLine; decide), fun p hp => ?_⟩
  have e3 := same_new hp (.lst [gv])
  refine ⟨D, p, ys, _, rfl, rfl, e3 _ _ h3, upd_same, le_line (by rw [h4, hul]; show ds.length + 1 ≤ 20000; omega), fun p2 hp2 => ?_⟩
  have e4 := same_new hp2 (.lst (ys ++ [gv]))
  refine q p2 _ _ (e2.trans (e3.trans e4)) (new_none (e2.trans e3) hp2) upd_same ?_
  unfold prsOf prD
  rw [List.map_append]
  obtain ⟨l, r, rfl, _⟩ := hg
  exact TpAll.app (hys.up ((Same.T e3).trans (Same.T e4))) (.cons (hgt.up (Same.T (e2.trans (e3.trans e4)))) .nil)
theorem ok_kept {f : Addr} {fd : FuncData} (F : FunD K "_law_kept_few" "_law_kept_few" (defArgs s_law_kept_few) (defBody s_law_kept_few) (defScope s_law_kept_few) [] [] f fd) (hm : mg "_law_kept_few" = some (.ref f)) (T : Top K mg)
    (D_law_pairs : Def P w K mg base "_law_pairs" 1 ["_law_premises_here", "_law_aim"] (spPairsL K)) (D_law_words : Def P w K mg base "_law_words" 11 ["_law_pairs_here"] (spWordsOf K)) : Def P w K mg base "_law_kept_few" 12 ["_law_premises_here", "_law_aim", "_law_most"] (spKept K) := by
  refine def_mk F hm (F.bindsN fun _ _ _ _ _ _ us hl => match us, hl with | [_, _, _], _ => rfl) sc_law_kept_few (fun vs H Q E h => ?_) (fun cdv A outer s H vs Q E hr h => ?_)
  · obtain ⟨a, gv, us, ds, g, most, rfl, _⟩ := h
    rfl
  obtain ⟨a, gv, us, ds, g, most, rfl, ha, hu, hd, hl, hgt, hg, hw0, q⟩ := h
  have hul := hu.len
  refine ⟨_, (pss_cons (ps_set (i := 3) sc_law_kept_few.nd rfl (Or.inl rfl) (pe_lst pa_nil))
  (pss_cons (ps_for PassesOwn.never rfl (pi_listK K (pv 0)) (pg_name (i := 4) sc_law_kept_few.nd rfl (Or.inl rfl) (.inl rfl))
  (pss_one (ps_if (pt_cmpR op_le (pe_callB (call_lenK K) (by rfl) T.b_len (by decide +kernel) (pa_cons (pe_def D_law_words hr (by first | decide | omega) (pa_cons (pe_def D_law_pairs hr (by first | decide | omega) (pa_cons (pe_op op_cat (pv 3) (pe_lst (pa_cons (pv 4) pa_nil))) (pa_cons (pv 1) pa_nil))) pa_nil)) pa_nil)) (pv 2) (nomark _))
  (pss_one (ps_expr (pe_bmK K PySem.F.plainAttrs_list PySem.F.slot_list_append PySem.F.type_list_append mt_append (pv 3) (pa_cons (pv 4) pa_nil))))
  pss_nil)))
  (pss_one (ps_ret (pv 3))))), ?_⟩
  refine ⟨(by show 0 ≤ sizeLine; decide), fun p hp => ?_⟩
  have e1 := same_new hp (.lst [])
  refine ⟨_, rfl, a, rfl, ⟨_, SqL.of (e1 _ _ ha)⟩, ?_⟩
  refine for_list (xs := us) (fun i σ H' => ∃ (us' : List V) (ds' : List PyData) (o4 : Option V), σ = [some (.ref a), some gv, some (.int most), some (.ref p), o4] ∧ SameB p (upd H p (.lst [])) H' ∧ H' p = some (.lst us') ∧ TpAll K H' us' ds' ∧ ds'.Sublist (ds.take i) ∧ (vocD (prsOf ds' g)).length ≤ most)
    ⟨[], [], none, rfl, sb_refl, upd_same, .nil, .slnil, hw0⟩ (fun i σ H' _ ⟨_, _, _, _, e, _⟩ => SqL.of (e _ _ (ne_of_none ha hp) (e1 _ _ ha))) ?_ ?_
  · rintro i x σ H1 hx ⟨us', ds', o4, rfl, eb, hp1, hu1, hsub, hw⟩
    obtain ⟨d, hdd, hxd⟩ := hu.get hx
    have hgd := hd d (List.mem_of_getElem? hdd)
    have hi : i < ds.length := (List.getElem?_eq_some_iff.mp hdd).1
    have hback : SameT H H1 := (Same.T e1).trans (sameT_b (xs := []) upd_same eb)
    have hx1 := hxd.up hback
    have hg1 := hgt.up hback
    have hsub2 : ds'.Sublist ds := hsub.trans (List.take_sublist _ _)
    have hl1 := hu1.len
    have hl2 := hsub.length_le
    rw [List.length_take] at hl2
    refine ⟨_, rfl, _, rfl, (by show 1 ≤ sizeLine; decide), fun p2 hp2 => ?_⟩
    have e2 := same_new hp2 (.lst [x])
    refine ⟨p, p2, _, _, rfl, rfl, e2 _ _ hp1, upd_same, le_line (by simp; omega), fun p3 hp3 => ?_⟩
    have e3 := same_new hp3 (.lst (us' ++ [x]))
    have e23 := e2.trans e3
    have hall : TpAll K (upd (upd H1 p2 (.lst [x])) p3 (.lst (us' ++ [x]))) (us' ++ [x]) (ds' ++ [d]) := tpa_snoc (hx1.up (Same.T e23)) (hu1.up (Same.T e23))
    have hgood : ∀ e ∈ ds' ++ [d], GoodR e := fun e he => by
      rcases List.mem_append.mp he with he | he
      · exact hd e (hsub2.subset he)
      · rw [List.mem_singleton.mp he]
        exact hgd
    refine ⟨_, rfl, p3, gv, _, ds' ++ [d], g, rfl, upd_same, hall, hgood, by simp; omega, hg1.up (Same.T e23), hg, fun r rs H4 e4 _ hr4 hrt4 => ?_⟩
    refine ⟨r, rs, prsOf (ds' ++ [d]) g, rfl, hr4, hrt4, good_pairs hgood (by simp; omega) hg, fun r2 rs2 H5 e5 _ hr5 hrt5 => ?_⟩
    have e25 := e23.trans (e4.trans e5)
    have l5 := hrt5.len
    refine ⟨_, rs2.length, rfl, .inl ⟨rs2, SqL.of hr5, rfl⟩, ?_⟩
    refine ⟨_, rfl, _, _, rfl, rfl, _, rfl, ?_⟩
    have hp5 := e25 _ _ hp1
    have eb5 : SameB p (upd H p (.lst [])) H5 := eb.tr (sb_of e25)
    have hu5 := hu1.up (Same.T e25)
    have take1 : ds.take (i + 1) = ds.take i ++ [d] := by
      rw [List.take_add_one, hdd] <;> rfl
    refine if_dec (fun hle => ?_) (fun _ => ?_)
    · have eU : SameT H5 (upd H5 p (.lst (us' ++ [x]))) := (SameT.refl H5).updL hp5
      refine ⟨_, rfl, .inl ⟨rfl, _, SqL.of hp5⟩, _, rfl, p, us', _, rfl, rfl, hp5, lt_line (by omega), us' ++ [x], ds' ++ [d], _, rfl, eb5.tr sb_upd, upd_same, tpa_snoc ((hx1.up (Same.T e25)).up eU) (hu5.up eU), ?_, by omega⟩
      rw [take1]
      exact hsub.append (List.Sublist.refl _)
    · exact ⟨us', ds', _, rfl, eb5, hp5, hu5, by rw [take1]; exact hsub.trans (List.sublist_append_left _ _), hw⟩
  · rintro σ H1 ⟨us', ds', o4, rfl, eb, hp1, hu1, hsub, hw⟩
    rw [hul, List.take_length] at hsub
    exact ⟨_, rfl, q p us' ds' H1 (fun b u hb => eb b u (ne_of_none hb hp) (e1 _ _ hb)) hp hp1 hu1 hsub hw⟩
end
end FF
/-! displays whose values satisfy a relation kept by Same -/
namespace FF
open PySem PySem.Spec PyProof.Rows L2
/-! ### displays while a list (at l) may change -/
inductive All2 (R : V → PyData → Prop) : List V → List PyData → Prop
  | nil : All2 R [] []
  | cons {v : V} {d : PyData} {vs : List V} {ds : List PyData} : R v d → All2 R vs ds → All2 R (v :: vs) (d :: ds)
section
variable {R : Hp → V → PyData → Prop} {P : V → Hp → Prop} {σ : L2.St} {H : Hp}
def EvR (R : Hp → V → PyData → Prop) (te : TE) (σ : L2.St) (H : Hp) (d : PyData) : Prop := ∀ H1, Same H H1 → ∀ Q : VK, (∀ v H2, Same H1 H2 → R H2 v d → Q v H2) → te σ H1 Q
def EvRs (R : Hp → V → PyData → Prop) (ta : TA) (σ : L2.St) (H : Hp) (ds : List PyData) : Prop := ∀ H1, Same H H1 → ∀ Q : List V → Hp → Prop, (∀ vs H2, Same H1 H2 → All2 (R H2) vs ds → Q vs H2) → ta σ H1 Q
def MonoR (R : Hp → V → PyData → Prop) : Prop := ∀ (H H' : Hp) (v : V) (d : PyData), Same H H' → R H v d → R H' v d
theorem evr_c {v : V} {d : PyData} (h : ∀ H, R H v d) : EvR R (tC v) σ H d := fun H1 _ Q q => q v H1 (Same.refl H1) (h H1)
theorem evr_var (hm : MonoR R) {i : Nat} {v : V} {d : PyData} (h : σ[i]? = some (some v)) (hd : R H v d) : EvR R (tVar i) σ H d := fun H1 e Q q => ⟨v, h, q v H1 (Same.refl H1) (hm _ _ _ _ e hd)⟩
theorem evrs_nil : EvRs R tNil σ H [] := fun H1 _ Q q => q [] H1 (Same.refl H1) .nil
theorem all2_up (hm : MonoR R) {H H' : Hp} (e : Same H H') {vs : List V} {ds : List PyData} (h : All2 (R H) vs ds) : All2 (R H') vs ds := by
  induction h with
  | nil => exact .nil
  | cons a _ ih => exact .cons (hm _ _ _ _ e a) ih
theorem all2_len {R : V → PyData → Prop} {vs : List V} {ds : List PyData} (h : All2 R vs ds) : vs.length = ds.length := by
  induction h with
  | nil => rfl
  | cons a _ ih => simp [ih]
theorem evrs_cons (hm : MonoR R) {te : TE} {ta : TA} {d : PyData} {ds : List PyData} (h : EvR R te σ H d) (t : EvRs R ta σ H ds) : EvRs R (tCons te ta) σ H (d :: ds) := fun H1 e Q q =>
  h H1 e _ fun v H2 e2 hd => t H2 (e.trans e2) _ fun vs H3 e3 hs => q (v :: vs) H3 (e2.trans e3) (.cons (hm _ _ _ _ e3 hd) hs)
theorem evr_tup (hm : MonoR R) {ta : TA} {ds : List PyData} (ht : ∀ H1 p vs, Same H H1 → H1 p = none → All2 (R (upd H1 p (.tup vs))) vs ds → R (upd H1 p (.tup vs)) (.ref p) (.tuple ds)) (h : EvRs R ta σ H ds) (hl : ds.length ≤ 20000) : EvR R (tTup ta) σ H (.tuple ds) := fun H1 e Q q =>
  h H1 e _ fun vs H2 e2 hs => ⟨by rw [all2_len hs]; exact le_line hl, fun p hp => q _ _ (e2.trans (same_new hp _)) (ht H2 p vs (e.trans e2) hp (all2_up hm (same_new hp _) hs))⟩
/-- rows of values of which each has P -/
def EvP (P : V → Hp → Prop) (te : TE) (σ : L2.St) (H : Hp) : Prop := ∀ H1, Same H H1 → ∀ Q : VK, (∀ v H2, Same H1 H2 → P v H2 → Q v H2) → te σ H1 Q
def EvPs (P : V → Hp → Prop) (n : Nat) (ta : TA) (σ : L2.St) (H : Hp) : Prop := ∀ H1, Same H H1 → ∀ Q : List V → Hp → Prop, (∀ vs H2, Same H1 H2 → vs.length = n → (∀ v ∈ vs, P v H2) → Q vs H2) → ta σ H1 Q
theorem evp_r {te : TE} {d : PyData} (h : EvR R te σ H d) (hp : ∀ v H2, R H2 v d → P v H2) : EvP P te σ H := fun H1 e Q q => h H1 e Q fun v H2 e2 r => q v H2 e2 (hp v H2 r)
theorem evps_nil : EvPs P 0 tNil σ H := fun H1 _ Q q => q [] H1 (Same.refl H1) rfl (fun v h => by cases h)
theorem evps_cons (hm : ∀ v H H', Same H H' → P v H → P v H') {te : TE} {ta : TA} {n : Nat} (h : EvP P te σ H) (t : EvPs P n ta σ H) : EvPs P (n + 1) (tCons te ta) σ H := fun H1 e Q q =>
  h H1 e _ fun v H2 e2 hd => t H2 (e.trans e2) _ fun vs H3 e3 hl hs => q (v :: vs) H3 (e2.trans e3) (by rw [List.length_cons, hl]) fun w hw => by
    rcases List.mem_cons.mp hw with rfl | hw
    · exact hm _ _ _ e3 hd
    · exact hs w hw
theorem evpl_lst (hm : ∀ v H H', Same H H' → P v H → P v H') {ta : TA} {n : Nat} (h : EvPs P n ta σ H) (hn : n ≤ 20000) : ∀ H1, Same H H1 → ∀ Q : VK, (∀ p vs H2, H1 p = none → Same H1 H2 → H2 p = some (.lst vs) → vs.length = n → (∀ v ∈ vs, P v H2) → Q (.ref p) H2) → tLst ta σ H1 Q := fun H1 e Q q =>
  h H1 e _ fun vs H2 e2 hl hs => ⟨by rw [hl]; exact le_line hn, fun p hp => q p vs _ ((Same.trans e2 (Same.refl _)).free hp) (e2.trans (same_new hp _)) upd_same hl fun v hv => hm _ _ _ (same_new hp _) (hs v hv)⟩
end

section
variable {K : PySem.W.Frag} {σ : L2.St} {H : Hp} {ta : TA} {ds : List PyData}
abbrev RT (K : PySem.W.Frag) (H : Hp) (v : V) (d : PyData) : Prop := Tp K H v d
theorem monoT : MonoR (RT K) := fun H H' v d e h => h.up (Same.T e)
theorem allT {vs : List V} {ds : List PyData} (h : All2 (RT K H) vs ds) : TpAll K H vs ds := by
  induction h with
  | nil => exact .nil
  | cons a _ ih => exact .cons a ih
theorem evt_tup (h : EvRs (RT K) ta σ H ds) (hn : ds.length ≤ 20000) : EvR (RT K) (tTup ta) σ H (.tuple ds) := evr_tup monoT (fun H1 p vs e hp ha => .tup (.inl upd_same) (allT ha)) h hn
end
end FF
/-! scenes: the known goals -/
namespace FF
open PySem PySem.Spec PyProof.Rows L2
/-- drawn, with so many letters -/
def Sz (n k : Nat) (d : PyData) : Prop := Drawn n d ∧ ∀ m, n < m → meas m d = (k : Int)
theorem sz_let {z : Str} (h : isLetS z = true) : Sz 0 1 (.str z) := ⟨(show isLet (.str z) = true from h), fun m hm => by rw [meas_let (show isLet (.str z) = true from h), if_pos hm] <;> rfl⟩
theorem sz_op {o : Str} {n a b : Nat} {l r : PyData} (ho : isOp (.str o) = true) (ha : Sz n a l) (hb : Sz n b r) (ha0 : 0 < a) (hb0 : 0 < b) : Sz (n + 1) (a + b) (.tuple [.str o, l, r]) := by
  refine ⟨.inr ⟨_, [l, r], rfl, ho, by simp, by simp, fun p hp => ?_⟩, fun m hm => ?_⟩
  · simp only [List.mem_cons, List.not_mem_nil, or_false] at hp
    rcases hp with rfl | rfl
    · exact ha.1
    · exact hb.1
  · obtain ⟨m, rfl⟩ : ∃ j, m = j + 1 := ⟨m - 1, by omega⟩
    have h1 := ha.2 m (by omega)
    have h2 := hb.2 m (by omega)
    rw [meas_up tup_let (by omega)]
    show (if isOp (.str o) = true then (if (0 : Int) ∈ [meas m l, meas m r] then 0 else [meas m l, meas m r].sum) else 0) = _
    rw [if_pos ho, h1, h2, if_neg (by simp; omega)]
    simp
theorem sz_up {n n' k : Nat} {d : PyData} (h : Sz n k d) (hn : n ≤ n') : Sz n' k d := ⟨drawn_mono h.1 hn, fun m hm => h.2 m (by omega)⟩
theorem sz_side {n k : Nat} {d : PyData} (h : Sz n k d) (hn : n ≤ 3) (hk : k ≤ 24) : SideD d := ⟨drawn_mono h.1 hn, by rw [h.2 5 (by omega)]; omega⟩
def GoalB (K : PySem.W.Frag) (v : V) (H : Hp) : Prop := ∃ g, Tp K H v g ∧ GoodG g
theorem goalb_up {K : PySem.W.Frag} (v : V) (H H' : Hp) (e : Same H H') (h : GoalB K v H) : GoalB K v H' := let ⟨g, a, b⟩ := h; ⟨g, a.up (Same.T e), b⟩
theorem goalb_t {K : PySem.W.Frag} {v : V} {H H' : Hp} (e : SameT H H') (h : GoalB K v H) : GoalB K v H' := let ⟨g, a, b⟩ := h; ⟨g, a.up e, b⟩
theorem tcons_ev {R : Hp → V → PyData → Prop} {te : TE} {σ : L2.St} {H : Hp} {d : PyData} {Q : List V → Hp → Prop} (h : EvR R te σ H d) (q : ∀ v H2, Same H H2 → R H2 v d → Q [v] H2) : tCons te tNil σ H Q := h H (Same.refl H) _ fun v H2 e r => q v H2 e r
def spKnown (K : PySem.W.Frag) : Sp := fun vs H Q _ => ∃ (s g : Addr) (zs : List Str), vs = [.ref s, .ref g] ∧ Src H s ∧ H g = some (.lst (zs.map V.str)) ∧ zs ≠ [] ∧ zs.length ≤ 20000 ∧ (∀ z ∈ zs, isLetS z = true) ∧ ∀ v H' d, Same H H' → Tp K H' v d → GoodG d → Q v H'
section
variable {P : Program} {w : World} {K : PySem.W.Frag} {mg : Str → Option Value} {base : Heap}
theorem ok_known {f : Addr} {fd : FuncData} (F : FunD K "_law_known_goal" "_law_known_goal" (defArgs s_law_known_goal) (defBody s_law_known_goal) (defScope s_law_known_goal) [] [] f fd) (hm : mg "_law_known_goal" = some (.ref f)) (T : Top K mg)
    (D_law_pick : Def P w K mg base "_law_pick" 2 ["_law_source_here", "_law_row"] (spPick K)) : Def P w K mg base "_law_known_goal" 3 ["_law_source_here", "_law_signs_here"] (spKnown K) := by
  refine def_mk F hm (F.bindsN fun _ _ _ _ _ _ us hl => match us, hl with | [_, _], _ => rfl) sc_law_known_goal (fun vs H Q E h => ?_) (fun cdv A outer s0 H vs Q E hr h => ?_)
  · obtain ⟨s, g, zs, rfl, _⟩ := h
    rfl
  obtain ⟨s, g, zs, rfl, hs, hg, hne, hzl, hlet, q⟩ := h
  refine ⟨_, (pss_cons (ps_asg (pe_lc (own := [("_law_k", 5)]) rfl sc_law_known_goal.nd (pi_range1 (by rfl) T.b_range (pa_cons pe_int pa_nil)) (blkOk_by (by kernel_rfl)) (fun _ _ _ _ _ => (pg_name (i := 5) sc_law_known_goal.nd rfl (Or.inl rfl) (.inr rfl))) (fun _ _ _ _ _ => pts_nil) (fun _ _ _ _ _ => (pe_def D_law_pick hr (by first | decide | omega) (pa_cons (pv 0) (pa_cons (pv 1) pa_nil))))) (pg_lst (n := 3) rfl (pgs_cons (pg_name (i := 2) sc_law_known_goal.nd rfl (Or.inl rfl) (.inl rfl)) (pgs_cons (pg_name (i := 3) sc_law_known_goal.nd rfl (Or.inl rfl) (.inl rfl)) (pgs_cons (pg_name (i := 4) sc_law_known_goal.nd rfl (Or.inl rfl) (.inl rfl)) pgs_nil)))))
  (pss_cons (ps_set (i := 6) sc_law_known_goal.nd rfl (Or.inl rfl) (pe_lst (pa_cons (pe_tup (pa_cons (pe_tup (pa_cons pe_str (pa_cons (pv 2) (pa_cons (pe_tup (pa_cons pe_str (pa_cons (pv 3) (pa_cons (pv 4) pa_nil)))) pa_nil)))) (pa_cons (pe_tup (pa_cons pe_str (pa_cons (pe_tup (pa_cons pe_str (pa_cons (pv 2) (pa_cons (pv 3) pa_nil)))) (pa_cons (pe_tup (pa_cons pe_str (pa_cons (pv 2) (pa_cons (pv 4) pa_nil)))) pa_nil)))) pa_nil))) pa_nil)))
  (pss_cons (ps_expr (pe_bmK K PySem.F.plainAttrs_list PySem.F.slot_list_append PySem.F.type_list_append mt_append (pv 6) (pa_cons (pe_tup (pa_cons (pe_tup (pa_cons pe_str (pa_cons (pe_tup (pa_cons pe_str (pa_cons (pv 2) (pa_cons (pe_tup (pa_cons pe_str (pa_cons (pv 3) (pa_cons (pv 4) pa_nil)))) pa_nil)))) (pa_cons (pe_tup (pa_cons pe_str (pa_cons (pv 3) (pa_cons (pv 4) pa_nil)))) pa_nil)))) (pa_cons (pe_tup (pa_cons pe_str (pa_cons (pe_tup (pa_cons pe_str (pa_cons (pv 2) (pa_cons (pe_tup (pa_cons pe_str (pa_cons (pv 3) (pa_cons (pv 4) pa_nil)))) pa_nil)))) (pa_cons (pe_tup (pa_cons pe_str (pa_cons (pv 3) (pa_cons (pv 4) pa_nil)))) pa_nil)))) pa_nil))) pa_nil)))
  (pss_cons (ps_expr (pe_bmK K PySem.F.plainAttrs_list PySem.F.slot_list_append PySem.F.type_list_append mt_append (pv 6) (pa_cons (pe_tup (pa_cons (pe_tup (pa_cons pe_str (pa_cons (pe_tup (pa_cons pe_str (pa_cons (pv 2) (pa_cons (pv 3) pa_nil)))) (pa_cons (pe_tup (pa_cons pe_str (pa_cons (pv 2) (pa_cons (pv 4) pa_nil)))) pa_nil)))) (pa_cons (pe_tup (pa_cons pe_str (pa_cons (pv 2) (pa_cons (pe_tup (pa_cons pe_str (pa_cons (pv 3) (pa_cons (pv 4) pa_nil)))) pa_nil)))) pa_nil))) pa_nil)))
  (pss_cons (ps_expr (pe_bmK K PySem.F.plainAttrs_list PySem.F.slot_list_append PySem.F.type_list_append mt_append (pv 6) (pa_cons (pe_tup (pa_cons (pe_tup (pa_cons pe_str (pa_cons (pv 2) (pa_cons (pe_tup (pa_cons pe_str (pa_cons (pv 3) (pa_cons (pe_tup (pa_cons pe_str (pa_cons (pv 2) (pa_cons (pv 4) pa_nil)))) pa_nil)))) pa_nil)))) (pa_cons (pe_tup (pa_cons pe_str (pa_cons (pe_tup (pa_cons pe_str (pa_cons (pv 2) (pa_cons (pv 3) pa_nil)))) (pa_cons (pe_tup (pa_cons pe_str (pa_cons (pv 2) (pa_cons (pv 4) pa_nil)))) pa_nil)))) pa_nil))) pa_nil)))
  (pss_one (ps_ret (pe_def D_law_pick hr (by first | decide | omega) (pa_cons (pv 0) (pa_cons (pv 6) pa_nil)))))))))), ?_⟩
  have pk : ∀ {v : V}, v ∈ zs.map V.str → ∃ z ∈ zs, v = .str z := fun hv => by
    obtain ⟨z, hz, rfl⟩ := List.mem_map.mp hv
    exact ⟨z, hz, rfl⟩
  refine ⟨3, rfl, by omega, by omega, fun D hD => ?_⟩
  refine lc_mapR (j := 5) (lo := 0) (n := 3) (fun i y H' => ∃ z ∈ zs, y = .str z) (fun i y H1 H2 e h => h) hD (by decide) (fun _ => rfl) ?_ ?_
  · intro i H2 hi e Q' k'
    exact ⟨_, rfl, _, rfl, s, g, _, rfl, hs.up e, SqL.of (e _ _ hg), by simpa using hne, by rw [List.length_map]; exact hzl, fun v hv => k' v H2 (Same.refl H2) (pk hv)⟩
  intro H2 ys e2 hDv hyl hy
  obtain ⟨ya, yb, yc, rfl⟩ := len_three hyl
  obtain ⟨x, hx, rfl⟩ := hy 0 ya rfl
  obtain ⟨y, hyy, rfl⟩ := hy 1 yb rfl
  obtain ⟨z, hz, rfl⟩ := hy 2 yc rfl
  have sx := sz_let (hlet x hx)
  have sy := sz_let (hlet y hyy)
  have sz := sz_let (hlet z hz)
  have hA : isOp (.str ("&" : Str)) = true := by decide +kernel
  have hO : isOp (.str ("|" : Str)) = true := by decide +kernel
  have tx : ∀ {H}, RT K H (.str x) (.str x) := .str _
  have ty : ∀ {H}, RT K H (.str y) (.str y) := .str _
  have tz : ∀ {H}, RT K H (.str z) (.str z) := .str _
  refine ⟨D, _, rfl, SqL.of hDv, rfl, ?_⟩
  refine ⟨_, _, rfl, _, _, rfl, _, _, rfl, rfl, ?_⟩
  dsimp only
  refine seq_asg ?_
  refine evpl_lst (P := GoalB K) (n := 1) goalb_up (evps_cons goalb_up (evp_r (R := RT K) (d := .tuple [.tuple [.str "&", .str x, .tuple [.str "|", .str y, .str z]], .tuple [.str "|", .tuple [.str "&", .str x, .str y], .tuple [.str "&", .str x, .str z]]]) (by (repeat (first | exact evrs_nil | exact evr_c (fun H => .str _) | exact evr_var monoT rfl (Tp.str _) | apply evt_tup | apply evrs_cons monoT | exact Nat.le_of_ble_eq_true rfl))) fun v H5 r => ⟨_, r, ⟨_, _, rfl, sz_side (sz_op hA (sz_up sx (by decide)) (sz_op hO sy sz (by decide) (by decide)) (by decide) (by decide)) (by decide) (by decide), sz_side (sz_op hO (sz_op hA sx sy (by decide) (by decide)) (sz_op hA sx sz (by decide) (by decide)) (by decide) (by decide)) (by decide) (by decide)⟩⟩) evps_nil) (by decide) _ (Same.refl _) _ fun p6 vs0 H0 hp60 e30 h0 l0 hP0 => ?_
  have e0 : Same H H0 := e2.trans e30
  have hp6 : H p6 = none := new_none e2 hp60
  refine ⟨_, rfl, .inl ⟨rfl, _, SqL.of h0⟩, ?_⟩
  refine tcons_ev (R := RT K) (d := .tuple [.tuple [.str "&", .tuple [.str "|", .str x, .tuple [.str "&", .str y, .str z]], .tuple [.str "|", .str y, .str z]], .tuple [.str "|", .tuple [.str "&", .str x, .tuple [.str "|", .str y, .str z]], .tuple [.str "&", .str y, .str z]]]) (by (repeat (first | exact evrs_nil | exact evr_c (fun H => .str _) | exact evr_var monoT rfl (Tp.str _) | apply evt_tup | apply evrs_cons monoT | exact Nat.le_of_ble_eq_true rfl))) fun v0 G0 f0 r0 => ?_
  refine ⟨p6, _, _, rfl, rfl, f0 _ _ h0, lt_line (by rw [l0]; decide), ?_⟩
  have g0 : SameT H0 (upd G0 p6 (.lst (vs0 ++ [v0]))) := (Same.T f0).updL (f0 _ _ h0)
  have h1 : upd G0 p6 (.lst (vs0 ++ [v0])) p6 = some (.lst (vs0 ++ [v0])) := upd_same
  have e1 : Same H (upd G0 p6 (.lst (vs0 ++ [v0]))) := same_at hp6 (e0.trans f0)
  have hP1 : ∀ v ∈ vs0 ++ [v0], GoalB K v (upd G0 p6 (.lst (vs0 ++ [v0]))) := fun v hv => by
    rcases List.mem_append.mp hv with hv | hv
    · exact goalb_t g0 (hP0 v hv)
    · rw [List.mem_singleton.mp hv]
      exact ⟨_, r0.up ((SameT.refl _).updL (f0 _ _ h0)), ⟨_, _, rfl, sz_side (sz_op hA (sz_op hO (sz_up sx (by decide)) (sz_op hA sy sz (by decide) (by decide)) (by decide) (by decide)) (sz_up (sz_op hO sy sz (by decide) (by decide)) (by decide)) (by decide) (by decide)) (by decide) (by decide), sz_side (sz_op hO (sz_op hA (sz_up sx (by decide)) (sz_op hO sy sz (by decide) (by decide)) (by decide) (by decide)) (sz_up (sz_op hA sy sz (by decide) (by decide)) (by decide)) (by decide) (by decide)) (by decide) (by decide)⟩⟩
  have l1 : (vs0 ++ [v0]).length = 2 := by rw [List.length_append, l0] <;> rfl
  generalize upd G0 p6 (.lst (vs0 ++ [v0])) = H1 at h1 e1 hP1 ⊢
  generalize vs0 ++ [v0] = vs1 at h1 hP1 l1 ⊢
  refine ⟨_, rfl, .inl ⟨rfl, _, SqL.of h1⟩, ?_⟩
  refine tcons_ev (R := RT K) (d := .tuple [.tuple [.str "&", .tuple [.str "|", .str x, .str y], .tuple [.str "|", .str x, .str z]], .tuple [.str "|", .str x, .tuple [.str "&", .str y, .str z]]]) (by (repeat (first | exact evrs_nil | exact evr_c (fun H => .str _) | exact evr_var monoT rfl (Tp.str _) | apply evt_tup | apply evrs_cons monoT | exact Nat.le_of_ble_eq_true rfl))) fun v1 G1 f1 r1 => ?_
  refine ⟨p6, _, _, rfl, rfl, f1 _ _ h1, lt_line (by rw [l1]; decide), ?_⟩
  have g1 : SameT H1 (upd G1 p6 (.lst (vs1 ++ [v1]))) := (Same.T f1).updL (f1 _ _ h1)
  have h2 : upd G1 p6 (.lst (vs1 ++ [v1])) p6 = some (.lst (vs1 ++ [v1])) := upd_same
  have e2 : Same H (upd G1 p6 (.lst (vs1 ++ [v1]))) := same_at hp6 (e1.trans f1)
  have hP2 : ∀ v ∈ vs1 ++ [v1], GoalB K v (upd G1 p6 (.lst (vs1 ++ [v1]))) := fun v hv => by
    rcases List.mem_append.mp hv with hv | hv
    · exact goalb_t g1 (hP1 v hv)
    · rw [List.mem_singleton.mp hv]
      exact ⟨_, r1.up ((SameT.refl _).updL (f1 _ _ h1)), ⟨_, _, rfl, sz_side (sz_op hA (sz_op hO sx sy (by decide) (by decide)) (sz_op hO sx sz (by decide) (by decide)) (by decide) (by decide)) (by decide) (by decide), sz_side (sz_op hO (sz_up sx (by decide)) (sz_op hA sy sz (by decide) (by decide)) (by decide) (by decide)) (by decide) (by decide)⟩⟩
  have l2 : (vs1 ++ [v1]).length = 3 := by rw [List.length_append, l1] <;> rfl
  generalize upd G1 p6 (.lst (vs1 ++ [v1])) = H2 at h2 e2 hP2 ⊢
  generalize vs1 ++ [v1] = vs2 at h2 hP2 l2 ⊢
  refine ⟨_, rfl, .inl ⟨rfl, _, SqL.of h2⟩, ?_⟩
  refine tcons_ev (R := RT K) (d := .tuple [.tuple [.str "&", .str x, .tuple [.str "|", .str y, .tuple [.str "&", .str x, .str z]]], .tuple [.str "|", .tuple [.str "&", .str x, .str y], .tuple [.str "&", .str x, .str z]]]) (by (repeat (first | exact evrs_nil | exact evr_c (fun H => .str _) | exact evr_var monoT rfl (Tp.str _) | apply evt_tup | apply evrs_cons monoT | exact Nat.le_of_ble_eq_true rfl))) fun v2 G2 f2 r2 => ?_
  refine ⟨p6, _, _, rfl, rfl, f2 _ _ h2, lt_line (by rw [l2]; decide), ?_⟩
  have g2 : SameT H2 (upd G2 p6 (.lst (vs2 ++ [v2]))) := (Same.T f2).updL (f2 _ _ h2)
  have h3 : upd G2 p6 (.lst (vs2 ++ [v2])) p6 = some (.lst (vs2 ++ [v2])) := upd_same
  have e3 : Same H (upd G2 p6 (.lst (vs2 ++ [v2]))) := same_at hp6 (e2.trans f2)
  have hP3 : ∀ v ∈ vs2 ++ [v2], GoalB K v (upd G2 p6 (.lst (vs2 ++ [v2]))) := fun v hv => by
    rcases List.mem_append.mp hv with hv | hv
    · exact goalb_t g2 (hP2 v hv)
    · rw [List.mem_singleton.mp hv]
      exact ⟨_, r2.up ((SameT.refl _).updL (f2 _ _ h2)), ⟨_, _, rfl, sz_side (sz_op hA (sz_up sx (by decide)) (sz_op hO (sz_up sy (by decide)) (sz_op hA sx sz (by decide) (by decide)) (by decide) (by decide)) (by decide) (by decide)) (by decide) (by decide), sz_side (sz_op hO (sz_op hA sx sy (by decide) (by decide)) (sz_op hA sx sz (by decide) (by decide)) (by decide) (by decide)) (by decide) (by decide)⟩⟩
  have l3 : (vs2 ++ [v2]).length = 4 := by rw [List.length_append, l2] <;> rfl
  generalize upd G2 p6 (.lst (vs2 ++ [v2])) = H3 at h3 e3 hP3 ⊢
  generalize vs2 ++ [v2] = vs3 at h3 hP3 l3 ⊢
  refine ⟨_, rfl, _, rfl, s, p6, _, rfl, hs.up e3, SqL.of h3, ?_, by rw [l3]; decide, fun v hv => ?_⟩
  · intro z
    rw [z] at l3
    cases l3
  obtain ⟨gg, h1, h2⟩ := hP3 v hv
  exact q v H3 gg e3 h1 h2
end
end FF
/-! scenes: drawn rules -/
namespace FF
open PySem PySem.Spec PyProof.Rows L2
/-- a term drawn with a fresh room -/
def spTermF (K : PySem.W.Frag) : Sp := fun vs H Q _ => ∃ (s g rm : Addr) (deep : Int) (r : Nat) (zs : List Str) (H0 : Hp), vs = [.ref s, .ref g, .int deep, .ref rm] ∧ H0 rm = none ∧ Same H0 H ∧ Src H0 s ∧ H0 g = some (.lst (zs.map V.str)) ∧ zs ≠ [] ∧ zs.length ≤ 20000 ∧ (∀ z, z ∈ zs → isLetS z = true) ∧
  H rm = some (.lst [.int r]) ∧ r ≤ 10 ∧ 1 ≤ deep ∧ deep ≤ 3 ∧ ∀ v H' d k, Same H0 H' → Tp K H' v d → Sz 2 k d → 0 < k → k ≤ r + 1 → Q v H'
def RulesB (K : PySem.W.Frag) (H : Hp) (us : List V) (ds : List PyData) : Prop := TpAll K H us ds ∧ ∀ d ∈ ds, ∃ (nm : Str) (l r : PyData), d = .tuple [.str nm, l, r] ∧ isNameS nm = true ∧ (∃ k, Sz 2 k l ∧ 0 < k ∧ k ≤ 3) ∧ ∃ k, Sz 2 k r ∧ 0 < k ∧ k ≤ 3
def spPremises (K : PySem.W.Frag) : Sp := fun vs H Q _ => ∃ (s g : Addr) (most : Nat) (zs : List Str), vs = [.ref s, .ref g, .int most] ∧ Src H s ∧ H g = some (.lst (zs.map V.str)) ∧ zs ≠ [] ∧ zs.length ≤ 20000 ∧ (∀ z, z ∈ zs → isLetS z = true) ∧ most ≤ 20 ∧
  ∀ (p : Addr) us ds H', Same H H' → H p = none → H' p = some (.lst us) → RulesB K H' us ds → (ds.map nameOf).Nodup → ds.length ≤ most → (∀ z ∈ ds.map nameOf, z ≠ "zyxwvu") → Q (.ref p) H'
section
variable {P : Program} {w : World} {K : PySem.W.Frag} {mg : Str → Option Value} {base : Heap}
theorem termF (D : Def P w K mg base "_law_term" 8 ["_law_source_here", "_law_signs_here", "_law_deep", "_law_room"] (spTermR K 6)) : Def P w K mg base "_law_term" 8 ["_law_source_here", "_law_signs_here", "_law_deep", "_law_room"] (spTermF K) := by
  refine D.imp fun vs H Q E ⟨s, g, rm, deep, r, zs, H0, e0, hrm0, e, ⟨c, ns, hs, hc⟩, hg, hzn, hzl, hlet, hrm, hr, hd1, hd3, q⟩ => ?_
  refine ⟨s, g, rm, c, deep, r, zs, ns, e0, e _ _ hs, e _ _ hc, ne_of_none hc hrm0, e _ _ hg, hzn, hzl, hlet, hrm, by omega, by omega, by omega, fun v H' d r' eb hrm' r0 r1 ht hdr hms => ?_⟩
  refine q v H' d (r - r' + 1).toNat (fun b u hb => eb b u (ne_of_none hb hrm0) (e _ _ hb)) ht ⟨drawn_mono hdr (by omega), fun m hm => ?_⟩ (by omega) (by omega)
  rw [hms m (by omega)]
  omega
theorem ok_premises {f : Addr} {fd : FuncData} (F : FunD K "_law_premises" "_law_premises" (defArgs s_law_premises) (defBody s_law_premises) (defScope s_law_premises) [] [] f fd) (hm : mg "_law_premises" = some (.ref f)) (T : Top K mg)
    (D_law_take : Def P w K mg base "_law_take" 1 ["_law_source_here", "_law_many"] spTake) (D_law_pick : Def P w K mg base "_law_pick" 2 ["_law_source_here", "_law_row"] (spPick K))
    (D_law_names : Def P w K mg base "_law_names" 3 ["_law_source_here", "_law_many"] (spNamesG K)) (D_law_term : Def P w K mg base "_law_term" 8 ["_law_source_here", "_law_signs_here", "_law_deep", "_law_room"] (spTermF K)) : Def P w K mg base "_law_premises" 9 ["_law_source_here", "_law_signs_here", "_law_most"] (spPremises K) := by
  refine def_mk F hm (F.bindsN fun _ _ _ _ _ _ us hl => match us, hl with | [_, _, _], _ => rfl) sc_law_premises (fun vs H Q E h => ?_) (fun cdv A outer s0 H vs Q E hr h => ?_)
  · obtain ⟨s, g, most, zs, rfl, _⟩ := h
    rfl
  obtain ⟨s, g, most, zs, rfl, hs, hg, hzn, hzl, hlet, h20, q⟩ := h
  refine ⟨_, (pss_cons (ps_set (i := 3) sc_law_premises.nd rfl (Or.inl rfl) (pe_lst pa_nil))
  (pss_cons (ps_for PassesOwn.never rfl (pi_listK K (pe_def D_law_names hr (by first | decide | omega) (pa_cons (pv 0) (pa_cons (pe_def D_law_take hr (by first | decide | omega) (pa_cons (pv 0) (pa_cons (pe_op op_add (pv 2) pe_int) pa_nil))) pa_nil)))) (pg_name (i := 4) sc_law_premises.nd rfl (Or.inl rfl) (.inl rfl))
  (pss_cons (ps_set (i := 5) sc_law_premises.nd rfl (Or.inl rfl) (pe_def D_law_term hr (by first | decide | omega) (pa_cons (pv 0) (pa_cons (pv 1) (pa_cons (pe_op op_add pe_int (pe_def D_law_take hr (by first | decide | omega) (pa_cons (pv 0) (pa_cons pe_int pa_nil)))) (pa_cons (pe_lst (pa_cons pe_int pa_nil)) pa_nil))))))
  (pss_cons (ps_set (i := 6) sc_law_premises.nd rfl (Or.inl rfl) (pe_def D_law_term hr (by first | decide | omega) (pa_cons (pv 0) (pa_cons (pv 1) (pa_cons (pe_op op_add pe_int (pe_def D_law_take hr (by first | decide | omega) (pa_cons (pv 0) (pa_cons pe_int pa_nil)))) (pa_cons (pe_lst (pa_cons pe_int pa_nil)) pa_nil))))))
  (C8.pss_cut (ps_if (PW.pt (pw_and (pt_cmpR (op_neK K hr.units) (pv 3) (pe_lst pa_nil) (nomark _)) (pw_and1 (pt_cmpR op_eq (pe_def D_law_take hr (by first | decide | omega) (pa_cons (pv 0) (pa_cons pe_int pa_nil))) pe_int (nomark _)))))
  (pss_one (ps_set (i := 5) sc_law_premises.nd rfl (Or.inl rfl) (pe_ix (ix_tupK K) (pe_def D_law_pick hr (by first | decide | omega) (pa_cons (pv 0) (pa_cons (pv 3) pa_nil))) pe_int (fun _ _ => rfl))))
  pss_nil)
  (pss_one (ps_expr (pe_bmK K PySem.F.plainAttrs_list PySem.F.slot_list_append PySem.F.type_list_append mt_append (pv 3) (pa_cons (pe_tup (pa_cons (pv 4) (pa_cons (pv 5) (pa_cons (pv 6) pa_nil)))) pa_nil))))))))
  (pss_one (ps_ret (pv 3))))), ?_⟩
  refine ⟨(by show 0 ≤ sizeLine; decide), fun p hp => ?_⟩
  have e1 := same_new hp (.lst [])
  refine ⟨_, rfl, _, rfl, _, rfl, _, _, rfl, rfl, s, _, rfl, by omega, by omega, hs.up e1, fun m m0 m1 => ?_⟩
  obtain ⟨m, rfl⟩ : ∃ k : Nat, m = (k : Int) := ⟨m.toNat, by omega⟩
  refine ⟨s, m, rfl, hs.up e1, by omega, fun nl ss H2 e2 hnl0 hnl hssl hssn hssd hssz => ?_⟩
  have hp2 := e2 _ _ (show upd H p (.lst []) p = some (.lst []) from upd_same)
  have pnl : p ≠ nl := fun z => by rw [← z, show upd H p (.lst []) p = some (.lst []) from upd_same] at hnl0; cases hnl0
  have e02 := e1.trans e2
  have pg : g ≠ p := ne_of_none hg hp
  have hpH : H p = none := hp
  refine ⟨nl, rfl, ⟨_, SqL.of hnl⟩, ?_⟩
  refine for_list (xs := ss.map V.str) (fun i σ H' => ∃ (us : List V) (ds : List PyData) (o4 o5 o6 : Option V), σ = [some (.ref s), some (.ref g), some (.int most), some (.ref p), o4, o5, o6] ∧ SameB p H2 H' ∧ H' p = some (.lst us) ∧ RulesB K H' us ds ∧ ds.map nameOf = ss.take i)
    ⟨[], [], none, none, none, rfl, sb_refl, hp2, ⟨.nil, fun d h => by cases h⟩, rfl⟩ (fun i σ H' _ ⟨_, _, _, _, _, _, e, _⟩ => SqL.of (e _ _ (Ne.symm pnl) hnl)) ?_ ?_
  · rintro i x σ H3 hx ⟨us, ds, o4, o5, o6, rfl, eb, hp3, hB, hnm⟩
    rw [List.getElem?_map] at hx
    cases hz : ss[i]? with
    | none =>
      rw [hz] at hx
      cases hx
    | some nm =>
    rw [hz] at hx
    have hx : V.str nm = x := Option.some.inj hx
    subst hx
    have hback : Same H H3 := fun b u hb => eb b u (ne_of_none hb hpH) (e02 _ _ hb)
    have hs3 := hs.up hback
    have hg3 := hback _ _ hg
    have hlen : ds.length ≤ 20 := by
      have := congrArg List.length hnm
      rw [List.length_map, List.length_take] at this
      omega
    have hul := hB.1.len
    refine ⟨_, rfl, _, rfl, _, rfl, s, 3, rfl, by omega, by omega, hs3, fun t t0 t1 => ⟨_, _, rfl, rfl, (by show 1 ≤ sizeLine; decide), fun rm hrm => ?_⟩⟩
    refine ⟨s, g, rm, _, 2, zs, H3, rfl, hrm, same_new hrm _, hs3, hg3, hzn, hzl, hlet, upd_same, by decide, by omega, by omega, fun vl H4 dl kl e4 htl hsl kl0 kl1 => ?_⟩
    have hs4 := hs3.up e4
    have hg4 := e4 _ _ hg3
    refine ⟨_, rfl, _, rfl, _, rfl, s, 3, rfl, by omega, by omega, hs4, fun t2 t20 t21 => ⟨_, _, rfl, rfl, (by show 1 ≤ sizeLine; decide), fun rm2 hrm2 => ?_⟩⟩
    refine ⟨s, g, rm2, _, 2, zs, H4, rfl, hrm2, same_new hrm2 _, hs4, hg4, hzn, hzl, hlet, upd_same, by decide, by omega, by omega, fun vr H5 dr kr e5 htr hsr kr0 kr1 => ?_⟩
    have e35 := e4.trans e5
    have hp5 := e35 _ _ hp3
    have hs5 := hs4.up e5
    have hu5 := hB.1.up (Same.T e35)
    have nds : Nice 6 (.list ds) := Nice.list (n := 5) (by omega) fun d hd => by
      obtain ⟨nm, l, r, rfl, h1, ⟨k1, h2, _, _⟩, k2, h3, _, _⟩ := hB.2 d hd
      exact good_nice ⟨nm, l, r, rfl, h1, sz_side h2 (by decide) (by omega), sz_side h3 (by decide) (by omega)⟩
    refine ⟨fun σ' H' => ∃ vl dl k, σ' = [some (.ref s), some (.ref g), some (.int most), some (.ref p), some (.str nm), some vl, some vr] ∧ Same H5 H' ∧ Tp K H' vl dl ∧ Sz 2 k dl ∧ 0 < k ∧ k ≤ 3, ?_, ?_⟩
    · refine ⟨_, rfl, (by show 0 ≤ sizeLine; decide), fun pz hpz => ?_⟩
      have ez := same_new hpz (.lst [])
      refine ⟨.list ds, .list [], .lst (SqL.of (ez _ _ hp5)) (hu5.up (Same.T ez)).dp, .lst (SqL.of upd_same) .nil, nds.shaped, by decide +kernel, _, rfl, ?_⟩
      have htlz := (htl.up (Same.T e5)).up (Same.T ez)
      have hB5 := hB.2
      match ds, hB5, hu5 with
      | [], _, _ => exact ⟨vl, dl, kl, rfl, ez, htlz, hsl, kl0, by omega⟩
      | d0 :: dsr, hB5, hu5 =>
      refine ⟨_, rfl, s, 3, rfl, by omega, by omega, hs5.up ez, fun t3 t30 t31 => ⟨rfl, _, rfl, ?_⟩⟩
      refine if_int (fun _ => ?_) (fun _ => ⟨vl, dl, kl, rfl, ez, htlz, hsl, kl0, by omega⟩)
      have hune : us ≠ [] := fun z => by rw [z] at hu5; cases hu5
      refine ⟨_, rfl, _, rfl, s, p, us, rfl, hs5.up ez, SqL.of (ez _ _ hp5), hune, by omega, fun v hv => ?_⟩
      obtain ⟨j, hj⟩ := List.mem_iff_getElem?.mp hv
      obtain ⟨d, hdj, hvd⟩ := hu5.get hj
      obtain ⟨n2, l2, r2, rfl, _, _, k2, hr2, k20, k23⟩ := hB5 d (List.mem_of_getElem? hdj)
      cases hvd.up (Same.T ez) with
      | @tup ta txs _ hta htx =>
      cases htx with
      | @cons vn _ _ _ hvn htx =>
      cases htx with
      | @cons vl2 _ _ _ hvl2 htx =>
      cases htx with
      | @cons vr2 _ _ _ hvr2 htx =>
      cases htx
      exact ⟨ta, _, _, _, rfl, rfl, hta.sqT, (rfl : atI [vn, vl2, vr2] 2 = some vr2), vr2, r2, k2, rfl, ez, hvr2, hr2, k20, k23⟩
    rintro σ' H6 ⟨vl, dl, k, rfl, e6, htl6, hsl6, k0, k3⟩
    refine ⟨_, rfl, .inl ⟨rfl, _, SqL.of (e6 _ _ hp5)⟩, _, rfl, _, rfl, _, rfl, (by show 3 ≤ sizeLine; decide), fun tt htt => ?_⟩
    have e7 := same_new htt (.tup [.str nm, vl, vr])
    have hp7 := e7 _ _ (e6 _ _ hp5)
    have eV := (SameT.refl (upd H6 tt (.tup [.str nm, vl, vr]))).updL (o := .lst (us ++ [.ref tt])) hp7
    have e37 := e35.trans (e6.trans e7)
    refine ⟨p, us, _, rfl, rfl, hp7, lt_line (by omega), us ++ [.ref tt], ds ++ [.tuple [.str nm, dl, dr]], _, _, _, rfl, (eb.tr (sb_of e37)).tr sb_upd, upd_same, ⟨?_, ?_⟩, ?_⟩
    · exact tpa_snoc (.tup (.inl (eV _ _ upd_same)) (.cons (.str _) (.cons ((htl6.up (Same.T e7)).up eV) (.cons (((htr.up (Same.T e6)).up (Same.T e7)).up eV) .nil)))) ((hu5.up (Same.T (e6.trans e7))).up eV)
    · intro d hd
      rcases List.mem_append.mp hd with hd | hd
      · exact hB.2 d hd
      · rw [List.mem_singleton.mp hd]
        exact ⟨nm, dl, dr, rfl, hssn nm (List.mem_of_getElem? hz), ⟨k, hsl6, k0, k3⟩, kr, hsr, kr0, by omega⟩
    · rw [List.map_append, hnm, List.take_add_one, hz]
      rfl
  · rintro σ H3 ⟨us, ds, o4, o5, o6, rfl, eb, hp3, hB, hnm⟩
    have hnm : ds.map nameOf = ss := by rw [hnm, List.length_map, List.take_length]
    refine ⟨_, rfl, q p us ds H3 (fun b u hb => eb b u (ne_of_none hb hpH) (e02 _ _ hb)) hpH hp3 hB (by rw [hnm]; exact hssd) ?_ (by rw [hnm]; exact hssz)⟩
    have := congrArg List.length hnm
    rw [List.length_map] at this
    omega
end
end FF
/-! scenes: the goal -/
namespace FF
open PySem PySem.Spec PyProof.Rows L2
def spGoalL (K : PySem.W.Frag) : Sp := fun vs H Q _ => ∃ (s g pl : Addr) (zs : List Str) (us : List V) (ds : List PyData), vs = [.ref s, .ref g, .ref pl] ∧ Src H s ∧ H g = some (.lst (zs.map V.str)) ∧ zs ≠ [] ∧ zs.length ≤ 20000 ∧ (∀ z, z ∈ zs → isLetS z = true) ∧ H pl = some (.lst us) ∧ RulesB K H us ds ∧ ds.length ≤ 20 ∧
  ∀ v H' d, Same H H' → Tp K H' v d → GoodG d → Q v H'
section
variable {P : Program} {w : World} {K : PySem.W.Frag} {mg : Str → Option Value} {base : Heap}
theorem ok_goalL {f : Addr} {fd : FuncData} (F : FunD K "_law_goal" "_law_goal" (defArgs s_law_goal) (defBody s_law_goal) (defScope s_law_goal) [] [] f fd) (hm : mg "_law_goal" = some (.ref f)) (T : Top K mg)
    (D_law_take : Def P w K mg base "_law_take" 1 ["_law_source_here", "_law_many"] spTake) (D_law_pick : Def P w K mg base "_law_pick" 2 ["_law_source_here", "_law_row"] (spPick K))
    (D_law_known_goal : Def P w K mg base "_law_known_goal" 3 ["_law_source_here", "_law_signs_here"] (spKnown K)) (D_law_term : Def P w K mg base "_law_term" 8 ["_law_source_here", "_law_signs_here", "_law_deep", "_law_room"] (spTermF K)) : Def P w K mg base "_law_goal" 9 ["_law_source_here", "_law_signs_here", "_law_premises_here"] (spGoalL K) := by
  refine def_mk F hm (F.bindsN fun _ _ _ _ _ _ us hl => match us, hl with | [_, _, _], _ => rfl) sc_law_goal (fun vs H Q E h => ?_) (fun cdv A outer s0 H vs Q E hr h => ?_)
  · obtain ⟨s, g, pl, zs, us, ds, rfl, _⟩ := h
    rfl
  obtain ⟨s, g, pl, zs, us, ds, rfl, hs, hg, hzn, hzl, hlet, hpl, hB, h20, q⟩ := h
  have hul := hB.1.len
  refine ⟨_, (pss_cons (ps_set (i := 3) sc_law_goal.nd rfl (Or.inl rfl) (pe_def D_law_take hr (by first | decide | omega) (pa_cons (pv 0) (pa_cons pe_int pa_nil))))
  (pss_cons (ps_if (pt_cmpR op_eq (pv 3) pe_int (nomark _))
  (pss_one (ps_ret (pe_def D_law_known_goal hr (by first | decide | omega) (pa_cons (pv 0) (pa_cons (pv 1) pa_nil)))))
  pss_nil)
  (pss_cons (ps_asg (pe_lc (own := [("_law_k", 6)]) rfl sc_law_goal.nd (pi_range1 (by rfl) T.b_range (pa_cons pe_int pa_nil)) (blkOk_by (by kernel_rfl)) (fun _ _ _ _ _ => (pg_name (i := 6) sc_law_goal.nd rfl (Or.inl rfl) (.inr rfl))) (fun _ _ _ _ _ => pts_nil) (fun _ _ _ _ _ => (pe_def D_law_term hr (by first | decide | omega) (pa_cons (pv 0) (pa_cons (pv 1) (pa_cons (pe_op op_add pe_int (pe_def D_law_take hr (by first | decide | omega) (pa_cons (pv 0) (pa_cons pe_int pa_nil)))) (pa_cons (pe_lst (pa_cons pe_int pa_nil)) pa_nil))))))) (pg_lst (n := 2) rfl (pgs_cons (pg_name (i := 4) sc_law_goal.nd rfl (Or.inl rfl) (.inl rfl)) (pgs_cons (pg_name (i := 5) sc_law_goal.nd rfl (Or.inl rfl) (.inl rfl)) pgs_nil))))
  (C8.pss_cut (ps_if (PW.pt (pw_and (pt_cmpR (op_neK K hr.units) (pv 2) (pe_lst pa_nil) (nomark _)) (pw_and1 (pt_cmpR op_lt (pv 3) pe_int (nomark _)))))
  (pss_cons (ps_set (i := 4) sc_law_goal.nd rfl (Or.inl rfl) (pe_ix (ix_tupK K) (pe_def D_law_pick hr (by first | decide | omega) (pa_cons (pv 0) (pa_cons (pv 2) pa_nil))) pe_int (fun _ _ => rfl)))
  (pss_one (ps_set (i := 5) sc_law_goal.nd rfl (Or.inl rfl) (pe_ix (ix_tupK K) (pe_def D_law_pick hr (by first | decide | omega) (pa_cons (pv 0) (pa_cons (pv 2) pa_nil))) pe_int (fun _ _ => rfl)))))
  pss_nil)
  (C8.pss_cut (ps_if (pt_cmpR op_eq (pv 3) pe_int (nomark _))
  (pss_one (ps_set (i := 5) sc_law_goal.nd rfl (Or.inl rfl) (pe_tup (pa_cons pe_str (pa_cons (pv 5) (pa_cons (pe_def D_law_pick hr (by first | decide | omega) (pa_cons (pv 0) (pa_cons (pv 1) pa_nil))) pa_nil))))))
  pss_nil)
  (pss_one (ps_ret (pe_tup (pa_cons (pv 4) (pa_cons (pv 5) pa_nil)))))))))), ?_⟩
  refine ⟨_, rfl, s, 5, rfl, by omega, by omega, hs, fun way w0 w1 => ⟨_, rfl, rfl, _, rfl, ?_⟩⟩
  refine if_int (fun _ => ⟨_, rfl, _, rfl, s, g, zs, rfl, hs, hg, hzn, hzl, hlet, fun v H' d e ht hd => q v H' d e ht hd⟩) (fun _ => ?_)
  refine ⟨2, rfl, by omega, by omega, fun D hD => ?_⟩
  refine lc_mapR (j := 6) (lo := 0) (n := 2) (fun i y H' => ∃ d k, Tp K H' y d ∧ Sz 2 k d ∧ 0 < k ∧ k ≤ 4) (fun i y H1 H2 e ⟨d, k, a, b⟩ => ⟨d, k, a.up e, b⟩) hD (by decide) (fun _ => rfl) ?_ ?_
  · intro i H2 hi e Q' k'
    refine ⟨_, rfl, _, rfl, _, rfl, s, 3, rfl, by omega, by omega, hs.up e, fun t t0 t1 => ⟨_, _, rfl, rfl, (by show 1 ≤ sizeLine; decide), fun rm hrm => ?_⟩⟩
    exact ⟨s, g, rm, _, 3, zs, H2, rfl, hrm, same_new hrm _, hs.up e, e _ _ hg, hzn, hzl, hlet, upd_same, by decide, by omega, by omega, fun vl H4 dl kl e4 htl hsl kl0 kl1 => k' vl H4 e4 ⟨dl, kl, htl, hsl, kl0, kl1⟩⟩
  intro H2 ys e2 hDv hyl hy
  obtain ⟨ya, yb, rfl⟩ := len_two hyl
  obtain ⟨da, ka, hta, hsa, ka0, ka4⟩ := hy 0 ya rfl
  obtain ⟨db, kb, htb, hsb, kb0, kb4⟩ := hy 1 yb rfl
  refine ⟨D, _, rfl, SqL.of hDv, rfl, ?_⟩
  refine ⟨_, _, rfl, _, _, rfl, rfl, ?_⟩
  have hs2 := hs.up e2
  have hpl2 := e2 _ _ hpl
  have hu2 := hB.1.up (Same.T e2)
  have hg2 := e2 _ _ hg
  refine ⟨fun σ' H' => ∃ vl dl k vr dr k2 o6, σ' = [some (.ref s), some (.ref g), some (.ref pl), some (.int way), some vl, some vr, o6] ∧ Same H2 H' ∧ Tp K H' vl dl ∧ Sz 2 k dl ∧ 0 < k ∧ k ≤ 4 ∧ Tp K H' vr dr ∧ Sz 2 k2 dr ∧ 0 < k2 ∧ k2 ≤ 4, ?_, ?_⟩
  · refine ⟨_, rfl, (by show 0 ≤ sizeLine; decide), fun pz hpz => ?_⟩
    have ez := same_new hpz (.lst [])
    have nds : Nice 6 (.list ds) := Nice.list (n := 5) (by omega) fun d hd => by
      obtain ⟨nm, l, r, rfl, h1, ⟨k1, h2, _, _⟩, k2, h3, _, _⟩ := hB.2 d hd
      exact good_nice ⟨nm, l, r, rfl, h1, sz_side h2 (by decide) (by omega), sz_side h3 (by decide) (by omega)⟩
    refine ⟨.list ds, .list [], .lst (SqL.of (ez _ _ hpl2)) (hu2.up (Same.T ez)).dp, .lst (SqL.of upd_same) .nil, nds.shaped, by decide +kernel, _, rfl, ?_⟩
    have hta' := hta.up (Same.T ez)
    have htb' := htb.up (Same.T ez)
    have hB2 := hB.2
    match ds, hB2, hu2 with
    | [], _, _ => exact ⟨ya, da, ka, yb, db, kb, _, rfl, ez, hta', hsa, ka0, ka4, htb', hsb, kb0, kb4⟩
    | d0 :: dsr, hB2, hu2 =>
    refine ⟨_, rfl, _, _, rfl, rfl, _, rfl, ?_⟩
    refine if_dec (fun _ => ?_) (fun _ => ⟨ya, da, ka, yb, db, kb, _, rfl, ez, hta', hsa, ka0, ka4, htb', hsb, kb0, kb4⟩)
    have hune : us ≠ [] := fun z => by rw [z] at hu2; cases hu2
    have pick : ∀ {v : V}, v ∈ us → ∃ (ta : Addr) (vn vl vr : V) (l r : PyData) (k1 k2 : Nat), v = .ref ta ∧ SqT K (upd H2 pz (.lst [])) ta [vn, vl, vr] ∧ Tp K (upd H2 pz (.lst [])) vl l ∧ Sz 2 k1 l ∧ 0 < k1 ∧ k1 ≤ 3 ∧ Tp K (upd H2 pz (.lst [])) vr r ∧ Sz 2 k2 r ∧ 0 < k2 ∧ k2 ≤ 3 := fun hv => by
      obtain ⟨j, hj⟩ := List.mem_iff_getElem?.mp hv
      obtain ⟨d, hdj, hvd⟩ := hu2.get hj
      obtain ⟨n2, l2, r2, rfl, _, ⟨k1, hl2, k10, k13⟩, k2, hr2, k20, k23⟩ := hB2 d (List.mem_of_getElem? hdj)
      cases hvd.up (Same.T ez) with
      | @tup ta txs _ hta htx =>
      cases htx with
      | @cons vn _ _ _ hvn htx =>
      cases htx with
      | @cons vl2 _ _ _ hvl2 htx =>
      cases htx with
      | @cons vr2 _ _ _ hvr2 htx =>
      cases htx
      exact ⟨ta, vn, vl2, vr2, l2, r2, k1, k2, rfl, hta.sqT, hvl2, hl2, k10, k13, hvr2, hr2, k20, k23⟩
    refine ⟨_, rfl, _, rfl, s, pl, us, rfl, hs2.up ez, SqL.of (ez _ _ hpl2), hune, by omega, fun v hv => ?_⟩
    obtain ⟨ta, vn, vl, vr, l, r, k1, k2, rfl, hq, h1, h2, h3, h4, _⟩ := pick hv
    refine ⟨ta, _, _, _, rfl, rfl, hq, (rfl : atI [vn, vl, vr] 1 = some vl), ?_⟩
    refine ⟨_, rfl, _, rfl, s, pl, us, rfl, hs2.up ez, SqL.of (ez _ _ hpl2), hune, by omega, fun v hv => ?_⟩
    obtain ⟨ta', vn', vl', vr', l', r', k1', k2', rfl, hq', _, _, _, _, h5, h6, h7, h8⟩ := pick hv
    exact ⟨ta', _, _, _, rfl, rfl, hq', (rfl : atI [vn', vl', vr'] 2 = some vr'), vl, l, k1, vr', r', k2', _, rfl, ez, h1, h2, h3, by omega, h5, h6, h7, by omega⟩
  rintro σ' H3 ⟨vl, dl, k, vr, dr, k2, o6, rfl, e3, htl, hsl, k0, k4, htr, hsr, k20, k24⟩
  refine ⟨fun σ' H' => ∃ vr dr k2, σ' = [some (.ref s), some (.ref g), some (.ref pl), some (.int way), some vl, some vr, o6] ∧ Same H3 H' ∧ Tp K H' vr dr ∧ Sz 3 k2 dr ∧ 0 < k2 ∧ k2 ≤ 5, ?_, ?_⟩
  · refine ⟨_, rfl, rfl, _, rfl, ?_⟩
    refine if_int (fun _ => ?_) (fun _ => ⟨vr, dr, k2, rfl, Same.refl H3, htr, sz_up hsr (by decide), k20, by omega⟩)
    refine ⟨_, rfl, _, rfl, _, rfl, s, g, _, rfl, hs2.up e3, SqL.of (e3 _ _ hg2), by simpa using hzn, by rw [List.length_map]; exact hzl, fun v hv => ?_⟩
    obtain ⟨z, hz, rfl⟩ := List.mem_map.mp hv
    refine ⟨(by show 3 ≤ sizeLine; decide), fun t ht => ?_⟩
    have e4 := same_new ht (.tup [.str "|", vr, .str z])
    exact ⟨.ref t, .tuple [.str "|", dr, .str z], k2 + 1, rfl, e4, .tup (.inl upd_same) (.cons (.str _) (.cons (htr.up (Same.T e4)) (.cons (.str _) .nil))), sz_op (by decide +kernel) hsr (sz_up (sz_let (hlet z hz)) (by decide)) k20 (by decide), by omega, by omega⟩
  rintro σ' H4 ⟨vr, dr, k2, rfl, e4, htr, hsr, k20, k25⟩
  refine ⟨_, rfl, _, rfl, (by show 2 ≤ sizeLine; decide), fun t ht => q _ _ (.tuple [dl, dr]) (e2.trans (e3.trans (e4.trans (same_new ht _)))) ?_ ⟨dl, dr, rfl, sz_side hsl (by decide) (by omega), sz_side hsr (by decide) (by omega)⟩⟩
  exact .tup (.inl upd_same) (.cons (htl.up (Same.T (e4.trans (same_new ht _)))) (.cons (htr.up (Same.T (same_new ht _))) .nil))
end
end FF
/-! scenes: the whole -/
namespace FF
open PySem PySem.Spec PyProof.Rows L2
def spScene (K : PySem.W.Frag) : Sp := fun vs H Q _ => ∃ (s : Addr) (most words : Nat), vs = [.ref s, .int most, .int words] ∧ Src H s ∧ most ≤ 12 ∧ 4 ≤ words ∧
  ∀ (t p : Addr) (gv : V) us ds g H', Same H H' → H' t = some (.tup [.ref p, gv]) → H p = none → H' p = some (.lst us) → TpAll K H' us ds → (∀ d ∈ ds, GoodR d) → (ds.map nameOf).Nodup → ds.length ≤ most → Tp K H' gv g → GoodG g → (vocD (prsOf ds g)).length ≤ words → (∀ z ∈ ds.map nameOf, z ≠ "zyxwvu") → Q (.ref t) H'
theorem rulesB_good {K : PySem.W.Frag} {H : Hp} {us : List V} {ds : List PyData} (h : RulesB K H us ds) : ∀ d ∈ ds, GoodR d := fun d hd => by
  obtain ⟨nm, l, r, rfl, h1, ⟨k1, h2, _, _⟩, k2, h3, _, _⟩ := h.2 d hd
  exact ⟨nm, l, r, rfl, h1, sz_side h2 (by decide) (by omega), sz_side h3 (by decide) (by omega)⟩
section
variable {P : Program} {w : World} {K : PySem.W.Frag} {mg : Str → Option Value} {base : Heap}
theorem ok_scene {f : Addr} {fd : FuncData} (F : FunD K "_law_scene" "_law_scene" (defArgs s_law_scene) (defBody s_law_scene) (defScope s_law_scene) [] [] f fd) (hm : mg "_law_scene" = some (.ref f)) (T : Top K mg)
    (D_law_signs : Def P w K mg base "_law_signs" 3 ["_law_source_here", "_law_most"] spSigns) (D_law_premises : Def P w K mg base "_law_premises" 9 ["_law_source_here", "_law_signs_here", "_law_most"] (spPremises K)) (D_law_goal : Def P w K mg base "_law_goal" 9 ["_law_source_here", "_law_signs_here", "_law_premises_here"] (spGoalL K))
    (D_law_words : Def P w K mg base "_law_words" 11 ["_law_pairs_here"] (spWordsOf K)) (D_law_kept_few : Def P w K mg base "_law_kept_few" 12 ["_law_premises_here", "_law_aim", "_law_most"] (spKept K)) : Def P w K mg base "_law_scene" 13 ["_law_source_here", "_law_most", "_law_words_here"] (spScene K) := by
  refine def_mk F hm (F.bindsN fun _ _ _ _ _ _ us hl => match us, hl with | [_, _, _], _ => rfl) sc_law_scene (fun vs H Q E h => ?_) (fun cdv A outer s0 H vs Q E hr h => ?_)
  · obtain ⟨s, most, words, rfl, _⟩ := h
    rfl
  obtain ⟨s, most, words, rfl, hs, hmost, hwords, q⟩ := h
  refine ⟨_, (pss_cons (ps_set (i := 3) sc_law_scene.nd rfl (Or.inl rfl) (pe_def D_law_signs hr (by first | decide | omega) (pa_cons (pv 0) (pa_cons pe_int pa_nil))))
  (C8.pss_cut (ps_if (pt_cmpR op_eq (pe_callB (call_lenK K) (by rfl) T.b_len (by decide +kernel) (pa_cons (pv 3) pa_nil)) pe_int (nomark _))
  (pss_one (ps_set (i := 3) sc_law_scene.nd rfl (Or.inl rfl) (pe_lst (pa_cons pe_str (pa_cons pe_str (pa_cons pe_str (pa_cons pe_str pa_nil)))))))
  pss_nil)
  (pss_cons (ps_set (i := 4) sc_law_scene.nd rfl (Or.inl rfl) (pe_def D_law_premises hr (by first | decide | omega) (pa_cons (pv 0) (pa_cons (pv 3) (pa_cons (pv 1) pa_nil)))))
  (pss_cons (ps_set (i := 5) sc_law_scene.nd rfl (Or.inl rfl) (pe_def D_law_goal hr (by first | decide | omega) (pa_cons (pv 0) (pa_cons (pv 3) (pa_cons (pv 4) pa_nil)))))
  (C8.pss_cut (ps_if (pt_cmpR op_gt (pe_callB (call_lenK K) (by rfl) T.b_len (by decide +kernel) (pa_cons (pe_def D_law_words hr (by first | decide | omega) (pa_cons (pe_lst (pa_cons (pv 5) pa_nil)) pa_nil)) pa_nil)) (pv 2) (nomark _))
  (pss_one (ps_set (i := 5) sc_law_scene.nd rfl (Or.inl rfl) (pe_tup (pa_cons (pe_ix (ix_listK K) (pv 3) pe_int (fun _ _ => rfl)) (pa_cons (pe_tup (pa_cons pe_str (pa_cons (pe_ix (ix_listK K) (pv 3) pe_int (fun _ _ => rfl)) (pa_cons (pe_ix (ix_listK K) (pv 3) (pe_un un_neg pe_int) (fun _ _ => rfl)) pa_nil)))) pa_nil)))))
  pss_nil)
  (pss_one (ps_ret (pe_tup (pa_cons (pe_def D_law_kept_few hr (by first | decide | omega) (pa_cons (pv 4) (pa_cons (pv 5) (pa_cons (pv 2) pa_nil)))) (pa_cons (pv 5) pa_nil)))))))))), ?_⟩
  refine ⟨_, rfl, s, 4, rfl, by omega, by omega, hs, fun g0 H1 zs0 e1 hg0 hzn0 hz8 hzl0 => ?_⟩
  have hs1 := hs.up e1
  refine ⟨fun σ' H' => ∃ (g : Addr) (zs : List Str), σ' = [some (.ref s), some (.int most), some (.int words), some (.ref g), none, none] ∧ Same H1 H' ∧ H' g = some (.lst (zs.map V.str)) ∧ 2 ≤ zs.length ∧ zs.length ≤ 8 ∧ ∀ z ∈ zs, isLetS z = true, ?_, ?_⟩
  · refine ⟨_, rfl, _, zs0.length, rfl, .inl ⟨_, SqL.of hg0, by simp⟩, rfl, _, rfl, ?_⟩
    refine if_int (fun h1 => ?_) (fun h1 => ⟨g0, zs0, rfl, Same.refl H1, hg0, ?_, hz8, hzl0⟩)
    · refine ⟨(by show 4 ≤ sizeLine; decide), fun p hp => ⟨p, ["a", "b", "c", "d"], rfl, same_new hp _, upd_same, by decide, by decide, fun z hz => ?_⟩⟩
      simp only [List.mem_cons, List.not_mem_nil, or_false] at hz
      rcases hz with rfl | rfl | rfl | rfl <;> decide +kernel
    · have : zs0.length ≠ 0 := fun z => hzn0 (List.length_eq_zero_iff.mp z)
      omega
  rintro σ' H2 ⟨g, zs, rfl, e2, hg, hz2, hz8, hzl⟩
  have e02 := e1.trans e2
  have hs2 := hs.up e02
  have hzn : zs ≠ [] := fun z => by rw [z] at hz2; exact absurd hz2 (by decide)
  refine ⟨_, rfl, _, rfl, _, rfl, s, g, most, zs, rfl, hs2, hg, hzn, by omega, hzl, by omega, fun p us ds H3 e3 hp0 hp hB hnd hlen hnz => ?_⟩
  have hs3 := hs2.up e3
  have hg3 := e3 _ _ hg
  refine ⟨_, rfl, _, rfl, _, rfl, s, g, p, zs, us, ds, rfl, hs3, hg3, hzn, by omega, hzl, hp, hB, by omega, fun gv H4 gd e4 hgt hgd => ?_⟩
  have hp4 := e4 _ _ hp
  have hB4 := hB.1.up (Same.T e4)
  have hs4 := hs3.up e4
  have hg4 := e4 _ _ hg3
  refine ⟨fun σ' H' => ∃ gv gd, σ' = [some (.ref s), some (.int most), some (.int words), some (.ref g), some (.ref p), some gv] ∧ Same H4 H' ∧ Tp K H' gv gd ∧ GoodG gd ∧ (vocD (prsOf [] gd)).length ≤ words, ?_, ?_⟩
  · refine ⟨_, rfl, (by show 1 ≤ sizeLine; decide), fun p1 hp1 => ?_⟩
    have ee := same_new hp1 (.lst [gv])
    refine ⟨p1, [gv], prsOf [] gd, rfl, upd_same, (by obtain ⟨l, r, rfl, _⟩ := hgd; exact .cons (hgt.up (Same.T ee)) .nil), good_pairs (fun d h => by cases h) (by decide) hgd, fun r rs H5 e5 _ hr hrt => ?_⟩
    have l5 := hrt.len
    have e45 := ee.trans e5
    refine ⟨_, rs.length, rfl, .inl ⟨rs, SqL.of hr, rfl⟩, _, rfl, _, _, rfl, rfl, _, rfl, ?_⟩
    refine if_dec (fun _ => ?_) (fun hle => ⟨gv, gd, rfl, e45, hgt.up (Same.T e45), hgd, by omega⟩)
    have hg5 := e45 _ _ hg4
    match zs, hz2, hg5, hzl with
    | za :: zb :: zr, _, hg5, hzl =>
    refine ⟨_, rfl, g, _, _, .str za, rfl, rfl, SqL.of hg5, at0, _, rfl, g, _, _, .str zb, rfl, rfl, SqL.of hg5, atI_nat (j := 1) rfl, _, rfl, ?_⟩
    obtain ⟨zc, hzc⟩ : ∃ zc, (za :: zb :: zr)[zr.length + 1]? = some zc := ⟨(za :: zb :: zr)[zr.length + 1]'(by simp), by simp⟩
    have hlc := hzl zc (List.mem_of_getElem? hzc)
    have hat : atI ((za :: zb :: zr).map V.str) (-1) = some (.str zc) := by
      have hx : ixN ((za :: zb :: zr).map V.str).length (-1) = some (zr.length + 1) := by
        unfold ixN
        rw [if_neg (by decide), if_pos (by simp; omega)]
        simp
        omega
      unfold atI
      rw [hx]
      show ((za :: zb :: zr).map V.str)[zr.length + 1]? = _
      rw [List.getElem?_map, hzc] <;> rfl
    refine ⟨1, rfl, g, _, _, .str zc, rfl, rfl, SqL.of hg5, hat, (by show 3 ≤ sizeLine; decide), fun t1 ht1 => ⟨(by show 2 ≤ sizeLine; decide), fun t2 ht2 => ?_⟩⟩
    have e6 := same_new ht1 (.tup [.str "|", .str zb, .str zc])
    have e7 := same_new ht2 (.tup [.str za, .ref t1])
    have sa := sz_let (hzl za (by simp))
    have sb := sz_let (hzl zb (by simp))
    have sc := sz_let hlc
    refine ⟨.ref t2, .tuple [.str za, .tuple [.str "|", .str zb, .str zc]], rfl, e45.trans (e6.trans e7), .tup (.inl upd_same) (.cons (.str _) (.cons (.tup (.inl (e7 _ _ upd_same)) (.cons (.str _) (.cons (.str _) (.cons (.str _) .nil)))) .nil)), ⟨_, _, rfl, sz_side sa (by decide) (by decide), sz_side (sz_op (by decide +kernel) sb sc (by decide) (by decide)) (by decide) (by decide)⟩, ?_⟩
    refine Nat.le_trans ?_ hwords
    show (byText (textD 5) _).length ≤ 4
    rw [byText_len]
    have := dict_len (f := textD 5) (wordsOf (prsOf [] (.tuple [.str za, .tuple [.str "|", .str zb, .str zc]]))) []
    exact this
  rintro σ' H5 ⟨gv, gd, rfl, e5, hgt, hgd, hw⟩
  have hl := hB.1.len
  refine ⟨_, rfl, _, rfl, _, rfl, p, gv, us, ds, gd, words, rfl, e5 _ _ hp4, hB4.up (Same.T e5), rulesB_good hB, by omega, hgt, hgd, hw, fun r us' ds' H6 e6 hr0 hr hrt hsub hw2 => ?_⟩
  refine ⟨_, rfl, (by show 2 ≤ sizeLine; decide), fun t ht => ?_⟩
  have e7 := same_new ht (.tup [.ref r, gv])
  have e07 := e02.trans (e3.trans (e4.trans (e5.trans (e6.trans e7))))
  refine q t r gv us' ds' gd _ e07 upd_same (new_none (e02.trans (e3.trans (e4.trans e5))) hr0) (e7 _ _ hr) (hrt.up (Same.T e7)) (fun d hd => rulesB_good hB d (hsub.subset hd)) ((hsub.map nameOf).nodup hnd) (Nat.le_trans hsub.length_le hlen) (hgt.up (Same.T (e6.trans e7))) hgd hw2 fun z hz => hnz z ((hsub.map nameOf).subset hz)
end
end FF
/-! a term's head and parts (they stand in leq0, too: take one of the two) -/
namespace FF
open PySem PySem.Spec PyProof.Rows L2
end FF
/-! the reader of terms: what it computes, on lists of signs -/
namespace FF
open PySem PySem.Spec PyProof.Rows L2
abbrev isOpC (o : Nat) : Bool := o == 38 || o == 124
abbrev RdF : Type := List Nat → Option (PyData × List Nat)
def rPart (f : RdF) : RdF
  | [] => none
  | c :: r => if c ∈ lettersS.cps.toList then some (.str ⟨#[c]⟩, r) else if c = 40 then (match f r with
    | some (d, 41 :: r2) => if isLet d = true then none else some (d, r2)
    | _ => none) else none
def rTail (g : RdF) (o : Nat) : Nat → List Nat → Option (List PyData × List Nat)
  | 0, l => some ([], l)
  | k + 1, l => match l with
    | 32 :: p :: 32 :: r => if p = o then (match g r with
      | some (d, r2) => (match rTail g o k r2 with
        | some (ds, r3) => some (d :: ds, r3)
        | none => none)
      | none => none) else some ([], l)
    | _ => some ([], l)
def rAlone (d : PyData) (r : List Nat) : Option (PyData × List Nat) := if isLet d = true then some (d, r) else none
def rEnd (o : Nat) (d : PyData) : List PyData × List Nat → Option (PyData × List Nat)
  | ([], r2) => rAlone d r2
  | (e :: es, r2) => some (.tuple (.str ⟨#[o]⟩ :: d :: e :: es), r2)
def rSeq : Nat → RdF
  | 0, _ => none
  | n + 1, l => (rPart (rSeq n) l).bind fun x => match x.2[1]? with
    | some o => if isOpC o = true then (rTail (rPart (rSeq n)) o x.2.length x.2).bind (rEnd o x.1) else rAlone x.1 x.2
    | none => rAlone x.1 x.2
/-! ### what is left is a suffix; the data is nice -/
/-! ### texts at a place -/
end FF
/-! what rdr3 takes of rdr2 -/
namespace FF
open PySem PySem.Spec PyProof.Rows L2
theorem rPart_paren {f : RdF} {l : List Nat} : rPart f (40 :: l) = match f l with
    | some (d, 41 :: r2) => if isLet d = true then none else some (d, r2)
    | _ => none := by
  show (if 40 ∈ lettersS.cps.toList then some (PyData.str ⟨#[40]⟩, l) else if 40 = 40 then (match f l with
    | some (d, 41 :: r2) => if isLet d = true then none else some (d, r2)
    | _ => none) else none) = _
  rw [if_neg (by rw [lettersS_val]; decide), if_pos rfl]
theorem rTail_end {g : RdF} {o : Nat} : ∀ {k : Nat} {l : List Nat}, ¬ l.take 3 = [32, o, 32] → rTail g o k l = some ([], l)
  | 0, _, _ => rfl
  | k + 1, l, h => by
    unfold rTail
    split
    · rename_i p r
      rw [if_neg fun e => h (by rw [e] <;> rfl)]
    · rfl
theorem rTail_more {g : RdF} {o k : Nat} {l : List Nat} : rTail g o (k + 1) (32 :: o :: 32 :: l) = (g l).bind fun x => (rTail g o k x.2).map fun y => (x.1 :: y.1, y.2) := by
  show (if o = o then (match g l with
      | some (d, r2) => (match rTail g o k r2 with
        | some (ds, r3) => some (d :: ds, r3)
        | none => none)
      | none => none) else some ([], 32 :: o :: 32 :: l)) = _
  rw [if_pos rfl]
  cases g l with
  | none => rfl
  | some x =>
    obtain ⟨d, r2⟩ := x
    show (match rTail g o k r2 with
        | some (ds, r3) => some (d :: ds, r3)
        | none => none) = (rTail g o k r2).map _
    cases rTail g o k r2 <;> rfl
end FF
/-! the reader reads what the law writes -/
namespace FF
open PySem PySem.Spec PyProof.Rows L2
abbrev tl (z : Str) : List Nat := z.cps.toList
theorem tl_app (a b : Str) : tl (a ++ b) = tl a ++ tl b := by
  show (a.cps ++ b.cps).toList = _
  rw [Array.toList_append]
def tailL (o : Nat) (ps : List (List Nat)) : List Nat := ps.flatMap fun p => 32 :: o :: 32 :: p
theorem join_tl {o : Nat} {sep : Str} (hs : tl sep = [32, o, 32]) : ∀ (x : Str) (r : List Str), tl (Str.join sep (x :: r)) = tl x ++ tailL o (r.map tl)
  | x, [] => by
    show tl x = tl x ++ []
    rw [List.append_nil]
  | x, y :: r => by
    show tl (x ++ sep ++ Str.join sep (y :: r)) = _
    rw [tl_app, tl_app, hs, join_tl hs y r]
    show tl x ++ [32, o, 32] ++ (tl y ++ tailL o (r.map tl)) = tl x ++ ((32 :: o :: 32 :: tl y) ++ tailL o (r.map tl))
    rw [List.append_assoc] <;> rfl
theorem op_sign {o : Str} (h : isOp (.str o) = true) : ∃ c, o = ⟨#[c]⟩ ∧ isOpC c = true := by
  rcases op_shape h with h | h
  · exact ⟨38, (PyData.str.inj h).trans (by decide +kernel), by decide⟩
  · exact ⟨124, (PyData.str.inj h).trans (by decide +kernel), by decide⟩
theorem sep_tl {c : Nat} : tl ((" " : Str) ++ ⟨#[c]⟩ ++ (" " : Str)) = [32, c, 32] := by
  rw [tl_app, tl_app, show tl (" " : Str) = [32] by decide +kernel] <;> rfl
def Stop (l : List Nat) : Prop := l = [] ∨ ∃ r, l = 41 :: r
theorem part_let {f : RdF} {z : Str} (h : isLet (.str z) = true) (rest : List Nat) : rPart f (tl z ++ rest) = some (.str z, rest) := by
  obtain ⟨c, e, hc⟩ := let_shape h
  rw [PyData.str.inj e]
  exact if_pos hc
theorem text_tup {n c : Nat} {p : PyData} {ps : List PyData} : tl (textD (n + 1) (.tuple (.str ⟨#[c]⟩ :: p :: ps))) = tl (partT (textD n) p) ++ tailL c (ps.map fun q => tl (partT (textD n) q)) := by
  show tl (Txt.join ((" " : Str) ++ ⟨#[c]⟩ ++ " ") ((p :: ps).map (partT (textD n)))) = _
  rw [TL.join_eq, List.map_cons, join_tl sep_tl, List.map_map] <;> rfl
theorem par_tl (x : Str) : tl (("(" : Str) ++ x ++ ")") = 40 :: (tl x ++ [41]) := by
  rw [tl_app, tl_app, show tl ("(" : Str) = [40] by decide +kernel, show tl (")" : Str) = [41] by decide +kernel] <;> rfl
theorem rTail_all {g : RdF} {o : Nat} {f : PyData → List Nat} {rest : List Nat} (hr : Stop rest) : ∀ (ps : List PyData) (k : Nat), (∀ p ∈ ps, ∀ r, g (f p ++ r) = some (p, r)) → ps.length ≤ k → rTail g o k (tailL o (ps.map f) ++ rest) = some (ps, rest)
  | [], k, _, _ => by
    refine rTail_end ?_
    rcases hr with rfl | ⟨r, rfl⟩
    · exact fun z => by cases z
    · exact fun z => by
        have := List.head_eq_of_cons_eq z
        cases this
  | p :: ps, k, h, hk => by
    obtain ⟨j, rfl⟩ : ∃ j, k = j + 1 := ⟨k - 1, by rw [List.length_cons] at hk; omega⟩
    show rTail g o (j + 1) ((32 :: o :: 32 :: f p) ++ tailL o (ps.map f) ++ rest) = _
    rw [show (32 :: o :: 32 :: f p) ++ tailL o (ps.map f) ++ rest = 32 :: o :: 32 :: (f p ++ (tailL o (ps.map f) ++ rest)) by rw [List.append_assoc] <;> rfl]
    rw [rTail_more, h p List.mem_cons_self]
    show ((rTail g o j (tailL o (ps.map f) ++ rest)).map fun y => (p :: y.1, y.2)) = _
    rw [rTail_all hr ps j (fun q hq => h q (List.mem_cons_of_mem _ hq)) (by rw [List.length_cons] at hk; omega)] <;> rfl
theorem tail_len {o : Nat} : ∀ (ps : List (List Nat)), ps.length ≤ (tailL o ps).length
  | [] => Nat.le_refl _
  | p :: ps => by
    have := tail_len (o := o) ps
    show ps.length + 1 ≤ ((32 :: o :: 32 :: p) ++ tailL o ps).length
    rw [List.length_append, List.length_cons]
    omega
theorem read_seq : ∀ {n : Nat} {d : PyData}, Drawn n d → isTup d = true → ∀ rest, Stop rest → rSeq (n + 1) (tl (textD (n + 1) d) ++ rest) = some (d, rest) := by
  intro n
  induction n with
  | zero =>
    intro d h ht
    rcases drawn_shape h with ⟨z, rfl, _⟩ | ⟨_, _, _, _, _, _, _, e, _⟩
    · cases ht
    · cases e
  | succ n ih =>
    intro d h ht rest hr
    rcases drawn_shape h with ⟨z, rfl, _⟩ | ⟨o, ps, k, rfl, ho, l2, l4, e, hp⟩
    · cases ht
    cases e
    obtain ⟨c, rfl, hc⟩ := op_sign ho
    have part : ∀ p ∈ ps, ∀ r, rPart (rSeq (n + 1)) (tl (partT (textD (n + 1)) p) ++ r) = some (p, r) := fun p hpp r => by
      rcases drawn_shape (hp p hpp) with ⟨z, rfl, hz⟩ | ⟨o2, ps2, _, rfl, _⟩
      · exact part_let hz r
      · show rPart (rSeq (n + 1)) (tl (("(" : Str) ++ textD (n + 1) (.tuple (.str o2 :: ps2)) ++ ")") ++ r) = _
        rw [par_tl]
        show rPart (rSeq (n + 1)) (40 :: ((tl (textD (n + 1) (.tuple (.str o2 :: ps2))) ++ [41]) ++ r)) = _
        rw [List.append_assoc, rPart_paren, ih (hp _ hpp) rfl ([41] ++ r) (.inr ⟨r, rfl⟩)]
        rfl
    match ps, l2, part with
    | p :: q :: ps, _, part =>
    rw [text_tup, List.append_assoc]
    show (rPart (rSeq (n + 1)) (tl (partT (textD (n + 1)) p) ++ (tailL c ((q :: ps).map fun q => tl (partT (textD (n + 1)) q)) ++ rest))).bind _ = _
    rw [part p List.mem_cons_self]
    show (match (tailL c ((q :: ps).map fun q => tl (partT (textD (n + 1)) q)) ++ rest)[1]? with
      | some o => if isOpC o = true then (rTail (rPart (rSeq (n + 1))) o (tailL c ((q :: ps).map fun q => tl (partT (textD (n + 1)) q)) ++ rest).length (tailL c ((q :: ps).map fun q => tl (partT (textD (n + 1)) q)) ++ rest)).bind (rEnd o p) else rAlone p (tailL c ((q :: ps).map fun q => tl (partT (textD (n + 1)) q)) ++ rest)
      | none => rAlone p (tailL c ((q :: ps).map fun q => tl (partT (textD (n + 1)) q)) ++ rest)) = _
    have e1 : (tailL c ((q :: ps).map fun q => tl (partT (textD (n + 1)) q)) ++ rest)[1]? = some c := rfl
    rw [e1]
    show (if isOpC c = true then _ else _) = _
    rw [if_pos hc, rTail_all hr (q :: ps) _ (fun x hx => part x (List.mem_cons_of_mem _ hx)) ?_]
    · rfl
    · rw [List.length_append]
      have := tail_len (o := c) ((q :: ps).map fun q => tl (partT (textD (n + 1)) q))
      rw [List.length_map] at this
      omega
end FF
/-! a term's text tells the term (these stand in leq0, too: take one of the two) -/
namespace FF
open PySem PySem.Spec PyProof.Rows L2
theorem tl_inj {a b : Str} (h : tl a = tl b) : a = b := by
  obtain ⟨⟨x⟩⟩ := a
  obtain ⟨⟨y⟩⟩ := b
  have h : x = y := h
  rw [h]
theorem let_sign {z : Str} (h : isLet (.str z) = true) : ∃ c, tl z = [c] ∧ 97 ≤ c := by
  obtain ⟨c, e, hc⟩ := let_shape h
  rw [PyData.str.inj e]
  refine ⟨c, rfl, ?_⟩
  have : c ∈ [97, 98, 99, 100, 101, 102, 103, 104] := hc
  simp only [List.mem_cons, List.not_mem_nil, or_false] at this
  omega
theorem text_long {n : Nat} {d : PyData} (h : Drawn n d) (ht : isTup d = true) : 2 ≤ (tl (textD (n + 1) d)).length := by
  rcases drawn_shape h with ⟨z, rfl, _⟩ | ⟨o, ps, k, rfl, ho, h2, h4, rfl, hp⟩
  · cases ht
  obtain ⟨c, rfl, hc⟩ := op_sign ho
  match ps, h2 with
  | p :: q :: ps, _ =>
  rw [text_tup, List.length_append, List.map_cons]
  show 2 ≤ _ + ((32 :: c :: 32 :: _) ++ tailL c _).length
  rw [List.length_append, List.length_cons, List.length_cons]
  omega
theorem tup_or {n : Nat} {d : PyData} (h : Drawn n d) : (∃ z, d = .str z ∧ isLet d = true) ∨ isTup d = true := by
  rcases drawn_shape h with h | ⟨_, _, _, rfl, _⟩
  · exact .inl h
  · exact .inr rfl
theorem text_inj {d e : PyData} (hd : Drawn 4 d) (he : Drawn 4 e) (h : tl (textD 5 d) = tl (textD 5 e)) : d = e := by
  rcases tup_or hd with ⟨z, rfl, hz⟩ | hd1
  · rcases tup_or he with ⟨y, rfl, hy⟩ | he1
    · have h : tl z = tl y := h
      rw [tl_inj h]
    · have h1 := text_long he he1
      obtain ⟨c, e1, _⟩ := let_sign hz
      have h : tl z = tl (textD 5 e) := h
      rw [← h, e1] at h1
      cases h1 with
      | step h => cases h
  · rcases tup_or he with ⟨y, rfl, hy⟩ | he1
    · have h1 := text_long hd hd1
      obtain ⟨c, e1, _⟩ := let_sign hy
      have h : tl (textD 5 d) = tl y := h
      rw [h, e1] at h1
      cases h1 with
      | step h => cases h
    · have h1 := read_seq hd hd1 [] (.inl rfl)
      have h2 := read_seq he he1 [] (.inl rfl)
      rw [h, h2] at h1
      exact ((Prod.mk.inj (Option.some.inj h1)).1).symm
end FF
/-! the vocabulary: all words, each once, with their parts -/
namespace FF
open PySem PySem.Spec PyProof.Rows L2
theorem ddPut_keys (dd : DD) (k : Str) (v : PyData) : (ddPut dd k v).map (·.1) = if (dd.any fun e => decide (e.1 = k)) = true then dd.map (·.1) else dd.map (·.1) ++ [k] := by
  unfold ddPut
  split
  · rw [List.map_map]
    refine List.map_congr_left fun e _ => ?_
    show (if e.1 = k then (e.1, v) else e).1 = e.1
    split <;> rfl
  · rw [List.map_append] <;> rfl
theorem ddPut_in (dd : DD) (k : Str) (v : PyData) {j : Str} : j ∈ (ddPut dd k v).map (·.1) ↔ j ∈ dd.map (·.1) ∨ j = k := by
  rw [ddPut_keys]
  split
  · next h =>
    obtain ⟨e, he, hk⟩ := List.any_eq_true.mp h
    exact ⟨.inl, fun h => h.elim id fun q => by rw [q, ← of_decide_eq_true hk]; exact List.mem_map_of_mem he⟩
  · rw [List.mem_append, List.mem_singleton]
theorem ddPut_nodup {dd : DD} {k : Str} {v : PyData} (h : (dd.map (·.1)).Nodup) : ((ddPut dd k v).map (·.1)).Nodup := by
  rw [ddPut_keys]
  split
  · exact h
  · next hn =>
    rw [List.nodup_append]
    refine ⟨h, by simp, fun x hx y hy e => hn ?_⟩
    rw [List.mem_singleton.mp hy] at e
    subst e
    obtain ⟨e, h1, h2⟩ := List.mem_map.mp hx
    exact List.any_eq_true.mpr ⟨e, h1, decide_eq_true h2⟩
theorem dict_nodup {f : PyData → Str} : ∀ (ws : List PyData) (dd : DD), (dd.map (·.1)).Nodup → ((ws.foldl (fun dd w => ddPut dd (f w) w) dd).map (·.1)).Nodup
  | [], _, h => h
  | w :: ws, dd, h => dict_nodup ws (ddPut dd (f w) w) (ddPut_nodup h)
theorem dict_in {f : PyData → Str} : ∀ (ws : List PyData) (dd : DD) {j : Str}, j ∈ (ws.foldl (fun dd w => ddPut dd (f w) w) dd).map (·.1) ↔ j ∈ dd.map (·.1) ∨ ∃ w ∈ ws, f w = j
  | [], _, _ => ⟨.inl, fun h => h.elim id fun ⟨_, h, _⟩ => nomatch h⟩
  | w :: ws, dd, j => by
    refine (dict_in ws (ddPut dd (f w) w)).trans ?_
    rw [ddPut_in]
    constructor
    · rintro ((h | h) | ⟨x, h1, h2⟩)
      · exact .inl h
      · exact .inr ⟨w, List.mem_cons_self, h.symm⟩
      · exact .inr ⟨x, List.mem_cons_of_mem _ h1, h2⟩
    · rintro (h | ⟨x, h1, h2⟩)
      · exact .inl (.inl h)
      · rcases List.mem_cons.mp h1 with e | h1
        · subst e
          exact .inl (.inr h2.symm)
        · exact .inr ⟨x, h1, h2⟩
theorem dictT_key (f : PyData → Str) (ws : List PyData) {k : Str} {w : PyData} (h : ddGet (dictT f ws) k = some w) : f w = k ∧ w ∈ ws := by
  have h1 := dict_all (P := fun e => f e.2 = e.1 ∧ e.2 ∈ ws) (ws := ws) (dd := []) (fun e he => by cases he) (fun w hw => ⟨rfl, hw⟩) _ (get_in h)
  exact h1
theorem byText_keys (f : PyData → Str) (ws : List PyData) : (byText f ws).map f = sortT ((dictT f ws).map (·.1)) := by
  unfold byText
  rw [List.map_map]
  refine (List.map_congr_left fun t ht => ?_).trans (List.map_id _)
  have ht2 : t ∈ (dictT f ws).map (·.1) := (List.mergeSort_perm _ _).mem_iff.mp ht
  obtain ⟨w, hw⟩ := ddGet_mem ht2
  show f ((ddGet (dictT f ws) t).getD .none) = id t
  rw [hw]
  exact (dictT_key f ws hw).1
theorem byText_nodup (f : PyData → Str) (ws : List PyData) : (byText f ws).Nodup := by
  have h : ((byText f ws).map f).Nodup := by
    rw [byText_keys]
    exact (List.mergeSort_perm _ _).nodup_iff.mpr (dict_nodup ws [] List.nodup_nil)
  rw [List.Nodup, List.pairwise_map] at h
  exact h.imp fun h e => h (by rw [e])
theorem byText_all {f : PyData → Str} {ws : List PyData} (inj : ∀ a ∈ ws, ∀ b ∈ ws, f a = f b → a = b) {w : PyData} (h : w ∈ ws) : w ∈ byText f ws := by
  have hk : f w ∈ (byText f ws).map f := by
    rw [byText_keys]
    exact (List.mergeSort_perm _ _).mem_iff.mpr ((dict_in ws []).mpr (.inr ⟨w, h, rfl⟩))
  obtain ⟨x, hx, e⟩ := List.mem_map.mp hk
  rw [← inj x (byText_mem hx) w h e]
  exact hx
theorem byText_asc (f : PyData → Str) (ws : List PyData) : (byText f ws).Pairwise fun a b => leS (f a) (f b) = true := by
  have h : ((byText f ws).map f).Pairwise fun a b => leS a b = true := by
    rw [byText_keys]
    exact List.pairwise_mergeSort leS_trans leS_total _
  rwa [List.pairwise_map] at h
theorem walk_self (n : Nat) (d : PyData) : d ∈ walkD (n + 1) d := List.mem_cons_self
theorem walk_part : ∀ {n : Nat} {d : PyData}, Drawn n d → ∀ {x p : PyData}, x ∈ walkD (n + 1) d → p ∈ partsD x → p ∈ walkD (n + 1) d := by
  intro n
  induction n with
  | zero =>
    intro d h x p hx hp
    have hx : x ∈ d :: (partsD d).flatMap (walkD 0) := hx
    rw [parts0 h] at hx
    rw [List.mem_singleton.mp hx, parts0 h] at hp
    cases hp
  | succ n ih =>
    intro d h x p hx hp
    rcases List.mem_cons.mp (show x ∈ d :: (partsD d).flatMap (walkD (n + 1)) from hx) with rfl | hx
    · exact List.mem_cons_of_mem _ (List.mem_flatMap.mpr ⟨p, hp, walk_self n p⟩)
    · obtain ⟨q, hq, hx⟩ := List.mem_flatMap.mp hx
      exact List.mem_cons_of_mem _ (List.mem_flatMap.mpr ⟨q, hq, ih (parts_drawn h hq) hx hp⟩)
theorem words_part {prs : Prs} (h : PrOk prs) {x p : PyData} (hx : x ∈ wordsOf prs) (hp : p ∈ partsD x) : p ∈ wordsOf prs := by
  obtain ⟨q, hq, hx⟩ := List.mem_flatMap.mp hx
  obtain ⟨h1, h2⟩ := h.2 q hq
  refine List.mem_flatMap.mpr ⟨q, hq, ?_⟩
  rcases List.mem_append.mp hx with hx | hx
  · exact List.mem_append_left _ (walk_part h1 hx hp)
  · exact List.mem_append_right _ (walk_part h2 hx hp)
theorem voc_mem {prs : Prs} (h : PrOk prs) {x : PyData} : x ∈ vocD prs ↔ x ∈ wordsOf prs :=
  ⟨byText_mem, fun hx => byText_all (fun a ha b hb e => text_inj (words_drawn h a ha) (words_drawn h b hb) (congrArg tl e)) hx⟩
end FF
/-! the texts among data -/
namespace FF
open PySem PySem.Spec PyProof.Rows L2
/-- the texts among values -/
def strsOf (ds : List PyData) : List Str := ds.filterMap fun d => match d with
  | .str z => some z
  | _ => none
theorem strsOf_mem {ds : List PyData} {k : Str} : k ∈ strsOf ds ↔ PyData.str k ∈ ds := by
  unfold strsOf
  rw [List.mem_filterMap]
  constructor
  · rintro ⟨d, hd, e⟩
    cases d with
    | str z => rw [Option.some.inj e] at hd; exact hd
    | _ => cases e
  · exact fun h => ⟨_, h, rfl⟩
def strO : PyData → Option Str
  | .str z => some z
  | _ => none
def isSV : V → Bool
  | .str _ => true
  | _ => false
theorem isSV_dp {K : PySem.W.Frag} {H : Hp} {v : V} {d : PyData} (h : Dp K H v d) : isSV v = (strO d).isSome := by cases h <;> rfl
theorem filt_strs {K : PySem.W.Frag} {H : Hp} : ∀ {us : List V} {ds : List PyData}, TpAll K H us ds → us.filter isSV = (strsOf ds).map V.str
  | _, _, .nil => rfl
  | _, _, .cons (v := v) (d := d) h t => by
    have ih := filt_strs t
    have hd := h.dp
    cases hd with
    | str z =>
      rw [List.filter_cons_of_pos rfl, ih]
      rfl
    | _ =>
      rw [List.filter_cons_of_neg (by simp [isSV]), ih]
      rfl
end FF
/-! truth_in, _law_truth (k30a without what k05a has) -/
namespace FF
open PySem PySem.Spec PyProof.Rows L2
def com (s : Bool) (vs : List (Option Bool)) : Option Bool := if some s ∈ vs then some s else if none ∈ vs then none else some (!s)
/-- the value of a term, at most n deep, under a case -/
def evD (cm : Str → Option Bool) : Nat → PyData → Option Bool
  | 0, _ => none
  | n + 1, d => match d with
    | .str z => cm z
    | .tuple (.str o :: ps) => com (decide (V.str o = V.str ("|" : Str))) (ps.map (evD cm n))
    | _ => none
def obV : Option Bool → V
  | none => .non
  | some b => .bl b
def CaseK (kvs : List (Key × V)) (cm : Str → Option Bool) : Prop := (kvs.map (·.1)).Nodup ∧ (∀ z, valV kvs (.inr z) = (cm z).map V.bl) ∧ ∀ p ∈ kvs, ∃ b, p.2 = V.bl b
theorem flat_obs (os : List (Option Bool)) : (os.map obV).all flatV = true := by
  rw [List.all_eq_true]
  intro v hv
  obtain ⟨o, _, rfl⟩ := List.mem_map.mp hv
  cases o <;> rfl
theorem in_bl {s : Bool} {os : List (Option Bool)} : inV (.bl s) (os.map obV) = decide (some s ∈ os) := by
  unfold inV
  rw [List.any_map]
  induction os with
  | nil => rfl
  | cons o r ih =>
    rw [List.any_cons, ih]
    cases o with
    | none => cases s <;> simp [obV, eqV]
    | some b => cases s <;> cases b <;> simp [obV, eqV]
theorem in_non {os : List (Option Bool)} : inV .non (os.map obV) = decide (none ∈ os) := by
  unfold inV
  rw [List.any_map]
  induction os with
  | nil => rfl
  | cons o r ih =>
    rw [List.any_cons, ih]
    cases o with
    | none => simp [obV, eqV]
    | some b => cases b <;> simp [obV, eqV]
def spTruth (K : PySem.W.Frag) (n : Nat) : Sp := fun vs H Q _ => ∃ (v : V) (d : PyData) (c : Addr) (kvs : List (Key × V)) (cm : Str → Option Bool) (m : Nat), vs = [v, .ref c] ∧ Tp K H v d ∧ Drawn m d ∧ m < n ∧ H c = some (.dK kvs) ∧ CaseK kvs cm ∧
  ∀ H', Same H H' → Q (obV (evD cm (m + 1) d)) H'
theorem any_is (x : Option Bool) : ∀ os : List (Option Bool), (os.map fun o => decide (o = x)).any id = decide (x ∈ os)
  | [] => rfl
  | o :: r => by
    have ih := any_is x r
    rw [List.map_cons, List.any_cons, ih]
    by_cases h : o = x
    · subst h
      simp
    · have h' : ¬ x = o := fun z => h z.symm
      simp [h, h']
section
variable {P : Program} {w : World} {K : PySem.W.Frag} {mg : Str → Option Value} {base : Heap}
theorem ok_truth_in_step {n : Nat} {f : Addr} {fd : FuncData} (F : FunD K "truth_in" "truth_in" (defArgs s_truth_in) (defBody s_truth_in) (defScope s_truth_in) [] [] f fd) (hm : mg "truth_in" = some (.ref f)) (T : Top K mg)
    (D_truth_in : Def P w K mg base "truth_in" n ["term", "case"] (spTruth K n)) : Def P w K mg base "truth_in" (n + 1) ["term", "case"] (spTruth K (n + 1)) := by
  refine def_mk F hm (F.bindsN fun _ _ _ _ _ _ us hl => match us, hl with | [_, _], _ => rfl) sc_truth_in (fun vs H Q E h => ?_) (fun cdv A outer s H vs Q E hr h => ?_)
  · obtain ⟨v, d, c, kvs, cm, m, rfl, _⟩ := h
    rfl
  obtain ⟨v, d, c, kvs, cm, m, rfl, hd, hdr, hmn, hc, hk, q⟩ := h
  refine ⟨_, (pss_cons (ps_if (pt_val (pe_callB (call_isK K kb_str) (by rfl) T.b_isinstance (by decide +kernel) (pa_cons (pv 0) (pa_cons (pe_bltn (v := .ty "str") (by rfl) T.b_str (by decide +kernel) rfl) pa_nil))))
  (pss_one (ps_ret (pe_dget1 (hu_of hr) (pv 1) (pv 0) ⟨rfl, rfl, rfl, rfl⟩)))
  pss_nil)
  (pss_cons (ps_setLc (i := 2) (own := [("part", 3)]) rfl sc_truth_in.nd rfl rfl (sw_true rfl rfl rfl (by kernel_rfl)) (pi_tupK K (pe_slice (sl_tupK K) (pv 0) (po_some pe_int) po_none)) (blkOk_by (by kernel_rfl)) (fun _ _ _ _ _ => (pg_name (i := 3) sc_truth_in.nd rfl (Or.inl rfl) (.inr rfl))) (fun _ _ _ _ _ => pts_nil) (fun _ _ _ _ _ => (pe_def D_truth_in hr (by first | decide | omega) (pa_cons (pv 3) (pa_cons (pv 1) pa_nil)))))
  (pss_cons (ps_set (i := 4) sc_truth_in.nd rfl (Or.inl rfl) (pe_cmpR op_eq (pe_ix (ix_tupK K) (pv 0) pe_int (fun _ _ => rfl)) pe_str (nomark _)))
  (pss_cons (ps_if (pt_cmpR (op_in_seqK K) (pv 4) (pv 2) (by rfl))
  (pss_one (ps_ret (pv 4)))
  pss_nil)
  (pss_one (ps_ret (pe_ifExp (pt_cmpR (op_in_seqK K) pe_non (pv 2) (by rfl)) pe_non (pe_not (pv 4))))))))), ?_⟩
  refine ⟨_, rfl, v, d, rfl, hd.dp, _, rfl, ?_⟩
  rcases drawn_shape hdr with ⟨z, rfl, _⟩ | ⟨o, ps, k, rfl, ho, l2, l4, rfl, hps⟩
  · cases hd with
    | str z =>
    refine iteT ⟨_, rfl, c, rfl, .inl ⟨_, .inl hc⟩, _, rfl, valV kvs (.inr z), .inl ⟨kvs, .inr z, .inl hc, rfl, rfl⟩, ?_⟩
    have q1 := q H (Same.refl H)
    rw [hk.2.1 z]
    have e : evD cm (m + 1) (.str z) = cm z := rfl
    rw [e] at q1
    cases h : cm z with
    | none =>
      rw [h] at q1
      exact q1
    | some b =>
      rw [h] at q1
      exact q1
  cases hd with
  | tup ht ha =>
  cases ha with
  | @cons vo vr _ _ hvo hvr =>
  rename_i a
  cases hvo with
  | str o =>
  refine iteF ?_
  refine ⟨_, rfl, _, rfl, a, _, rfl, ht.sqT, notWhole1, fun p hp0 => ⟨p, rfl, ⟨_, SqT.of upd_same⟩, fun D hD => ?_⟩⟩
  rw [cut1] at hD ⊢
  have e1 := same_new hp0 (.tup vr)
  have lr := hvr.len
  refine lc_mapT (j := 3) (fun i u _ => ∃ d, ps[i]? = some d ∧ u = obV (evD cm (k + 1) d)) (fun _ _ _ _ _ h => h) hD (SqT.of upd_same) (le_line (by omega)) (fun _ => rfl) ?_ ?_
  · intro i x H2 hx e2 Q' k'
    obtain ⟨d, hd1, hd2⟩ := tpa_get hvr hx
    exact ⟨_, rfl, _, rfl, x, d, c, kvs, cm, k, rfl, (hd2.up (Same.T e1)).up (Same.T e2), hps d (List.mem_of_getElem? hd1), by omega, e2 _ _ (e1 _ _ hc), hk, fun H3 e3 => k' _ _ e3 ⟨d, hd1, rfl⟩⟩
  intro H2 ys e2 hD2 hl2 hy
  have hmap : ys = (ps.map (evD cm (k + 1))).map obV := by
    rw [List.map_map]
    exact eq_map_of (hl2.trans lr) fun i u hu => hy i u hu
  subst hmap
  have e12 := e1.trans e2
  have q1 := q H2 e12
  have ev : evD cm (k + 1 + 1) (.tuple (.str o :: ps)) = com (decide (V.str o = V.str ("|" : Str))) (ps.map (evD cm (k + 1))) := rfl
  rw [ev] at q1
  have ht2 : SqT K H2 a (.str o :: vr) := up_t e12 ht.sqT
  refine ⟨_, rfl, a, _, _, _, rfl, rfl, ht2, at0, rfl, ?_⟩
  refine ⟨_, rfl, _, rfl, D, _, rfl, .inl (SqL.of hD2), rfl, flat_obs _, _, rfl, ?_⟩
  refine if_b (fun h1 => ?_) (fun h1 => ?_)
  · unfold com at q1
    rw [if_pos (of_decide_eq_true (in_bl.symm.trans h1))] at q1
    exact ⟨_, rfl, q1⟩
  have n1 := of_decide_eq_false (in_bl.symm.trans h1)
  refine ⟨_, rfl, D, _, rfl, .inl (SqL.of hD2), rfl, flat_obs _, _, rfl, ?_⟩
  refine if_b (fun h2 => ?_) (fun h2 => ?_)
  · unfold com at q1
    rw [if_neg n1, if_pos (of_decide_eq_true (in_non.symm.trans h2))] at q1
    exact q1
  · unfold com at q1
    rw [if_neg n1, if_neg (of_decide_eq_false (in_non.symm.trans h2))] at q1
    exact ⟨_, rfl, _, rfl, q1⟩
theorem ok_law_truth_step {n : Nat} {f : Addr} {fd : FuncData} (F : FunD K "_law_truth" "_law_truth" (defArgs s_law_truth) (defBody s_law_truth) (defScope s_law_truth) [] [] f fd) (hm : mg "_law_truth" = some (.ref f)) (T : Top K mg)
    (D_law_truth : Def P w K mg base "_law_truth" n ["_law_word", "_law_case_now"] (spTruth K n)) : Def P w K mg base "_law_truth" (n + 1) ["_law_word", "_law_case_now"] (spTruth K (n + 1)) := by
  refine def_mk F hm (F.bindsN fun _ _ _ _ _ _ us hl => match us, hl with | [_, _], _ => rfl) sc_law_truth (fun vs H Q E h => ?_) (fun cdv A outer s H vs Q E hr h => ?_)
  · obtain ⟨v, d, c, kvs, cm, m, rfl, _⟩ := h
    rfl
  obtain ⟨v, d, c, kvs, cm, m, rfl, hd, hdr, hmn, hc, hk, q⟩ := h
  refine ⟨_, (pss_cons (ps_if (pt_val (pe_callB (call_isK K kb_str) (by rfl) T.b_isinstance (by decide +kernel) (pa_cons (pv 0) (pa_cons (pe_bltn (v := .ty "str") (by rfl) T.b_str (by decide +kernel) rfl) pa_nil))))
  (pss_one (ps_ret (pe_ifExp (pt_cmp (pc_din (hu_of hr) (pv 0) (pv 1)) (by rfl)) (pe_dget (hu_of hr) (pv 1) (pv 0) (fun _ _ => rfl)) pe_non)))
  pss_nil)
  (pss_cons (ps_setLc (i := 2) (own := [("_law_one", 3)]) rfl sc_law_truth.nd rfl rfl (sw_true rfl rfl rfl (by kernel_rfl)) (pi_tupK K (pe_slice (sl_tupK K) (pv 0) (po_some pe_int) po_none)) (blkOk_by (by kernel_rfl)) (fun _ _ _ _ _ => (pg_name (i := 3) sc_law_truth.nd rfl (Or.inl rfl) (.inr rfl))) (fun _ _ _ _ _ => pts_nil) (fun _ _ _ _ _ => (pe_def D_law_truth hr (by first | decide | omega) (pa_cons (pv 3) (pa_cons (pv 1) pa_nil)))))
  (pss_cons (ps_set (i := 4) sc_law_truth.nd rfl (Or.inr rfl) (pe_cmpR op_eq (pe_ix (ix_tupK K) (pv 0) pe_int (fun _ _ => rfl)) pe_str (nomark _)))
  (pss_cons (ps_if (pt_val (pe_callB (cr_anyK K rfl) (by rfl) T.b_any (by decide +kernel) (pa_cons (pe_lc (own := [("_law_value", 5)]) rfl sc_law_truth.nd (pi_listK K (pv 2)) (blkOk_by (by kernel_rfl)) (fun _ _ _ _ _ => (pg_name (i := 5) sc_law_truth.nd rfl (Or.inl rfl) (.inr rfl))) (fun _ _ _ _ _ => pts_nil) (fun _ _ _ _ _ => (pe_and (pe_cmp (pc_notN (pv 5)) (by rfl)) (pe_one (pe_cmpR (op_eqK K hr.units) (pv 5) (pv 4) (nomark _)))))) pa_nil)))
  (pss_one (ps_ret (pv 4)))
  pss_nil)
  (pss_one (ps_ret (pe_ifExp (pt_val (pe_callB (cr_anyK K rfl) (by rfl) T.b_any (by decide +kernel) (pa_cons (pe_lc (own := [("_law_value", 5)]) rfl sc_law_truth.nd (pi_listK K (pv 2)) (blkOk_by (by kernel_rfl)) (fun _ _ _ _ _ => (pg_name (i := 5) sc_law_truth.nd rfl (Or.inl rfl) (.inr rfl))) (fun _ _ _ _ _ => pts_nil) (fun _ _ _ _ _ => (pe_cmp (pc_isN (pv 5)) (by rfl)))) pa_nil))) pe_non (pe_not (pv 4))))))))), ?_⟩
  refine ⟨_, rfl, v, d, rfl, hd.dp, _, rfl, ?_⟩
  rcases drawn_shape hdr with ⟨z, rfl, _⟩ | ⟨o, ps, k, rfl, ho, l2, l4, rfl, hps⟩
  · cases hd with
    | str z =>
    have q1 := q H (Same.refl H)
    have e : evD cm (m + 1) (.str z) = cm z := rfl
    rw [e] at q1
    have hv := hk.2.1 z
    refine iteT ⟨_, rfl, _, rfl, c, valV kvs (.inr z), rfl, .inl ⟨kvs, .inr z, .inl hc, rfl, rfl⟩, _, rfl, ?_⟩
    cases h : cm z with
    | none =>
      rw [h] at q1 hv
      rw [hv]
      exact iteF q1
    | some b =>
      rw [h] at q1 hv
      rw [hv]
      exact iteT ⟨_, rfl, _, rfl, c, _, rfl, .inl ⟨kvs, .inr z, .inl hc, rfl, hv.symm⟩, q1⟩
  cases hd with
  | tup ht ha =>
  cases ha with
  | @cons vo vr _ _ hvo hvr =>
  rename_i a
  cases hvo with
  | str o =>
  refine iteF ?_
  refine ⟨_, rfl, _, rfl, a, _, rfl, ht.sqT, notWhole1, fun p hp0 => ⟨p, rfl, ⟨_, SqT.of upd_same⟩, fun D hD => ?_⟩⟩
  rw [cut1] at hD ⊢
  have e1 := same_new hp0 (.tup vr)
  have lr := hvr.len
  refine lc_mapT (j := 3) (fun i u _ => ∃ d, ps[i]? = some d ∧ u = obV (evD cm (k + 1) d)) (fun _ _ _ _ _ h => h) hD (SqT.of upd_same) (le_line (by omega)) (fun _ => rfl) ?_ ?_
  · intro i x H2 hx e2 Q' k'
    obtain ⟨d, hd1, hd2⟩ := tpa_get hvr hx
    exact ⟨_, rfl, _, rfl, x, d, c, kvs, cm, k, rfl, (hd2.up (Same.T e1)).up (Same.T e2), hps d (List.mem_of_getElem? hd1), by omega, e2 _ _ (e1 _ _ hc), hk, fun H3 e3 => k' _ _ e3 ⟨d, hd1, rfl⟩⟩
  intro H2 ys e2 hD2 hl2 hy
  have hmap : ys = (ps.map (evD cm (k + 1))).map obV := by
    rw [List.map_map]
    exact eq_map_of (hl2.trans lr) fun i u hu => hy i u hu
  subst hmap
  have e12 := e1.trans e2
  have ev : evD cm (k + 1 + 1) (.tuple (.str o :: ps)) = com (decide (V.str o = V.str ("|" : Str))) (ps.map (evD cm (k + 1))) := rfl
  rw [ev] at q
  have hlos : (ps.map (evD cm (k + 1))).length ≤ 8 := by rw [List.length_map]; exact l4
  generalize ps.map (evD cm (k + 1)) = os at q hD2 hlos
  have ht2 : SqT K H2 a (.str o :: vr) := up_t e12 ht.sqT
  refine ⟨_, rfl, a, _, _, _, rfl, rfl, ht2, at0, rfl, ?_⟩
  generalize decide (V.str o = V.str ("|" : Str)) = st at q ⊢
  refine ⟨_, rfl, D, rfl, ⟨_, SqL.of hD2⟩, fun D3 hD3 => ?_⟩
  have los : os.length ≤ sizeLine := by
    have := hlos
    exact le_line (by omega)
  have obs_get : ∀ {i : Nat} {x : V}, (os.map obV)[i]? = some x → ∃ o, os[i]? = some o ∧ x = obV o := fun {i x} hx => by
    rw [List.getElem?_map] at hx
    cases h : os[i]? with
    | none =>
      rw [h] at hx
      cases hx
    | some o =>
      rw [h] at hx
      exact ⟨o, rfl, (Option.some.inj hx).symm⟩
  refine lc_mapL (j := 5) (fun i u _ => ∃ o, os[i]? = some o ∧ u = .bl (decide (o = some st))) (fun _ _ _ _ _ h => h) hD3 (SqL.of hD2) (by rw [List.length_map]; exact los) (fun _ => rfl) ?_ ?_
  · intro i x H3 hx e3 Q' k'
    obtain ⟨oo, ho1, rfl⟩ := obs_get hx
    cases oo with
    | none => exact ⟨_, rfl, _, rfl, k' _ _ (Same.refl _) ⟨none, ho1, rfl⟩⟩
    | some b =>
      refine ⟨_, rfl, _, rfl, _, rfl, _, rfl, .bool b, .bool st, .bl b, .bl st, by cases b <;> decide +kernel, by cases st <;> decide +kernel, k' _ _ (Same.refl _) ⟨some b, ho1, ?_⟩⟩
      cases b <;> cases st <;> rfl
  intro H3 zs e3 hD3' hl3 hz
  have hmap3 : zs = (os.map fun o => decide (o = some st)).map V.bl := by
    rw [List.map_map]
    exact eq_map_of (hl3.trans (List.length_map ..)) fun i u hu => hz i u hu
  subst hmap3
  refine ⟨D3, _, rfl, SqL.of hD3', _, rfl, ?_⟩
  have hany : (os.map fun o => decide (o = some st)).any id = decide (some st ∈ os) := any_is _ _
  rw [hany]
  have q3 := q H3 (e12.trans e3)
  refine if_dec (fun h1 => ?_) (fun n1 => ?_)
  · unfold com at q3
    rw [if_pos h1] at q3
    exact ⟨_, rfl, q3⟩
  have hD2' := e3 _ _ hD2
  refine ⟨_, rfl, D, rfl, ⟨_, SqL.of hD2'⟩, fun D4 hD4 => ?_⟩
  refine lc_mapL (j := 5) (fun i u _ => ∃ o, os[i]? = some o ∧ u = .bl (decide (o = none))) (fun _ _ _ _ _ h => h) hD4 (SqL.of hD2') (by rw [List.length_map]; exact los) (fun _ => rfl) ?_ ?_
  · intro i x H4 hx e4 Q' k'
    obtain ⟨oo, ho1, rfl⟩ := obs_get hx
    cases oo with
    | none => exact ⟨_, rfl, k' _ _ (Same.refl _) ⟨none, ho1, rfl⟩⟩
    | some b => exact ⟨_, rfl, k' _ _ (Same.refl _) ⟨some b, ho1, rfl⟩⟩
  intro H4 zs e4 hD4' hl4 hz
  have hmap4 : zs = (os.map fun o => decide (o = none)).map V.bl := by
    rw [List.map_map]
    exact eq_map_of (hl4.trans (List.length_map ..)) fun i u hu => hz i u hu
  subst hmap4
  refine ⟨D4, _, rfl, SqL.of hD4', _, rfl, ?_⟩
  have hany : (os.map fun o => decide (o = none)).any id = decide (none ∈ os) := any_is _ _
  rw [hany]
  have q4 := q H4 (e12.trans (e3.trans e4))
  unfold com at q4
  rw [if_neg n1] at q4
  refine if_dec (fun h2 => ?_) (fun n2 => ?_)
  · rw [if_pos h2] at q4
    exact q4
  · rw [if_neg n2] at q4
    exact ⟨_, rfl, _, rfl, q4⟩
end
end FF
/-! is_kept, is_broken, _law_holds, _law_fails -/
namespace FF
open PySem PySem.Spec PyProof.Rows L2
def keepB (cm : Str → Option Bool) (l r : PyData) : Bool := decide (evD cm 4 l = some false) || decide (evD cm 4 r = some true)
def brokB (cm : Str → Option Bool) (l r : PyData) : Bool := decide (evD cm 4 l = some true) && decide (evD cm 4 r = some false)
def spPairB (K : PySem.W.Frag) (B : (Str → Option Bool) → PyData → PyData → Bool) : Sp := fun vs H Q _ => ∃ (lv rv : V) (l r : PyData) (c : Addr) (kvs : List (Key × V)) (cm : Str → Option Bool), vs = [lv, rv, .ref c] ∧ Tp K H lv l ∧ Tp K H rv r ∧ SideD l ∧ SideD r ∧ H c = some (.dK kvs) ∧ CaseK kvs cm ∧
  ∀ H', Same H H' → Q (.bl (B cm l r)) H'
theorem ob_is {o : Option Bool} {b : Bool} : decide (obV o = .bl b) = decide (o = some b) := by
  cases o with
  | none => cases b <;> rfl
  | some a => cases a <;> cases b <;> rfl
theorem ob_or (o : Option Bool) : obV o = .non ∨ ∃ a : Bool, obV o = .bl a := by
  cases o with
  | none => exact .inl rfl
  | some a => exact .inr ⟨a, rfl⟩
section
variable {P : Program} {w : World} {K : PySem.W.Frag} {mg : Str → Option Value} {base : Heap}
theorem ok_is_kept {f : Addr} {fd : FuncData} (F : FunD K "is_kept" "is_kept" (defArgs s_is_kept) (defBody s_is_kept) (defScope s_is_kept) [] [] f fd) (hm : mg "is_kept" = some (.ref f)) (T : Top K mg)
    (D_truth_in : Def P w K mg base "truth_in" 4 ["term", "case"] (spTruth K 4)) : Def P w K mg base "is_kept" 5 ["left", "right", "case"] (spPairB K keepB) := by
  refine def_mk F hm (F.bindsN fun _ _ _ _ _ _ us hl => match us, hl with | [_, _, _], _ => rfl) sc_is_kept (fun vs H Q E h => ?_) (fun cdv A outer s0 H vs Q E hr h => ?_)
  · obtain ⟨lv, rv, l, r, c, kvs, cm, rfl, _⟩ := h
    rfl
  obtain ⟨lv, rv, l, r, c, kvs, cm, rfl, hl, hr', sl, sr, hc, hk, q⟩ := h
  refine ⟨_, (pss_one (ps_ret (pe_or (pe_cmpR op_isOb (pe_def D_truth_in hr (by first | decide | omega) (pa_cons (pv 0) (pa_cons (pv 2) pa_nil))) pe_bl (nomark _)) (pe_one (pe_cmpR op_isOb (pe_def D_truth_in hr (by first | decide | omega) (pa_cons (pv 1) (pa_cons (pv 2) pa_nil))) pe_bl (nomark _)))))), ?_⟩
  refine ⟨_, rfl, _, rfl, lv, l, c, kvs, cm, 3, rfl, hl, sl.1, by decide, hc, hk, fun H1 e1 => ?_⟩
  refine ⟨_, rfl, ob_or _, ?_⟩
  rw [ob_is]
  refine ⟨_, rfl, if_b (fun h1 => ?_) (fun h1 => ?_)⟩
  · refine qb (q H1 e1) ?_
    unfold keepB
    rw [h1] <;> rfl
  · refine ⟨_, rfl, _, rfl, rv, r, c, kvs, cm, 3, rfl, hr'.up (Same.T e1), sr.1, by decide, e1 _ _ hc, hk, fun H2 e2 => ?_⟩
    refine ⟨_, rfl, ob_or _, ?_⟩
    rw [ob_is]
    refine qb (q H2 (e1.trans e2)) ?_
    unfold keepB
    rw [h1, Bool.false_or]
theorem ok_law_holds {f : Addr} {fd : FuncData} (F : FunD K "_law_holds" "_law_holds" (defArgs s_law_holds) (defBody s_law_holds) (defScope s_law_holds) [] [] f fd) (hm : mg "_law_holds" = some (.ref f)) (T : Top K mg)
    (D_law_truth : Def P w K mg base "_law_truth" 4 ["_law_word", "_law_case_now"] (spTruth K 4)) : Def P w K mg base "_law_holds" 5 ["_law_left", "_law_right", "_law_case_now"] (spPairB K keepB) := by
  refine def_mk F hm (F.bindsN fun _ _ _ _ _ _ us hl => match us, hl with | [_, _, _], _ => rfl) sc_law_holds (fun vs H Q E h => ?_) (fun cdv A outer s0 H vs Q E hr h => ?_)
  · obtain ⟨lv, rv, l, r, c, kvs, cm, rfl, _⟩ := h
    rfl
  obtain ⟨lv, rv, l, r, c, kvs, cm, rfl, hl, hr', sl, sr, hc, hk, q⟩ := h
  refine ⟨_, (pss_one (ps_ret (pe_or (pe_cmpR op_isOb (pe_def D_law_truth hr (by first | decide | omega) (pa_cons (pv 0) (pa_cons (pv 2) pa_nil))) pe_bl (nomark _)) (pe_one (pe_cmpR op_isOb (pe_def D_law_truth hr (by first | decide | omega) (pa_cons (pv 1) (pa_cons (pv 2) pa_nil))) pe_bl (nomark _)))))), ?_⟩
  refine ⟨_, rfl, _, rfl, lv, l, c, kvs, cm, 3, rfl, hl, sl.1, by decide, hc, hk, fun H1 e1 => ?_⟩
  refine ⟨_, rfl, ob_or _, ?_⟩
  rw [ob_is]
  refine ⟨_, rfl, if_b (fun h1 => ?_) (fun h1 => ?_)⟩
  · refine qb (q H1 e1) ?_
    unfold keepB
    rw [h1] <;> rfl
  · refine ⟨_, rfl, _, rfl, rv, r, c, kvs, cm, 3, rfl, hr'.up (Same.T e1), sr.1, by decide, e1 _ _ hc, hk, fun H2 e2 => ?_⟩
    refine ⟨_, rfl, ob_or _, ?_⟩
    rw [ob_is]
    refine qb (q H2 (e1.trans e2)) ?_
    unfold keepB
    rw [h1, Bool.false_or]
theorem ok_is_broken {f : Addr} {fd : FuncData} (F : FunD K "is_broken" "is_broken" (defArgs s_is_broken) (defBody s_is_broken) (defScope s_is_broken) [] [] f fd) (hm : mg "is_broken" = some (.ref f)) (T : Top K mg)
    (D_truth_in : Def P w K mg base "truth_in" 4 ["term", "case"] (spTruth K 4)) : Def P w K mg base "is_broken" 5 ["left", "right", "case"] (spPairB K brokB) := by
  refine def_mk F hm (F.bindsN fun _ _ _ _ _ _ us hl => match us, hl with | [_, _, _], _ => rfl) sc_is_broken (fun vs H Q E h => ?_) (fun cdv A outer s0 H vs Q E hr h => ?_)
  · obtain ⟨lv, rv, l, r, c, kvs, cm, rfl, _⟩ := h
    rfl
  obtain ⟨lv, rv, l, r, c, kvs, cm, rfl, hl, hr', sl, sr, hc, hk, q⟩ := h
  refine ⟨_, (pss_one (ps_ret (pe_and (pe_cmpR op_isOb (pe_def D_truth_in hr (by first | decide | omega) (pa_cons (pv 0) (pa_cons (pv 2) pa_nil))) pe_bl (nomark _)) (pe_one (pe_cmpR op_isOb (pe_def D_truth_in hr (by first | decide | omega) (pa_cons (pv 1) (pa_cons (pv 2) pa_nil))) pe_bl (nomark _)))))), ?_⟩
  refine ⟨_, rfl, _, rfl, lv, l, c, kvs, cm, 3, rfl, hl, sl.1, by decide, hc, hk, fun H1 e1 => ?_⟩
  refine ⟨_, rfl, ob_or _, ?_⟩
  rw [ob_is]
  refine ⟨_, rfl, if_b (fun h1 => ?_) (fun h1 => ?_)⟩
  rotate_left
  · refine qb (q H1 e1) ?_
    unfold brokB
    rw [h1] <;> rfl
  · refine ⟨_, rfl, _, rfl, rv, r, c, kvs, cm, 3, rfl, hr'.up (Same.T e1), sr.1, by decide, e1 _ _ hc, hk, fun H2 e2 => ?_⟩
    refine ⟨_, rfl, ob_or _, ?_⟩
    rw [ob_is]
    refine qb (q H2 (e1.trans e2)) ?_
    unfold brokB
    rw [h1, Bool.true_and]
theorem ok_law_fails {f : Addr} {fd : FuncData} (F : FunD K "_law_fails" "_law_fails" (defArgs s_law_fails) (defBody s_law_fails) (defScope s_law_fails) [] [] f fd) (hm : mg "_law_fails" = some (.ref f)) (T : Top K mg)
    (D_law_truth : Def P w K mg base "_law_truth" 4 ["_law_word", "_law_case_now"] (spTruth K 4)) : Def P w K mg base "_law_fails" 5 ["_law_left", "_law_right", "_law_case_now"] (spPairB K brokB) := by
  refine def_mk F hm (F.bindsN fun _ _ _ _ _ _ us hl => match us, hl with | [_, _, _], _ => rfl) sc_law_fails (fun vs H Q E h => ?_) (fun cdv A outer s0 H vs Q E hr h => ?_)
  · obtain ⟨lv, rv, l, r, c, kvs, cm, rfl, _⟩ := h
    rfl
  obtain ⟨lv, rv, l, r, c, kvs, cm, rfl, hl, hr', sl, sr, hc, hk, q⟩ := h
  refine ⟨_, (pss_one (ps_ret (pe_and (pe_cmpR op_isOb (pe_def D_law_truth hr (by first | decide | omega) (pa_cons (pv 0) (pa_cons (pv 2) pa_nil))) pe_bl (nomark _)) (pe_one (pe_cmpR op_isOb (pe_def D_law_truth hr (by first | decide | omega) (pa_cons (pv 1) (pa_cons (pv 2) pa_nil))) pe_bl (nomark _)))))), ?_⟩
  refine ⟨_, rfl, _, rfl, lv, l, c, kvs, cm, 3, rfl, hl, sl.1, by decide, hc, hk, fun H1 e1 => ?_⟩
  refine ⟨_, rfl, ob_or _, ?_⟩
  rw [ob_is]
  refine ⟨_, rfl, if_b (fun h1 => ?_) (fun h1 => ?_)⟩
  rotate_left
  · refine qb (q H1 e1) ?_
    unfold brokB
    rw [h1] <;> rfl
  · refine ⟨_, rfl, _, rfl, rv, r, c, kvs, cm, 3, rfl, hr'.up (Same.T e1), sr.1, by decide, e1 _ _ hc, hk, fun H2 e2 => ?_⟩
    refine ⟨_, rfl, ob_or _, ?_⟩
    rw [ob_is]
    refine qb (q H2 (e1.trans e2)) ?_
    unfold brokB
    rw [h1, Bool.true_and]
end
end FF
/-! scenes, errors of rules told -/
namespace FF
open PySem PySem.Spec PyProof.Rows L2
structure RG (K : PySem.W.Frag) (H : Hp) (a : Addr) (us : List V) (ds : List PyData) : Prop where
  at_ : SqL K H a us ∨ SqT K H a us
  tp : TpAll K H us ds
  good : ∀ d ∈ ds, GoodR d
  len : ds.length ≤ 12
theorem RG.up {K : PySem.W.Frag} {H H' : Hp} {a : Addr} {us : List V} {ds : List PyData} (h : RG K H a us ds) (e : Same H H') : RG K H' a us ds := ⟨up_s e h.at_, h.tp.up (Same.T e), h.good, h.len⟩
/-- a scene: rules with names apart, a goal, few words -/
structure Scene (K : PySem.W.Frag) (H : Hp) (p : Addr) (us : List V) (ds : List PyData) (gv : V) (g : PyData) : Prop where
  at_ : H p = some (.lst us)
  tp : TpAll K H us ds
  good : ∀ d ∈ ds, GoodR d
  nd : (ds.map nameOf).Nodup
  len : ds.length ≤ 12
  gt : Tp K H gv g
  gd : GoodG g
  few : (vocD (prsOf ds g)).length ≤ 24
theorem Scene.up {K : PySem.W.Frag} {H H' : Hp} {p : Addr} {us : List V} {ds : List PyData} {gv : V} {g : PyData} (h : Scene K H p us ds gv g) (e : Same H H') : Scene K H' p us ds gv g :=
  ⟨e _ _ h.at_, h.tp.up (Same.T e), h.good, h.nd, h.len, h.gt.up (Same.T e), h.gd, h.few⟩
theorem Scene.rg {K : PySem.W.Frag} {H : Hp} {p : Addr} {us : List V} {ds : List PyData} {gv : V} {g : PyData} (h : Scene K H p us ds gv g) : RG K H p us ds := ⟨.inl (SqL.of h.at_), h.tp, h.good, h.len⟩
theorem rg_rules {K : PySem.W.Frag} {H : Hp} {p : Addr} {us : List V} {ds : List PyData} (h : RG K H p us ds) : RulesV K H (.ref p) ds :=
  ⟨⟨p, us, rfl, h.at_, h.tp.len, fun i u d h1 h2 => by
    obtain ⟨d', h3, h4⟩ := h.tp.get h1
    cases h3.symm.trans h2
    exact good_rule (h.good _ (List.mem_of_getElem? h2)) h4⟩, by have := h.len; omega⟩
theorem sc_check {ds : List PyData} {g : PyData} (h1 : ∀ d ∈ ds, GoodR d) (h2 : (ds.map nameOf).Nodup) (h3 : ds.length ≤ 12) (h4 : GoodG g) (h5 : (vocD (prsOf ds g)).length ≤ 24) : goalErr ds g = none := by
  have h := scene_ok h1 h2 h3 h4 h5
  have hr : rulesErr ds = none := by
    unfold checkD at h
    cases hr : rulesErr ds with
    | none => rfl
    | some i =>
      rw [hr] at h
      cases h
  unfold goalErr
  rw [hr]
  obtain ⟨l, r, rfl, _⟩ := h4
  exact h
theorem Scene.none {K : PySem.W.Frag} {H : Hp} {p : Addr} {us : List V} {ds : List PyData} {gv : V} {g : PyData} (h : Scene K H p us ds gv g) : goalErr ds g = none := sc_check h.good h.nd h.len h.gd h.few
theorem sc_words {ds : List PyData} {g : PyData} (h1 : ∀ d ∈ ds, GoodR d) (h3 : ds.length ≤ 12) (h4 : GoodG g) {z : Str} (hz : PyData.str z ∈ vocD (prsOf ds g)) : isLetS z = true := by
  have := words_drawn (good_pairs h1 (by omega) h4) _ (byText_mem hz)
  rcases drawn_shape this with ⟨y, e, hy⟩ | ⟨o, ps, k, e, _⟩
  · cases e
    exact hy
  · cases e
end FF
/-! trees: the plain law; letters_of, goal_words -/
namespace FF
open PySem PySem.Spec PyProof.Rows L2
def cmPut (cm : Str → Option Bool) (z : Str) (b : Bool) : Str → Option Bool := fun y => if y = z then some b else cm y
theorem caseK_put {kvs : List (Key × V)} {cm : Str → Option Bool} (h : CaseK kvs cm) (z : Str) (b : Bool) : CaseK (putK kvs (.inr z) (.bl b)) (cmPut cm z b) := by
  refine ⟨?_, fun y => ?_, fun p hp => ?_⟩
  · unfold putK
    split
    · rw [List.map_map]
      have e : (fun kv : Key × V => kv.1) ∘ (fun kv : Key × V => if kv.1 = .inr z then (kv.1, V.bl b) else kv) = fun kv => kv.1 := by
        funext kv
        show (if kv.1 = .inr z then (kv.1, V.bl b) else kv).1 = kv.1
        split <;> rfl
      rw [e]
      exact h.1
    · rename_i hn
      rw [List.map_append, List.nodup_append]
      refine ⟨h.1, by simp, fun x hx y hy exy => hn ?_⟩
      have hy : y ∈ [(Sum.inr z : Key)] := hy
      rw [List.mem_singleton.mp hy] at exy
      subst exy
      obtain ⟨kv, h1, h2⟩ := List.mem_map.mp hx
      exact List.any_eq_true.mpr ⟨kv, h1, decide_eq_true h2⟩
  · rw [valV_put, h.2.1 y]
    unfold cmPut
    by_cases e : y = z
    · subst e
      simp
    · rw [if_neg (fun q => e (Sum.inr.inj q)), if_neg e]
  · unfold putK at hp
    split at hp
    · obtain ⟨kv, h1, rfl⟩ := List.mem_map.mp hp
      split
      · exact ⟨b, rfl⟩
      · exact h.2.2 kv h1
    · rcases List.mem_append.mp hp with hp | hp
      · exact h.2.2 p hp
      · rw [List.mem_singleton.mp hp]
        exact ⟨b, rfl⟩
theorem caseK_nil : CaseK [] fun _ => none := ⟨List.nodup_nil, fun _ => rfl, fun p hp => by cases hp⟩
def lOf (d : PyData) : PyData := (pairOf d).1
def rOf (d : PyData) : PyData := (pairOf d).2
def sidesG : PyData → PyData × PyData
  | .tuple [l, r] => (l, r)
  | _ => (.none, .none)
section
variable {P : Program} {w : World} {K : PySem.W.Frag} {mg : Str → Option Value} {base : Heap}
end
end FF
/-! letters_of, told in full -/
namespace FF
open PySem PySem.Spec PyProof.Rows L2
theorem strs_nodup {ds : List PyData} (h : ds.Nodup) : (strsOf ds).Nodup := by
  induction ds with
  | nil => exact List.nodup_nil
  | cons d ds ih =>
    obtain ⟨h1, h2⟩ := List.nodup_cons.mp h
    cases d with
    | str z =>
      show (z :: strsOf ds).Nodup
      exact List.nodup_cons.mpr ⟨fun hm => h1 (strsOf_mem.mp hm), ih h2⟩
    | _ => exact ih h2
theorem strs_len (ds : List PyData) : (strsOf ds).length ≤ ds.length := List.length_filterMap_le _ _
section
variable {P : Program} {w : World} {K : PySem.W.Frag} {mg : Str → Option Value} {base : Heap}
def spLettersG (K : PySem.W.Frag) : Sp := fun vs H Q _ => ∃ (a : Addr) (us : List V) (ds : List PyData), vs = [.ref a] ∧ SqL K H a us ∧ TpAll K H us ds ∧ ds.length ≤ 1000 ∧
  ∀ r H', Same H H' → H r = none → H' r = some (.lst ((strsOf ds).map V.str)) → Q (.ref r) H'
theorem ok_lettersG {f : Addr} {fd : FuncData} (F : FunD K "letters_of" "letters_of" (defArgs s_letters_of) (defBody s_letters_of) (defScope s_letters_of) [] [] f fd) (hm : mg "letters_of" = some (.ref f)) (T : Top K mg) : Def P w K mg base "letters_of" 1 ["words"] (spLettersG K) := by
  refine def_mk F hm (F.bindsN fun _ _ _ _ _ _ us hl => match us, hl with | [_], _ => rfl) sc_letters_of (fun vs H Q E h => ?_) (fun cdv A outer s H vs Q E hr h => ?_)
  · obtain ⟨a, us, ds, rfl, _⟩ := h
    rfl
  obtain ⟨a, us, ds, rfl, ha, hu, hl, q⟩ := h
  refine ⟨_, (pss_one (ps_ret (pe_lc (own := [("word", 1)]) rfl sc_letters_of.nd (pi_listK K (pv 0)) (blkOk_by (by kernel_rfl)) (fun _ _ _ _ _ => (pg_name (i := 1) sc_letters_of.nd rfl (Or.inl rfl) (.inr rfl))) (fun _ _ _ _ _ => (pts_one (pt_val (pe_callB (call_isK K kb_str) (by rfl) T.b_isinstance (by decide +kernel) (pa_cons (pv 1) (pa_cons (pe_bltn (v := .ty "str") (by rfl) T.b_str (by decide +kernel) rfl) pa_nil)))))) (fun _ _ _ _ _ => (pv 1))))), ?_⟩
  have hul := hu.len
  refine ⟨_, rfl, a, rfl, ⟨us, ha⟩, fun D hD => ?_⟩
  refine lc_filtW (j := 1) isSV hD ha (le_line (by omega)) (fun _ => rfl) ?_ (fun x H2 Q' h => ⟨_, rfl, h⟩) ?_
  · intro i x H2 hx e Q' k'
    obtain ⟨d, hd1, hd2⟩ := hu.get hx
    have hdp := (hd2.up (Same.T e)).dp
    refine ⟨_, rfl, x, d, rfl, hdp, ?_⟩
    have := k' H2 (Same.refl H2)
    rw [isSV_dp hdp] at this
    cases d <;> exact ⟨_, rfl, this⟩
  · intro H2 e2 h2
    rw [filt_strs hu] at h2
    exact q D H2 e2 hD h2
end
end FF
/-! trees and cases: plain Lean -/
namespace FF
open PySem PySem.Spec PyProof.Rows L2
/-- evD, with parts -/
theorem ev_amp {cm : Str → Option Bool} {n : Nat} {ps : List PyData} : evD cm (n + 1) (.tuple (.str "&" :: ps)) = com false (ps.map (evD cm n)) := by
  show com (decide (V.str ("&" : Str) = V.str ("|" : Str))) _ = _
  rw [decide_eq_false (fun e => by have := V.str.inj e; exact absurd this (by decide))]
theorem ev_bar {cm : Str → Option Bool} {n : Nat} {ps : List PyData} : evD cm (n + 1) (.tuple (.str "|" :: ps)) = com true (ps.map (evD cm n)) := by
  show com (decide (V.str ("|" : Str) = V.str ("|" : Str))) _ = _
  rw [decide_eq_true rfl]
theorem com_strong {s : Bool} {vs : List (Option Bool)} : com s vs = some s ↔ some s ∈ vs := by
  unfold com
  by_cases h : some s ∈ vs
  · rw [if_pos h]; exact ⟨fun _ => h, fun _ => rfl⟩
  · rw [if_neg h]
    refine ⟨fun e => ?_, fun e => absurd e h⟩
    split at e
    · cases e
    · have := Option.some.inj e
      cases s <;> cases this
/-- a case that keeps all rules and breaks the goal -/
def counterB (ds : List PyData) (g : PyData) (cm : Str → Option Bool) : Bool := brokB cm (sidesG g).1 (sidesG g).2 && ds.all fun d => keepB cm (lOf d) (rOf d)
theorem keep_iff {cm : Str → Option Bool} {l r : PyData} : keepB cm l r = true ↔ evD cm 4 l = some false ∨ evD cm 4 r = some true := by
  unfold keepB
  rw [Bool.or_eq_true, decide_eq_true_eq, decide_eq_true_eq]
theorem brok_iff {cm : Str → Option Bool} {l r : PyData} : brokB cm l r = true ↔ evD cm 4 l = some true ∧ evD cm 4 r = some false := by
  unfold brokB
  rw [Bool.and_eq_true, decide_eq_true_eq, decide_eq_true_eq]
/-- all the letters, one after another, given values -/
def putAll (cm : Str → Option Bool) : List Str → List Bool → Str → Option Bool
  | z :: zr, b :: br => putAll (cmPut cm z b) zr br
  | _, _ => cm
end FF
/-! trees: case_tree, told in full -/
namespace FF
open PySem PySem.Spec PyProof.Rows L2
/-- good rules in a list or a tuple, and a goal -/
structure GS (K : PySem.W.Frag) (H : Hp) (p : Addr) (us : List V) (ds : List PyData) (gv : V) (g : PyData) : Prop where
  rg : RG K H p us ds
  nd : (ds.map nameOf).Nodup
  gt : Tp K H gv g
  gd : GoodG g
  few : (vocD (prsOf ds g)).length ≤ 24
theorem GS.up {K : PySem.W.Frag} {H H' : Hp} {p : Addr} {us : List V} {ds : List PyData} {gv : V} {g : PyData} (h : GS K H p us ds gv g) (e : Same H H') : GS K H' p us ds gv g := ⟨h.rg.up e, h.nd, h.gt.up (Same.T e), h.gd, h.few⟩
theorem GS.none {K : PySem.W.Frag} {H : Hp} {p : Addr} {us : List V} {ds : List PyData} {gv : V} {g : PyData} (h : GS K H p us ds gv g) : goalErr ds g = none := sc_check h.rg.good h.nd h.rg.len h.gd h.few
theorem Scene.gs {K : PySem.W.Frag} {H : Hp} {p : Addr} {us : List V} {ds : List PyData} {gv : V} {g : PyData} (h : Scene K H p us ds gv g) : GS K H p us ds gv g := ⟨h.rg, h.nd, h.gt, h.gd, h.few⟩
/-- the letters of the vocabulary, in order -/
def zsG (ds : List PyData) (g : PyData) : List Str := strsOf (vocD (prsOf ds g))
theorem zsG_lets {ds : List PyData} {g : PyData} (h1 : ∀ d ∈ ds, GoodR d) (h3 : ds.length ≤ 12) (h4 : GoodG g) : ∀ z ∈ zsG ds g, isLetS z = true := fun z hz => sc_words h1 h3 h4 (strsOf_mem.mp hz)
section
variable {P : Program} {w : World} {K : PySem.W.Frag} {mg : Str → Option Value} {base : Heap}
end
end FF
/-! cases by numbers: plain Lean -/
namespace FF
open PySem PySem.Spec PyProof.Rows L2
/-- the bits of a number, the highest first -/
def bitsN : Nat → Nat → List Bool
  | 0, _ => []
  | n + 1, m => m.testBit n :: bitsN n m
theorem bitsN_len : ∀ n m, (bitsN n m).length = n
  | 0, _ => rfl
  | n + 1, m => by
    unfold bitsN
    rw [List.length_cons, bitsN_len n m]
theorem bitsN_get : ∀ {n m i : Nat}, i < n → (bitsN n m)[i]? = some (m.testBit (n - 1 - i))
  | n + 1, m, 0, _ => rfl
  | n + 1, m, i + 1, h => by
    unfold bitsN
    rw [List.getElem?_cons_succ, bitsN_get (by omega), show n - 1 - i = n + 1 - 1 - (i + 1) by omega]
theorem bitsN_congr : ∀ {n m m' : Nat}, (∀ i, i < n → m.testBit i = m'.testBit i) → bitsN n m = bitsN n m'
  | 0, _, _, _ => rfl
  | n + 1, m, m', h => by
    unfold bitsN
    rw [h n (by omega), bitsN_congr fun i hi => h i (by omega)]
theorem bitsN_all : ∀ bs : List Bool, ∃ m, m < 2 ^ bs.length ∧ bitsN bs.length m = bs
  | [] => ⟨0, by decide, rfl⟩
  | b :: br => by
    obtain ⟨m, h1, h2⟩ := bitsN_all br
    have top : ∀ a : Nat, (2 ^ br.length * a + m).testBit br.length = a.testBit 0 := fun a => by
      rw [Nat.testBit_two_pow_mul_add _ h1, if_neg (by omega), Nat.sub_self]
    have low : ∀ (a i : Nat), i < br.length → (2 ^ br.length * a + m).testBit i = m.testBit i := fun a i hi => by
      rw [Nat.testBit_two_pow_mul_add _ h1, if_pos hi]
    refine ⟨2 ^ br.length * b.toNat + m, ?_, ?_⟩
    · rw [List.length_cons, Nat.pow_succ]
      cases b
      · show 2 ^ br.length * 0 + m < _
        omega
      · show 2 ^ br.length * 1 + m < _
        omega
    · show (2 ^ br.length * b.toNat + m).testBit br.length :: bitsN br.length _ = _
      rw [top, bitsN_congr (low _), h2]
      cases b <;> rfl
/-- letters with values, as a dict -/
def kvsL (l : List (Str × Bool)) : List (Key × V) := l.foldl (fun k p => putK k (.inr p.1) (.bl p.2)) []
theorem kvsL_snoc (l : List (Str × Bool)) (z : Str) (b : Bool) : kvsL (l ++ [(z, b)]) = putK (kvsL l) (.inr z) (.bl b) := by
  unfold kvsL
  rw [List.foldl_append]
  rfl
theorem putAll_fold : ∀ (cm : Str → Option Bool) (zs : List Str) (bs : List Bool), putAll cm zs bs = (zs.zip bs).foldl (fun c p => cmPut c p.1 p.2) cm
  | cm, [], _ => by cases ‹List Bool› <;> rfl
  | cm, _ :: _, [] => rfl
  | cm, z :: zr, b :: br => by
    unfold putAll
    rw [putAll_fold]
    rfl
theorem kvs_case : ∀ (l : List (Str × Bool)) (kvs : List (Key × V)) (cm : Str → Option Bool), CaseK kvs cm → CaseK (l.foldl (fun k p => putK k (.inr p.1) (.bl p.2)) kvs) (l.foldl (fun c p => cmPut c p.1 p.2) cm)
  | [], _, _, h => h
  | p :: l, kvs, cm, h => kvs_case l _ _ (caseK_put h p.1 p.2)
/-- the case of a number -/
def casN (zs : List Str) (m : Nat) : Str → Option Bool := putAll (fun _ => none) zs (bitsN zs.length m)
def prN (zs : List Str) (m : Nat) : List (Str × Bool) := zs.zip (bitsN zs.length m)
theorem casN_case (zs : List Str) (m : Nat) : CaseK (kvsL (prN zs m)) (casN zs m) := by
  unfold casN
  rw [putAll_fold]
  exact kvs_case _ _ _ caseK_nil
theorem prN_len {zs : List Str} {m : Nat} : (prN zs m).length = zs.length := by
  unfold prN
  rw [List.length_zip, bitsN_len, Nat.min_self]
theorem prN_get {zs : List Str} {m i : Nat} {z : Str} (h : zs[i]? = some z) : (prN zs m)[i]? = some (z, m.testBit (zs.length - 1 - i)) := by
  have hi := (List.getElem?_eq_some_iff.mp h).1
  unfold prN
  rw [List.getElem?_zip_eq_some]
  exact ⟨h, bitsN_get hi⟩
theorem kvsL_len : ∀ l : List (Str × Bool), (kvsL l).length ≤ l.length := by
  have go : ∀ (l : List (Str × Bool)) (kvs : List (Key × V)), (l.foldl (fun k p => putK k (.inr p.1) (.bl p.2)) kvs).length ≤ kvs.length + l.length := by
    intro l
    induction l with
    | nil => intro kvs; exact Nat.le_refl _
    | cons p l ih =>
      intro kvs
      have h1 := ih (putK kvs (.inr p.1) (.bl p.2))
      have h2 := length_putK kvs (.inr p.1) (V.bl p.2)
      rw [List.length_cons]
      exact Nat.le_trans h1 (by omega)
  intro l
  have := go l []
  simpa [kvsL] using this
/-- no tree: some number's case is a counter -/
theorem none_number {ds : List PyData} {g : PyData} {zs : List Str} (h : ∃ bs : List Bool, bs.length = zs.length ∧ counterB ds g (putAll (fun _ => none) zs bs) = true) : ∃ m, m < 2 ^ zs.length ∧ counterB ds g (casN zs m) = true := by
  obtain ⟨bs, h1, h2⟩ := h
  obtain ⟨m, h3, h4⟩ := bitsN_all bs
  refine ⟨m, by rw [← h1]; exact h3, ?_⟩
  unfold casN
  rw [← h1, h4]
  exact h2
end FF
/-! trees: _law_tree_right -/
namespace FF
open PySem PySem.Spec PyProof.Rows L2
theorem range_bind {α β : Type} (f : α → Option β) : ∀ l : List α, (List.range l.length).filterMap (fun i => (l[i]?).bind f) = l.filterMap f
  | [] => rfl
  | d :: r => by
    rw [List.length_cons, List.range_succ_eq_map, List.filterMap_cons, List.filterMap_map]
    have ih := range_bind f r
    show (match f d with | none => _ | some b => b :: _) = _
    rw [List.filterMap_cons]
    have e : (List.range r.length).filterMap ((fun i => ((d :: r)[i]?).bind f) ∘ Nat.succ) = r.filterMap f := ih
    cases f d with
    | none => exact e
    | some b => exact congrArg _ e
section
variable {P : Program} {w : World} {K : PySem.W.Frag} {mg : Str → Option Value} {base : Heap}
end
end FF
/-! is_counter, case_at, cases, first_case, _law_counters -/
namespace FF
open PySem PySem.Spec PyProof.Rows L2 GenW
def spCtr (K : PySem.W.Frag) : Sp := fun vs H Q _ => ∃ (a : Addr) (us : List V) (ds : List PyData) (gv : V) (g : PyData) (c : Addr) (kvs : List (Key × V)) (cm : Str → Option Bool), vs = [.ref a, gv, .ref c] ∧ RG K H a us ds ∧ Tp K H gv g ∧ GoodG g ∧ H c = some (.dK kvs) ∧ CaseK kvs cm ∧
  ∀ H', Same H H' → Q (.bl (counterB ds g cm)) H'
def spCaseAt (K : PySem.W.Frag) : Sp := fun vs H Q _ => ∃ (l : Addr) (zs : List Str) (m : Nat), vs = [.ref l, .int m] ∧ SqL K H l (zs.map V.str) ∧ zs.length ≤ 60 ∧ ∀ c H', Same H H' → H c = none → H' c = some (.dK (kvsL (prN zs m))) → Q (.ref c) H'
/-- the cases' first -/
theorem shr_bitC (m p : Nat) : Builtin.bitAnd ((m : Int) / 2 ^ ((p : Nat) : Int).toNat) 1 = if m.testBit p = true then 1 else 0 := by
  have e : ((m : Int) / 2 ^ ((p : Nat) : Int).toNat) = ((m / 2 ^ p : Nat) : Int) := by
    rw [Int.toNat_natCast, Int.natCast_ediv, Int.natCast_pow] <;> rfl
  have e1 : Builtin.bitAnd ((m / 2 ^ p : Nat) : Int) 1 = ((m / 2 ^ p &&& 1 : Nat) : Int) := by
    rw [show (1 : Int) = ((1 : Nat) : Int) from rfl, bitAnd_pp (Int.natCast_nonneg _) (Int.natCast_nonneg _), Int.toNat_natCast, Int.toNat_natCast]
  rw [e, e1, Nat.and_one_is_mod, Nat.testBit_eq_decide_div_mod_eq]
  by_cases h : m / 2 ^ p % 2 = 1
  · rw [h, decide_eq_true rfl] <;> rfl
  · have h0 : m / 2 ^ p % 2 = 0 := by omega
    rw [h0] <;> rfl
theorem bit_1C (m p : Nat) : decide (V.int (Builtin.bitAnd ((m : Int) / 2 ^ ((p : Nat) : Int).toNat) 1) = V.int 1) = m.testBit p := by
  rw [shr_bitC]
  cases m.testBit p <;> rfl
theorem zs_get {zs : List Str} {i : Nat} {x : V} (h : (zs.map V.str)[i]? = some x) : ∃ z, zs[i]? = some z ∧ x = .str z := by
  rw [List.getElem?_map] at h
  obtain ⟨z, h1, h2⟩ := Option.map_eq_some_iff.mp h
  exact ⟨z, h1, h2.symm⟩
theorem allB_map {α : Type} (f : α → Bool) (l : List α) : (l.map f).all id = l.all f := by
  rw [List.all_map]
  rfl
theorem sel_all (f : PyData → Bool) (ds : List PyData) : ds.filterMap (fun d => some (V.bl (f d))) = (ds.map f).map V.bl := by
  rw [List.map_map, List.filterMap_eq_map']
  rfl
section
variable {P : Program} {w : World} {K : PySem.W.Frag} {mg : Str → Option Value} {base : Heap}
theorem ok_is_counter {f : Addr} {fd : FuncData} (F : FunD K "is_counter" "is_counter" (defArgs s_is_counter) (defBody s_is_counter) (defScope s_is_counter) [] [] f fd) (hm : mg "is_counter" = some (.ref f)) (T : Top K mg)
    (D_is_broken : Def P w K mg base "is_broken" 5 ["left", "right", "case"] (spPairB K brokB)) (D_is_kept : Def P w K mg base "is_kept" 5 ["left", "right", "case"] (spPairB K keepB)) : Def P w K mg base "is_counter" 6 ["rules", "goal", "case"] (spCtr K) := by
  refine def_mk F hm (F.bindsN fun _ _ _ _ _ _ us hl => match us, hl with | [_, _, _], _ => rfl) sc_is_counter (fun vs H Q E h => ?_) (fun cdv A outer s H vs Q E hr h => ?_)
  · obtain ⟨a, us, ds, gv, g, c, kvs, cm, rfl, _⟩ := h
    rfl
  obtain ⟨a, us, ds, gv, g, c, kvs, cm, rfl, hR, hgt, hg, hc, hk, q⟩ := h
  refine ⟨_, (pss_one (ps_ret (pe_and (pe_def D_is_broken hr (by first | decide | omega) (pa_cons (pe_ix (ix_tupK K) (pv 1) pe_int (fun _ _ => rfl)) (pa_cons (pe_ix (ix_tupK K) (pv 1) pe_int (fun _ _ => rfl)) (pa_cons (pv 2) pa_nil)))) (pe_one (pe_callB (cr_allK K rfl) (by rfl) T.b_all (by decide +kernel) (pa_cons (pe_lc (own := [("name", 3), ("left", 4), ("right", 5)]) rfl sc_is_counter.nd (pi_seqK K (pv 0)) (blkOk_by (by kernel_rfl)) (fun _ _ _ _ _ => (pg_tupK K (n := 3) rfl (pgs_cons (pg_name (i := 3) sc_is_counter.nd rfl (Or.inl rfl) (.inr rfl)) (pgs_cons (pg_name (i := 4) sc_is_counter.nd rfl (Or.inl rfl) (.inr rfl)) (pgs_cons (pg_name (i := 5) sc_is_counter.nd rfl (Or.inl rfl) (.inr rfl)) pgs_nil))))) (fun _ _ _ _ _ => pts_nil) (fun _ _ _ _ _ => (pe_def D_is_kept hr (by first | decide | omega) (pa_cons (pv 4) (pa_cons (pv 5) (pa_cons (pv 2) pa_nil)))))) pa_nil)))))), ?_⟩
  obtain ⟨gl, gr, rfl, hsl, hsr⟩ := hg
  cases hgt with
  | @tup tg _ _ htg htx =>
  cases htx with
  | @cons vl _ _ _ hvl htx =>
  cases htx with
  | @cons vr _ _ _ hvr htx =>
  cases htx
  refine ⟨_, rfl, tg, _, _, vl, rfl, rfl, htg.sqT, at0, _, rfl, tg, _, _, vr, rfl, rfl, htg.sqT, atI_nat (j := 1) rfl, _, rfl, vl, vr, gl, gr, c, kvs, cm, rfl, hvl, hvr, hsl, hsr, hc, hk, fun H1 e1 => ?_⟩
  refine ⟨_, rfl, if_b (fun h1 => ?_) (fun h1 => ?_)⟩
  rotate_left
  · refine qb (q H1 e1) ?_
    unfold counterB
    show (brokB cm gl gr && _) = _
    rw [h1] <;> rfl
  have hR1 := hR.up e1
  have ltp := hR1.tp.len
  have lds := hR1.len
  refine ⟨_, rfl, lc_selS (fun i => (ds[i]?).bind fun d => some (V.bl (keepB cm (lOf d) (rOf d)))) hR1.at_ (le_line (by omega)) ?_ ?_⟩
  · intro i y H3 hy e3 Qy Qn ky kn
    obtain ⟨d, hd1, hd2⟩ := hR1.tp.get hy
    obtain ⟨nm, dl, drr, rfl, hnm, hsl', hsr'⟩ := hR1.good d (List.mem_of_getElem? hd1)
    have hd2 := hd2.up (Same.T e3)
    cases hd2 with
    | @tup tb txs _ htb htx =>
    cases htx with
    | @cons vn _ _ _ hvn htx =>
    cases htx with
    | @cons vl' _ _ _ hvl' htx =>
    cases htx with
    | @cons vr' _ _ _ hvr' htx =>
    cases htx
    cases hvn
    refine ⟨tb, [.str nm, vl', vr'], rfl, htb.sqT, rfl, .str nm, _, rfl, vl', _, rfl, vr', _, rfl, rfl, rfl, ?_⟩
    exact ⟨_, rfl, _, rfl, _, rfl, vl', vr', dl, drr, c, kvs, cm, rfl, hvl', hvr', hsl', hsr', e3 _ _ (e1 _ _ hc), hk, fun H4 e4 => ky _ _ e4 (by rw [hd1]; rfl)⟩
  · intro H2 D e2 hD h3
    rw [ltp, range_bind, sel_all] at h3
    refine ⟨D, _, rfl, SqL.of h3, ?_⟩
    refine qb (q H2 (e1.trans e2)) ?_
    unfold counterB
    show (brokB cm gl gr && _) = _
    rw [h1, allB_map, Bool.true_and]
theorem ok_law_counters {f : Addr} {fd : FuncData} (F : FunD K "_law_counters" "_law_counters" (defArgs s_law_counters) (defBody s_law_counters) (defScope s_law_counters) [] [] f fd) (hm : mg "_law_counters" = some (.ref f)) (T : Top K mg)
    (D_law_fails : Def P w K mg base "_law_fails" 5 ["_law_left", "_law_right", "_law_case_now"] (spPairB K brokB)) (D_law_holds : Def P w K mg base "_law_holds" 5 ["_law_left", "_law_right", "_law_case_now"] (spPairB K keepB)) : Def P w K mg base "_law_counters" 6 ["_law_premises_here", "_law_aim", "_law_case_now"] (spCtr K) := by
  refine def_mk F hm (F.bindsN fun _ _ _ _ _ _ us hl => match us, hl with | [_, _, _], _ => rfl) sc_law_counters (fun vs H Q E h => ?_) (fun cdv A outer s H vs Q E hr h => ?_)
  · obtain ⟨a, us, ds, gv, g, c, kvs, cm, rfl, _⟩ := h
    rfl
  obtain ⟨a, us, ds, gv, g, c, kvs, cm, rfl, hR, hgt, hg, hc, hk, q⟩ := h
  refine ⟨_, (pss_cons (ps_if (pt_not (pt_val (pe_def D_law_fails hr (by first | decide | omega) (pa_cons (pe_ix (ix_tupK K) (pv 1) pe_int (fun _ _ => rfl)) (pa_cons (pe_ix (ix_tupK K) (pv 1) pe_int (fun _ _ => rfl)) (pa_cons (pv 2) pa_nil))))))
  (pss_one (ps_ret pe_bl))
  pss_nil)
  (pss_one (ps_ret (pe_callB (cr_allK K rfl) (by rfl) T.b_all (by decide +kernel) (pa_cons (pe_lc (own := [("_law_name", 3), ("_law_left", 4), ("_law_right", 5)]) rfl sc_law_counters.nd (pi_seqK K (pv 0)) (blkOk_by (by kernel_rfl)) (fun _ _ _ _ _ => (pg_tupK K (n := 3) rfl (pgs_cons (pg_name (i := 3) sc_law_counters.nd rfl (Or.inl rfl) (.inr rfl)) (pgs_cons (pg_name (i := 4) sc_law_counters.nd rfl (Or.inl rfl) (.inr rfl)) (pgs_cons (pg_name (i := 5) sc_law_counters.nd rfl (Or.inl rfl) (.inr rfl)) pgs_nil))))) (fun _ _ _ _ _ => pts_nil) (fun _ _ _ _ _ => (pe_def D_law_holds hr (by first | decide | omega) (pa_cons (pv 4) (pa_cons (pv 5) (pa_cons (pv 2) pa_nil)))))) pa_nil))))), ?_⟩
  obtain ⟨gl, gr, rfl, hsl, hsr⟩ := hg
  cases hgt with
  | @tup tg _ _ htg htx =>
  cases htx with
  | @cons vl _ _ _ hvl htx =>
  cases htx with
  | @cons vr _ _ _ hvr htx =>
  cases htx
  refine ⟨_, rfl, tg, _, _, vl, rfl, rfl, htg.sqT, at0, _, rfl, tg, _, _, vr, rfl, rfl, htg.sqT, atI_nat (j := 1) rfl, _, rfl, vl, vr, gl, gr, c, kvs, cm, rfl, hvl, hvr, hsl, hsr, hc, hk, fun H1 e1 => ⟨_, rfl, ?_⟩⟩
  refine if_nb (fun h1 => ?_) (fun h1 => ?_)
  · refine qb (q H1 e1) ?_
    unfold counterB
    show (brokB cm gl gr && _) = _
    rw [h1] <;> rfl
  have hR1 := hR.up e1
  have ltp := hR1.tp.len
  have lds := hR1.len
  refine ⟨_, rfl, lc_selS (fun i => (ds[i]?).bind fun d => some (V.bl (keepB cm (lOf d) (rOf d)))) hR1.at_ (le_line (by omega)) ?_ ?_⟩
  · intro i y H3 hy e3 Qy Qn ky kn
    obtain ⟨d, hd1, hd2⟩ := hR1.tp.get hy
    obtain ⟨nm, dl, drr, rfl, hnm, hsl', hsr'⟩ := hR1.good d (List.mem_of_getElem? hd1)
    have hd2 := hd2.up (Same.T e3)
    cases hd2 with
    | @tup tb txs _ htb htx =>
    cases htx with
    | @cons vn _ _ _ hvn htx =>
    cases htx with
    | @cons vl' _ _ _ hvl' htx =>
    cases htx with
    | @cons vr' _ _ _ hvr' htx =>
    cases htx
    cases hvn
    refine ⟨tb, [.str nm, vl', vr'], rfl, htb.sqT, rfl, .str nm, _, rfl, vl', _, rfl, vr', _, rfl, rfl, rfl, ?_⟩
    exact ⟨_, rfl, _, rfl, _, rfl, vl', vr', dl, drr, c, kvs, cm, rfl, hvl', hvr', hsl', hsr', e3 _ _ (e1 _ _ hc), hk, fun H4 e4 => ky _ _ e4 (by rw [hd1]; rfl)⟩
  · intro H2 D e2 hD h3
    rw [ltp, range_bind, sel_all] at h3
    refine ⟨D, _, rfl, SqL.of h3, ?_⟩
    refine qb (q H2 (e1.trans e2)) ?_
    unfold counterB
    show (brokB cm gl gr && _) = _
    rw [h1, allB_map, Bool.true_and]
theorem ok_case_at {f : Addr} {fd : FuncData} (F : FunD K "case_at" "case_at" (defArgs s_case_at) (defBody s_case_at) (defScope s_case_at) [] [] f fd) (hm : mg "case_at" = some (.ref f)) (T : Top K mg) : Def P w K mg base "case_at" 1 ["names", "number"] (spCaseAt K) := by
  refine def_mk F hm (F.bindsN fun _ _ _ _ _ _ us hl => match us, hl with | [_, _], _ => rfl) sc_case_at (fun vs H Q E h => ?_) (fun cdv A outer s H vs Q E hr h => ?_)
  · obtain ⟨l, zs, m, rfl, _⟩ := h
    rfl
  obtain ⟨l, zs, m, rfl, hl, hz, q⟩ := h
  refine ⟨_, (pss_cons (ps_set (i := 2) sc_case_at.nd rfl (Or.inr rfl) (pe_op op_sub (pe_callB (call_lenK K) (by rfl) T.b_len (by decide +kernel) (pa_cons (pv 0) pa_nil)) pe_int))
  (pss_one (ps_ret (pe_dc (own := [("at", 3), ("letter", 4)]) rfl sc_case_at.nd (pi_enumK K (by rfl) T.b_enumerate (pa_cons (pv 0) pa_nil)) (blkOk_by (by kernel_rfl)) (fun _ _ _ _ _ => (pg_tupK K (n := 2) rfl (pgs_cons (pg_name (i := 3) sc_case_at.nd rfl (Or.inl rfl) (.inr rfl)) (pgs_cons (pg_name (i := 4) sc_case_at.nd rfl (Or.inl rfl) (.inr rfl)) pgs_nil)))) (fun _ _ _ _ _ => pts_nil) (fun _ _ _ _ _ => (pv 4)) (fun _ _ _ _ _ => (pe_cmpR op_eq (pe_op op_and (pe_op op_shr (pv 1) (pe_op op_sub (pv 2) (pv 3))) pe_int) pe_int (nomark _))))))), ?_⟩
  refine ⟨_, rfl, _, _, rfl, .inl ⟨_, hl, rfl⟩, _, _, rfl, rfl, ?_⟩
  refine ⟨_, rfl, l, _, rfl, hl, fun D hD => ?_⟩
  refine dc_it (walkE_same (H := H) hl) (fun i H' => Same H H' ∧ H' D = some (.dK (kvsL ((prN zs m).take i)))) ⟨same_new hD _, upd_same⟩ (fun i H' _ p => p.1) ?_ ?_
  · rintro i x H2 H3 hi ⟨e, h1⟩ ⟨t, u1, u2, rfl, ht, rfl, k1, k2⟩
    cases k1
    obtain ⟨z, hz1, rfl⟩ := zs_get k2
    have hil := (List.getElem?_eq_some_iff.mp hz1).1
    have tD : D ≠ t := fun z => by rw [← z, h1] at ht; cases ht
    have hkl := kvsL_len ((prN zs m).take i)
    rw [List.length_take] at hkl
    refine ⟨t, [.int (i : Nat), .str z], rfl, SqT.of upd_same, rfl, _, [.str z], rfl, _, [], rfl, rfl, rfl, ?_⟩
    unfold tYes
    dsimp only
    rw [if_pos rfl]
    have hk : (((zs.map V.str).length : Nat) : Int) - 1 - ((i : Nat) : Int) = ((zs.length - 1 - i : Nat) : Int) := by
      rw [List.length_map]
      omega
    have hb : decide (V.int (Builtin.bitAnd ((m : Int) / 2 ^ ((((zs.map V.str).length : Nat) : Int) - 1 - ((i : Nat) : Int)).toNat) 1) = V.int 1) = m.testBit (zs.length - 1 - i) := by
      rw [hk]
      exact bit_1C m _
    refine ⟨_, rfl, _, rfl, _, rfl, _, rfl, _, _, rfl, rfl, _, _, rfl, rfl, by rw [hk]; exact Int.natCast_nonneg _, _, _, rfl, rfl, rfl, ?_⟩
    refine ⟨kvsL ((prN zs m).take i), .inr z, rfl, by rw [upd_ne tD]; exact h1, lt_line (by omega), same_at hD (e.trans (same_new ht _)), ?_⟩
    rw [upd_same, List.take_add_one, prN_get hz1, ← hb]
    exact congrArg (fun k => some (HO.dK k)) (kvsL_snoc _ _ _).symm
  · rintro H2 ⟨e, h1⟩
    have hml : (zs.map V.str).length = (prN zs m).length := by rw [List.length_map, prN_len]
    rw [hml, List.take_length] at h1
    exact q D H2 e hD h1
end
end FF
/-! cases: all of them in a list; with bad rules and goals -/
namespace FF
open PySem PySem.Spec PyProof.Rows L2 GenW
/-- the numbers of the counter cases -/
def msG (ds : List PyData) (g : PyData) : List Nat := (List.range (2 ^ (zsG ds g).length)).filter fun m => counterB ds g (casN (zsG ds g) m)
/-- dicts of numbers' cases -/
def CasL (zs : List Str) (H : Hp) (ms : List Nat) (ys : List V) : Prop := ys.length = ms.length ∧ ∀ (i m : Nat), ms[i]? = some m → ∃ c : Addr, ys[i]? = some (V.ref c) ∧ H c = some (.dK (kvsL (prN zs m)))
theorem CasL.up {zs : List Str} {H H' : Hp} {ms : List Nat} {ys : List V} (h : CasL zs H ms ys) (e : Same H H') : CasL zs H' ms ys := ⟨h.1, fun i m hm => let ⟨c, h1, h2⟩ := h.2 i m hm; ⟨c, h1, e _ _ h2⟩⟩
theorem CasL.nil {zs : List Str} {H : Hp} : CasL zs H [] [] := ⟨rfl, fun i m h => by simp at h⟩
theorem CasL.snoc {zs : List Str} {H : Hp} {ms : List Nat} {ys : List V} {m : Nat} {c : Addr} (h : CasL zs H ms ys) (hc : H c = some (.dK (kvsL (prN zs m)))) : CasL zs H (ms ++ [m]) (ys ++ [.ref c]) := by
  refine ⟨by rw [List.length_append, List.length_append, h.1] <;> rfl, fun i k hk => ?_⟩
  by_cases hi : i < ms.length
  · rw [List.getElem?_append_left hi] at hk
    obtain ⟨c', h1, h2⟩ := h.2 i k hk
    exact ⟨c', by rw [List.getElem?_append_left (by rw [h.1]; exact hi)]; exact h1, h2⟩
  · rw [List.getElem?_append_right (by omega)] at hk
    have hz : i - ms.length = 0 := by
      have := (List.getElem?_eq_some_iff.mp hk).1
      rw [List.length_singleton] at this
      omega
    rw [hz] at hk
    cases hk
    refine ⟨c, ?_, hc⟩
    rw [List.getElem?_append_right (by rw [h.1]; omega), h.1, hz]
    rfl
def spCasL (K : PySem.W.Frag) : SpG := fun vs H Q E => ∃ (v gv : V) (ds : List PyData) (g : PyData), vs = [v, gv] ∧ RulesV K H v ds ∧ GoalV K H gv g ∧
  (goalErr ds g = none → ∃ (p : Addr) (us : List V), v = .ref p ∧ GS K H p us ds gv g ∧ ∀ ys H', Same H H' → CasL (zsG ds g) H' (msG ds g) ys → Q ys H') ∧ ∀ e, goalErr ds g = some e → ErrOf K H E e
def spCasX (K : PySem.W.Frag) : SpF := fun vs H Qe Yd E => ∃ (v gv : V) (ds : List PyData) (g : PyData), vs = [v, gv] ∧ RulesV K H v ds ∧ GoalV K H gv g ∧
  (goalErr ds g = none → ∃ (p : Addr) (us : List V), v = .ref p ∧ GS K H p us ds gv g ∧ (∀ H', Same H H' → (∀ m, m < 2 ^ (zsG ds g).length → counterB ds g (casN (zsG ds g) m) = false) → Qe H') ∧
    ∀ c m H', Same H H' → H' c = some (.dK (kvsL (prN (zsG ds g) m))) → (msG ds g)[0]? = some m → Yd (.ref c) H') ∧ ∀ e, goalErr ds g = some e → ErrOf K H E e
/-- the first case: with its number -/
def FoundX (ds : List PyData) (g : PyData) (v : V) (H : Hp) : Prop := (v = .non ∧ msG ds g = []) ∨ ∃ c m, v = .ref c ∧ H c = some (.dK (kvsL (prN (zsG ds g) m))) ∧ (msG ds g)[0]? = some m
def spFirstX (K : PySem.W.Frag) : Sp := fun vs H Q E => ∃ (v gv : V) (ds : List PyData) (g : PyData), vs = [v, gv] ∧ RulesV K H v ds ∧ GoalV K H gv g ∧
  (goalErr ds g = none → ∃ (p : Addr) (us : List V), v = .ref p ∧ GS K H p us ds gv g ∧ ∀ u H', Same H H' → FoundX ds g u H' → Q u H') ∧ ∀ e, goalErr ds g = some e → ErrOf K H E e
theorem filt_snoc {f : Nat → Bool} {i : Nat} : (List.range (i + 1)).filter f = (List.range i).filter f ++ (if f i = true then [i] else []) := by
  rw [List.range_succ, List.filter_append]
  cases h : f i <;> simp [h]
theorem filt_head {f : Nat → Bool} {n i : Nat} (hi : i < n) (hf : f i = true) (hn : ∀ m, m < i → f m = false) : ((List.range n).filter f)[0]? = some i := by
  have e : List.range n = List.range i ++ (List.range n).drop i := by
    have h := List.take_append_drop i (List.range n)
    rw [List.take_range, Nat.min_eq_left (by omega)] at h
    exact h.symm
  have e2 : (List.range i).filter f = [] := List.filter_eq_nil_iff.mpr fun m hm => by rw [hn m (List.mem_range.mp hm)]; decide
  have e3 : (List.range n).drop i = i :: (List.range n).drop (i + 1) := by
    rw [List.drop_eq_getElem_cons (by rw [List.length_range]; exact hi), List.getElem_range]
  rw [e, List.filter_append, e2, List.nil_append, e3, List.filter_cons_of_pos hf]
  rfl
section
variable {P : Program} {w : World} {K : PySem.W.Frag} {mg : Str → Option Value} {base : Heap}
theorem errNo {H : Hp} {E : XK} {e : RErr} (n1 : PySem.W.subIn K (Value.ref (He.ga K "InvalidRules")) (Value.type "StopIteration") = some false) (n2 : PySem.W.subIn K (Value.ref (He.ga K "InvalidGoal")) (Value.type "StopIteration") = some false)
    (n3 : PySem.W.subIn K (Value.ref (He.ga K "TooManyTerms")) (Value.type "StopIteration") = some false) (h : ErrOf K H E e) : ErrOf K H (noStE K E) e := by
  cases e with
  | rules i => exact fun dd H' e2 hd => ⟨h dd H' e2 hd, n1⟩
  | goal => exact fun dd H' e2 hd => ⟨h dd H' e2 hd, n2⟩
  | terms n => exact fun dd H' e2 hd => ⟨h dd H' e2 hd, n3⟩
theorem gl_cases {f : Addr} {fd : FuncData} (F : FunD K "cases" "cases" (defArgs s_cases) (defBody s_cases) (defScope s_cases) [] [] f fd) (T : Top K mg)
    (D_goal_words : DefX P w K mg base "goal_words" 18 ["rules", "goal"] (spGoalW K)) (D_letters_of : Def P w K mg base "letters_of" 1 ["words"] (spLettersG K))
    (D_case_at : Def P w K mg base "case_at" 1 ["names", "number"] (spCaseAt K)) (D_is_counter : Def P w K mg base "is_counter" 6 ["rules", "goal", "case"] (spCtr K)) : GFn P w K mg base 19 f fd ["rules", "goal"] (spCasL K) := by
  obtain ⟨oc, od, dV, kV, doc, pm, an, cdv, ct, osl, rfl, lk, hcd, hD, hK⟩ := F.ex
  refine gfn_of lk hcd sc_cases (fun vs H Q E h => ?_) (fun A outer s H vs Q E pn hr h => ?_)
  · obtain ⟨v, gv, ds, g, rfl, _⟩ := h
    rfl
  obtain ⟨v, gv, ds, g, rfl, hR, hG, way, err⟩ := h
  refine ⟨_, gss_of (mss_cons (ms_ps (ps_set (i := 2) sc_cases.nd rfl (Or.inl rfl) (pe_def D_letters_of hr (by first | decide | omega) (pa_cons (pe_defx (E := E) D_goal_words takes_gcx (fun _ _ _ _ h => h) hr (by first | decide | omega) (pa_cons (pv 0) (pa_cons (pv 1) pa_nil))) pa_nil))))
  (mss_one (ms_for owns_gcx rfl (pi_range1 (by rfl) T.b_range (pa_cons (pe_op op_shl pe_int (pe_callB (call_lenK K) (by rfl) T.b_len (by decide +kernel) (pa_cons (pv 2) pa_nil))) pa_nil)) (pg_name (i := 3) sc_cases.nd rfl (Or.inl rfl) (.inl rfl))
  (mss_cons (ms_ps (ps_set (i := 4) sc_cases.nd rfl (Or.inl rfl) (pe_def D_case_at hr (by first | decide | omega) (pa_cons (pv 2) (pa_cons (pv 3) pa_nil)))))
  (mss_one (ms_if (pt_val (pe_def D_is_counter hr (by first | decide | omega) (pa_cons (pv 0) (pa_cons (pv 1) (pa_cons (pv 4) pa_nil)))))
  (mss_one (ms_yield (pv 4)))
  mss_nil)))))), ?_⟩
  refine ⟨_, rfl, _, rfl, v, gv, ds, g, rfl, hR, hG, fun h0 r rs H1 e1 hr1 hr2 hrt => ?_, err⟩
  obtain ⟨p, us, rfl, hS, q⟩ := way h0
  have hfew := hS.few
  refine ⟨r, rs, _, rfl, SqL.of hr2, hrt, by omega, fun l H2 e2 hl1 hl2 => ?_⟩
  have e12 := e1.trans e2
  have hlen : (zsG ds g).length ≤ 24 := Nat.le_trans (strs_len (vocD (prsOf ds g))) hfew
  have hS2 := hS.up e12
  have hl2' : SqL K H2 l ((zsG ds g).map V.str) := SqL.of hl2
  have hj : ((1 : Int) * 2 ^ ((((zsG ds g).map V.str).length : Nat) : Int).toNat) = ((2 ^ (zsG ds g).length : Nat) : Int) := by
    rw [Int.toNat_natCast, List.length_map, Int.one_mul, Int.natCast_pow] <;> rfl
  have hp24 : 2 ^ (zsG ds g).length ≤ 2 ^ 24 := Nat.pow_le_pow_right (by decide) hlen
  refine ⟨_, rfl, _, _, rfl, .inl ⟨_, hl2', rfl⟩, _, _, rfl, rfl, ⟨by omega, by rw [List.length_map]; omega, by decide⟩, ?_⟩
  unfold msG at q
  generalize hN : 2 ^ (zsG ds g).length = N at hp24 q hj
  refine ⟨(N : Int), congrArg (fun j => [V.int j]) hj, by omega, by omega, ?_⟩
  rw [Int.toNat_natCast]
  refine mfor_range (lo := 0) (n := N) (fun i ys σ H' => ∃ o3 o4, σ = [some (.ref p), some gv, some (.ref l), o3, o4] ∧ Same H2 H' ∧ CasL (zsG ds g) H' ((List.range i).filter fun m => counterB ds g (casN (zsG ds g) m)) ys) ⟨none, none, rfl, Same.refl _, CasL.nil⟩ ?_ ?_
  · rintro i ys σ H3 hi ⟨o3, o4, rfl, e3, hC⟩
    have hy : ys.length ≤ i := by
      rw [hC.1]
      exact Nat.le_trans (List.length_filter_le _ _) (by rw [List.length_range]; exact Nat.le_refl _)
    refine ⟨_, rfl, _, rfl, l, zsG ds g, i, by rw [Int.zero_add]; rfl, SqL.of (e3 _ _ hl2), by omega, fun c H4 e4 hc0 hc => ?_⟩
    have hS4 := hS2.up (e3.trans e4)
    refine ⟨_, rfl, _, rfl, _, rfl, p, us, ds, gv, g, c, _, _, rfl, hS4.rg, hS4.gt, hS4.gd, hc, casN_case _ _, fun H5 e5 => ?_⟩
    have e25 := e3.trans (e4.trans e5)
    have hC5 := hC.up (e4.trans e5)
    refine ⟨_, rfl, if_b (fun h => ?_) (fun h => ?_)⟩
    · refine ⟨Nat.lt_of_le_of_lt hy (Nat.lt_of_lt_of_le hi hp24), _, rfl, fun _ => trivial, _, _, rfl, e25, ?_⟩
      rw [filt_snoc, if_pos h]
      exact hC5.snoc (e5 _ _ hc)
    · refine ⟨_, _, rfl, e25, ?_⟩
      rw [filt_snoc, if_neg (by rw [h]; decide), List.append_nil]
      exact hC5
  · rintro ys σ H3 ⟨o3, o4, rfl, e3, hC⟩
    exact q ys H3 (e12.trans e3) hC
theorem gfx_cases {f : Addr} {fd : FuncData} (F : FunD K "cases" "cases" (defArgs s_cases) (defBody s_cases) (defScope s_cases) [] [] f fd) (T : Top K mg)
    (D_goal_words : DefX P w K mg base "goal_words" 18 ["rules", "goal"] (spGoalW K)) (D_letters_of : Def P w K mg base "letters_of" 1 ["words"] (spLettersG K))
    (D_case_at : Def P w K mg base "case_at" 1 ["names", "number"] (spCaseAt K)) (D_is_counter : Def P w K mg base "is_counter" 6 ["rules", "goal", "case"] (spCtr K)) : GFst P w K mg base 19 f fd ["rules", "goal"] (spCasX K) := by
  obtain ⟨oc, od, dV, kV, doc, pm, an, cdv, ct, osl, rfl, lk, hcd, hD, hK⟩ := F.ex
  refine gfst_of lk hcd sc_cases (fun vs H Qe Yd E h => ?_) (fun A outer s H vs Qe Yd E pn hr h => ?_)
  · obtain ⟨v, gv, ds, g, rfl, _⟩ := h
    rfl
  obtain ⟨v, gv, ds, g, rfl, hR, hG, way, err⟩ := h
  refine ⟨_, (mss_cons (ms_ps (ps_set (i := 2) sc_cases.nd rfl (Or.inl rfl) (pe_def D_letters_of hr (by first | decide | omega) (pa_cons (pe_defx (E := E) D_goal_words takes_gcx (fun _ _ _ _ h => h) hr (by first | decide | omega) (pa_cons (pv 0) (pa_cons (pv 1) pa_nil))) pa_nil))))
  (mss_one (ms_for owns_gcx rfl (pi_range1 (by rfl) T.b_range (pa_cons (pe_op op_shl pe_int (pe_callB (call_lenK K) (by rfl) T.b_len (by decide +kernel) (pa_cons (pv 2) pa_nil))) pa_nil)) (pg_name (i := 3) sc_cases.nd rfl (Or.inl rfl) (.inl rfl))
  (mss_cons (ms_ps (ps_set (i := 4) sc_cases.nd rfl (Or.inl rfl) (pe_def D_case_at hr (by first | decide | omega) (pa_cons (pv 2) (pa_cons (pv 3) pa_nil)))))
  (mss_one (ms_if (pt_val (pe_def D_is_counter hr (by first | decide | omega) (pa_cons (pv 0) (pa_cons (pv 1) (pa_cons (pv 4) pa_nil)))))
  (mss_one (ms_yield (pv 4)))
  mss_nil)))))), ?_⟩
  refine ⟨_, rfl, _, rfl, v, gv, ds, g, rfl, hR, hG, fun h0 r rs H1 e1 hr1 hr2 hrt => ?_, err⟩
  obtain ⟨p, us, rfl, hS, qe, qy⟩ := way h0
  have hfew := hS.few
  refine ⟨r, rs, _, rfl, SqL.of hr2, hrt, by omega, fun l H2 e2 hl1 hl2 => ?_⟩
  have e12 := e1.trans e2
  have hlen : (zsG ds g).length ≤ 24 := Nat.le_trans (strs_len (vocD (prsOf ds g))) hfew
  have hS2 := hS.up e12
  have hl2' : SqL K H2 l ((zsG ds g).map V.str) := SqL.of hl2
  have hj : ((1 : Int) * 2 ^ ((((zsG ds g).map V.str).length : Nat) : Int).toNat) = ((2 ^ (zsG ds g).length : Nat) : Int) := by
    rw [Int.toNat_natCast, List.length_map, Int.one_mul, Int.natCast_pow] <;> rfl
  have hp24 : 2 ^ (zsG ds g).length ≤ 2 ^ 24 := Nat.pow_le_pow_right (by decide) hlen
  refine ⟨_, rfl, _, _, rfl, .inl ⟨_, hl2', rfl⟩, _, _, rfl, rfl, ⟨by omega, by rw [List.length_map]; omega, by decide⟩, ?_⟩
  unfold msG at qy
  generalize hN : 2 ^ (zsG ds g).length = N at hp24 qe qy hj
  refine ⟨(N : Int), congrArg (fun j => [V.int j]) hj, by omega, by omega, ?_⟩
  rw [Int.toNat_natCast]
  refine mfor_range (lo := 0) (n := N) (fun i ys σ H' => ∃ o3 o4, σ = [some (.ref p), some gv, some (.ref l), o3, o4] ∧ Same H2 H' ∧ ys.length ≤ i ∧ (ys = [] → ∀ m, m < i → counterB ds g (casN (zsG ds g) m) = false)) ⟨none, none, rfl, Same.refl _, Nat.le_refl _, fun _ m h => absurd h (Nat.not_lt_zero m)⟩ ?_ ?_
  · rintro i ys σ H3 hi ⟨o3, o4, rfl, e3, hy, hno⟩
    refine ⟨_, rfl, _, rfl, l, zsG ds g, i, by rw [Int.zero_add]; rfl, SqL.of (e3 _ _ hl2), by omega, fun c H4 e4 hc0 hc => ?_⟩
    have hS4 := hS2.up (e3.trans e4)
    refine ⟨_, rfl, _, rfl, _, rfl, p, us, ds, gv, g, c, _, _, rfl, hS4.rg, hS4.gt, hS4.gd, hc, casN_case _ _, fun H5 e5 => ?_⟩
    have e25 := e3.trans (e4.trans e5)
    refine ⟨_, rfl, if_b (fun h => ?_) (fun h => ?_)⟩
    · refine ⟨Nat.lt_of_le_of_lt hy (Nat.lt_of_lt_of_le hi hp24), _, rfl, fun h0 => qy c i H5 (e12.trans e25) (e5 _ _ hc) (filt_head hi h (hno h0)), _, _, rfl, e25, ?_, fun h => absurd h (by simp)⟩
      rw [List.length_append, List.length_singleton]
      omega
    · refine ⟨_, _, rfl, e25, by omega, fun h2 m hm => ?_⟩
      rcases Nat.lt_succ_iff_lt_or_eq.mp hm with hm | rfl
      · exact hno h2 m hm
      · exact h
  · rintro ys σ H3 ⟨o3, o4, rfl, e3, hy, hno⟩
    exact fun h => qe H3 (e12.trans e3) (hno h)
theorem fn_first_caseX {f : Addr} {fd : FuncData} (F : FunD K "first_case" "first_case" (defArgs s_first_case) (defBody s_first_case) (defScope s_first_case) [] [] f fd) (T : Top K mg)
    (n1 : PySem.W.subIn K (Value.ref (He.ga K "InvalidRules")) (Value.type "StopIteration") = some false) (n2 : PySem.W.subIn K (Value.ref (He.ga K "InvalidGoal")) (Value.type "StopIteration") = some false) (n3 : PySem.W.subIn K (Value.ref (He.ga K "TooManyTerms")) (Value.type "StopIteration") = some false)
    (D_cases : DefF P w K mg base "cases" 19 ["rules", "goal"] (spCasX K)) : FnOk P w K mg base (L2.CX P w) 23 f fd ["rules", "goal"] (spFirstX K) := by
  refine FunD.ok F sc_first_case (fun vs H Q E h => ?_) (fun cdv A outer s0 H vs Q E hr h => ?_)
  · obtain ⟨v, gv, ds, g, rfl, _⟩ := h
    rfl
  have tk : Takes (cxOf (L2.CX P w) P w K mg base ["rules", "goal", "case"] "first_case" (defScope s_first_case) f cdv A outer s0 H E) fun cls d _ H => E cls d H := takes_of rfl rfl rfl rfl
  obtain ⟨v, gv, ds, g, rfl, hR, hG, way, err⟩ := h
  refine ⟨_, (pss_cons (ps_firstD D_cases (passes_call (E := noStE K E) tk (fun _ _ _ _ h => h.1)) noStE_ok hr (by first | decide | omega) (passes_of rfl) (pa_cons (pv 0) (pa_cons (pv 1) pa_nil)) (pg_name (i := 2) sc_first_case.nd rfl (Or.inl rfl) (.inl rfl))
  (pss_one (ps_ret (pv 2))))
  (pss_one (ps_ret pe_non))), ?_⟩
  refine ⟨_, rfl, _, rfl, v, gv, ds, g, rfl, hR, hG, fun h0 => ?_, fun e he => errNo n1 n2 n3 (err e he)⟩
  obtain ⟨p, us, rfl, hS, q⟩ := way h0
  refine ⟨p, us, rfl, hS, fun H' e h => q _ H' e (.inl ⟨rfl, ?_⟩), fun c m H' e h1 h2 => ⟨_, rfl, q _ H' e (.inr ⟨c, m, rfl, h1, h2⟩)⟩⟩
  exact List.filter_eq_nil_iff.mpr fun m hm => by rw [h m (List.mem_range.mp hm)]; decide
end
end FF
/-! terms: depth, leaves, letters, without repetitions (plain) -/
namespace FF
open PySem PySem.Spec PyProof.Rows L2
theorem cnt_flat {g : PyData → List PyData} {f : PyData → Int} : ∀ {l : List PyData}, (∀ p ∈ l, ((g p).length : Int) + 1 ≤ 2 * f p) → ((l.flatMap g).length : Int) + l.length ≤ 2 * (l.map f).sum
  | [], _ => by simp
  | x :: r, h => by
    have h1 := cnt_flat (l := r) fun p hp => h p (List.mem_cons_of_mem _ hp)
    have h2 := h x List.mem_cons_self
    rw [List.flatMap_cons, List.length_append, List.map_cons, List.sum_cons, List.length_cons]
    omega
theorem meas_tup {o : PyData} {ps : List PyData} {k : Nat} (hk : 0 < k) (ho : isOp o = true) (h2 : 2 ≤ ps.length) (hn : ∀ p ∈ ps, 1 ≤ meas k p) : meas (k + 1) (.tuple (o :: ps)) = (ps.map (meas k)).sum := by
  rw [meas_up tup_let hk]
  have h0 : (0 : Int) ∉ ps.map (meas k) := fun z => by
    obtain ⟨p, hp, e⟩ := List.mem_map.mp z
    have := hn p hp
    omega
  match ps, h2, h0 with
  | y :: z :: r, _, h0 =>
    show (if isOp o = true then (if (0 : Int) ∈ ((y :: z :: r).map (meas k)) then 0 else ((y :: z :: r).map (meas k)).sum) else 0) = _
    rw [if_pos ho, if_neg h0]
theorem walk_cnt : ∀ {n : Nat} {d : PyData}, Drawn n d → ∀ m, n < m → ((walkD (n + 1) d).length : Int) + 1 ≤ 2 * meas m d
  | 0, d, h, m, hm => by
    rw [walk_zero h, meas_let (show isLet d = true from h), if_pos (by omega)]
    simp
  | n + 1, d, h, m, hm => by
    rcases h with h | ⟨o, ps, rfl, ho, h2, h4, hp⟩
    · rw [walk_step, let_parts h, meas_let h, if_pos (by omega)]
      simp
    obtain ⟨k, rfl⟩ : ∃ k, m = k + 1 := ⟨m - 1, by omega⟩
    rw [meas_tup (by omega) ho h2 fun p hpp => (meas_drawn (hp p hpp) k (by omega)).1, walk_step]
    have := cnt_flat (g := walkD (n + 1)) (f := meas k) (l := ps) fun p hpp => walk_cnt (hp p hpp) k (by omega)
    show (((.tuple (o :: ps) : PyData) :: ps.flatMap (walkD (n + 1))).length : Int) + 1 ≤ _
    rw [List.length_cons]
    omega
/-- the number of letters -/
def leaD : Nat → PyData → Int
  | 0, _ => 0
  | n + 1, d => if isLet d = true then 1 else ((partsD d).map (leaD n)).sum
theorem lea_meas : ∀ {n : Nat} {d : PyData}, Drawn n d → ∀ m, n < m → leaD (n + 1) d = meas m d
  | 0, d, h, m, hm => by
    rw [meas_let (show isLet d = true from h), if_pos (by omega)]
    show (if isLet d = true then (1 : Int) else _) = 1
    rw [if_pos (show isLet d = true from h)]
  | n + 1, d, h, m, hm => by
    rcases h with h | ⟨o, ps, rfl, ho, h2, h4, hp⟩
    · rw [meas_let h, if_pos (by omega)]
      show (if isLet d = true then (1 : Int) else _) = 1
      rw [if_pos h]
    obtain ⟨k, rfl⟩ : ∃ k, m = k + 1 := ⟨m - 1, by omega⟩
    rw [meas_tup (by omega) ho h2 fun p hpp => (meas_drawn (hp p hpp) k (by omega)).1]
    show (if isLet (.tuple (o :: ps)) = true then (1 : Int) else (ps.map (leaD (n + 1))).sum) = _
    rw [if_neg (by rw [tup_let]; decide)]
    exact congrArg List.sum (List.map_congr_left fun p hpp => lea_meas (hp p hpp) k (by omega))
def dedS : List Str → List Str
  | [] => []
  | z :: zs => if z ∈ zs then dedS zs else z :: dedS zs
theorem dedS_mem {k : Str} : ∀ {zs : List Str}, k ∈ dedS zs ↔ k ∈ zs
  | [] => Iff.rfl
  | z :: zs => by
    unfold dedS
    split
    · rename_i h
      rw [dedS_mem, List.mem_cons]
      exact ⟨.inr, fun q => q.elim (fun e => e ▸ h) id⟩
    · rw [List.mem_cons, List.mem_cons, dedS_mem]
theorem dedS_nodup : ∀ (zs : List Str), (dedS zs).Nodup
  | [] => List.nodup_nil
  | z :: zs => by
    unfold dedS
    split
    · exact dedS_nodup zs
    · rename_i h
      exact List.nodup_cons.mpr ⟨fun q => h (dedS_mem.mp q), dedS_nodup zs⟩
/-- sorted(set(zs)) -/
def setS (zs : List Str) : List Str := sortT (dedS zs)
theorem setS_of {ys zs : List Str} (nd : ys.Nodup) (hm : ∀ k, k ∈ ys ↔ k ∈ zs) (hs : sortedS ys = true) : ys = setS zs :=
  sort_eq ((List.perm_ext_iff_of_nodup nd (dedS_nodup zs)).mpr fun k => (hm k).trans dedS_mem.symm) hs
theorem setS_mem {k : Str} {zs : List Str} : k ∈ setS zs ↔ k ∈ zs := by
  unfold setS sortT
  rw [(List.mergeSort_perm _ _).mem_iff, dedS_mem]
end FF
/-! _law_signs_in -/
namespace FF
open PySem PySem.Spec PyProof.Rows L2
def lettersT (m : Nat) (d : PyData) : List Str := setS (strsOf (walkD (m + 1) d))
def spLets (K : PySem.W.Frag) : Sp := fun vs H Q _ => ∃ (v : V) (d : PyData) (m : Nat), vs = [v] ∧ Tp K H v d ∧ Drawn m d ∧ m ≤ 7 ∧ meas 9 d ≤ 400 ∧ ∀ p H', Same H H' → H p = none → H' p = some (.lst ((lettersT m d).map V.str)) → Q (.ref p) H'
section
variable {P : Program} {w : World} {K : PySem.W.Frag} {mg : Str → Option Value} {base : Heap}
theorem ok_signs_in {f : Addr} {fd : FuncData} (F : FunD K "_law_signs_in" "_law_signs_in" (defArgs s_law_signs_in) (defBody s_law_signs_in) (defScope s_law_signs_in) [] [] f fd) (hm : mg "_law_signs_in" = some (.ref f)) (T : Top K mg)
    (D_law_walk : Def P w K mg base "_law_walk" 9 ["_law_word"] (spWalked K 8)) : Def P w K mg base "_law_signs_in" 12 ["_law_word"] (spLets K) := by
  refine def_mk F hm (F.bindsN fun _ _ _ _ _ _ us hl => match us, hl with | [_], _ => rfl) sc_law_signs_in (fun vs H Q E h => ?_) (fun cdv A outer s H vs Q E hr h => ?_)
  · obtain ⟨v, d, m, rfl, _⟩ := h
    rfl
  obtain ⟨v, d, m, rfl, hd, hdr, hm8, h400, q⟩ := h
  refine ⟨_, (pss_one (ps_ret (pe_callB (cr_sortedT rfl) (by rfl) T.b_sorted (by decide +kernel) (pa_cons (pe_callTy (cr_setS rfl) (by rfl) T.b_set (by decide +kernel) (pa_cons (pe_lc (own := [("_law_one", 1)]) rfl sc_law_signs_in.nd (pi_listK K (pe_def D_law_walk hr (by first | decide | omega) (pa_cons (pv 0) pa_nil))) (blkOk_by (by kernel_rfl)) (fun _ _ _ _ _ => (pg_name (i := 1) sc_law_signs_in.nd rfl (Or.inl rfl) (.inr rfl))) (fun _ _ _ _ _ => (pts_one (pt_val (pe_callB (call_isK K kb_str) (by rfl) T.b_isinstance (by decide +kernel) (pa_cons (pv 1) (pa_cons (pe_bltn (v := .ty "str") (by rfl) T.b_str (by decide +kernel) rfl) pa_nil)))))) (fun _ _ _ _ _ => (pv 1))) pa_nil)) pa_nil)))), ?_⟩
  refine ⟨_, rfl, v, d, m, rfl, hd, hdr, by omega, by decide, fun t us H2 e2 ht0 ht2 hu2 => ⟨t, rfl, ⟨us, SqL.of ht2⟩, fun D hD => ?_⟩⟩
  have hul := hu2.len
  have wc := walk_cnt hdr 9 (by omega)
  refine lc_filtW (j := 1) isSV hD (SqL.of ht2) (le_line (by omega)) (fun _ => rfl) ?_ (fun v H2 Q' k => ⟨_, rfl, k⟩) ?_
  · intro i x H3 hx e3 Qb k
    obtain ⟨y, hy, hyt⟩ := hu2.get hx
    refine ⟨_, rfl, x, y, rfl, (hyt.up (Same.T e3)).dp, ?_⟩
    have := k H3 (Same.refl _)
    rw [isSV_dp hyt.dp] at this
    cases y <;> exact ⟨_, rfl, this⟩
  · intro H3 e3 hD3
    rw [filt_strs hu2] at hD3
    have l3 : (strsOf (walkD (m + 1) d)).length ≤ 1000 := by
      have : (strsOf (walkD (m + 1) d)).length ≤ (walkD (m + 1) d).length := List.length_filterMap_le _ _
      omega
    refine ⟨D, _, rfl, SqL.of hD3, l3, fun S n hS hn => ?_⟩
    refine ⟨S, _, n, rfl, upd_same, fun ys p nd hmem hl hs hp => ?_⟩
    have ey : ys = lettersT m d := setS_of nd (fun k => by rw [hmem k, decide_eq_true_eq]) hs
    subst ey
    have e4 := e3.trans (same_new hS (SetTO w S (fun j => decide (j ∈ strsOf (walkD (m + 1) d))) n))
    exact q p _ (e2.trans (e4.trans (same_new hp _))) (by
      cases e : H p with
      | none => rfl
      | some u =>
        have h9 := (e4 _ _ (e2 _ _ e)).symm.trans hp
        cases h9) upd_same
end
end FF
/-! the letters of many words -/
namespace FF
open PySem PySem.Spec PyProof.Rows L2
def letsD (ds : List PyData) : List Str := setS (ds.flatMap (lettersT 8))
theorem letT_mem {d : PyData} {z : Str} : z ∈ lettersT 8 d ↔ PyData.str z ∈ walkD 9 d := setS_mem.trans strsOf_mem
theorem letsD_mem {ds : List PyData} {z : Str} : z ∈ letsD ds ↔ ∃ d ∈ ds, PyData.str z ∈ walkD 9 d := by
  unfold letsD
  rw [setS_mem, List.mem_flatMap]
  exact ⟨fun ⟨d, h1, h2⟩ => ⟨d, h1, letT_mem.mp h2⟩, fun ⟨d, h1, h2⟩ => ⟨d, h1, letT_mem.mpr h2⟩⟩
theorem setS_nodup (zs : List Str) : (setS zs).Nodup := (List.mergeSort_perm _ _).nodup_iff.mpr (dedS_nodup _)
theorem letsD_nodup (ds : List PyData) : (letsD ds).Nodup := setS_nodup _
theorem walk_lets : ∀ {n : Nat} {d : PyData}, Drawn n d → ∀ {m : Nat} {z : Str}, PyData.str z ∈ walkD m d → isLetS z = true := by
  intro n
  induction n with
  | zero =>
    intro d hd m z hz
    rw [walk_zero hd] at hz
    rw [← List.mem_singleton.mp hz] at hd
    exact hd
  | succ n ih =>
    intro d hd m z hz
    match m with
    | 0 =>
      rw [← List.mem_singleton.mp (show PyData.str z ∈ [d] from hz)] at hd
      rcases drawn_shape hd with ⟨y, e, h⟩ | ⟨o, ps, k, e, _⟩
      · cases e; exact h
      · cases e
    | m + 1 =>
      rcases drawn_shape hd with ⟨y, rfl, h⟩ | ⟨o, ps, k, rfl, _, _, _, hk, hps⟩
      · rcases List.mem_cons.mp (show PyData.str z ∈ .str y :: (partsD (.str y)).flatMap (walkD m) from hz) with e | hz
        · cases e; exact h
        · obtain ⟨p, hp, _⟩ := List.mem_flatMap.mp hz
          cases hp
      · rcases List.mem_cons.mp (show PyData.str z ∈ .tuple (.str o :: ps) :: (partsD (.tuple (.str o :: ps))).flatMap (walkD m) from hz) with e | hz
        · cases e
        · obtain ⟨p, hp, hz⟩ := List.mem_flatMap.mp hz
          exact ih (by have := hps p hp; rwa [show k = n by omega] at this) hz
theorem walk_fuel : ∀ {n : Nat} {d : PyData}, Drawn n d → ∀ {m k : Nat}, n ≤ m → n ≤ k → walkD m d = walkD k d := by
  intro n
  induction n with
  | zero => intro d h m k _ _; rw [walk_zero h, walk_zero h]
  | succ n ih =>
    intro d h m k hm hk
    match m, k, hm, hk with
    | m + 1, k + 1, hm, hk =>
      show d :: (partsD d).flatMap (walkD m) = d :: (partsD d).flatMap (walkD k)
      congr 1
      have : ∀ l : List PyData, (∀ p ∈ l, Drawn n p) → l.flatMap (walkD m) = l.flatMap (walkD k) := fun l => by
        induction l with
        | nil => intro _; rfl
        | cons p l ih2 =>
          intro hl
          rw [List.flatMap_cons, List.flatMap_cons, ih (hl p List.mem_cons_self) (m := m) (k := k) (by omega) (by omega), ih2 fun q hq => hl q (List.mem_cons_of_mem _ hq)]
      exact this _ fun p hp => parts_drawn h hp
theorem sub_lenG' {α : Type} [DecidableEq α] : ∀ (l D : List α), l.Nodup → (∀ x ∈ l, x ∈ D) → l.length ≤ D.length
  | [], _, _, _ => Nat.zero_le _
  | x :: l, D, nd, h => by
    obtain ⟨h1, h2⟩ := List.nodup_cons.mp nd
    have hx := h x List.mem_cons_self
    have := sub_lenG' l (D.erase x) h2 fun y hy => (List.mem_erase_of_ne (fun e : y = x => h1 (e ▸ hy))).mpr (h y (List.mem_cons_of_mem _ hy))
    rw [List.length_erase_of_mem hx] at this
    have hp : 0 < D.length := List.length_pos_of_mem hx
    rw [List.length_cons]
    omega
theorem lets_few {zs : List Str} (nd : zs.Nodup) (h : ∀ z ∈ zs, isLetS z = true) : zs.length ≤ 8 := by
  have := sub_lenG' zs (lettersS.cps.toList.map fun c => (⟨#[c]⟩ : Str)) nd fun z hz => by
    obtain ⟨c, e, hc⟩ := let_shape (show isLet (.str z) = true from h z hz)
    cases e
    exact List.mem_map.mpr ⟨c, hc, rfl⟩
  rwa [List.length_map, lettersS_val] at this
theorem lett_8 {n m : Nat} {d : PyData} (h : Drawn n d) : (lettersT m d).length ≤ 8 := lets_few (setS_nodup _) fun z hz => walk_lets h (strsOf_mem.mp (setS_mem.mp hz))
section
variable {P : Program} {w : World} {K : PySem.W.Frag} {mg : Str → Option Value} {base : Heap}
def spAllSignsW (K : PySem.W.Frag) : Sp := fun vs H Q _ => ∃ (a : Addr) (us : List V) (ds : List PyData), vs = [.ref a] ∧ SqL K H a us ∧ TpAll K H us ds ∧ (∀ d ∈ ds, Drawn 4 d ∧ meas 9 d ≤ 400) ∧ ds.length ≤ 100 ∧ ∀ p H', Same H H' → H p = none → H' p = some (.lst ((letsD ds).map V.str)) → Q (.ref p) H'
theorem ok_all_signsW {f : Addr} {fd : FuncData} (F : FunD K "_law_all_signs" "_law_all_signs" (defArgs s_law_all_signs) (defBody s_law_all_signs) (defScope s_law_all_signs) [] [] f fd) (hm : mg "_law_all_signs" = some (.ref f)) (T : Top K mg)
    (D_law_signs_in : Def P w K mg base "_law_signs_in" 12 ["_law_word"] (spLets K)) : Def P w K mg base "_law_all_signs" 13 ["_law_some"] (spAllSignsW K) := by
  refine def_mk F hm (F.bindsN fun _ _ _ _ _ _ us hl => match us, hl with | [_], _ => rfl) sc_law_all_signs (fun vs H Q E h => ?_) (fun cdv A outer s0 H vs Q E hr h => ?_)
  · obtain ⟨a, us, ds, rfl, _⟩ := h
    rfl
  obtain ⟨a, us, ds, rfl, ha, hw, hdr, h2, q⟩ := h
  have hul := hw.len
  have l400 : ∀ i, (((ds.take i).flatMap (lettersT 8))).length ≤ 800 := fun i => by
    have : ∀ l : List PyData, (∀ d ∈ l, Drawn 4 d ∧ meas 9 d ≤ 400) → (l.flatMap (lettersT 8)).length ≤ l.length * 8 := fun l => by
      induction l with
      | nil => intro _; exact Nat.zero_le _
      | cons d l ih =>
        intro h
        have h1 := ih fun x hx => h x (List.mem_cons_of_mem _ hx)
        have h2 := lett_8 (m := 8) (h d List.mem_cons_self).1
        rw [List.flatMap_cons, List.length_append, List.length_cons]
        omega
    have h4 := this (ds.take i) fun d hd => hdr d (List.mem_of_mem_take hd)
    have h3 : (ds.take i).length ≤ 100 := by rw [List.length_take]; omega
    omega
  refine ⟨_, (pss_cons (ps_set (i := 1) sc_law_all_signs.nd rfl (Or.inl rfl) (pe_lst pa_nil))
  (pss_cons (ps_for PassesOwn.never rfl (pi_listK K (pv 0)) (pg_name (i := 2) sc_law_all_signs.nd rfl (Or.inl rfl) (.inl rfl))
  (pss_one (ps_set (i := 1) sc_law_all_signs.nd rfl (Or.inl rfl) (pe_op op_cat (pv 1) (pe_def D_law_signs_in hr (by first | decide | omega) (pa_cons (pv 2) pa_nil))))))
  (pss_one (ps_ret (pe_callB (cr_sortedT rfl) (by rfl) T.b_sorted (by decide +kernel) (pa_cons (pe_callTy (cr_setS rfl) (by rfl) T.b_set (by decide +kernel) (pa_cons (pv 1) pa_nil)) pa_nil)))))), ?_⟩
  refine ⟨(by show 0 ≤ sizeLine; decide), fun p0 hp0 => ?_⟩
  have e0 := same_new hp0 (.lst [])
  refine ⟨_, rfl, a, rfl, ⟨us, up_l e0 ha⟩, ?_⟩
  refine for_list (xs := us) (fun i σ H' => ∃ (p : Addr) (o : Option V), σ = [some (.ref a), some (.ref p), o] ∧ Same H H' ∧ H' p = some (.lst (((ds.take i).flatMap (lettersT 8)).map V.str))) ⟨p0, _, rfl, e0, upd_same⟩ (fun i σ H' _ ⟨_, _, _, e, _⟩ => up_l e ha) ?_ ?_
  · rintro i x σ H1 hx ⟨p, o, rfl, e1, hp1⟩
    obtain ⟨d, hd1, hd2⟩ := hw.get hx
    have hd3 := hd2.up (Same.T e1)
    obtain ⟨hdd, hd400⟩ := hdr d (List.mem_of_getElem? hd1)
    refine ⟨_, rfl, _, rfl, x, d, 4, rfl, hd3, hdd, by decide, hd400, fun r H2 e2 _ hr2 => ?_⟩
    have e48 : lettersT 4 d = lettersT 8 d := by
      refine List.Perm.eq_of_pairwise (le := fun a b => leS a b = true) (fun a b _ _ h1 h2 => leS_antisymm h1 h2) (List.pairwise_mergeSort leS_trans leS_total _) (List.pairwise_mergeSort leS_trans leS_total _) ((List.perm_ext_iff_of_nodup (setS_nodup _) (setS_nodup _)).mpr fun z => ?_)
      show z ∈ setS (strsOf (walkD 5 d)) ↔ z ∈ setS (strsOf (walkD 9 d))
      rw [setS_mem, setS_mem, walk_fuel hdd (show 4 ≤ 5 by decide) (show 4 ≤ 9 by decide)]
    rw [e48] at hr2
    have hp2 := e2 _ _ hp1
    have l1 := l400 i
    have l2 := lett_8 (m := 8) hdd
    refine ⟨p, r, _, _, rfl, rfl, hp2, hr2, le_line (by rw [List.length_map, List.length_map]; omega), fun t ht => ?_⟩
    refine ⟨t, _, rfl, e1.trans (e2.trans (same_new ht _)), ?_⟩
    rw [upd_same, List.take_add_one, hd1, List.flatMap_append, List.map_append]
    show some (HO.lst (_ ++ (lettersT 8 d).map V.str)) = some (HO.lst (_ ++ (List.flatMap (lettersT 8) [d]).map V.str))
    rw [List.flatMap_cons, List.flatMap_nil, List.append_nil]
  · rintro σ H1 ⟨p, o, rfl, e1, hp1⟩
    rw [hul, List.take_length] at hp1
    have l1 := l400 ds.length
    rw [List.take_length] at l1
    refine ⟨_, rfl, p, _, rfl, SqL.of hp1, by omega, fun S n hS hn => ?_⟩
    refine ⟨S, _, n, rfl, upd_same, fun ys t nd hmem _ hs ht => ?_⟩
    have ey : ys = letsD ds := setS_of nd (fun k => by rw [hmem k, decide_eq_true_eq]) hs
    subst ey
    have e2 := e1.trans (same_new hS (SetTO w S (fun j => decide (j ∈ ds.flatMap (lettersT 8))) n))
    exact q t _ (e2.trans (same_new ht _)) (new_none e2 ht) upd_same
end
end FF
/-! _law_same of lists of cases -/
namespace FF
open PySem PySem.Spec PyProof.Rows L2
theorem dp_strsC {K : PySem.W.Frag} {H : Hp} : ∀ zs : List Str, DpAll K H (zs.map V.str) (zs.map PyData.str)
  | [] => .nil
  | _ :: r => .cons (.str _) (dp_strsC r)
theorem lets_niceC {zs : List Str} (h : ∀ z ∈ zs, isLetS z = true) (hl : zs.length ≤ 1000) : Nice 1 (.list (zs.map PyData.str)) := Nice.list (by rw [List.length_map]; omega) fun d hd => by
  obtain ⟨z, hz, rfl⟩ := List.mem_map.mp hd
  exact ⟨let_nice (h z hz), by rw [PyData.depth]; exact Nat.le_refl _⟩
theorem lock_sameC {H H2 : Hp} {c : Addr} {u : HO} {od : Obj} (hc : H c = some u) (e : Same (upd H c (.frz od u)) H2) : Same H (upd H2 c u) := fun x o hx => by
  by_cases h : x = c
  · subst h
    rw [upd_same]
    exact hc.symm.trans hx
  · rw [upd_ne h]
    exact e x o (by rw [upd_ne h]; exact hx)
/-- a dict of letters with truth values -/
structure BoolK (kvs : List (Key × V)) : Prop where
  keys : ∃ ks : List Str, kvs.map (·.1) = ks.map Sum.inr ∧ (∀ z ∈ ks, isLetS z = true) ∧ ks.Nodup
  vals : ∀ p ∈ kvs, ∃ b, p.2 = V.bl b
  few : kvs.length ≤ 900
def spSame0 (K : PySem.W.Frag) : Sp := fun vs H Q _ => ∃ b : Bool, vs = [.bl b, .bl b] ∧ Q (.bl true) H
def spSame1 (K : PySem.W.Frag) : Sp := fun vs H Q _ => ∃ (c c' : Addr) (kvs : List (Key × V)), vs = [.ref c, .ref c'] ∧ H c = some (.dK kvs) ∧ H c' = some (.dK kvs) ∧ BoolK kvs ∧ ∀ H', Same H H' → Q (.bl true) H'
def spSame2 (K : PySem.W.Frag) : Sp := fun vs H Q _ => ∃ (a a' : Addr) (xs ys : List V), vs = [.ref a, .ref a'] ∧ H a = some (.lst xs) ∧ H a' = some (.lst ys) ∧ xs.length = ys.length ∧ xs.length ≤ 9000 ∧ (∀ (i : Nat) (x y : V), xs[i]? = some x → ys[i]? = some y → ∃ c c' kvs, x = .ref c ∧ y = .ref c' ∧ H c = some (.dK kvs) ∧ H c' = some (.dK kvs) ∧ BoolK kvs) ∧ ∀ H', Same H H' → Q (.bl true) H'
theorem boolK_sorted {ks ys ys' : List Str} (h1 : ys.Perm ks) (h2 : ys'.Perm ks) (s1 : sortedS ys = true) (s2 : sortedS ys' = true) : ys = ys' := (sort_eq h1 s1).trans (sort_eq h2 s2).symm
section
variable {P : Program} {w : World} {K : PySem.W.Frag} {mg : Str → Option Value} {base : Heap}
theorem same_no {f : Addr} {fd : FuncData} (F : FunD K "_law_same" "_law_same" (defArgs s_law_same) (defBody s_law_same) (defScope s_law_same) [] [] f fd) (hm : mg "_law_same" = some (.ref f)) : Def P w K mg base "_law_same" 0 ["_law_found", "_law_due"] (fun _ _ _ _ => False) :=
  def_none F hm (F.bindsN fun _ _ _ _ _ _ us hl => match us, hl with | [_, _], _ => rfl) fun _ _ _ _ h => h
theorem ok_same0 {f : Addr} {fd : FuncData} (F : FunD K "_law_same" "_law_same" (defArgs s_law_same) (defBody s_law_same) (defScope s_law_same) [] [] f fd) (hm : mg "_law_same" = some (.ref f)) (T : Top K mg) : Def P w K mg base "_law_same" 1 ["_law_found", "_law_due"] (spSame0 K) := by
  have D_law_same : Def P w K mg base "_law_same" 0 ["_law_found", "_law_due"] (fun _ _ _ _ => False) := same_no F hm
  refine def_mk F hm (F.bindsN fun _ _ _ _ _ _ us hl => match us, hl with | [_, _], _ => rfl) sc_law_same (fun vs H Q E h => ?_) (fun cdv A outer s H vs Q E hr h => ?_)
  · obtain ⟨b, rfl, _⟩ := h
    rfl
  obtain ⟨b, rfl, q⟩ := h
  have hsh : SeqAt.shaped (.bool b) = true := by cases b <;> decide +kernel
  have heq : Q (.bl (PyData.eqv (.bool b) (.bool b))) H := qb q (SeqAt.eqv_refl _ (SeqAt.canLay_of_shaped hsh)).symm
  refine ⟨_, (pss_cons (ps_if (PW.pt (pw_or (pt_cmp (pc_isN (pv 1)) (by rfl)) (pw_or1 (pt_cmp (pc_isN (pv 0)) (by rfl)))))
  (pss_one (ps_ret (pe_and (pe_cmp (pc_isN (pv 1)) (by rfl)) (pe_one (pe_cmp (pc_isN (pv 0)) (by rfl))))))
  pss_nil)
  (pss_cons (ps_if (PW.pt (pw_or (pt_val (pe_callB (call_isC K kb_bool) (by rfl) T.b_isinstance (by decide +kernel) (pa_cons (pv 1) (pa_cons (pe_bltn (v := .ty "bool") (by rfl) T.b_bool (by decide +kernel) rfl) pa_nil)))) (pw_or1 (pt_val (pe_callB (call_isC K kb_bool) (by rfl) T.b_isinstance (by decide +kernel) (pa_cons (pv 0) (pa_cons (pe_bltn (v := .ty "bool") (by rfl) T.b_bool (by decide +kernel) rfl) pa_nil)))))))
  (pss_one (ps_ret (pe_and (pe_callB (call_isC K kb_bool) (by rfl) T.b_isinstance (by decide +kernel) (pa_cons (pv 1) (pa_cons (pe_bltn (v := .ty "bool") (by rfl) T.b_bool (by decide +kernel) rfl) pa_nil))) (pe_and (pe_callB (call_isC K kb_bool) (by rfl) T.b_isinstance (by decide +kernel) (pa_cons (pv 0) (pa_cons (pe_bltn (v := .ty "bool") (by rfl) T.b_bool (by decide +kernel) rfl) pa_nil))) (pe_one (pe_cmpR (op_eqK K hr.units) (pv 0) (pv 1) (nomark _)))))))
  pss_nil)
  (pss_cons (ps_if (PW.pt (pw_or (pt_val (pe_callB (call_isC K kb_int) (by rfl) T.b_isinstance (by decide +kernel) (pa_cons (pv 1) (pa_cons (pe_bltn (v := .ty "int") (by rfl) T.b_int (by decide +kernel) rfl) pa_nil)))) (pw_or1 (pt_val (pe_callB (call_isC K kb_str) (by rfl) T.b_isinstance (by decide +kernel) (pa_cons (pv 1) (pa_cons (pe_bltn (v := .ty "str") (by rfl) T.b_str (by decide +kernel) rfl) pa_nil)))))))
  (pss_one (ps_ret (pe_and (pe_cmpR op_eq (pe_callB (call_isC K kb_int) (by rfl) T.b_isinstance (by decide +kernel) (pa_cons (pv 0) (pa_cons (pe_bltn (v := .ty "int") (by rfl) T.b_int (by decide +kernel) rfl) pa_nil))) (pe_callB (call_isC K kb_int) (by rfl) T.b_isinstance (by decide +kernel) (pa_cons (pv 1) (pa_cons (pe_bltn (v := .ty "int") (by rfl) T.b_int (by decide +kernel) rfl) pa_nil))) (nomark _)) (pe_one (pe_cmpR (op_eqK K hr.units) (pv 0) (pv 1) (nomark _))))))
  pss_nil)
  (pss_cons (ps_if (pt_val (pe_callB (call_isC K kb_dict) (by rfl) T.b_isinstance (by decide +kernel) (pa_cons (pv 1) (pa_cons (pe_bltn (v := .ty "dict") (by rfl) T.b_dict (by decide +kernel) rfl) pa_nil))))
  (pss_cons (ps_if (PW.pt (pw_or (pt_not (pt_val (pe_callB (call_isC K kb_dict) (by rfl) T.b_isinstance (by decide +kernel) (pa_cons (pv 0) (pa_cons (pe_bltn (v := .ty "dict") (by rfl) T.b_dict (by decide +kernel) rfl) pa_nil))))) (pw_or1 (pt_cmpR (op_neK K hr.units) (pe_callB (cr_sortedDA rfl) (by rfl) T.b_sorted (by decide +kernel) (pa_cons (pv 0) pa_nil)) (pe_callB (cr_sortedDA rfl) (by rfl) T.b_sorted (by decide +kernel) (pa_cons (pv 1) pa_nil)) (nomark _)))))
  (pss_one (ps_ret pe_bl))
  pss_nil)
  (pss_one (ps_ret (pe_callB (cr_allK K rfl) (by rfl) T.b_all (by decide +kernel) (pa_cons (pe_lock (pe_lc (own := [("_law_key", 2)]) rfl sc_law_same.nd (pi_keys (pv 1)) (blkOk_by (by kernel_rfl)) (fun _ _ _ _ _ => (pg_name (i := 2) sc_law_same.nd rfl (Or.inl rfl) (.inr rfl))) (fun _ _ _ _ _ => pts_nil) (fun _ _ _ _ _ => (pe_def D_law_same hr (by first | decide | omega) (pa_cons (pe_dget (hu_of hr) (pv 0) (pv 2) (fun _ _ => rfl)) (pa_cons (pe_dget (hu_of hr) (pv 1) (pv 2) (fun _ _ => rfl)) pa_nil)))))) pa_nil)))))
  pss_nil)
  (pss_cons (ps_if (PW.pt (pw_or (pt_cmpR op_ne (pe_callB (call_isC K kb_lst) (by rfl) T.b_isinstance (by decide +kernel) (pa_cons (pv 0) (pa_cons (pe_bltn (v := .ty "list") (by rfl) T.b_list (by decide +kernel) rfl) pa_nil))) (pe_callB (call_isC K kb_lst) (by rfl) T.b_isinstance (by decide +kernel) (pa_cons (pv 1) (pa_cons (pe_bltn (v := .ty "list") (by rfl) T.b_list (by decide +kernel) rfl) pa_nil))) (nomark _)) (pw_or1 (pt_cmpR op_ne (pe_callB (call_isC K kb_tup) (by rfl) T.b_isinstance (by decide +kernel) (pa_cons (pv 0) (pa_cons (pe_bltn (v := .ty "tuple") (by rfl) T.b_tuple (by decide +kernel) rfl) pa_nil))) (pe_callB (call_isC K kb_tup) (by rfl) T.b_isinstance (by decide +kernel) (pa_cons (pv 1) (pa_cons (pe_bltn (v := .ty "tuple") (by rfl) T.b_tuple (by decide +kernel) rfl) pa_nil))) (nomark _)))))
  (pss_one (ps_ret pe_bl))
  pss_nil)
  (pss_one (ps_ret (pe_and (pe_cmpR op_eq (pe_callB (call_lenK K) (by rfl) T.b_len (by decide +kernel) (pa_cons (pv 0) pa_nil)) (pe_callB (call_lenK K) (by rfl) T.b_len (by decide +kernel) (pa_cons (pv 1) pa_nil)) (nomark _)) (pe_one (pe_callB (cr_allK K rfl) (by rfl) T.b_all (by decide +kernel) (pa_cons (pe_lc (own := [("_law_one", 3), ("_law_other", 4)]) rfl sc_law_same.nd (pi_zipK K (by rfl) T.b_zip (pa_cons (pv 0) (pa_cons (pv 1) pa_nil))) (blkOk_by (by kernel_rfl)) (fun _ _ _ _ _ => (pg_tupK K (n := 2) rfl (pgs_cons (pg_name (i := 3) sc_law_same.nd rfl (Or.inl rfl) (.inr rfl)) (pgs_cons (pg_name (i := 4) sc_law_same.nd rfl (Or.inl rfl) (.inr rfl)) pgs_nil)))) (fun _ _ _ _ _ => pts_nil) (fun _ _ _ _ _ => (pe_def D_law_same hr (by first | decide | omega) (pa_cons (pv 3) (pa_cons (pv 4) pa_nil))))) pa_nil))))))))))), ?_⟩
  exact ⟨_, rfl, _, rfl, _, rfl, _, rfl, _, rfl, .inl ⟨_, _, rfl, .bl b, _, rfl, _, rfl, .inl ⟨_, _, rfl, .bl b, _, rfl, _, rfl, .inl ⟨_, _, rfl, .bl b, _, rfl, _, rfl, _, rfl, _, _, .bl b, .bl b, hsh, hsh, heq⟩⟩⟩⟩
end
end FF
/-! _law_cases: all cases of some letters, in order -/
namespace FF
open PySem PySem.Spec PyProof.Rows L2
theorem bitsN_snoc : ∀ (n m : Nat), bitsN (n + 1) m = bitsN n (m / 2) ++ [m.testBit 0]
  | 0, _ => rfl
  | n + 1, m => by
    show m.testBit (n + 1) :: bitsN (n + 1) m = ((m / 2).testBit n :: bitsN n (m / 2)) ++ [m.testBit 0]
    rw [bitsN_snoc n m, Nat.testBit_succ] <;> rfl
theorem prN_snoc (us : List Str) (z : Str) (m : Nat) : prN (us ++ [z]) m = prN us (m / 2) ++ [(z, m.testBit 0)] := by
  unfold prN
  rw [List.length_append, List.length_singleton, bitsN_snoc, List.zip_append (by rw [bitsN_len])] <;> rfl
def spLawCases (K : PySem.W.Frag) : Sp := fun vs H Q _ => ∃ (a : Addr) (zs : List Str), vs = [.ref a] ∧ SqL K H a (zs.map V.str) ∧ zs.length ≤ 8 ∧ ∀ p ys H', Same H H' → H p = none → H' p = some (.lst ys) → CasL zs H' (List.range (2 ^ zs.length)) ys → Q (.ref p) H'
section
variable {P : Program} {w : World} {K : PySem.W.Frag} {mg : Str → Option Value} {base : Heap}
theorem ok_law_cases {f : Addr} {fd : FuncData} (F : FunD K "_law_cases" "_law_cases" (defArgs s_law_cases) (defBody s_law_cases) (defScope s_law_cases) [] [] f fd) (hm : mg "_law_cases" = some (.ref f)) (T : Top K mg) : Def P w K mg base "_law_cases" 1 ["_law_signs_here"] (spLawCases K) := by
  refine def_mk F hm (F.bindsN fun _ _ _ _ _ _ us hl => match us, hl with | [_], _ => rfl) sc_law_cases (fun vs H Q E h => ?_) (fun cdv A outer s H vs Q E hr h => ?_)
  · obtain ⟨a, zs, rfl, _⟩ := h
    rfl
  obtain ⟨a, zs, rfl, ha, h8, q⟩ := h
  refine ⟨_, (pss_cons (ps_set (i := 1) sc_law_cases.nd rfl (Or.inl rfl) (pe_lst (pa_cons pe_dnewK pa_nil)))
  (pss_cons (ps_for PassesOwn.never rfl (pi_listK K (pv 0)) (pg_name (i := 2) sc_law_cases.nd rfl (Or.inl rfl) (.inl rfl))
  (pss_cons (ps_set (i := 3) sc_law_cases.nd rfl (Or.inl rfl) (pe_lst pa_nil))
  (pss_cons (ps_for PassesOwn.never rfl (pi_listK K (pv 1)) (pg_name (i := 4) sc_law_cases.nd rfl (Or.inl rfl) (.inl rfl))
  (pss_one (ps_for PassesOwn.never rfl (pi_tupK K (pe_tup (pa_cons pe_bl (pa_cons pe_bl pa_nil)))) (pg_name (i := 5) sc_law_cases.nd rfl (Or.inl rfl) (.inl rfl))
  (pss_cons (ps_set (i := 6) sc_law_cases.nd rfl (Or.inl rfl) (pe_callTy call_dictD (by rfl) T.b_dict (by decide +kernel) (pa_cons (pv 4) pa_nil)))
  (pss_cons (ps_dput (hu_of hr) (pv 6) (pv 2) (pv 5) (by rfl))
  (pss_one (ps_expr (pe_bmK K PySem.F.plainAttrs_list PySem.F.slot_list_append PySem.F.type_list_append mt_append (pv 3) (pa_cons (pv 6) pa_nil)))))))))
  (pss_one (ps_set (i := 1) sc_law_cases.nd rfl (Or.inl rfl) (pv 3))))))
  (pss_one (ps_ret (pv 1))))), ?_⟩
  refine fun c0 hc0 => ⟨(by show 1 ≤ sizeLine; decide), fun p0 hp0 => ?_⟩
  have e0 := (same_new hc0 (.dK [])).trans (same_new hp0 (.lst [.ref c0]))
  have hc00 : (upd (upd H c0 (.dK [])) p0 (.lst [.ref c0])) c0 = some (.dK []) := same_new hp0 _ _ _ upd_same
  have hp00 : (upd (upd H c0 (.dK [])) p0 (.lst [.ref c0])) p0 = some (.lst [.ref c0]) := upd_same
  have hpn0 : H p0 = none := new_none (same_new hc0 (.dK [])) hp0
  generalize upd (upd H c0 (.dK [])) p0 (.lst [.ref c0]) = H0 at e0 hc00 hp00 ⊢
  refine ⟨_, rfl, a, rfl, ⟨_, up_l e0 ha⟩, ?_⟩
  refine for_list (xs := zs.map V.str) (fun i σ H' => ∃ p ys o2 o3 o4 o5 o6, σ = [some (.ref a), some (.ref p), o2, o3, o4, o5, o6] ∧ Same H H' ∧ H p = none ∧ H' p = some (.lst ys) ∧ CasL (zs.take i) H' (List.range (2 ^ i)) ys) ⟨p0, [.ref c0], _, _, _, _, _, rfl, e0, hpn0, hp00, ⟨rfl, fun i m h => ?_⟩⟩ (fun i σ H' _ ⟨_, _, _, _, _, _, _, _, e, _⟩ => up_l e ha) ?_ ?_
  · match i, h with
    | 0, h =>
      cases h
      exact ⟨c0, rfl, hc00⟩
    | i + 1, h => simp at h
  · rintro i x σ H1 hx ⟨p, ys, o2, o3, o4, o5, o6, rfl, e1, hpn, hp, hC⟩
    obtain ⟨z, hz, rfl⟩ := zs_get hx
    have hi := (List.getElem?_eq_some_iff.mp hz).1
    have htk : zs.take (i + 1) = zs.take i ++ [z] := by rw [List.take_add_one, hz] <;> rfl
    have h2i : 2 ^ i ≤ 2 ^ 7 := Nat.pow_le_pow_right (by decide) (by omega)
    refine ⟨(by show 0 ≤ sizeLine; decide), fun D hD => ?_⟩
    have eD := same_new hD (.lst [])
    have hDD : (upd H1 D (.lst [])) D = some (.lst []) := upd_same
    have hpD : p ≠ D := fun e => by rw [e, hD] at hp; cases hp
    have hDn := new_none e1 hD
    generalize upd H1 D (.lst []) = H2 at eD hDD ⊢
    have hp2 := eD _ _ hp
    have hC2 := hC.up eD
    have e12 := e1.trans eD
    have hyl : ys.length = 2 ^ i := by rw [hC.1, List.length_range]
    refine ⟨_, rfl, p, rfl, ⟨_, SqL.of hp2⟩, ?_⟩
    refine for_list (xs := ys) (fun j σ H' => ∃ ms o4 o5 o6, σ = [some (.ref a), some (.ref p), some (.str z), some (.ref D), o4, o5, o6] ∧ SameB D H2 H' ∧ H' D = some (.lst ms) ∧ CasL (zs.take (i + 1)) H' (List.range (2 * j)) ms) ⟨[], _, _, _, rfl, sameB_refl, hDD, CasL.nil⟩ (fun j σ H' _ ⟨_, _, _, _, _, eb, _⟩ => SqL.of (eb _ _ hpD hp2)) ?_ ?_
    · rintro j y σ H3 hy ⟨ms, o4, o5, o6, rfl, eb, hDm, hCm⟩
      have hj := (List.getElem?_eq_some_iff.mp hy).1
      obtain ⟨c, hyc, hc⟩ := hC2.2 j j (List.getElem?_range (by omega))
      obtain rfl : y = .ref c := Option.some.inj (hy.symm.trans hyc)
      have hcD : c ≠ D := fun e => by rw [e, hDD] at hc; cases hc
      have hc3 := eb _ _ hcD hc
      refine ⟨(by show 2 ≤ sizeLine; decide), fun t ht => ⟨t, rfl, ⟨_, SqT.of upd_same⟩, ?_⟩⟩
      have e4 := same_new ht (.tup [.bl false, .bl true])
      have ht4 : (upd H3 t (.tup [.bl false, .bl true])) t = some (.tup [.bl false, .bl true]) := upd_same
      generalize upd H3 t (.tup [.bl false, .bl true]) = H4 at e4 ht4 ⊢
      have hD4 := e4 _ _ hDm
      have htD : t ≠ D := fun e => by rw [e, hD4] at ht4; cases ht4
      have hc4 := e4 _ _ hc3
      have hC4 := hCm.up e4
      have hml : ms.length = 2 * j := by rw [hCm.1, List.length_range]
      refine for_tup (xs := [.bl false, .bl true]) (fun v σ H' => ∃ ms o5 o6, σ = [some (.ref a), some (.ref p), some (.str z), some (.ref D), some (.ref c), o5, o6] ∧ SameB D H4 H' ∧ H' D = some (.lst ms) ∧ CasL (zs.take (i + 1)) H' (List.range (2 * j + v)) ms) ⟨ms, _, _, rfl, sameB_refl, hD4, hC4⟩ (fun v σ H' _ ⟨_, _, _, _, eb, _⟩ => SqT.of (eb _ _ htD ht4)) ?_ ?_
      · rintro v x σ H5 hx ⟨ms, o5, o6, rfl, eb5, hD5, hC5⟩
        obtain ⟨b, rfl, hb⟩ : ∃ b, x = .bl b ∧ b = (2 * j + v).testBit 0 ∧ (2 * j + v) / 2 = j := by
          match v, hx with
          | 0, hx => cases hx; exact ⟨_, rfl, by rw [Nat.testBit_zero]; have : (2 * j + 0) % 2 = 0 := by omega
                                                 rw [this] <;> rfl, by omega⟩
          | 1, hx => cases hx; exact ⟨_, rfl, by rw [Nat.testBit_zero]; have : (2 * j + 1) % 2 = 1 := by omega
                                                 rw [this] <;> rfl, by omega⟩
          | v + 2, hx => simp at hx
        have hc5 := eb5 _ _ hcD hc4
        have hv : v < 2 := (List.getElem?_eq_some_iff.mp hx).1
        have hkl : (kvsL (prN (zs.take i) j)).length ≤ 8 := by
          have h1 := kvsL_len (prN (zs.take i) j)
          rw [prN_len, List.length_take] at h1
          omega
        refine ⟨_, rfl, c, _, rfl, .inl hc5, fun l hl => ?_⟩
        have lD : l ≠ D := fun e => by rw [e, hD5] at hl; cases hl
        have e6 := (same_new hl (.dK (kvsL (prN (zs.take i) j)))).trans (fun b u hb => hb)
        refine ⟨_, rfl, _, rfl, _, rfl, l, _, rfl, DPut.k (k := .inr z) upd_same (lt_line (by omega)), ?_⟩
        generalize hG : upd (upd H5 l (.dK (kvsL (prN (zs.take i) j)))) l (.dK (putK (kvsL (prN (zs.take i) j)) (.inr z) (.bl b))) = H6
        have s6 : Same H5 H6 := fun x u hxu => by
          rw [← hG]
          have : x ≠ l := fun e => by rw [e, hl] at hxu; cases hxu
          rw [upd_ne this, upd_ne this]
          exact hxu
        have hl6 : H6 l = some (.dK (kvsL (prN (zs.take (i + 1)) (2 * j + v)))) := by
          rw [← hG, upd_same, htk, prN_snoc, kvsL_snoc, hb.2, ← hb.1]
        have hD6 := s6 _ _ hD5
        have hml5 : ms.length = 2 * j + v := by rw [hC5.1, List.length_range]
        refine ⟨_, rfl, .inl ⟨rfl, _, SqL.of hD6⟩, _, rfl, D, ms, _, rfl, rfl, hD6, lt_line (by omega), ?_⟩
        have sB : SameB D H6 (upd H6 D (.lst (ms ++ [.ref l]))) := sameB_upd
        have hC6 := hC5.up s6
        refine ⟨_, _, _, rfl, (eb5.trans' (sameB_of s6)).trans' sB, upd_same, ?_⟩
        rw [← Nat.add_assoc, List.range_succ]
        refine CasL.snoc ⟨hC6.1, fun k m hm => ?_⟩ (by rw [upd_ne lD]; exact hl6)
        obtain ⟨c', h1, h2⟩ := hC6.2 k m hm
        exact ⟨c', h1, by rw [upd_ne (fun e => by rw [e, hD6] at h2; cases h2)]; exact h2⟩
      · rintro σ H5 ⟨ms, o5, o6, rfl, eb5, hD5, hC5⟩
        exact ⟨ms, _, _, _, rfl, eb.trans' ((sameB_of e4).trans' eb5), hD5, hC5⟩
    · rintro σ H3 ⟨ms, o4, o5, o6, rfl, eb, hDm, hCm⟩
      have e13 : Same H H3 := fun b u h => eb _ _ (fun e => by rw [e, hDn] at h; cases h) (e12 _ _ h)
      refine ⟨_, rfl, D, ms, _, _, _, _, _, rfl, e13, hDn, hDm, ?_⟩
      rw [Nat.pow_succ, Nat.mul_comm, ← hyl]
      exact hCm
  · rintro σ H1 ⟨p, ys, o2, o3, o4, o5, o6, rfl, e1, hpn, hp, hC⟩
    rw [List.length_map, List.take_length] at hC
    exact ⟨_, rfl, q p ys H1 e1 hpn hp hC⟩
end
end FF
/-! the letters of a question; a question with many letters (plain) -/
namespace FF
open PySem PySem.Spec PyProof.Rows L2
theorem walk_in {ws : List PyData} (par : ∀ d ∈ ws, ∀ p ∈ partsD d, p ∈ ws) : ∀ (n : Nat) {d : PyData}, d ∈ ws → ∀ x ∈ walkD n d, x ∈ ws
  | 0, d, h, x, hx => by rw [List.mem_singleton.mp hx]; exact h
  | n + 1, d, h, x, hx => by
    rcases List.mem_cons.mp (show x ∈ d :: (partsD d).flatMap (walkD n) from hx) with rfl | hx
    · exact h
    · obtain ⟨p, hp, hx⟩ := List.mem_flatMap.mp hx
      exact walk_in par n (par d h p hp) x hx
theorem zs_mem {prs : Prs} (h : PrOk prs) {z : Str} : z ∈ strsOf (vocD prs) ↔ PyData.str z ∈ wordsOf prs := strsOf_mem.trans (voc_mem h)
theorem zs_asc (prs : Prs) : (strsOf (vocD prs)).Pairwise fun a b => leS a b = true := by
  refine (byText_asc (textD 5) (wordsOf prs)).filterMap _ fun a a' hr b hb b' hb' => ?_
  cases a with
  | str x =>
    cases a' with
    | str y =>
      cases hb
      cases hb'
      exact hr
    | _ => cases hb'
  | _ => cases hb
theorem zs_nd (prs : Prs) : (strsOf (vocD prs)).Nodup := strs_nodup (byText_nodup _ _)
theorem zs_eq {prs : Prs} (h : PrOk prs) {ys : List Str} (nd : ys.Nodup) (as : ys.Pairwise fun a b => leS a b = true) (m : ∀ z, z ∈ ys ↔ PyData.str z ∈ wordsOf prs) : ys = strsOf (vocD prs) :=
  List.Perm.eq_of_pairwise (le := fun a b => leS a b = true) (fun a b _ _ h1 h2 => leS_antisymm h1 h2) as (zs_asc prs) ((List.perm_ext_iff_of_nodup nd (zs_nd prs)).mpr fun z => (m z).trans (zs_mem h).symm)
theorem lets_asc (ds : List PyData) : (letsD ds).Pairwise fun a b => leS a b = true := List.pairwise_mergeSort leS_trans leS_total _
theorem lets_voc {prs : Prs} (h : PrOk prs) : letsD (vocD prs) = strsOf (vocD prs) := by
  refine zs_eq h (letsD_nodup _) (lets_asc _) fun z => ?_
  rw [letsD_mem]
  exact ⟨fun ⟨d, hd, hz⟩ => walk_in (fun d hd p hp => words_part h hd hp) 9 ((voc_mem h).mp hd) _ hz, fun hz => ⟨_, (voc_mem h).mpr hz, walk_self 8 _⟩⟩
theorem lets_pair {l r : PyData} (hl : Drawn 4 l) (hr : Drawn 4 r) : letsD [l, r] = strsOf (vocD [(r, l)]) := by
  have ok : PrOk [(r, l)] := ⟨by simp, fun p hp => by rw [List.mem_singleton.mp hp]; exact ⟨hr, hl⟩⟩
  refine zs_eq ok (letsD_nodup _) (lets_asc _) fun z => ?_
  rw [letsD_mem]
  have e : wordsOf [(r, l)] = walkD 5 r ++ walkD 5 l := by
    unfold wordsOf
    rw [List.flatMap_cons, List.flatMap_nil, List.append_nil]
  rw [e, List.mem_append, ← walk_fuel (m := 9) hr (by decide) (by decide), ← walk_fuel (m := 9) hl (by decide) (by decide)]
  simp only [List.mem_cons, List.not_mem_nil, or_false, exists_eq_or_imp, exists_eq_left]
  exact Or.comm
/-! ### sizes -/
theorem sum_mem {f : PyData → Int} : ∀ {l : List PyData} {p : PyData}, p ∈ l → (∀ q ∈ l, 0 ≤ f q) → f p ≤ (l.map f).sum
  | x :: r, p, hp, h => by
    rw [List.map_cons, List.sum_cons]
    have h1 := h x List.mem_cons_self
    have h2 : 0 ≤ (r.map f).sum := by
      have : ∀ l : List PyData, (∀ q ∈ l, 0 ≤ f q) → 0 ≤ (l.map f).sum := fun l => by
        induction l with
        | nil => intro _; simp
        | cons y l ih =>
          intro h
          rw [List.map_cons, List.sum_cons]
          have a := h y List.mem_cons_self
          have b := ih fun q hq => h q (List.mem_cons_of_mem _ hq)
          omega
      exact this r fun q hq => h q (List.mem_cons_of_mem _ hq)
    rcases List.mem_cons.mp hp with rfl | hp
    · omega
    · have := sum_mem hp fun q hq => h q (List.mem_cons_of_mem _ hq)
      omega
theorem meas_walk : ∀ (m : Nat) {n : Nat} {x y : PyData}, Drawn n x → n < 9 → y ∈ walkD m x → meas 9 y ≤ meas 9 x
  | 0, n, x, y, _, _, hy => by rw [List.mem_singleton.mp hy]; exact Int.le_refl _
  | m + 1, n, x, y, hx, hn, hy => by
    rcases List.mem_cons.mp (show y ∈ x :: (partsD x).flatMap (walkD m) from hy) with rfl | hy
    · exact Int.le_refl _
    obtain ⟨p, hp, hyw⟩ := List.mem_flatMap.mp hy
    match n, hx, hn with
    | 0, hx, _ =>
      rw [let_parts hx] at hp
      cases hp
    | n + 1, .inl hx, _ =>
      rw [let_parts hx] at hp
      cases hp
    | n + 1, .inr ⟨o, ps, e, ho, h2, h8, hps⟩, hn =>
      subst e
      have hp : p ∈ ps := hp
      have h1 := meas_walk m (hps p hp) (by omega) hyw
      rw [meas_tup (by decide) ho h2 fun q hq => (meas_drawn (hps q hq) 8 (by omega)).1]
      have h3 := sum_mem (f := meas 8) hp fun q hq => by
        have := (meas_drawn (hps q hq) 8 (by omega)).1
        omega
      have h4 : meas 9 p = meas 8 p := (lea_meas (hps p hp) 9 (by omega)).symm.trans (lea_meas (hps p hp) 8 (by omega))
      omega
theorem side_9 {d : PyData} (h : SideD d) : meas 9 d ≤ 24 := by
  have : meas 9 d = meas 5 d := (lea_meas h.1 9 (by decide)).symm.trans (lea_meas h.1 5 (by decide))
  rw [this]
  exact h.2
theorem words_9 {prs : Prs} (h : ∀ p ∈ prs, SideD p.1 ∧ SideD p.2) : ∀ d ∈ wordsOf prs, meas 9 d ≤ 24 := fun d hd => by
  obtain ⟨p, hp, hd⟩ := List.mem_flatMap.mp hd
  obtain ⟨h1, h2⟩ := h p hp
  rcases List.mem_append.mp hd with hd | hd
  · exact Int.le_trans (meas_walk 5 h1.1 (by decide) hd) (side_9 h1)
  · exact Int.le_trans (meas_walk 5 h2.1 (by decide) hd) (side_9 h2)
theorem prs_sides {ds : List PyData} {g : PyData} (h : ∀ d ∈ ds, GoodR d) (hg : GoodG g) : ∀ p ∈ prsOf ds g, SideD p.1 ∧ SideD p.2 := fun p hp => by
  rcases List.mem_append.mp hp with hp | hp
  · obtain ⟨d, hd, rfl⟩ := List.mem_map.mp hp
    obtain ⟨nm, l, r, rfl, _, h1, h2⟩ := h d hd
    exact ⟨h1, h2⟩
  · obtain ⟨l, r, rfl, h1, h2⟩ := hg
    rw [List.mem_singleton.mp (show p ∈ [(l, r)] from hp)]
    exact ⟨h1, h2⟩
/-! ### many letters -/
def opT (o : Str) (zs : List Str) : PyData := .tuple (.str o :: zs.map .str)
theorem sum_ones {k : Nat} (hk : 0 < k) : ∀ {zs : List Str}, (∀ z ∈ zs, isLetS z = true) → ((zs.map PyData.str).map (meas k)).sum = (zs.length : Int)
  | [], _ => rfl
  | z :: r, h => by
    have h1 : meas k (.str z) = 1 := by rw [meas_let (show isLet (.str z) = true from h z List.mem_cons_self), if_pos hk]
    rw [List.map_cons, List.map_cons, List.sum_cons, sum_ones hk fun y hy => h y (List.mem_cons_of_mem _ hy), h1, List.length_cons]
    omega
theorem op_side {o : Str} {zs : List Str} (ho : isOp (.str o) = true) (h2 : 2 ≤ zs.length) (h8 : zs.length ≤ 8) (hl : ∀ z ∈ zs, isLetS z = true) : SideD (opT o zs) := by
  refine ⟨.inr ⟨.str o, zs.map .str, rfl, ho, by rw [List.length_map]; exact h2, by rw [List.length_map]; exact h8, fun p hp => ?_⟩, ?_⟩
  · obtain ⟨z, hz, rfl⟩ := List.mem_map.mp hp
    exact .inl (hl z hz)
  · unfold opT
    rw [meas_tup (by decide) ho (by rw [List.length_map]; exact h2) fun p hp => ?_, sum_ones (by decide) hl]
    · omega
    · obtain ⟨z, hz, rfl⟩ := List.mem_map.mp hp
      rw [meas_let (show isLet (.str z) = true from hl z hz), if_pos (by decide)]
      exact Int.le_refl _
theorem let_sideL {z : Str} (h : isLetS z = true) : SideD (.str z) := ⟨.inl h, by rw [meas_let (show isLet (.str z) = true from h)]; decide⟩
theorem walk_str (n : Nat) (z : Str) : walkD (n + 1) (.str z) = [.str z] := rfl
theorem walk_strs (n : Nat) : ∀ zs : List Str, (zs.map PyData.str).flatMap (walkD (n + 1)) = zs.map PyData.str
  | [] => rfl
  | z :: r => by rw [List.map_cons, List.flatMap_cons, walk_strs n r, walk_str] <;> rfl
theorem walk_op (o : Str) (zs : List Str) : walkD 5 (opT o zs) = opT o zs :: zs.map PyData.str := by
  show opT o zs :: (zs.map PyData.str).flatMap (walkD 4) = _
  rw [walk_strs 3]
def wideR (w0 w1 w2 w3 w4 w5 : Str) : List PyData := [.tuple [.str "p", .str w0, opT "|" [w1, w2]], .tuple [.str "q", opT "&" [w3, w4], .str w5]]
def wideG (w0 w3 : Str) (ws : List Str) : PyData := .tuple [opT "|" [w0, w3], opT "&" ws]
section
variable {w0 w1 w2 w3 w4 w5 : Str} {rest : List Str}
theorem wide_words : wordsOf (prsOf (wideR w0 w1 w2 w3 w4 w5) (wideG w0 w3 (w0 :: w1 :: w2 :: w3 :: w4 :: w5 :: rest))) =
    [.str w0, opT "|" [w1, w2], .str w1, .str w2, opT "&" [w3, w4], .str w3, .str w4, .str w5, opT "|" [w0, w3], .str w0, .str w3] ++ (opT "&" (w0 :: w1 :: w2 :: w3 :: w4 :: w5 :: rest) :: (w0 :: w1 :: w2 :: w3 :: w4 :: w5 :: rest).map .str) := by
  show (walkD 5 (.str w0) ++ walkD 5 (opT "|" [w1, w2])) ++ ((walkD 5 (opT "&" [w3, w4]) ++ walkD 5 (.str w5)) ++ ((walkD 5 (opT "|" [w0, w3]) ++ walkD 5 (opT "&" (w0 :: w1 :: w2 :: w3 :: w4 :: w5 :: rest))) ++ [])) = _
  rw [walk_op, walk_op, walk_op, walk_op, walk_str, walk_str]
  simp only [List.cons_append, List.nil_append, List.append_assoc, List.append_nil, List.map_cons, List.map_nil]
theorem wide_goodR (hl : ∀ z ∈ w0 :: w1 :: w2 :: w3 :: w4 :: w5 :: rest, isLetS z = true) : ∀ d ∈ wideR w0 w1 w2 w3 w4 w5, GoodR d := fun d hd => by
  simp only [List.mem_cons, forall_eq_or_imp] at hl
  obtain ⟨h0, h1, h2, h3, h4, h5, _⟩ := hl
  unfold wideR at hd
  simp only [List.mem_cons, List.not_mem_nil, or_false] at hd
  rcases hd with rfl | rfl
  · exact ⟨_, _, _, rfl, by decide +kernel, let_sideL h0, op_side (by decide +kernel) (by simp) (by simp) fun z hz => by
      simp only [List.mem_cons, List.not_mem_nil, or_false] at hz
      rcases hz with rfl | rfl <;> assumption⟩
  · exact ⟨_, _, _, rfl, by decide +kernel, op_side (by decide +kernel) (by simp) (by simp) (fun z hz => by
      simp only [List.mem_cons, List.not_mem_nil, or_false] at hz
      rcases hz with rfl | rfl <;> assumption), let_sideL h5⟩
theorem wide_nd : ((wideR w0 w1 w2 w3 w4 w5).map nameOf).Nodup := by
  show [("p" : Str), "q"].Nodup
  decide +kernel
theorem wide_goodG (hl : ∀ z ∈ w0 :: w1 :: w2 :: w3 :: w4 :: w5 :: rest, isLetS z = true) (hr : rest.length ≤ 2) : GoodG (wideG w0 w3 (w0 :: w1 :: w2 :: w3 :: w4 :: w5 :: rest)) :=
  ⟨_, _, rfl, op_side (by decide +kernel) (by simp) (by simp) (fun z hz => by
    simp only [List.mem_cons, List.not_mem_nil, or_false] at hz
    rcases hz with rfl | rfl
    · exact hl _ List.mem_cons_self
    · exact hl _ (by simp)), op_side (by decide +kernel) (by simp) (by simp; omega) hl⟩
theorem wide_few (hr : rest.length ≤ 2) : (vocD (prsOf (wideR w0 w1 w2 w3 w4 w5) (wideG w0 w3 (w0 :: w1 :: w2 :: w3 :: w4 :: w5 :: rest)))).length ≤ 24 := by
  unfold vocD
  rw [byText_len]
  have h1 : (dictT (textD 5) (wordsOf (prsOf (wideR w0 w1 w2 w3 w4 w5) (wideG w0 w3 (w0 :: w1 :: w2 :: w3 :: w4 :: w5 :: rest))))).length ≤ 0 + _ := dict_len (f := textD 5) _ []
  rw [wide_words] at h1 ⊢
  simp only [List.length_append, List.length_cons, List.length_nil, List.length_map] at h1
  omega
theorem wide_zs {ys : List Str} (hl : ∀ z ∈ w0 :: w1 :: w2 :: w3 :: w4 :: w5 :: rest, isLetS z = true) (hr : rest.length ≤ 2) (nd : ys.Nodup) (as : ys.Pairwise fun a b => leS a b = true) (hp : ∀ z, z ∈ ys ↔ z ∈ w0 :: w1 :: w2 :: w3 :: w4 :: w5 :: rest) :
    ys = zsG (wideR w0 w1 w2 w3 w4 w5) (wideG w0 w3 (w0 :: w1 :: w2 :: w3 :: w4 :: w5 :: rest)) := by
  refine zs_eq (good_pairs (wide_goodR hl) (by simp [wideR]) (wide_goodG hl hr)) nd as fun z => ?_
  rw [hp, wide_words]
  simp only [List.mem_append, List.mem_cons, List.not_mem_nil, or_false, opT, PyData.str.injEq, reduceCtorEq, false_or, List.map_cons, List.mem_map]
  constructor
  · intro h
    right
    rcases h with h | h | h | h | h | h | h
    · exact .inl h
    · exact .inr (.inl h)
    · exact .inr (.inr (.inl h))
    · exact .inr (.inr (.inr (.inl h)))
    · exact .inr (.inr (.inr (.inr (.inl h))))
    · exact .inr (.inr (.inr (.inr (.inr (.inl h)))))
    · exact .inr (.inr (.inr (.inr (.inr (.inr ⟨z, h, rfl⟩)))))
  · rintro (h | h)
    · rcases h with h | h | h | h | h | h | h | h <;> simp [h]
    · rcases h with h | h | h | h | h | h | ⟨y, hy, rfl⟩
      · exact .inl h
      · exact .inr (.inl h)
      · exact .inr (.inr (.inl h))
      · exact .inr (.inr (.inr (.inl h)))
      · exact .inr (.inr (.inr (.inr (.inl h))))
      · exact .inr (.inr (.inr (.inr (.inr (.inl h)))))
      · exact .inr (.inr (.inr (.inr (.inr (.inr hy)))))
theorem put_map (f : Str → Bool) : ∀ {zs : List Str} (cm : Str → Option Bool), zs.Nodup → ∀ z, putAll cm zs (zs.map f) z = if z ∈ zs then some (f z) else cm z
  | [], cm, _, z => by
    unfold putAll
    rw [if_neg List.not_mem_nil]
  | y :: zr, cm, hd, z => by
    rw [List.map_cons]
    unfold putAll
    obtain ⟨h1, h2⟩ := List.nodup_cons.mp hd
    rw [put_map f _ h2]
    by_cases hz : z ∈ zr
    · rw [if_pos hz, if_pos (List.mem_cons_of_mem _ hz)]
    · rw [if_neg hz]
      unfold cmPut
      by_cases e : z = y
      · subst e
        rw [if_pos rfl, if_pos List.mem_cons_self]
      · rw [if_neg e, if_neg fun h => (List.mem_cons.mp h).elim e hz]
theorem ev_let {cm : Str → Option Bool} {n : Nat} {z : Str} : evD cm (n + 1) (.str z) = cm z := rfl
theorem wide_some {zs : List Str} (nz : zs.Nodup) (hp : ∀ z ∈ w0 :: w1 :: w2 :: w3 :: w4 :: w5 :: rest, z ∈ zs) (nd : (w0 :: w1 :: w2 :: w3 :: w4 :: w5 :: rest).Nodup) :
    ∃ m, m < 2 ^ zs.length ∧ counterB (wideR w0 w1 w2 w3 w4 w5) (wideG w0 w3 (w0 :: w1 :: w2 :: w3 :: w4 :: w5 :: rest)) (casN zs m) = true := by
  refine none_number ⟨zs.map fun z => decide (z = w3), List.length_map .., ?_⟩
  have hc : ∀ z ∈ w0 :: w1 :: w2 :: w3 :: w4 :: w5 :: rest, putAll (fun _ => none) zs (zs.map fun z => decide (z = w3)) z = some (decide (z = w3)) := fun z hz => by
    rw [put_map _ _ nz, if_pos (hp z hz)]
  generalize putAll (fun _ => none) zs (zs.map fun z => decide (z = w3)) = cm at hc ⊢
  have n0 : w0 ≠ w3 := fun e => by subst e; simp at nd
  have n4 : w4 ≠ w3 := fun e => by subst e; simp at nd
  have c0 : cm w0 = some false := (hc w0 (by simp)).trans (by rw [decide_eq_false n0])
  have c3 : cm w3 = some true := (hc w3 (by simp)).trans (by rw [decide_eq_true rfl])
  have c4 : cm w4 = some false := (hc w4 (by simp)).trans (by rw [decide_eq_false n4])
  unfold counterB
  show (brokB cm (opT "|" [w0, w3]) (opT "&" (w0 :: w1 :: w2 :: w3 :: w4 :: w5 :: rest)) && (keepB cm (.str w0) (opT "|" [w1, w2]) && (keepB cm (opT "&" [w3, w4]) (.str w5) && true))) = true
  have k1 : keepB cm (.str w0) (opT "|" [w1, w2]) = true := keep_iff.mpr (.inl (ev_let.trans c0))
  have k2 : keepB cm (opT "&" [w3, w4]) (.str w5) = true := keep_iff.mpr (.inl (by
    unfold opT
    rw [ev_amp]
    exact com_strong.mpr (List.mem_map.mpr ⟨.str w4, by simp, ev_let.trans c4⟩)))
  have k3 : brokB cm (opT "|" [w0, w3]) (opT "&" (w0 :: w1 :: w2 :: w3 :: w4 :: w5 :: rest)) = true := brok_iff.mpr ⟨by
    unfold opT
    rw [ev_bar]
    exact com_strong.mpr (List.mem_map.mpr ⟨.str w3, by simp, ev_let.trans c3⟩), by
    unfold opT
    rw [ev_amp]
    exact com_strong.mpr (List.mem_map.mpr ⟨.str w0, by simp, ev_let.trans c0⟩)⟩
  rw [k1, k2, k3] <;> rfl
end
/-! ### the last question -/
def lastG : PyData := .tuple [.str "h", .str "a"]
theorem last_good : GoodG lastG := ⟨_, _, rfl, let_sideL (by decide +kernel), let_sideL (by decide +kernel)⟩
theorem last_zs : zsG [] lastG = [("a" : Str), ("h" : Str)] := by
  refine (zs_eq (good_pairs (ds := []) (fun d hd => by cases hd) (by simp) last_good) (by decide +kernel) (by decide +kernel) fun z => ?_).symm
  show z ∈ [("a" : Str), "h"] ↔ PyData.str z ∈ [PyData.str "h", .str "a"]
  simp only [List.mem_cons, List.not_mem_nil, or_false, PyData.str.injEq]
  exact Or.comm
theorem last_ms : msG [] lastG = [1] := by
  unfold msG
  rw [last_zs]
  decide +kernel
theorem last_few : (vocD (prsOf [] lastG)).length ≤ 24 := by
  unfold vocD
  rw [byText_len]
  exact Nat.le_trans (dict_len (f := textD 5) _ []) (by decide +kernel)
end FF
/-! cases as dicts, lists of cases -/
namespace FF
open PySem PySem.Spec PyProof.Rows L2
/-! ### cases as dicts -/
def kvB (l : List (Str × Bool)) : List (Key × V) := l.map fun p => (.inr p.1, .bl p.2)
theorem kvB_keys (l : List (Str × Bool)) : (kvB l).map (·.1) = (l.map (·.1)).map Sum.inr := by
  unfold kvB
  rw [List.map_map, List.map_map] <;> rfl
theorem inr_nd {zs : List Str} (h : zs.Nodup) : (zs.map (Sum.inr : Str → Key)).Nodup := by
  induction zs with
  | nil => exact .nil
  | cons z zs ih =>
    obtain ⟨h1, h2⟩ := List.nodup_cons.mp h
    refine List.nodup_cons.mpr ⟨fun q => ?_, ih h2⟩
    obtain ⟨y, hy, e⟩ := List.mem_map.mp q
    exact h1 (Sum.inr.inj e ▸ hy)
theorem kvs_app : ∀ (l : List (Str × Bool)) (acc : List (Key × V)), ((acc.map fun p : Key × V => p.1) ++ (l.map fun p : Str × Bool => p.1).map (Sum.inr : Str → Key)).Nodup → l.foldl (fun (k : List (Key × V)) (p : Str × Bool) => putK k (.inr p.1) (.bl p.2)) acc = acc ++ kvB l
  | [], acc, _ => by rw [List.foldl_nil]; exact (List.append_nil _).symm
  | p :: r, acc, h => by
    have hn : valV acc (.inr p.1) = none := by
      cases e : valV acc (.inr p.1) with
      | none => rfl
      | some v => exact absurd rfl ((List.nodup_append.mp h).2.2 _ (valV_in e) _ (List.mem_map.mpr ⟨p.1, List.mem_map.mpr ⟨p, List.mem_cons_self, rfl⟩, rfl⟩))
    have e : acc ++ kvB (p :: r) = (acc ++ [(Sum.inr p.1, V.bl p.2)]) ++ kvB r := by rw [List.append_assoc] <;> rfl
    rw [List.foldl_cons, putK_new _ hn, kvs_app r _ (by
      rw [List.map_append, List.append_assoc]
      exact h), e]
theorem kvsL_B {l : List (Str × Bool)} (h : (l.map (·.1)).Nodup) : kvsL l = kvB l := by
  unfold kvsL
  rw [kvs_app l [] (by rw [List.map_nil, List.nil_append]; exact inr_nd h), List.nil_append]
theorem prN_keys (zs : List Str) (m : Nat) : (prN zs m).map (·.1) = zs := by
  refine List.ext_getElem? fun i => ?_
  rw [List.getElem?_map]
  cases h : zs[i]? with
  | none =>
    rw [List.getElem?_eq_none_iff.mpr (by rw [prN_len]; exact List.getElem?_eq_none_iff.mp h)] <;> rfl
  | some z => rw [prN_get h] <;> rfl
theorem boolK_of {zs : List Str} (hl : ∀ z ∈ zs, isLetS z = true) (nd : zs.Nodup) (h8 : zs.length ≤ 8) (m : Nat) : BoolK (kvsL (prN zs m)) := by
  have knd : ((prN zs m).map (·.1)).Nodup := by rw [prN_keys]; exact nd
  rw [kvsL_B knd]
  refine ⟨⟨zs, by rw [kvB_keys, prN_keys], hl, nd⟩, fun p hp => ?_, ?_⟩
  · obtain ⟨x, _, rfl⟩ := List.mem_map.mp hp
    exact ⟨_, rfl⟩
  · unfold kvB
    rw [List.length_map, prN_len]
    omega
theorem same_cas {K : PySem.W.Frag} {zs : List Str} (hl : ∀ z ∈ zs, isLetS z = true) (nd : zs.Nodup) (h8 : zs.length ≤ 8) {H : Hp} {a a' : Addr} {xs ys : List V} {ms : List Nat} {Q : VK} {E : XK} (ha : H a = some (.lst xs)) (ha' : H a' = some (.lst ys))
    (h1 : CasL zs H ms xs) (h2 : CasL zs H ms ys) (hm : ms.length ≤ 9000) (q : ∀ H', Same H H' → Q (.bl true) H') : spSame2 K [.ref a, .ref a'] H Q E := by
  refine ⟨a, a', xs, ys, rfl, ha, ha', h1.1.trans h2.1.symm, by rw [h1.1]; exact hm, fun i x y hx hy => ?_, q⟩
  have hi := (List.getElem?_eq_some_iff.mp hx).1
  rw [h1.1] at hi
  obtain ⟨c, e1, k1⟩ := h1.2 i _ (List.getElem?_eq_getElem hi)
  obtain ⟨c', e2, k2⟩ := h2.2 i _ (List.getElem?_eq_getElem hi)
  exact ⟨c, c', _, Option.some.inj (hx.symm.trans e1), Option.some.inj (hy.symm.trans e2), k1, k2, boolK_of hl nd h8 _⟩
/-- the items of a list of cases that pass a test -/
theorem cas_filt {zs : List Str} {H : Hp} {n : Nat} {ys : List V} (h : CasL zs H (List.range n) ys) (f : Nat → Bool) : CasL zs H ((List.range n).filter f) ((List.range ys.length).filterMap fun i => if f i = true then ys[i]? else none) := by
  have hl : ys.length = n := by rw [h.1, List.length_range]
  rw [hl]
  have key : ∀ k, k ≤ n → CasL zs H ((List.range k).filter f) ((List.range k).filterMap fun i => if f i = true then ys[i]? else none) := fun k => by
    induction k with
    | zero => exact fun _ => CasL.nil
    | succ k ih =>
      intro hk
      have ih := ih (by omega)
      obtain ⟨c, h1, h2⟩ := h.2 k k (List.getElem?_range (by omega))
      rw [List.range_succ, List.filter_append, List.filterMap_append]
      by_cases hf : f k = true
      · rw [List.filter_cons_of_pos hf, List.filter_nil, List.filterMap_cons_some (b := V.ref c) (by rw [if_pos hf]; exact h1), List.filterMap_nil]
        exact ih.snoc h2
      · rw [List.filter_cons_of_neg hf, List.filter_nil, List.filterMap_cons_none (by rw [if_neg hf]), List.filterMap_nil, List.append_nil, List.append_nil]
        exact ih
  exact key n (Nat.le_refl _)
section
variable {K : PySem.W.Frag} {a : Addr} {xs : List V} {g : TG} {tt : TT} {te : TE} {vs : List Nat} {σ : L2.St} {H1 : Hp} {Qd : Hp → Prop}
/-- [e for target in xs if test], xs a list: which items, told by the place -/
theorem lc_selL {D : Addr} (F : Nat → Option V) (hs : SqL K H1 a xs) (hD : H1 D = none) (hz : xs.length ≤ sizeLine)
    (step : ∀ i x H2, xs[i]? = some x → Same H1 H2 → ∀ (Qy : VK) (Qn : Hp → Prop), (∀ y H3, Same H2 H3 → F i = some y → Qy y H3) → (∀ H3, Same H2 H3 → F i = none → Qn H3) →
      g x (wipe σ vs) H2 fun σ2 H3 => wipe σ2 vs = wipe σ vs ∧ tt σ2 H3 fun b H4 => if b = true then te σ2 H4 Qy else Qn H4)
    (done : ∀ H2, Same H1 H2 → H2 D = some (.lst ((List.range xs.length).filterMap F)) → Qd H2) : LcR (Itl K a) g tt te vs σ H1 D Qd :=
  lc_it (walkL_same hs) (fun i H => Same H1 H ∧ H D = some (.lst ((List.range i).filterMap F))) ⟨same_new hD _, upd_same⟩ (fun i H _ p => p.1)
      (fun i x H H' hi ⟨e, h2⟩ ⟨e1, e2⟩ => by
        subst e1
        refine step i x _ e2 e _ _ (fun y H3 e3 hF => ?_) (fun H3 e3 hF => ?_)
        · refine ⟨_, e3 _ _ h2, ?_, same_at hD (e.trans e3), ?_⟩
          · refine Nat.lt_of_le_of_lt (List.length_filterMap_le _ _) ?_
            rw [List.length_range]
            omega
          · rw [upd_same, List.range_succ, List.filterMap_append, List.filterMap_cons_some hF, List.filterMap_nil]
        · refine ⟨e.trans e3, ?_⟩
          rw [List.range_succ, List.filterMap_append, List.filterMap_cons_none hF, List.filterMap_nil, List.append_nil]
          exact e3 _ _ h2)
      fun H ⟨e, h1⟩ => done H e h1
end
theorem swap_few {ds : List PyData} {gl gr : PyData} (h : PrOk (prsOf ds (.tuple [gl, gr]))) (hf : (vocD (prsOf ds (.tuple [gl, gr]))).length ≤ 24) : (vocD (prsOf [] (.tuple [gr, gl]))).length ≤ 24 := by
  classical
  refine Nat.le_trans (sub_lenG' _ (vocD (prsOf ds (.tuple [gl, gr]))) (byText_nodup _ _) fun x hx => ?_) hf
  have hx : x ∈ wordsOf [(gr, gl)] := byText_mem hx
  refine (voc_mem h).mpr (List.mem_flatMap.mpr ⟨(gl, gr), List.mem_append_right _ List.mem_cons_self, ?_⟩)
  obtain ⟨p, hp, hx⟩ := List.mem_flatMap.mp hx
  rw [List.mem_singleton.mp hp] at hx
  rcases List.mem_append.mp hx with hx | hx
  · exact List.mem_append_right _ hx
  · exact List.mem_append_left _ hx
/-! ### letters drawn without repetition -/
def zs8 : List Str := lettersS.cps.toList.map fun c => (⟨#[c]⟩ : Str)
theorem zs8_len : zs8.length = 8 := by decide +kernel
theorem zs8_nd : zs8.Nodup := by decide +kernel
theorem zs8_let : ∀ z ∈ zs8, isLetS z = true := by decide +kernel
def unS : V → Str
  | .str z => z
  | _ => ""
theorem wide_pick {ys : List V} (h : ys.Perm (lettersS.cps.toList.map fun c => V.str ⟨#[c]⟩)) {n : Int} (n0 : 0 ≤ n) (n3 : n < 3) :
    ∃ (w0 w1 w2 w3 w4 w5 : Str) (rest : List Str), cutV ys none (some (6 + n)) = (w0 :: w1 :: w2 :: w3 :: w4 :: w5 :: rest).map V.str ∧ rest.length ≤ 2 ∧ (w0 :: w1 :: w2 :: w3 :: w4 :: w5 :: rest).Nodup ∧ ∀ z ∈ w0 :: w1 :: w2 :: w3 :: w4 :: w5 :: rest, isLetS z = true := by
  have hp : (ys.map unS).Perm zs8 := by
    have := h.map unS
    rw [List.map_map] at this
    exact this
  have hy : ys = (ys.map unS).map V.str := by
    rw [List.map_map]
    have e : ys.map (V.str ∘ unS) = ys.map id := List.map_congr_left fun x hx => by
      obtain ⟨c, _, rfl⟩ := List.mem_map.mp (h.mem_iff.mp hx)
      rfl
    rw [e, List.map_id]
  generalize ys.map unS = zs at hp hy
  subst hy
  rw [cut_front (by omega), ← List.map_take]
  have hl : (zs.take (6 + n).toNat).length = 6 + n.toNat := by
    rw [List.length_take, hp.length_eq, zs8_len]
    omega
  have hnd : (zs.take (6 + n).toNat).Nodup := (hp.nodup_iff.mpr zs8_nd).sublist (List.take_sublist _ _)
  have hlt : ∀ z ∈ zs.take (6 + n).toNat, isLetS z = true := fun z hz => zs8_let z (hp.mem_iff.mp (List.mem_of_mem_take hz))
  generalize zs.take (6 + n).toNat = ws at hl hnd hlt ⊢
  match ws, hl, hnd, hlt with
  | w0 :: w1 :: w2 :: w3 :: w4 :: w5 :: rest, hl, hnd, hlt => exact ⟨w0, w1, w2, w3, w4, w5, rest, rfl, by simp only [List.length_cons] at hl; omega, hnd, hlt⟩
  | [], hl, _, _ => simp at hl; omega
  | [_], hl, _, _ => simp at hl; omega
  | [_, _], hl, _, _ => simp at hl; omega
  | [_, _, _], hl, _, _ => simp at hl; omega
  | [_, _, _, _], hl, _, _ => simp at hl; omega
  | [_, _, _, _, _], hl, _, _ => simp at hl; omega
theorem tp_strsW {K : PySem.W.Frag} {H : Hp} : ∀ ys : List Str, TpAll K H (ys.map V.str) (ys.map PyData.str)
  | [] => .nil
  | _ :: r => .cons (.str _) (tp_strsW r)
end FF
/-! the law's def that tells the errors of rules -/
namespace FF
open PySem PySem.Spec PyProof.Rows L2
/-! ### the law's def that tells the errors -/
def TTr (K : PySem.W.Frag) : (XK → Hp → VK → Prop) → Hp → VK → Prop := fun tl H Q =>
  tl (fun cls d H' =>
      (∃ y dd, cls = .ref (He.ga K "InvalidRules") ∧ d = some dd ∧ H' dd = some (.xd [("index", y), ("code", .str "InvalidRules")]) ∧ ∀ t, H' t = none → ∀ p, upd H' t (.tup [.str "rules", y]) p = none → Q (.ref p) (upd (upd H' t (.tup [.str "rules", y])) p (.tup [.non, .ref t]))) ∨
      (cls = .ref (He.ga K "InvalidGoal") ∧ ∀ p, H' p = none → Q (.ref p) (upd H' p (.tup [.non, .str "goal"]))) ∨
      (∃ y dd, cls = .ref (He.ga K "TooManyTerms") ∧ d = some dd ∧ H' dd = some (.xd [("count", y), ("code", .str "TooManyTerms")]) ∧ ∀ t, H' t = none → ∀ p, upd H' t (.tup [.str "terms", y]) p = none → Q (.ref p) (upd (upd H' t (.tup [.str "terms", y])) p (.tup [.non, .ref t]))))
    H (fun v H' => ∀ p, H' p = none → Q (.ref p) (upd H' p (.tup [v, .str ""])))
theorem gives_law_rule_error {X : Cx} (T : Top X.K X.mg) {g : Addr} {cdg : Value} {q : Str} : GivesS X ["_law_ask", "_law_told", "_law_word", "e"] "_law_rule_error" (defScope s_law_rule_error) g cdg (defBody s_law_rule_error) "_law_ask" q (TTr X.K) := by
  intro f c' s H Q tl act hc h
  refine ⟨_, pss_cons (ps_set (i := 1) sc_law_rule_error.nd rfl (Or.inl rfl) pe_non) (pss_cons (ps_set (i := 2) sc_law_rule_error.nd rfl (Or.inl rfl) pe_str) (pss_cons
    (ps_try_manyB (X := (cxOf C8.CX0 X.prog X.w X.K X.mg X.base ["_law_ask", "_law_told", "_law_word", "e"] "_law_rule_error" (defScope s_law_rule_error) g cdg X.A X.stack s H C8.E0).nox) (i := 3)
      (tb := fun W D σ H => ∃ E : XK, (∀ cls d H', E cls d H' → W cls d σ H') ∧ σ[0]? = some (some (.ref f)) ∧ H c' = some (LamX.CodeO c' q) ∧ ∃ Q' : VK, (∀ v H', Q' v H' → D.nx (σ.set 1 (some v)) H') ∧ tl E H Q')
      rfl rfl sc_law_rule_error.nd rfl rfl LamX.takes0 (fun W pn xe tk _ => ?_)
      (.cons ⟨rfl, by decide, .inl T.c_InvalidRules⟩ (fun a oe cls d pn hz hf => pss_one (ps_set (i := 2) sc_law_rule_error.nd rfl (Or.inl rfl) (pe_tup (pa_cons pe_str (pa_cons (pe_xf T.x_InvalidRules.c.xf T.n_InvalidRules_index hz hf (pv 3)) pa_nil)))))
        (.cons0 ⟨rfl, by decide, .inl T.c_InvalidGoal⟩ (fun a oe cls d pn hz hf => pss_one (ps_set (i := 2) sc_law_rule_error.nd rfl (Or.inl rfl) pe_str))
          (.cons ⟨rfl, by decide, .inl T.c_TooManyTerms⟩ (fun a oe cls d pn hz hf => pss_one (ps_set (i := 2) sc_law_rule_error.nd rfl (Or.inl rfl) (pe_tup (pa_cons pe_str (pa_cons (pe_xf T.x_TooManyTerms.c.xf T.n_TooManyTerms_count hz hf (pv 3)) pa_nil))))) .nil))))
    (pss_one (ps_ret (pe_tup (pa_cons (pv 1) (pa_cons (pv 2) pa_nil))))))), ?_⟩
  · refine ⟨fun pins s' σ H' D I h' => ?_⟩
    obtain ⟨E, hW, h1, h2, Q', hQ, h3⟩ := h'
    exact (pss_one (ps_set (i := 1) sc_law_rule_error.nd rfl (Or.inl rfl) (pe_mono (act W pn xe _ _ tk)))).run pins s' σ H' D I ⟨Q', hQ, h1, h2, E, hW, h3⟩
  · refine ⟨_, fun cls d H' hE => ?_, rfl, hc, _, fun v H' hq => ⟨_, rfl, _, rfl, (show 2 ≤ sizeLine by decide), hq⟩, h⟩
    rcases hE with ⟨y, dd, rfl, rfl, hd, hq⟩ | ⟨rfl, hq⟩ | ⟨y, dd, rfl, rfl, hd, hq⟩
    · refine ⟨true, T.e_InvalidRules, fun _ a ha => ?_, fun z => by cases z⟩
      refine ⟨_, rfl, rfl, rfl, dd, _, _, rfl, hd, rfl, (show 2 ≤ sizeLine by decide), fun t ht => ⟨_, rfl, _, rfl, (show 2 ≤ sizeLine by decide), hq t ht⟩⟩
    · refine ⟨false, T.e_InvalidGoal_InvalidRules, fun z => (by cases z), fun _ => ⟨true, T.e_InvalidGoal, fun _ a ha => ?_, fun z => by cases z⟩⟩
      exact ⟨_, rfl, _, rfl, (show 2 ≤ sizeLine by decide), hq⟩
    · refine ⟨false, T.e_TooManyTerms_InvalidRules, fun z => (by cases z), fun _ => ⟨false, T.e_TooManyTerms_InvalidGoal, fun z => (by cases z), fun _ => ⟨true, T.e_TooManyTerms, fun _ a ha => ?_, fun z => by cases z⟩⟩⟩
      refine ⟨_, rfl, rfl, rfl, dd, _, _, rfl, hd, rfl, (show 2 ≤ sizeLine by decide), fun t ht => ⟨_, rfl, _, rfl, (show 2 ≤ sizeLine by decide), hq t ht⟩⟩
end FF
/-! _law_same: lists of cases, cases, None: one promise -/
namespace FF
open PySem PySem.Spec PyProof.Rows L2
def spSameN (_K : PySem.W.Frag) : Sp := fun vs H Q _ => vs = [.non, .non] ∧ Q (.bl true) H
/-- the promises of _law_same that this law needs -/
def spSameU (K : PySem.W.Frag) : Sp := fun vs H Q E => spSame2 K vs H Q E ∨ spSame1 K vs H Q E ∨ spSameN K vs H Q E
section
variable {P : Program} {w : World} {K : PySem.W.Frag} {mg : Str → Option Value} {base : Heap}
theorem fn_sameN {f : Addr} {fd : FuncData} (F : FunD K "_law_same" "_law_same" (defArgs s_law_same) (defBody s_law_same) (defScope s_law_same) [] [] f fd) (T : Top K mg)
    (D_law_same : Def P w K mg base "_law_same" 1 ["_law_found", "_law_due"] (spSame0 K)) : FnOk P w K mg base CX0 2 f fd ["_law_found", "_law_due"] (spSameN K) := by
  refine fn_mk F sc_law_same (fun vs H Q E h => ?_) (fun cdv A outer s H vs Q E hr h => ?_)
  · obtain ⟨rfl, _⟩ := h
    rfl
  obtain ⟨rfl, q⟩ := h
  refine ⟨_, (pss_cons (ps_if (PW.pt (pw_or (pt_cmp (pc_isN (pv 1)) (by rfl)) (pw_or1 (pt_cmp (pc_isN (pv 0)) (by rfl)))))
  (pss_one (ps_ret (pe_and (pe_cmp (pc_isN (pv 1)) (by rfl)) (pe_one (pe_cmp (pc_isN (pv 0)) (by rfl))))))
  pss_nil)
  (pss_cons (ps_if (PW.pt (pw_or (pt_val (pe_callB (call_isC K kb_bool) (by rfl) T.b_isinstance (by decide +kernel) (pa_cons (pv 1) (pa_cons (pe_bltn (v := .ty "bool") (by rfl) T.b_bool (by decide +kernel) rfl) pa_nil)))) (pw_or1 (pt_val (pe_callB (call_isC K kb_bool) (by rfl) T.b_isinstance (by decide +kernel) (pa_cons (pv 0) (pa_cons (pe_bltn (v := .ty "bool") (by rfl) T.b_bool (by decide +kernel) rfl) pa_nil)))))))
  (pss_one (ps_ret (pe_and (pe_callB (call_isC K kb_bool) (by rfl) T.b_isinstance (by decide +kernel) (pa_cons (pv 1) (pa_cons (pe_bltn (v := .ty "bool") (by rfl) T.b_bool (by decide +kernel) rfl) pa_nil))) (pe_and (pe_callB (call_isC K kb_bool) (by rfl) T.b_isinstance (by decide +kernel) (pa_cons (pv 0) (pa_cons (pe_bltn (v := .ty "bool") (by rfl) T.b_bool (by decide +kernel) rfl) pa_nil))) (pe_one (pe_cmpR (op_eqK K hr.units) (pv 0) (pv 1) (nomark _)))))))
  pss_nil)
  (pss_cons (ps_if (PW.pt (pw_or (pt_val (pe_callB (call_isC K kb_int) (by rfl) T.b_isinstance (by decide +kernel) (pa_cons (pv 1) (pa_cons (pe_bltn (v := .ty "int") (by rfl) T.b_int (by decide +kernel) rfl) pa_nil)))) (pw_or1 (pt_val (pe_callB (call_isC K kb_str) (by rfl) T.b_isinstance (by decide +kernel) (pa_cons (pv 1) (pa_cons (pe_bltn (v := .ty "str") (by rfl) T.b_str (by decide +kernel) rfl) pa_nil)))))))
  (pss_one (ps_ret (pe_and (pe_cmpR op_eq (pe_callB (call_isC K kb_int) (by rfl) T.b_isinstance (by decide +kernel) (pa_cons (pv 0) (pa_cons (pe_bltn (v := .ty "int") (by rfl) T.b_int (by decide +kernel) rfl) pa_nil))) (pe_callB (call_isC K kb_int) (by rfl) T.b_isinstance (by decide +kernel) (pa_cons (pv 1) (pa_cons (pe_bltn (v := .ty "int") (by rfl) T.b_int (by decide +kernel) rfl) pa_nil))) (nomark _)) (pe_one (pe_cmpR (op_eqK K hr.units) (pv 0) (pv 1) (nomark _))))))
  pss_nil)
  (pss_cons (ps_if (pt_val (pe_callB (call_isC K kb_dict) (by rfl) T.b_isinstance (by decide +kernel) (pa_cons (pv 1) (pa_cons (pe_bltn (v := .ty "dict") (by rfl) T.b_dict (by decide +kernel) rfl) pa_nil))))
  (pss_cons (ps_if (PW.pt (pw_or (pt_not (pt_val (pe_callB (call_isC K kb_dict) (by rfl) T.b_isinstance (by decide +kernel) (pa_cons (pv 0) (pa_cons (pe_bltn (v := .ty "dict") (by rfl) T.b_dict (by decide +kernel) rfl) pa_nil))))) (pw_or1 (pt_cmpR (op_neK K hr.units) (pe_callB (cr_sortedDA rfl) (by rfl) T.b_sorted (by decide +kernel) (pa_cons (pv 0) pa_nil)) (pe_callB (cr_sortedDA rfl) (by rfl) T.b_sorted (by decide +kernel) (pa_cons (pv 1) pa_nil)) (nomark _)))))
  (pss_one (ps_ret pe_bl))
  pss_nil)
  (pss_one (ps_ret (pe_callB (cr_allK K rfl) (by rfl) T.b_all (by decide +kernel) (pa_cons (pe_lock (pe_lc (own := [("_law_key", 2)]) rfl sc_law_same.nd (pi_keys (pv 1)) (blkOk_by (by kernel_rfl)) (fun _ _ _ _ _ => (pg_name (i := 2) sc_law_same.nd rfl (Or.inl rfl) (.inr rfl))) (fun _ _ _ _ _ => pts_nil) (fun _ _ _ _ _ => (pe_def D_law_same hr (by first | decide | omega) (pa_cons (pe_dget (hu_of hr) (pv 0) (pv 2) (fun _ _ => rfl)) (pa_cons (pe_dget (hu_of hr) (pv 1) (pv 2) (fun _ _ => rfl)) pa_nil)))))) pa_nil)))))
  pss_nil)
  (pss_cons (ps_if (PW.pt (pw_or (pt_cmpR op_ne (pe_callB (call_isC K kb_lst) (by rfl) T.b_isinstance (by decide +kernel) (pa_cons (pv 0) (pa_cons (pe_bltn (v := .ty "list") (by rfl) T.b_list (by decide +kernel) rfl) pa_nil))) (pe_callB (call_isC K kb_lst) (by rfl) T.b_isinstance (by decide +kernel) (pa_cons (pv 1) (pa_cons (pe_bltn (v := .ty "list") (by rfl) T.b_list (by decide +kernel) rfl) pa_nil))) (nomark _)) (pw_or1 (pt_cmpR op_ne (pe_callB (call_isC K kb_tup) (by rfl) T.b_isinstance (by decide +kernel) (pa_cons (pv 0) (pa_cons (pe_bltn (v := .ty "tuple") (by rfl) T.b_tuple (by decide +kernel) rfl) pa_nil))) (pe_callB (call_isC K kb_tup) (by rfl) T.b_isinstance (by decide +kernel) (pa_cons (pv 1) (pa_cons (pe_bltn (v := .ty "tuple") (by rfl) T.b_tuple (by decide +kernel) rfl) pa_nil))) (nomark _)))))
  (pss_one (ps_ret pe_bl))
  pss_nil)
  (pss_one (ps_ret (pe_and (pe_cmpR op_eq (pe_callB (call_lenK K) (by rfl) T.b_len (by decide +kernel) (pa_cons (pv 0) pa_nil)) (pe_callB (call_lenK K) (by rfl) T.b_len (by decide +kernel) (pa_cons (pv 1) pa_nil)) (nomark _)) (pe_one (pe_callB (cr_allK K rfl) (by rfl) T.b_all (by decide +kernel) (pa_cons (pe_lc (own := [("_law_one", 3), ("_law_other", 4)]) rfl sc_law_same.nd (pi_zipK K (by rfl) T.b_zip (pa_cons (pv 0) (pa_cons (pv 1) pa_nil))) (blkOk_by (by kernel_rfl)) (fun _ _ _ _ _ => (pg_tupK K (n := 2) rfl (pgs_cons (pg_name (i := 3) sc_law_same.nd rfl (Or.inl rfl) (.inr rfl)) (pgs_cons (pg_name (i := 4) sc_law_same.nd rfl (Or.inl rfl) (.inr rfl)) pgs_nil)))) (fun _ _ _ _ _ => pts_nil) (fun _ _ _ _ _ => (pe_def D_law_same hr (by first | decide | omega) (pa_cons (pv 3) (pa_cons (pv 4) pa_nil))))) pa_nil))))))))))), ?_⟩
  exact ⟨_, rfl, _, rfl, _, rfl, _, rfl, iteT ⟨_, rfl, qb q (decide_eq_true rfl).symm⟩⟩
theorem fn_same1 {f : Addr} {fd : FuncData} (F : FunD K "_law_same" "_law_same" (defArgs s_law_same) (defBody s_law_same) (defScope s_law_same) [] [] f fd) (T : Top K mg)
    (D_law_same : Def P w K mg base "_law_same" 1 ["_law_found", "_law_due"] (spSame0 K)) : FnOk P w K mg base CX0 2 f fd ["_law_found", "_law_due"] (spSame1 K) := by
  refine fn_mk F sc_law_same (fun vs H Q E h => ?_) (fun cdv A outer s H vs Q E hr h => ?_)
  · obtain ⟨c, c', kvs, rfl, _⟩ := h
    rfl
  obtain ⟨c, c', kvs, rfl, hc, hc', hb, q⟩ := h
  obtain ⟨⟨ks, hk, hkl, hkn⟩, hbv, hfew⟩ := hb
  have kl : ks.length = kvs.length := by
    have := congrArg List.length hk
    rw [List.length_map, List.length_map] at this
    exact this.symm
  refine ⟨_, (pss_cons (ps_if (PW.pt (pw_or (pt_cmp (pc_isN (pv 1)) (by rfl)) (pw_or1 (pt_cmp (pc_isN (pv 0)) (by rfl)))))
  (pss_one (ps_ret (pe_and (pe_cmp (pc_isN (pv 1)) (by rfl)) (pe_one (pe_cmp (pc_isN (pv 0)) (by rfl))))))
  pss_nil)
  (pss_cons (ps_if (PW.pt (pw_or (pt_val (pe_callB (call_isC K kb_bool) (by rfl) T.b_isinstance (by decide +kernel) (pa_cons (pv 1) (pa_cons (pe_bltn (v := .ty "bool") (by rfl) T.b_bool (by decide +kernel) rfl) pa_nil)))) (pw_or1 (pt_val (pe_callB (call_isC K kb_bool) (by rfl) T.b_isinstance (by decide +kernel) (pa_cons (pv 0) (pa_cons (pe_bltn (v := .ty "bool") (by rfl) T.b_bool (by decide +kernel) rfl) pa_nil)))))))
  (pss_one (ps_ret (pe_and (pe_callB (call_isC K kb_bool) (by rfl) T.b_isinstance (by decide +kernel) (pa_cons (pv 1) (pa_cons (pe_bltn (v := .ty "bool") (by rfl) T.b_bool (by decide +kernel) rfl) pa_nil))) (pe_and (pe_callB (call_isC K kb_bool) (by rfl) T.b_isinstance (by decide +kernel) (pa_cons (pv 0) (pa_cons (pe_bltn (v := .ty "bool") (by rfl) T.b_bool (by decide +kernel) rfl) pa_nil))) (pe_one (pe_cmpR (op_eqK K hr.units) (pv 0) (pv 1) (nomark _)))))))
  pss_nil)
  (pss_cons (ps_if (PW.pt (pw_or (pt_val (pe_callB (call_isC K kb_int) (by rfl) T.b_isinstance (by decide +kernel) (pa_cons (pv 1) (pa_cons (pe_bltn (v := .ty "int") (by rfl) T.b_int (by decide +kernel) rfl) pa_nil)))) (pw_or1 (pt_val (pe_callB (call_isC K kb_str) (by rfl) T.b_isinstance (by decide +kernel) (pa_cons (pv 1) (pa_cons (pe_bltn (v := .ty "str") (by rfl) T.b_str (by decide +kernel) rfl) pa_nil)))))))
  (pss_one (ps_ret (pe_and (pe_cmpR op_eq (pe_callB (call_isC K kb_int) (by rfl) T.b_isinstance (by decide +kernel) (pa_cons (pv 0) (pa_cons (pe_bltn (v := .ty "int") (by rfl) T.b_int (by decide +kernel) rfl) pa_nil))) (pe_callB (call_isC K kb_int) (by rfl) T.b_isinstance (by decide +kernel) (pa_cons (pv 1) (pa_cons (pe_bltn (v := .ty "int") (by rfl) T.b_int (by decide +kernel) rfl) pa_nil))) (nomark _)) (pe_one (pe_cmpR (op_eqK K hr.units) (pv 0) (pv 1) (nomark _))))))
  pss_nil)
  (pss_cons (ps_if (pt_val (pe_callB (call_isC K kb_dict) (by rfl) T.b_isinstance (by decide +kernel) (pa_cons (pv 1) (pa_cons (pe_bltn (v := .ty "dict") (by rfl) T.b_dict (by decide +kernel) rfl) pa_nil))))
  (pss_cons (ps_if (PW.pt (pw_or (pt_not (pt_val (pe_callB (call_isC K kb_dict) (by rfl) T.b_isinstance (by decide +kernel) (pa_cons (pv 0) (pa_cons (pe_bltn (v := .ty "dict") (by rfl) T.b_dict (by decide +kernel) rfl) pa_nil))))) (pw_or1 (pt_cmpR (op_neK K hr.units) (pe_callB (cr_sortedDA rfl) (by rfl) T.b_sorted (by decide +kernel) (pa_cons (pv 0) pa_nil)) (pe_callB (cr_sortedDA rfl) (by rfl) T.b_sorted (by decide +kernel) (pa_cons (pv 1) pa_nil)) (nomark _)))))
  (pss_one (ps_ret pe_bl))
  pss_nil)
  (pss_one (ps_ret (pe_callB (cr_allK K rfl) (by rfl) T.b_all (by decide +kernel) (pa_cons (pe_lock (pe_lc (own := [("_law_key", 2)]) rfl sc_law_same.nd (pi_keys (pv 1)) (blkOk_by (by kernel_rfl)) (fun _ _ _ _ _ => (pg_name (i := 2) sc_law_same.nd rfl (Or.inl rfl) (.inr rfl))) (fun _ _ _ _ _ => pts_nil) (fun _ _ _ _ _ => (pe_def D_law_same hr (by first | decide | omega) (pa_cons (pe_dget (hu_of hr) (pv 0) (pv 2) (fun _ _ => rfl)) (pa_cons (pe_dget (hu_of hr) (pv 1) (pv 2) (fun _ _ => rfl)) pa_nil)))))) pa_nil)))))
  pss_nil)
  (pss_cons (ps_if (PW.pt (pw_or (pt_cmpR op_ne (pe_callB (call_isC K kb_lst) (by rfl) T.b_isinstance (by decide +kernel) (pa_cons (pv 0) (pa_cons (pe_bltn (v := .ty "list") (by rfl) T.b_list (by decide +kernel) rfl) pa_nil))) (pe_callB (call_isC K kb_lst) (by rfl) T.b_isinstance (by decide +kernel) (pa_cons (pv 1) (pa_cons (pe_bltn (v := .ty "list") (by rfl) T.b_list (by decide +kernel) rfl) pa_nil))) (nomark _)) (pw_or1 (pt_cmpR op_ne (pe_callB (call_isC K kb_tup) (by rfl) T.b_isinstance (by decide +kernel) (pa_cons (pv 0) (pa_cons (pe_bltn (v := .ty "tuple") (by rfl) T.b_tuple (by decide +kernel) rfl) pa_nil))) (pe_callB (call_isC K kb_tup) (by rfl) T.b_isinstance (by decide +kernel) (pa_cons (pv 1) (pa_cons (pe_bltn (v := .ty "tuple") (by rfl) T.b_tuple (by decide +kernel) rfl) pa_nil))) (nomark _)))))
  (pss_one (ps_ret pe_bl))
  pss_nil)
  (pss_one (ps_ret (pe_and (pe_cmpR op_eq (pe_callB (call_lenK K) (by rfl) T.b_len (by decide +kernel) (pa_cons (pv 0) pa_nil)) (pe_callB (call_lenK K) (by rfl) T.b_len (by decide +kernel) (pa_cons (pv 1) pa_nil)) (nomark _)) (pe_one (pe_callB (cr_allK K rfl) (by rfl) T.b_all (by decide +kernel) (pa_cons (pe_lc (own := [("_law_one", 3), ("_law_other", 4)]) rfl sc_law_same.nd (pi_zipK K (by rfl) T.b_zip (pa_cons (pv 0) (pa_cons (pv 1) pa_nil))) (blkOk_by (by kernel_rfl)) (fun _ _ _ _ _ => (pg_tupK K (n := 2) rfl (pgs_cons (pg_name (i := 3) sc_law_same.nd rfl (Or.inl rfl) (.inr rfl)) (pgs_cons (pg_name (i := 4) sc_law_same.nd rfl (Or.inl rfl) (.inr rfl)) pgs_nil)))) (fun _ _ _ _ _ => pts_nil) (fun _ _ _ _ _ => (pe_def D_law_same hr (by first | decide | omega) (pa_cons (pv 3) (pa_cons (pv 4) pa_nil))))) pa_nil))))))))))), ?_⟩
  refine ⟨_, rfl, _, rfl, _, rfl, _, rfl, _, rfl, .inr (.inl ⟨c', _, rfl, hc', _, rfl, _, rfl, .inr (.inl ⟨c, _, rfl, hc, _, rfl, ?_⟩)⟩)⟩
  refine ⟨_, rfl, .inr (.inl ⟨c', _, rfl, hc', _, rfl, _, rfl, .inr (.inl ⟨c', _, rfl, hc', _, rfl, ?_⟩)⟩)⟩
  refine ⟨_, rfl, .inr (.inl ⟨c', _, rfl, hc', _, rfl, ?_⟩)⟩
  refine iteT ?_
  refine ⟨_, rfl, .inr (.inl ⟨c, _, rfl, hc, _, rfl, ?_⟩)⟩
  refine iteF ?_
  refine ⟨_, rfl, c, kvs, ks, rfl, hc, hk, fun ys p1 hp1 hs1 hp => ?_⟩
  have e1 := same_new hp (.lst (ys.map V.str))
  refine ⟨_, rfl, c', kvs, ks, rfl, e1 _ _ hc', hk, fun ys2 p2 hp2 hs2 hq => ?_⟩
  have e2 := same_new hq (.lst (ys2.map V.str))
  obtain rfl := boolK_sorted hp1 hp2 hs1 hs2
  have hys : ∀ z ∈ ys, isLetS z = true := fun z hz => hkl z (hp1.mem_iff.mp hz)
  have hsh := (lets_niceC hys (by rw [hp1.length_eq]; omega)).shaped
  refine ⟨.list (ys.map .str), .list (ys.map .str), .lst (SqL.of (e2 _ _ upd_same)) (dp_strsC _), .lst (SqL.of upd_same) (dp_strsC _), hsh, hsh, _, rfl, ?_⟩
  rw [SeqAt.eqv_refl _ (SeqAt.canLay_of_shaped hsh)]
  refine iteF ?_
  have e := e1.trans e2
  have hc := e _ _ hc
  have hc' := e _ _ hc'
  have q := fun H' (f : Same (upd (upd H p1 (.lst (ys.map V.str))) p2 (.lst (ys.map V.str))) H') => q H' (e.trans f)
  generalize upd (upd H p1 (.lst (ys.map V.str))) p2 (.lst (ys.map V.str)) = H2 at hc hc' q ⊢
  clear e e1 e2 hp hq hsh
  refine ⟨c', .dK kvs, hc', trivial, fun od => ?_⟩
  refine ⟨_, rfl, c', od, rfl, .inl ⟨kvs, upd_same, fun D hD => ?_⟩⟩
  have knd : (kvs.map (·.1)).Nodup := by
    rw [hk]
    exact List.pairwise_map.mpr (hkn.imp fun hne e => hne (Sum.inr.inj e))
  refine lc_mapK (j := 2) (fun _ y _ => y = .bl true) (fun _ _ _ _ _ h => h) hD upd_same (le_line (by omega)) (by intro _; rfl) ?_ ?_
  · intro i k v H3 hkv e3 Q' kk
    have hmem := List.mem_of_getElem? hkv
    obtain ⟨b, hb⟩ := hbv _ hmem
    have hval := val_nodup knd _ hmem
    dsimp only at hb hval
    subst hb
    have hr1 : H3 c = some (.dK kvs) ∨ ∃ o, H3 c = some (.frz o (.dK kvs)) := by
      by_cases h : c = c'
      · exact .inr ⟨od, e3 _ _ (by rw [h]; exact upd_same)⟩
      · exact .inl (e3 _ _ (by rw [upd_ne h]; exact hc))
    exact ⟨_, rfl, _, rfl, c, _, rfl, .inl ⟨kvs, k, hr1, rfl, hval.symm⟩, _, rfl, _, rfl, c', _, rfl, .inl ⟨kvs, k, .inr ⟨od, e3 _ _ upd_same⟩, rfl, hval.symm⟩, b, rfl, kk _ _ (Same.refl _) rfl⟩
  intro H3 ys3 e3 hD3 hl3 hy
  have hfz := e3 _ _ (show (upd H2 c' (.frz od (.dK kvs))) c' = some (.frz od (.dK kvs)) from upd_same)
  have hys3 : ys3 = (List.replicate kvs.length true).map V.bl := by
    refine eq_map_of (by rw [hl3, List.length_replicate]) fun i y h => ⟨true, ?_, hy i y h⟩
    have := (List.getElem?_eq_some_iff.mp h).1
    rw [List.getElem?_replicate, if_pos (by omega)]
  subst hys3
  refine ⟨hfz, D, _, rfl, SqL.of (by rw [upd_ne (fun z => by rw [z, hfz] at hD3; cases hD3)]; exact hD3), ?_⟩
  rw [show (List.replicate kvs.length true).all id = true from List.all_eq_true.mpr fun b hb => (List.mem_replicate.mp hb).2]
  exact q _ (lock_sameC hc' e3)
theorem fn_same2 {f : Addr} {fd : FuncData} (F : FunD K "_law_same" "_law_same" (defArgs s_law_same) (defBody s_law_same) (defScope s_law_same) [] [] f fd) (T : Top K mg)
    (D_law_same : Def P w K mg base "_law_same" 2 ["_law_found", "_law_due"] (spSame1 K)) : FnOk P w K mg base CX0 3 f fd ["_law_found", "_law_due"] (spSame2 K) := by
  refine fn_mk F sc_law_same (fun vs H Q E h => ?_) (fun cdv A outer s H vs Q E hr h => ?_)
  · obtain ⟨a, a', xs, ys, rfl, _⟩ := h
    rfl
  obtain ⟨a, a', xs, ys, rfl, ha, ha', hl, h9, hx, q⟩ := h
  refine ⟨_, (pss_cons (ps_if (PW.pt (pw_or (pt_cmp (pc_isN (pv 1)) (by rfl)) (pw_or1 (pt_cmp (pc_isN (pv 0)) (by rfl)))))
  (pss_one (ps_ret (pe_and (pe_cmp (pc_isN (pv 1)) (by rfl)) (pe_one (pe_cmp (pc_isN (pv 0)) (by rfl))))))
  pss_nil)
  (pss_cons (ps_if (PW.pt (pw_or (pt_val (pe_callB (call_isC K kb_bool) (by rfl) T.b_isinstance (by decide +kernel) (pa_cons (pv 1) (pa_cons (pe_bltn (v := .ty "bool") (by rfl) T.b_bool (by decide +kernel) rfl) pa_nil)))) (pw_or1 (pt_val (pe_callB (call_isC K kb_bool) (by rfl) T.b_isinstance (by decide +kernel) (pa_cons (pv 0) (pa_cons (pe_bltn (v := .ty "bool") (by rfl) T.b_bool (by decide +kernel) rfl) pa_nil)))))))
  (pss_one (ps_ret (pe_and (pe_callB (call_isC K kb_bool) (by rfl) T.b_isinstance (by decide +kernel) (pa_cons (pv 1) (pa_cons (pe_bltn (v := .ty "bool") (by rfl) T.b_bool (by decide +kernel) rfl) pa_nil))) (pe_and (pe_callB (call_isC K kb_bool) (by rfl) T.b_isinstance (by decide +kernel) (pa_cons (pv 0) (pa_cons (pe_bltn (v := .ty "bool") (by rfl) T.b_bool (by decide +kernel) rfl) pa_nil))) (pe_one (pe_cmpR (op_eqK K hr.units) (pv 0) (pv 1) (nomark _)))))))
  pss_nil)
  (pss_cons (ps_if (PW.pt (pw_or (pt_val (pe_callB (call_isC K kb_int) (by rfl) T.b_isinstance (by decide +kernel) (pa_cons (pv 1) (pa_cons (pe_bltn (v := .ty "int") (by rfl) T.b_int (by decide +kernel) rfl) pa_nil)))) (pw_or1 (pt_val (pe_callB (call_isC K kb_str) (by rfl) T.b_isinstance (by decide +kernel) (pa_cons (pv 1) (pa_cons (pe_bltn (v := .ty "str") (by rfl) T.b_str (by decide +kernel) rfl) pa_nil)))))))
  (pss_one (ps_ret (pe_and (pe_cmpR op_eq (pe_callB (call_isC K kb_int) (by rfl) T.b_isinstance (by decide +kernel) (pa_cons (pv 0) (pa_cons (pe_bltn (v := .ty "int") (by rfl) T.b_int (by decide +kernel) rfl) pa_nil))) (pe_callB (call_isC K kb_int) (by rfl) T.b_isinstance (by decide +kernel) (pa_cons (pv 1) (pa_cons (pe_bltn (v := .ty "int") (by rfl) T.b_int (by decide +kernel) rfl) pa_nil))) (nomark _)) (pe_one (pe_cmpR (op_eqK K hr.units) (pv 0) (pv 1) (nomark _))))))
  pss_nil)
  (pss_cons (ps_if (pt_val (pe_callB (call_isC K kb_dict) (by rfl) T.b_isinstance (by decide +kernel) (pa_cons (pv 1) (pa_cons (pe_bltn (v := .ty "dict") (by rfl) T.b_dict (by decide +kernel) rfl) pa_nil))))
  (pss_cons (ps_if (PW.pt (pw_or (pt_not (pt_val (pe_callB (call_isC K kb_dict) (by rfl) T.b_isinstance (by decide +kernel) (pa_cons (pv 0) (pa_cons (pe_bltn (v := .ty "dict") (by rfl) T.b_dict (by decide +kernel) rfl) pa_nil))))) (pw_or1 (pt_cmpR (op_neK K hr.units) (pe_callB (cr_sortedDA rfl) (by rfl) T.b_sorted (by decide +kernel) (pa_cons (pv 0) pa_nil)) (pe_callB (cr_sortedDA rfl) (by rfl) T.b_sorted (by decide +kernel) (pa_cons (pv 1) pa_nil)) (nomark _)))))
  (pss_one (ps_ret pe_bl))
  pss_nil)
  (pss_one (ps_ret (pe_callB (cr_allK K rfl) (by rfl) T.b_all (by decide +kernel) (pa_cons (pe_lock (pe_lc (own := [("_law_key", 2)]) rfl sc_law_same.nd (pi_keys (pv 1)) (blkOk_by (by kernel_rfl)) (fun _ _ _ _ _ => (pg_name (i := 2) sc_law_same.nd rfl (Or.inl rfl) (.inr rfl))) (fun _ _ _ _ _ => pts_nil) (fun _ _ _ _ _ => (pe_def D_law_same hr (by first | decide | omega) (pa_cons (pe_dget (hu_of hr) (pv 0) (pv 2) (fun _ _ => rfl)) (pa_cons (pe_dget (hu_of hr) (pv 1) (pv 2) (fun _ _ => rfl)) pa_nil)))))) pa_nil)))))
  pss_nil)
  (pss_cons (ps_if (PW.pt (pw_or (pt_cmpR op_ne (pe_callB (call_isC K kb_lst) (by rfl) T.b_isinstance (by decide +kernel) (pa_cons (pv 0) (pa_cons (pe_bltn (v := .ty "list") (by rfl) T.b_list (by decide +kernel) rfl) pa_nil))) (pe_callB (call_isC K kb_lst) (by rfl) T.b_isinstance (by decide +kernel) (pa_cons (pv 1) (pa_cons (pe_bltn (v := .ty "list") (by rfl) T.b_list (by decide +kernel) rfl) pa_nil))) (nomark _)) (pw_or1 (pt_cmpR op_ne (pe_callB (call_isC K kb_tup) (by rfl) T.b_isinstance (by decide +kernel) (pa_cons (pv 0) (pa_cons (pe_bltn (v := .ty "tuple") (by rfl) T.b_tuple (by decide +kernel) rfl) pa_nil))) (pe_callB (call_isC K kb_tup) (by rfl) T.b_isinstance (by decide +kernel) (pa_cons (pv 1) (pa_cons (pe_bltn (v := .ty "tuple") (by rfl) T.b_tuple (by decide +kernel) rfl) pa_nil))) (nomark _)))))
  (pss_one (ps_ret pe_bl))
  pss_nil)
  (pss_one (ps_ret (pe_and (pe_cmpR op_eq (pe_callB (call_lenK K) (by rfl) T.b_len (by decide +kernel) (pa_cons (pv 0) pa_nil)) (pe_callB (call_lenK K) (by rfl) T.b_len (by decide +kernel) (pa_cons (pv 1) pa_nil)) (nomark _)) (pe_one (pe_callB (cr_allK K rfl) (by rfl) T.b_all (by decide +kernel) (pa_cons (pe_lc (own := [("_law_one", 3), ("_law_other", 4)]) rfl sc_law_same.nd (pi_zipK K (by rfl) T.b_zip (pa_cons (pv 0) (pa_cons (pv 1) pa_nil))) (blkOk_by (by kernel_rfl)) (fun _ _ _ _ _ => (pg_tupK K (n := 2) rfl (pgs_cons (pg_name (i := 3) sc_law_same.nd rfl (Or.inl rfl) (.inr rfl)) (pgs_cons (pg_name (i := 4) sc_law_same.nd rfl (Or.inl rfl) (.inr rfl)) pgs_nil)))) (fun _ _ _ _ _ => pts_nil) (fun _ _ _ _ _ => (pe_def D_law_same hr (by first | decide | omega) (pa_cons (pv 3) (pa_cons (pv 4) pa_nil))))) pa_nil))))))))))), ?_⟩
  refine ⟨_, rfl, _, rfl, _, rfl, _, rfl, _, rfl, .inr (.inr ⟨a', _, rfl, ha', _, rfl, _, rfl, .inr (.inr ⟨a, _, rfl, ha, _, rfl, ?_⟩)⟩)⟩
  refine ⟨_, rfl, .inr (.inr ⟨a', _, rfl, ha', _, rfl, _, rfl, .inr (.inr ⟨a', _, rfl, ha', _, rfl, ?_⟩)⟩)⟩
  refine ⟨_, rfl, .inr (.inr ⟨a', _, rfl, ha', _, rfl, ?_⟩)⟩
  refine ⟨_, rfl, .inr (.inr ⟨a, _, rfl, ha, _, rfl, .inr (.inr ⟨a', _, rfl, ha', rfl, _, rfl, ?_⟩)⟩)⟩
  refine ⟨_, rfl, .inr (.inr ⟨a, _, rfl, ha, _, rfl, .inr (.inr ⟨a', _, rfl, ha', rfl, _, rfl, ?_⟩)⟩)⟩
  refine ⟨_, rfl, _, xs.length, rfl, .inl ⟨_, SqL.of ha, rfl⟩, _, rfl, _, ys.length, rfl, .inl ⟨_, SqL.of ha', rfl⟩, rfl, _, rfl, ?_⟩
  refine if_int (fun _ => ?_) (fun h => absurd (by omega) h)
  refine ⟨_, rfl, _, rfl, a, a', xs, ys, rfl, .inl ⟨SqL.of ha, SqL.of ha', fun D hD => ?_⟩⟩
  refine lc_zipS (S := SqL K) (j := 3) (k := 4) (fun e h => up_l e h) (fun _ u _ => u = .bl true) (fun _ _ _ _ _ h => h) hD (SqL.of ha) (SqL.of ha') (by omega) (le_line (by omega)) (fun _ _ => rfl) ?_ ?_
  · intro i x y H2 hx1 hy1 e Q' k'
    obtain ⟨c, c', kvs, rfl, rfl, h1, h2, h3⟩ := hx i x y hx1 hy1
    exact ⟨_, rfl, _, rfl, c, c', kvs, rfl, e _ _ h1, e _ _ h2, h3, fun H' e' => k' _ _ e' rfl⟩
  · intro H2 us e hD2 hul hy
    have hus : us = (List.replicate xs.length true).map V.bl := by
      refine eq_map_of (by rw [hul, List.length_replicate]) fun i y h => ⟨true, ?_, hy i y h⟩
      have := (List.getElem?_eq_some_iff.mp h).1
      rw [List.getElem?_replicate, if_pos (by omega)]
    subst hus
    refine ⟨D, _, rfl, SqL.of hD2, ?_⟩
    rw [show (List.replicate xs.length true).all id = true from List.all_eq_true.mpr fun b hb => (List.mem_replicate.mp hb).2]
    exact q _ e
theorem ok_sameU {f : Addr} {fd : FuncData} (F : FunD K "_law_same" "_law_same" (defArgs s_law_same) (defBody s_law_same) (defScope s_law_same) [] [] f fd) (hm : mg "_law_same" = some (.ref f)) (T : Top K mg) : Def P w K mg base "_law_same" 3 ["_law_found", "_law_due"] (spSameU K) := by
  have D0 : Def P w K mg base "_law_same" 1 ["_law_found", "_law_due"] (spSame0 K) := ok_same0 F hm T
  have b : Binds K fd ["_law_found", "_law_due"] [] := F.bindsN fun _ _ _ _ _ _ us hl => match us, hl with | [_, _], _ => rfl
  have F1 : FnOk P w K mg base CX0 2 f fd ["_law_found", "_law_due"] (spSame1 K) := fn_same1 F T D0
  have D1 : Def P w K mg base "_law_same" 2 ["_law_found", "_law_due"] (spSame1 K) := ⟨f, fd, F1, hm, F.kp, b⟩
  exact ⟨f, fd, FnOk.or_ (fn_same2 F T D1) (FnOk.or_ (F1.mono (by decide)) ((fn_sameN F T D0).mono (by decide))), hm, F.kp, b⟩
end
end FF
/-! law k31 -/
namespace FF
open PySem PySem.Spec PyProof.Rows L2
def EN : XK := fun _ _ _ => False
theorem noEN {K : PySem.W.Frag} : NoStop K EN := fun _ _ _ h => False.elim h
theorem passEN {X : Cx} : Passes (CX X.prog X.w) X EN := passN
def TBL (K : PySem.W.Frag) : List (Addr × Str) := [((He.cT K ("law", none)).2, (("law" : Str) ++ ".<locals>.") ++ "<lambda>")]
def spLaw (K : PySem.W.Frag) : Sp := fun vs H Q _ => ∃ (a : Addr) (ns : List Int), vs = [.ref a] ∧ SqL K H a (ns.map V.int) ∧ LamX.Tabs (TBL K) H ∧ ∀ H', Q (.bl true) H'
theorem tp_n {K : PySem.W.Frag} {H H' : Hp} {v : V} {d : PyData} (h : Tp K H v d) (e : LamX.ExtN H H') : Tp K H' v d := h.up fun b xs hb => e _ _ hb fun ps z => by cases z
def errD : RErr → PyData
  | .rules i => .tuple [.str "rules", .int i]
  | .goal => .str "goal"
  | .terms n => .tuple [.str "terms", .int n]
theorem tt_err {K : PySem.W.Frag} {tl : XK → Hp → VK → Prop} {e : RErr} {H : Hp} {Q : VK} (h : ∀ (E : XK) (Q' : VK), ErrOf K H E e → tl E H Q')
    (q : ∀ v H', Same H H' → Tp K H' v (.tuple [.none, errD e]) → Q v H') : TTr K tl H Q := by
  refine h _ _ ?_
  cases e with
  | rules i =>
    intro dd H' e hd
    refine .inl ⟨_, dd, rfl, rfl, hd, fun t ht p hp => ?_⟩
    have e1 := same_new ht (.tup [.str "rules", .int i])
    have e2 := same_new hp (.tup [.non, .ref t])
    exact q _ _ (e.trans (e1.trans e2)) (.tup (.inl upd_same) (.cons .non (.cons (.tup (.inl (e2 _ _ upd_same)) (.cons (.str _) (.cons (.int _) .nil))) .nil)))
  | goal =>
    intro dd H' e hd
    refine .inr (.inl ⟨rfl, fun p hp => ?_⟩)
    exact q _ _ (e.trans (same_new hp _)) (.tup (.inl upd_same) (.cons .non (.cons (.str _) .nil)))
  | terms n =>
    intro dd H' e hd
    refine .inr (.inr ⟨_, dd, rfl, rfl, hd, fun t ht p hp => ?_⟩)
    have e1 := same_new ht (.tup [.str "terms", .int n])
    have e2 := same_new hp (.tup [.non, .ref t])
    exact q _ _ (e.trans (e1.trans e2)) (.tup (.inl upd_same) (.cons .non (.cons (.tup (.inl (e2 _ _ upd_same)) (.cons (.str _) (.cons (.int _) .nil))) .nil)))
theorem nil_rg {K : PySem.W.Frag} {H : Hp} {a : Addr} (h : H a = some (.lst [])) : RG K H a [] [] := ⟨.inl (SqL.of h), .nil, fun d hd => by (cases hd), by simp⟩
section
variable {K : PySem.W.Frag} {P : Program} {w : World} {mg : Str → Option Value} {base : Heap}
theorem kb_goalrules {x : Str} {params : Arguments} {body : List Stmt} {scope : Scope} {f : Addr} {fd : FuncData} (F : FunD K x x params body scope [] [] f fd)
    (h : ∀ (kV doc pm : Value) (an : Option Addr) (cdv ct : Value) (us ws : List Value), us.length = 0 → ws.length = 2 → bindArgs (PySem.W.fnOf x x params body scope .none kV doc pm an cdv ct) ⟨us, ([("goal" : Str), "rules"] : List Str).zip ws⟩ = pure (([("rules" : Str), "goal"] : List Str).zip (ws.drop 1 ++ ws.take 1))) :
    KBn K fd ["rules", "goal"] 0 ["goal", "rules"] (fun us ws => ws.drop 1 ++ ws.take 1) (fun vs zs => zs.drop 1 ++ zs.take 1) := by
  obtain ⟨oc, od, dV, kV, doc, pm, an, cdv, ct, osl, rfl, lk, hcd, hD, hK⟩ := F.ex
  rcases hD with ⟨_, rfl⟩ | ⟨e, _⟩
  · exact ⟨fun s us ws _ l1 l2 => .of_eq (h kV doc pm an cdv ct us ws l1 l2), fun r1 r2 => (r2.drop 1).append (r2.take 1)⟩
  · exact absurd rfl e
theorem kb_goal {x : Str} {params : Arguments} {body : List Stmt} {scope : Scope} {f : Addr} {fd : FuncData} (F : FunD K x x params body scope [] [] f fd)
    (h : ∀ (kV doc pm : Value) (an : Option Addr) (cdv ct : Value) (us ws : List Value), us.length = 1 → ws.length = 1 → bindArgs (PySem.W.fnOf x x params body scope .none kV doc pm an cdv ct) ⟨us, ([("goal" : Str)] : List Str).zip ws⟩ = pure (([("rules" : Str), "goal"] : List Str).zip (us ++ ws))) :
    KBn K fd ["rules", "goal"] 1 ["goal"] (fun us ws => us ++ ws) (fun vs zs => vs ++ zs) := by
  obtain ⟨oc, od, dV, kV, doc, pm, an, cdv, ct, osl, rfl, lk, hcd, hD, hK⟩ := F.ex
  rcases hD with ⟨_, rfl⟩ | ⟨e, _⟩
  · exact ⟨fun s us ws _ l1 l2 => .of_eq (h kV doc pm an cdv ct us ws l1 l2), fun r1 r2 => r1.append r2⟩
  · exact absurd rfl e
set_option maxHeartbeats 8000000 in
theorem ok_law {fC fF gR : Addr} {fd fdC fdF fdR : FuncData} (F : FunD K "law" "law" (defArgs s_law) (defBody s_law) (defScope s_law) [] [] (He.fAd K ("law", none)) fd) (T : Top K mg)
    (TB : LamX.TabB base mg (He.codeOf K ("law", none)) (He.cT K ("law", none)).2)
    (F_law_rule_error : FunD K "_law_rule_error" "_law_rule_error" (defArgs s_law_rule_error) (defBody s_law_rule_error) (defScope s_law_rule_error) [] [] gR fdR) (m_law_rule_error : mg "_law_rule_error" = some (.ref gR))
    (FCA0 : FunD K "cases" "cases" (defArgs s_cases) (defBody s_cases) (defScope s_cases) [] [] fC fdC)
    (D_cases : GFn P w K mg base 19 fC fdC ["rules", "goal"] (spCasL K)) (hmCA : mg "cases" = some (.ref fC))
    (FFC0 : FunD K "first_case" "first_case" (defArgs s_first_case) (defBody s_first_case) (defScope s_first_case) [] [] fF fdF) (hmFC : mg "first_case" = some (.ref fF)) (FFC : FnOk P w K mg base (L2.CX P w) 23 fF fdF ["rules", "goal"] (spFirstX K))
    (D_law_source : Def P w K mg base "_law_source" 1 ["_law_script"] (spSource K)) (D_law_take : Def P w K mg base "_law_take" 1 ["_law_source_here", "_law_many"] spTake) (D_law_mixed : Def P w K mg base "_law_mixed" 2 ["_law_source_here", "_law_row"] (spMixed K))
    (D_law_scene : Def P w K mg base "_law_scene" 13 ["_law_source_here", "_law_most", "_law_words_here"] (spScene K))
    (D_law_pairs : Def P w K mg base "_law_pairs" 1 ["_law_premises_here", "_law_aim"] (spPairsL K)) (D_law_words : Def P w K mg base "_law_words" 11 ["_law_pairs_here"] (spWordsOf K)) (D_law_all_signs : Def P w K mg base "_law_all_signs" 13 ["_law_some"] (spAllSignsW K))
    (D_law_cases : Def P w K mg base "_law_cases" 1 ["_law_signs_here"] (spLawCases K)) (D_law_same : Def P w K mg base "_law_same" 3 ["_law_found", "_law_due"] (spSameU K))
    (D_law_counters : Def P w K mg base "_law_counters" 6 ["_law_premises_here", "_law_aim", "_law_case_now"] (spCtr K)) :
    FnOk P w K mg base CX0 42 (He.fAd K ("law", none)) fd ["_law_script"] (spLaw K) := by
  have b_law_rule_error : Binds K fdR ["_law_ask"] [] := F_law_rule_error.bindsN fun _ _ _ _ _ _ us hl => match us, hl with | [_], _ => rfl
  have bCA : Binds K fdC ["rules", "goal"] [] := FCA0.bindsN fun _ _ _ _ _ _ us hl => match us, hl with | [_, _], _ => rfl
  have bFC : Binds K fdF ["rules", "goal"] [] := FFC0.bindsN fun _ _ _ _ _ _ us hl => match us, hl with | [_, _], _ => rfl
  have D_first_case : DefX P w K mg base "first_case" 23 ["rules", "goal"] (spFirstX K) := ⟨fF, fdF, FFC, hmFC, FFC0.kp, bFC⟩
  have kFC := kb_goalrules FFC0 fun kV doc pm an cdv ct us ws l1 l2 => match us, ws, l1, l2 with | [], [_, _], _, _ => rfl
  have kCA := kb_goal FCA0 fun kV doc pm an cdv ct us ws l1 l2 => match us, ws, l1, l2 with | [_], [_], _, _ => rfl
  refine fn_mkC F sc_law (fun vs H Q E h => ?_) (fun cdv A outer s0 H vs Q E ec hr h => ?_)
  · obtain ⟨a, ns, rfl, _⟩ := h
    rfl
  subst ec
  obtain ⟨a, ns, rfl, hS, hT, q⟩ := h
  refine ⟨_, (pss_cons (ps_set (i := 1) sc_law.nd rfl (Or.inl rfl) (pe_def D_law_source hr (by first | decide | omega) (pa_cons (pv 0) pa_nil)))
  (pss_cons (ps_for PassesOwn.never rfl (pi_range1 (by rfl) T.b_range (pa_cons pe_int pa_nil)) (pg_name (i := 2) sc_law.nd rfl (Or.inl rfl) (.inl rfl))
  (pss_cons (ps_asg (pe_def D_law_scene hr (by first | decide | omega) (pa_cons (pv 1) (pa_cons pe_int (pa_cons pe_int pa_nil)))) (pg_tupK K (n := 2) rfl (pgs_cons (pg_name (i := 3) sc_law.nd rfl (Or.inr rfl) (.inl rfl)) (pgs_cons (pg_name (i := 4) sc_law.nd rfl (Or.inr rfl) (.inl rfl)) pgs_nil))))
  (pss_cons (ps_set (i := 5) sc_law.nd rfl (Or.inl rfl) (pe_def D_law_all_signs hr (by first | decide | omega) (pa_cons (pe_def D_law_words hr (by first | decide | omega) (pa_cons (pe_def D_law_pairs hr (by first | decide | omega) (pa_cons (pv 3) (pa_cons (pv 4) pa_nil))) pa_nil)) pa_nil)))
  (pss_cons (ps_setLc (i := 6) (own := [("_law_one", 7)]) rfl sc_law.nd rfl rfl (sw_true rfl rfl rfl (by kernel_rfl)) (pi_listK K (pe_def D_law_cases hr (by first | decide | omega) (pa_cons (pv 5) pa_nil))) (blkOk_by (by kernel_rfl)) (fun _ _ _ _ _ => (pg_name (i := 7) sc_law.nd rfl (Or.inl rfl) (.inr rfl))) (fun _ _ _ _ _ => (pts_one (pt_val (pe_def D_law_counters hr (by first | decide | omega) (pa_cons (pv 3) (pa_cons (pv 4) (pa_cons (pv 7) pa_nil))))))) (fun _ _ _ _ _ => (pv 7)))
  (pss_cons (ps_if (pt_not (pt_val (pe_def D_law_same hr (by first | decide | omega) (pa_cons (pe_listG (E := EN) (pgen_call D_cases (hr.mono (by decide)) (by rfl) hmCA FCA0.kp bCA .nil (pa_cons (pv 3) (pa_cons (pv 4) pa_nil))) passEN noEN (hr.mono (by decide)) (by rfl) T.b_list rfl) (pa_cons (pv 6) pa_nil)))))
  (pss_one (ps_ret pe_bl))
  pss_nil)
  (pss_cons (ps_if (pt_not (pt_val (pe_def D_law_same hr (by first | decide | omega) (pa_cons (pe_callN0 FFC (hr.mono (by decide)) rfl hmFC FFC0.kp kFC passN (pk_cons (pv 4) (pk_cons (pe_callTy (call_tuple_ofK K) (by rfl) T.b_tuple (by decide +kernel) (pa_cons (pv 3) pa_nil)) pk_nil))) (pa_cons (pe_ix (ix_listK K) (pe_op op_cat (pv 6) (pe_lst (pa_cons pe_non pa_nil))) pe_int (fun _ _ => rfl)) pa_nil)))))
  (pss_one (ps_ret pe_bl))
  pss_nil)
  (pss_cons (ps_set (i := 8) sc_law.nd rfl (Or.inr rfl) (pe_tup (pa_cons (pe_ix (ix_tupK K) (pv 4) pe_int (fun _ _ => rfl)) (pa_cons (pe_ix (ix_tupK K) (pv 4) pe_int (fun _ _ => rfl)) pa_nil))))
  (pss_cons (ps_set (i := 5) sc_law.nd rfl (Or.inl rfl) (pe_def D_law_all_signs hr (by first | decide | omega) (pa_cons (pe_lst (pa_cons (pe_ix (ix_tupK K) (pv 4) pe_int (fun _ _ => rfl)) (pa_cons (pe_ix (ix_tupK K) (pv 4) pe_int (fun _ _ => rfl)) pa_nil))) pa_nil)))
  (pss_cons (ps_setLc (i := 6) (own := [("_law_one", 7)]) rfl sc_law.nd rfl rfl (sw_true rfl rfl rfl (by kernel_rfl)) (pi_listK K (pe_def D_law_cases hr (by first | decide | omega) (pa_cons (pv 5) pa_nil))) (blkOk_by (by kernel_rfl)) (fun _ _ _ _ _ => (pg_name (i := 7) sc_law.nd rfl (Or.inl rfl) (.inr rfl))) (fun _ _ _ _ _ => (pts_one (pt_val (pe_def D_law_counters hr (by first | decide | omega) (pa_cons (pe_lst pa_nil) (pa_cons (pv 8) (pa_cons (pv 7) pa_nil))))))) (fun _ _ _ _ _ => (pv 7)))
  (pss_one (ps_if (pt_not (pt_val (pe_def D_law_same hr (by first | decide | omega) (pa_cons (pe_listG (E := EN) (pgen_callN D_cases (hr.mono (by decide)) (by rfl) hmCA FCA0.kp kCA (pa_cons (pe_lst pa_nil) pa_nil) (pk_cons (pv 8) pk_nil)) passEN noEN (hr.mono (by decide)) (by rfl) T.b_list rfl) (pa_cons (pv 6) pa_nil)))))
  (pss_one (ps_ret pe_bl))
  pss_nil)))))))))))
  (pss_cons (ps_set (i := 9) sc_law.nd rfl (Or.inl rfl) (pe_slice (sl_listK K) (pe_def D_law_mixed hr (by first | decide | omega) (pa_cons (pv 1) (pa_cons (pe_callTy (call_list_s rfl) (by rfl) T.b_list (by decide +kernel) (pa_cons pe_str pa_nil)) pa_nil))) po_none (po_some (pe_op op_add pe_int (pe_def D_law_take hr (by first | decide | omega) (pa_cons (pv 1) (pa_cons pe_int pa_nil)))))))
  (pss_cons (ps_set (i := 10) sc_law.nd rfl (Or.inr rfl) (pe_lst (pa_cons (pe_tup (pa_cons pe_str (pa_cons (pe_ix (ix_listK K) (pv 9) pe_int (fun _ _ => rfl)) (pa_cons (pe_tup (pa_cons pe_str (pa_cons (pe_ix (ix_listK K) (pv 9) pe_int (fun _ _ => rfl)) (pa_cons (pe_ix (ix_listK K) (pv 9) pe_int (fun _ _ => rfl)) pa_nil)))) pa_nil)))) (pa_cons (pe_tup (pa_cons pe_str (pa_cons (pe_tup (pa_cons pe_str (pa_cons (pe_ix (ix_listK K) (pv 9) pe_int (fun _ _ => rfl)) (pa_cons (pe_ix (ix_listK K) (pv 9) pe_int (fun _ _ => rfl)) pa_nil)))) (pa_cons (pe_ix (ix_listK K) (pv 9) pe_int (fun _ _ => rfl)) pa_nil)))) pa_nil))))
  (pss_cons (ps_set (i := 4) sc_law.nd rfl (Or.inr rfl) (pe_tup (pa_cons (pe_tup (pa_cons pe_str (pa_cons (pe_ix (ix_listK K) (pv 9) pe_int (fun _ _ => rfl)) (pa_cons (pe_ix (ix_listK K) (pv 9) pe_int (fun _ _ => rfl)) pa_nil)))) (pa_cons (pe_callTy (call_tuple_ofK K) (by rfl) T.b_tuple (by decide +kernel) (pa_cons (pe_op op_cat (pe_lst (pa_cons pe_str pa_nil)) (pv 9)) pa_nil)) pa_nil))))
  (pss_cons (ps_setLc (i := 6) (own := [("_law_one", 7)]) rfl sc_law.nd rfl rfl (sw_true rfl rfl rfl (by kernel_rfl)) (pi_listK K (pe_def D_law_cases hr (by first | decide | omega) (pa_cons (pe_callB (cr_sortedSK K) (by rfl) T.b_sorted (by decide +kernel) (pa_cons (pv 9) pa_nil)) pa_nil))) (blkOk_by (by kernel_rfl)) (fun _ _ _ _ _ => (pg_name (i := 7) sc_law.nd rfl (Or.inl rfl) (.inr rfl))) (fun _ _ _ _ _ => (pts_one (pt_val (pe_def D_law_counters hr (by first | decide | omega) (pa_cons (pv 10) (pa_cons (pv 4) (pa_cons (pv 7) pa_nil))))))) (fun _ _ _ _ _ => (pv 7)))
  (pss_cons (ps_if (PW.pt (pw_or (pt_not (pt_val (pe_def D_law_same hr (by first | decide | omega) (pa_cons (pe_listG (E := EN) (pgen_call D_cases (hr.mono (by decide)) (by rfl) hmCA FCA0.kp bCA .nil (pa_cons (pv 10) (pa_cons (pv 4) pa_nil))) passEN noEN (hr.mono (by decide)) (by rfl) T.b_list rfl) (pa_cons (pv 6) pa_nil))))) (pw_or1 (pt_not (pt_val (pe_def D_law_same hr (by first | decide | omega) (pa_cons (pe_defN D_first_case hr (by first | decide | omega) (pa_cons (pv 10) (pa_cons (pv 4) pa_nil))) (pa_cons (pe_ix (ix_listK K) (pv 6) pe_int (fun _ _ => rfl)) pa_nil))))))))
  (pss_one (ps_ret pe_bl))
  pss_nil)
  (pss_cons (ps_set (i := 11) sc_law.nd rfl (Or.inl rfl) (pe_lst (pa_cons (pe_lamS (by rfl) m_law_rule_error F_law_rule_error b_law_rule_error sc_law_rule_error rfl (Or.inl rfl) (fun cdg => gives_law_rule_error T) TB rfl rfl hr (lam_by (st := s_law) rfl (by decide +kernel)) rfl (fun _ _ _ _ _ => rfl) (fun A1 outer1 s1 H1 E1 f1 c1 hr1 => (pe_listG (E := noStE K E1) (pgen_call D_cases (hr1.mono (by decide)) (by rfl) hmCA FCA0.kp bCA .nil (pa_cons (pe_lst (pa_cons pe_int pa_nil)) (pa_cons pe_non pa_nil))) (passes_call (E := noStE K E1) (takes_of rfl rfl rfl rfl) (fun _ _ _ _ h => h.1)) noStE_ok (hr1.mono (by decide)) (by rfl) T.b_list rfl))) (pa_cons (pe_lamS (by rfl) m_law_rule_error F_law_rule_error b_law_rule_error sc_law_rule_error rfl (Or.inl rfl) (fun cdg => gives_law_rule_error T) TB rfl rfl hr (lam_by (st := s_law) rfl (by decide +kernel)) rfl (fun _ _ _ _ _ => rfl) (fun A1 outer1 s1 H1 E1 f1 c1 hr1 => (pe_defx (E := E1) D_first_case (takes_of rfl rfl rfl rfl) (fun _ _ _ _ h => h) hr1 (by first | decide | omega) (pa_cons (pe_lst pa_nil) (pa_cons pe_non pa_nil))))) pa_nil))))
  (pss_one (ps_ret (pe_and (pe_cmpR (op_eqK K hr.units) (pv 11) (pe_lst (pa_cons (pe_tup (pa_cons pe_non (pa_cons (pe_tup (pa_cons pe_str (pa_cons pe_int pa_nil))) pa_nil))) (pa_cons (pe_tup (pa_cons pe_non (pa_cons pe_str pa_nil))) pa_nil))) (nomark _)) (pe_one (pe_cmpR (op_eq_dictA (Nat.lt_of_succ_lt (hu_of hr))) (pe_defN D_first_case hr (by first | decide | omega) (pa_cons (pe_lst pa_nil) (pa_cons (pe_tup (pa_cons pe_str (pa_cons pe_str pa_nil))) pa_nil))) (pe_disp (pps_cons pe_str pe_bl (pps_cons pe_str pe_bl pps_nil)) (by rfl) (by rfl) (fun z => by cases z) (by decide)) (nomark _)))))))))))))), ?_⟩
  refine ⟨_, rfl, a, ns, rfl, hS, fun s H1 e1 hs1 => ?_⟩
  refine ⟨2, rfl, by omega, by omega, ?_⟩
  refine for_range (lo := 0) (n := 2) (fun i σ H' => ∃ o2 o3 o4 o5 o6 o8, σ = [some (.ref a), some (.ref s), o2, o3, o4, o5, o6, none, o8, none, none, none] ∧ Src H' s ∧ LamX.Tabs (TBL K) H') ⟨_, _, _, _, _, _, rfl, hs1, hT.ext e1⟩ ?_ ?_
  · rintro i σ H' hi ⟨o2, o3, o4, o5, o6, o8, rfl, hs, hT⟩
    refine ⟨_, rfl, s, 6, 14, rfl, hs, by decide, by decide, fun t p gv us ds g H2 e2 ht hp0 hp hu hgood hnd hlen hgt hgd hfew hzz => ?_⟩
    have hS2 : Scene K H2 p us ds gv g := ⟨hp, hu, hgood, hnd, by omega, hgt, hgd, by omega⟩
    have hs2 := hs.up e2
    have hT2 := hT.ext e2
    refine ⟨t, _, rfl, SqT.of ht, rfl, _, _, rfl, _, _, rfl, rfl, ?_⟩
    dsimp only
    clear hp hu hgt hs ht hp0 e2 hS hzz hT
    have hl12 := hS2.len
    have hprs := good_pairs (g := g) hgood (by omega) hgd
    have hzn : (zsG ds g).Nodup := zs_nd _
    have hzl := zsG_lets hgood hl12 hgd
    have hz8 : (zsG ds g).length ≤ 8 := lets_few hzn hzl
    have hno := hS2.none
    refine ⟨_, rfl, _, rfl, p, gv, us, ds, g, rfl, hS2.at_, hS2.tp, hgood, by omega, hS2.gt, hgd, fun r rs H3 e3 _ hr3 hrt => ⟨r, rs, prsOf ds g, rfl, hr3, hrt, hprs, fun r2 rs2 H4 e4 _ hr4 hrt4 => ⟨r2, rs2, vocD (prsOf ds g), rfl, SqL.of hr4, hrt4, fun d hd => ⟨words_drawn hprs d (byText_mem hd), Int.le_trans (words_9 (prs_sides hgood hgd) d (byText_mem hd)) (by decide)⟩, by have := hS2.few; omega, fun z H5 e5 _ hz5 => ?_⟩⟩⟩
    rw [lets_voc hprs] at hz5
    have hz5 : H5 z = some (.lst ((zsG ds g).map V.str)) := hz5
    have e25 := (e3.trans e4).trans e5
    have hS5 := hS2.up e25
    have hs5 := hs2.up e25
    have hT5 := hT2.ext e25
    clear hr3 hrt hr4 hrt4 e3 e4 e5 e25 hS2 hs2 hT2
    have h256 : 2 ^ (zsG ds g).length ≤ 2 ^ 8 := Nat.pow_le_pow_right (by decide) hz8
    refine ⟨_, rfl, z, zsG ds g, rfl, SqL.of hz5, hz8, fun pc ys H6 e6 _ hpc hC => ⟨pc, rfl, ⟨_, SqL.of hpc⟩, fun D hD => ?_⟩⟩
    have hyl : ys.length = 2 ^ (zsG ds g).length := by rw [hC.1, List.length_range]
    have hS6 := hS5.up e6
    have hs6 := hs5.up e6
    have hT6 := hT5.ext e6
    clear hS5 hs5 hT5 hz5 e6
    refine lc_selL (fun i => if counterB ds g (casN (zsG ds g) i) = true then ys[i]? else none) (SqL.of hpc) hD (le_line (by omega)) ?_ ?_
    · intro i x H7 hx e7 Qy Qn ky kn
      have hi := (List.getElem?_eq_some_iff.mp hx).1
      obtain ⟨c, hyc, hc⟩ := hC.2 i i (List.getElem?_range (by omega))
      obtain rfl : x = .ref c := Option.some.inj (hx.symm.trans hyc)
      have hS7 := hS6.up e7
      refine ⟨rfl, _, rfl, _, rfl, _, rfl, p, us, ds, gv, g, c, _, _, rfl, hS7.rg, hS7.gt, hgd, e7 _ _ hc, casN_case _ _, fun H8 e8 => ⟨_, rfl, if_b (fun hb => ?_) (fun hb => ?_)⟩⟩
      · exact ⟨_, rfl, ky _ _ e8 (by rw [hb, if_pos rfl]; exact hyc)⟩
      · exact kn _ e8 (by rw [hb, if_neg (by decide)])
    intro H7 e7 hD7
    have hM := cas_filt (hC.up e7) fun m => counterB ds g (casN (zsG ds g) m)
    have hM : CasL (zsG ds g) H7 (msG ds g) _ := hM
    generalize (List.range ys.length).filterMap (fun i => if counterB ds g (casN (zsG ds g) i) = true then ys[i]? else none) = du at hD7 hM
    have hS7 := hS6.up e7
    have hs7 := hs6.up e7
    have hT7 := hT6.ext e7
    clear hS6 hs6 hT6 e7 hC hpc hD hyl
    have hms : (msG ds g).length ≤ 256 := Nat.le_trans (List.length_filter_le _ _) (by rw [List.length_range]; omega)
    refine ⟨_, rfl, _, rfl, .ref p, gv, ds, g, rfl, rg_rules hS7.rg, goodg_goal hS7.gd hS7.gt, fun _ => ⟨p, us, rfl, hS7.gs, fun xs H8 e8 hX => ?_⟩, fun e he => by rw [hno] at he; cases he⟩
    intro lp hlp
    have e9 := e8.trans (same_new hlp (.lst xs))
    have hX := hX.up (same_new hlp (.lst xs))
    have hlp9 : (upd H8 lp (.lst xs)) lp = some (.lst xs) := upd_same
    generalize upd H8 lp (.lst xs) = H9 at e9 hX hlp9 ⊢
    clear e8 hlp
    have hS9 := hS7.up e9
    have hs9 := hs7.up e9
    have hT9 := hT7.ext e9
    have hD9 := e9 _ _ hD7
    have hM9 := hM.up e9
    clear hS7 hs7 hT7 hD7 hM
    refine ⟨_, rfl, .inl (same_cas hzl hzn hz8 hlp9 hD9 hX hM9 (by omega) fun H10 e10 => ⟨_, rfl, iteF ?_⟩)⟩
    have hS10 := hS9.up e10
    have hs10 := hs9.up e10
    have hT10 := hT9.ext e10
    have hD10 := e10 _ _ hD9
    have hM10 := hM9.up e10
    clear hS9 hs9 hT9 hD9 hM9 hX hlp9 e9 e10
    refine ⟨_, rfl, _, rfl, p, us, rfl, .inl ⟨SqL.of hS10.at_, fun t1 ht1 => ?_⟩⟩
    have e11 := same_new ht1 (.tup us)
    have hS11 := hS10.up e11
    have hRG : RG K (upd H10 t1 (.tup us)) t1 us ds := ⟨.inr (SqT.of upd_same), hS11.tp, hS11.good, hS11.len⟩
    refine ⟨rfl, .ref t1, gv, ds, g, rfl, rg_rules hRG, goodg_goal hS11.gd hS11.gt, fun _ => ⟨t1, us, rfl, ⟨hRG, hS11.nd, hS11.gt, hS11.gd, hS11.few⟩, fun u H12 e12 hF => ?_⟩, fun e he => by rw [hno] at he; cases he⟩
    have e12 := e11.trans e12
    have hS12 := hS10.up e12
    have hs12 := hs10.up e12
    have hT12 := hT10.ext e12
    have hD12 := e12 _ _ hD10
    have hM12 := hM10.up e12
    clear hS10 hs10 hT10 hD10 hM10 hS11 hRG e11 e12 ht1
    refine ⟨_, rfl, (by show 1 ≤ sizeLine; decide), fun l1 hl1 => ?_⟩
    have e13 := same_new hl1 (.lst [.non])
    have hl13 : (upd H12 l1 (.lst [.non])) l1 = some (.lst [.non]) := upd_same
    generalize upd H12 l1 (.lst [.non]) = H13 at e13 hl13 ⊢
    obtain ⟨it, hit, hsame⟩ : ∃ it, (du ++ [V.non])[0]? = some it ∧ ∀ (H' : Hp) (Q' : VK) (E' : XK), Same H12 H' → (∀ H'', Same H' H'' → Q' (.bl true) H'') → spSameU K [u, it] H' Q' E' := by
      rcases hF with ⟨rfl, h0⟩ | ⟨c, m, rfl, hc, hm⟩
      · obtain rfl : du = [] := List.length_eq_zero_iff.mp (by rw [hM12.1, h0] <;> rfl)
        exact ⟨.non, rfl, fun H' Q' E' e k => .inr (.inr ⟨rfl, k _ (Same.refl _)⟩)⟩
      · obtain ⟨c', h1, h2⟩ := hM12.2 0 m hm
        refine ⟨.ref c', ?_, fun H' Q' E' e k => .inr (.inl ⟨c, c', _, rfl, e _ _ hc, e _ _ h2, boolK_of hzl hzn hz8 _, k⟩)⟩
        rw [List.getElem?_append_left (List.getElem?_eq_some_iff.mp h1).1]
        exact h1
    refine ⟨D, l1, du, [.non], rfl, rfl, e13 _ _ hD12, hl13, le_line (by rw [hM12.1, List.length_singleton]; omega), fun l2 hl2 => ?_⟩
    have e14 := e13.trans (same_new hl2 (.lst (du ++ [.non])))
    refine ⟨l2, _, _, it, rfl, rfl, SqL.of upd_same, atI_nat (j := 0) hit, hsame _ _ _ e14 fun H15 e15 => ⟨_, rfl, iteF ?_⟩⟩
    have e15 := e14.trans e15
    have hS15 := hS12.up e15
    have hs15 := hs12.up e15
    have hT15 := hT12.ext e15
    clear hS12 hs12 hT12 hD12 hM12 hsame e13 e14 e15 hl13 hl2 hF
    clear hzn hzl hz8 h256 hms hno hit
    obtain ⟨gl, gr, rfl, hsl, hsr⟩ := hgd
    have hgt := hS15.gt
    cases hgt with
    | @tup tg _ _ htg htx =>
    cases htx with
    | @cons vl _ _ _ hvl htx =>
    cases htx with
    | @cons vr _ _ _ hvr htx =>
    cases htx
    have hfew' := swap_few hprs hS15.few
    refine ⟨_, rfl, tg, _, _, vr, rfl, rfl, htg.sqT, atI_nat (j := 1) rfl, _, rfl, tg, _, _, vl, rfl, rfl, htg.sqT, at0, (by show 2 ≤ sizeLine; decide), fun tn htn => ?_⟩
    have e16 := same_new htn (.tup [vr, vl])
    have hG : GoodG (.tuple [gr, gl]) := ⟨gr, gl, rfl, hsr, hsl⟩
    have hgt16 : Tp K (upd H15 tn (.tup [vr, vl])) (.ref tn) (.tuple [gr, gl]) := .tup (.inl upd_same) (.cons (hvr.up (Same.T e16)) (.cons (hvl.up (Same.T e16)) .nil))
    generalize upd H15 tn (.tup [vr, vl]) = H16 at e16 hgt16 ⊢
    have htg16 := up_t e16 htg.sqT
    refine ⟨_, rfl, tg, _, _, vl, rfl, rfl, htg16, at0, _, rfl, tg, _, _, vr, rfl, rfl, htg16, atI_nat (j := 1) rfl, (by show 2 ≤ sizeLine; decide), fun ls hls => ?_⟩
    have e17 := e16.trans (same_new hls (.lst [vl, vr]))
    have hgt17 := hgt16.up (Same.T (same_new hls (.lst [vl, vr])))
    refine ⟨ls, [vl, vr], [gl, gr], rfl, SqL.of upd_same, .cons (hvl.up (Same.T e17)) (.cons (hvr.up (Same.T e17)) .nil), fun d hd => ?_, by simp, fun z2 H18 e18 _ hz18 => ?_⟩
    · simp only [List.mem_cons, List.not_mem_nil, or_false] at hd
      rcases hd with rfl | rfl
      · exact ⟨drawn_mono hsl.1 (by decide), Int.le_trans (side_9 hsl) (by decide)⟩
      · exact ⟨drawn_mono hsr.1 (by decide), Int.le_trans (side_9 hsr) (by decide)⟩
    rw [lets_pair (drawn_mono hsl.1 (by decide)) (drawn_mono hsr.1 (by decide))] at hz18
    have hz18 : H18 z2 = some (.lst ((zsG [] (.tuple [gr, gl])).map V.str)) := hz18
    have hgt18 := hgt17.up (Same.T e18)
    have e18 := e17.trans e18
    have hs18 := hs15.up e18
    have hT18 := hT15.ext e18
    clear hS15 hs15 hT15 htg hvl hvr e16 hgt16 htg16 hls e17 hgt17 e18 htn
    clear hprs
    generalize (PyData.tuple [gr, gl]) = g2 at hz18 hgt18 hG hfew'
    have hzn : (zsG [] g2).Nodup := zs_nd _
    have hzl := zsG_lets (ds := []) (fun d hd => by cases hd) (by simp) hG
    have hz8 : (zsG [] g2).length ≤ 8 := lets_few hzn hzl
    have h256 : 2 ^ (zsG [] g2).length ≤ 2 ^ 8 := Nat.pow_le_pow_right (by decide) hz8
    refine ⟨_, rfl, z2, zsG [] g2, rfl, SqL.of hz18, hz8, fun pc ys H19 e19 _ hpc hC => ⟨pc, rfl, ⟨_, SqL.of hpc⟩, fun D2 hD2 => ?_⟩⟩
    have hyl : ys.length = 2 ^ (zsG [] g2).length := by rw [hC.1, List.length_range]
    have hs19 := hs18.up e19
    have hT19 := hT18.ext e19
    have hgt19 := hgt18.up (Same.T e19)
    clear hs18 hT18 hgt18 hz18 e19
    refine lc_selL (fun i => if counterB [] g2 (casN (zsG [] g2) i) = true then ys[i]? else none) (SqL.of hpc) hD2 (le_line (by omega)) ?_ ?_
    · intro i x H20 hx e20 Qy Qn ky kn
      have hi := (List.getElem?_eq_some_iff.mp hx).1
      obtain ⟨c, hyc, hc⟩ := hC.2 i i (List.getElem?_range (by omega))
      obtain rfl : x = .ref c := Option.some.inj (hx.symm.trans hyc)
      refine ⟨rfl, (by show 0 ≤ sizeLine; decide), fun le hle => ⟨_, rfl, _, rfl, ?_⟩⟩
      have e21 := e20.trans (same_new hle (.lst []))
      refine ⟨le, [], [], .ref tn, g2, c, _, _, rfl, nil_rg upd_same, hgt19.up (Same.T e21), hG, e21 _ _ hc, casN_case _ _, fun H8 e8 => ⟨_, rfl, if_b (fun hb => ?_) (fun hb => ?_)⟩⟩
      · exact ⟨_, rfl, ky _ _ ((same_new hle _).trans e8) (by rw [hb, if_pos rfl]; exact hyc)⟩
      · exact kn _ ((same_new hle _).trans e8) (by rw [hb, if_neg (by decide)])
    intro H20 e20 hD20
    have hM := cas_filt (hC.up e20) fun m => counterB [] g2 (casN (zsG [] g2) m)
    have hM : CasL (zsG [] g2) H20 (msG [] g2) _ := hM
    generalize (List.range ys.length).filterMap (fun i => if counterB [] g2 (casN (zsG [] g2) i) = true then ys[i]? else none) = du at hD20 hM
    have hs20 := hs19.up e20
    have hT20 := hT19.ext e20
    have hgt20 := hgt19.up (Same.T e20)
    clear hs19 hT19 hgt19 e20 hC hpc hD2 hyl
    have hms : (msG [] g2).length ≤ 256 := Nat.le_trans (List.length_filter_le _ _) (by rw [List.length_range]; omega)
    refine ⟨(by show 0 ≤ sizeLine; decide), fun le hle => ⟨_, rfl, rfl, rfl, ?_⟩⟩
    have e21 := same_new hle (.lst [])
    have hRG := nil_rg (K := K) (show (upd H20 le (.lst [])) le = some (.lst []) from upd_same)
    have hgt21 := hgt20.up (Same.T e21)
    have hGS : GS K (upd H20 le (.lst [])) le [] [] (.ref tn) g2 := ⟨hRG, .nil, hgt21, hG, hfew'⟩
    refine ⟨.ref le, .ref tn, [], g2, rfl, rg_rules hRG, goodg_goal hG hgt21, fun _ => ⟨le, [], rfl, hGS, fun xs H22 e22 hX => ?_⟩, fun e he => by rw [hGS.none] at he; cases he⟩
    intro lp hlp
    have hX := hX.up (same_new hlp (.lst xs))
    have e23 := e21.trans (e22.trans (same_new hlp (.lst xs)))
    refine ⟨_, rfl, .inl (same_cas hzl hzn hz8 upd_same (e23 _ _ hD20) hX (hM.up e23) (by omega) fun H24 e24 => ⟨_, rfl, iteF ?_⟩)⟩
    exact ⟨_, _, _, _, _, _, rfl, (hs20.up e23).up e24, (hT20.ext e23).ext e24⟩
  · rintro σ H2 ⟨o2, o3, o4, o5, o6, o8, rfl, hs, hT⟩
    refine ⟨_, rfl, _, rfl, (by decide +kernel), fun lw hlw => ?_⟩
    have e3 := same_new hlw (.lst (lettersS.cps.toList.map fun c => V.str ⟨#[c]⟩))
    refine ⟨s, lw, _, rfl, hs.up e3, SqL.of upd_same, by decide +kernel, fun p2 H4 ys hp2 e4 hys hperm => ?_⟩
    have e4 := e3.trans e4
    have hs4 := hs.up e4
    have hT4 := hT.ext e4
    clear hs hT e3 hlw
    refine ⟨_, rfl, s, 3, rfl, by decide, by decide, hs4, fun n n0 n3 => ?_⟩
    obtain ⟨w0, w1, w2, w3, w4, w5, rest, hcut, hrl, hwn, hwl⟩ := wide_pick hperm n0 n3
    refine ⟨_, _, rfl, rfl, _, rfl, p2, ys, rfl, SqL.of hys, fun lw2 hlw2 => ?_⟩
    rw [hcut]
    have e5 := e4.trans (same_new hlw2 (.lst ((w0 :: w1 :: w2 :: w3 :: w4 :: w5 :: rest).map V.str)))
    have hs5 := hs4.up (same_new hlw2 (.lst ((w0 :: w1 :: w2 :: w3 :: w4 :: w5 :: rest).map V.str)))
    have hT5 := hT4.ext (same_new hlw2 (.lst ((w0 :: w1 :: w2 :: w3 :: w4 :: w5 :: rest).map V.str)))
    have hw5 : (upd H4 lw2 (.lst ((w0 :: w1 :: w2 :: w3 :: w4 :: w5 :: rest).map V.str))) lw2 = some (.lst ((w0 :: w1 :: w2 :: w3 :: w4 :: w5 :: rest).map V.str)) := upd_same
    generalize upd H4 lw2 (.lst ((w0 :: w1 :: w2 :: w3 :: w4 :: w5 :: rest).map V.str)) = H5 at e5 hs5 hT5 hw5 ⊢
    clear hs4 hT4 hys hperm hp2 e4 hlw2 hcut e5
    refine ⟨_, rfl, lw2, _, _, .str w0, rfl, rfl, SqL.of hw5, atI_nat (j := 0) rfl, _, rfl, lw2, _, _, .str w1, rfl, rfl, SqL.of hw5, atI_nat (j := 1) rfl, _, rfl, lw2, _, _, .str w2, rfl, rfl, SqL.of hw5, atI_nat (j := 2) rfl, (by show 3 ≤ sizeLine; decide), fun t1 ht1 => ?_⟩
    have f1 := same_new ht1 (.tup [.str "|", .str w1, .str w2])
    refine ⟨(by show 3 ≤ sizeLine; decide), fun t2 ht2 => ?_⟩
    have f2 := same_new ht2 (.tup [.str "p", .str w0, .ref t1])
    have hw6 := SqL.of (f2 _ _ (f1 _ _ hw5)) (K := K)
    refine ⟨_, rfl, lw2, _, _, .str w3, rfl, rfl, hw6, atI_nat (j := 3) rfl, _, rfl, lw2, _, _, .str w4, rfl, rfl, hw6, atI_nat (j := 4) rfl, (by show 3 ≤ sizeLine; decide), fun t3 ht3 => ?_⟩
    have f3 := same_new ht3 (.tup [.str "&", .str w3, .str w4])
    refine ⟨_, rfl, lw2, _, _, .str w5, rfl, rfl, up_l f3 hw6, atI_nat (j := 5) rfl, (by show 3 ≤ sizeLine; decide), fun t4 ht4 => ?_⟩
    have f4 := same_new ht4 (.tup [.str "q", .ref t3, .str w5])
    refine ⟨(by show 2 ≤ sizeLine; decide), fun l5 hl5 => ?_⟩
    have f5 := same_new hl5 (.lst [.ref t2, .ref t4])
    have f35 := f3.trans (f4.trans f5)
    have hw7 := up_l f35 hw6
    have hd1 : Tp K (upd (upd (upd (upd (upd H5 t1 (.tup [.str "|", .str w1, .str w2])) t2 (.tup [.str "p", .str w0, .ref t1])) t3 (.tup [.str "&", .str w3, .str w4])) t4 (.tup [.str "q", .ref t3, .str w5])) l5 (.lst [.ref t2, .ref t4])) (.ref t2) (.tuple [.str "p", .str w0, opT "|" [w1, w2]]) :=
      .tup (.inl (f35 _ _ upd_same)) (.cons (.str _) (.cons (.str _) (.cons (.tup (.inl ((f2.trans f35) _ _ upd_same)) (.cons (.str _) (.cons (.str _) (.cons (.str _) .nil)))) .nil)))
    have hd2 : Tp K (upd (upd (upd (upd (upd H5 t1 (.tup [.str "|", .str w1, .str w2])) t2 (.tup [.str "p", .str w0, .ref t1])) t3 (.tup [.str "&", .str w3, .str w4])) t4 (.tup [.str "q", .ref t3, .str w5])) l5 (.lst [.ref t2, .ref t4])) (.ref t4) (.tuple [.str "q", opT "&" [w3, w4], .str w5]) :=
      .tup (.inl (f5 _ _ upd_same)) (.cons (.str _) (.cons (.tup (.inl ((f4.trans f5) _ _ upd_same)) (.cons (.str _) (.cons (.str _) (.cons (.str _) .nil)))) (.cons (.str _) .nil)))
    have hRG : RG K (upd (upd (upd (upd (upd H5 t1 (.tup [.str "|", .str w1, .str w2])) t2 (.tup [.str "p", .str w0, .ref t1])) t3 (.tup [.str "&", .str w3, .str w4])) t4 (.tup [.str "q", .ref t3, .str w5])) l5 (.lst [.ref t2, .ref t4])) l5 [.ref t2, .ref t4] (wideR w0 w1 w2 w3 w4 w5) :=
      ⟨.inl (SqL.of upd_same), .cons hd1 (.cons hd2 .nil), wide_goodR hwl, by simp [wideR]⟩
    have e7 := f1.trans (f2.trans f35)
    have hs7 := hs5.up e7
    have hwx7 := e7 _ _ hw5
    have hT7 := hT5.ext e7
    generalize upd (upd (upd (upd (upd H5 t1 (.tup [.str "|", .str w1, .str w2])) t2 (.tup [.str "p", .str w0, .ref t1])) t3 (.tup [.str "&", .str w3, .str w4])) t4 (.tup [.str "q", .ref t3, .str w5])) l5 (.lst [.ref t2, .ref t4]) = H7 at hw7 hwx7 hRG hs7 hT7 ⊢
    clear hs5 hT5 hw5 f1 f2 f3 f4 f5 f35 hw6 hd1 hd2 e7 ht1 ht2 ht3 ht4 hl5
    refine ⟨_, rfl, lw2, _, _, .str w0, rfl, rfl, hw7, atI_nat (j := 0) rfl, _, rfl, lw2, _, _, .str w3, rfl, rfl, hw7, atI_nat (j := 3) rfl, (by show 3 ≤ sizeLine; decide), fun t6 ht6 => ?_⟩
    have g1 := same_new ht6 (.tup [.str "|", .str w0, .str w3])
    refine ⟨(by show 1 ≤ sizeLine; decide), fun l7 hl7 => ⟨_, rfl, ?_⟩⟩
    have g2 := same_new hl7 (.lst [.str "&"])
    refine ⟨l7, lw2, [.str "&"], _, rfl, rfl, upd_same, g2 _ _ (g1 _ _ hwx7), le_line (by simp; omega), fun l8 hl8 => ?_⟩
    have g3 := same_new hl8 (.lst ([V.str "&"] ++ (w0 :: w1 :: w2 :: w3 :: w4 :: w5 :: rest).map V.str))
    refine ⟨l8, _, rfl, .inl ⟨SqL.of upd_same, fun t9 ht9 => ?_⟩⟩
    have g4 := same_new ht9 (.tup ([V.str "&"] ++ (w0 :: w1 :: w2 :: w3 :: w4 :: w5 :: rest).map V.str))
    refine ⟨(by show 2 ≤ sizeLine; decide), fun t10 ht10 => ?_⟩
    have g5 := same_new ht10 (.tup [.ref t6, .ref t9])
    have e10 := g1.trans (g2.trans (g3.trans (g4.trans g5)))
    have hgt : Tp K (upd (upd (upd (upd (upd H7 t6 (.tup [.str "|", .str w0, .str w3])) l7 (.lst [.str "&"])) l8 (.lst ([V.str "&"] ++ (w0 :: w1 :: w2 :: w3 :: w4 :: w5 :: rest).map V.str))) t9 (.tup ([V.str "&"] ++ (w0 :: w1 :: w2 :: w3 :: w4 :: w5 :: rest).map V.str))) t10 (.tup [.ref t6, .ref t9])) (.ref t10) (wideG w0 w3 (w0 :: w1 :: w2 :: w3 :: w4 :: w5 :: rest)) :=
      .tup (.inl upd_same) (.cons (.tup (.inl ((g2.trans (g3.trans (g4.trans g5))) _ _ upd_same)) (.cons (.str _) (.cons (.str _) (.cons (.str _) .nil)))) (.cons (.tup (.inl (g5 _ _ upd_same)) (.cons (.str _) (tp_strsW _))) .nil))
    have hRG10 := hRG.up e10
    have hs10 := hs7.up e10
    have hT10 := hT7.ext e10
    have hw10 := up_l e10 hw7
    generalize upd (upd (upd (upd (upd H7 t6 (.tup [.str "|", .str w0, .str w3])) l7 (.lst [.str "&"])) l8 (.lst ([V.str "&"] ++ (w0 :: w1 :: w2 :: w3 :: w4 :: w5 :: rest).map V.str))) t9 (.tup ([V.str "&"] ++ (w0 :: w1 :: w2 :: w3 :: w4 :: w5 :: rest).map V.str))) t10 (.tup [.ref t6, .ref t9]) = H10 at hgt hRG10 hs10 hT10 hw10 ⊢
    clear g1 g2 g3 g4 g5 e10 hRG hs7 hT7 hw7 hwx7 ht6 hl7 hl8 ht9 ht10
    refine ⟨_, rfl, lw2, _, rfl, hw10, by simp; omega, fun zs sp hzp hzs hsp => ?_⟩
    have hzn : zs.Nodup := hzp.nodup_iff.mpr hwn
    have hze := wide_zs hwl hrl hzn (by rw [sort_eq hzp hzs]; exact List.pairwise_mergeSort leS_trans leS_total _) fun z => hzp.mem_iff
    have hzl : ∀ z ∈ zs, isLetS z = true := fun z hz => hwl z (hzp.mem_iff.mp hz)
    have hz8 : zs.length ≤ 8 := lets_few hzn hzl
    have hex := wide_some hzn (fun z hz => hzp.mem_iff.mpr hz) hwn
    have hgd := wide_goodG hwl hrl
    have hGS : GS K H10 l5 [.ref t2, .ref t4] (wideR w0 w1 w2 w3 w4 w5) (.ref t10) (wideG w0 w3 (w0 :: w1 :: w2 :: w3 :: w4 :: w5 :: rest)) := ⟨hRG10, wide_nd, hgt, hgd, wide_few hrl⟩
    have e11 := same_new hsp (.lst (zs.map V.str))
    have hz11 : (upd H10 sp (.lst (zs.map V.str))) sp = some (.lst (zs.map V.str)) := upd_same
    generalize upd H10 sp (.lst (zs.map V.str)) = H11 at e11 hz11 ⊢
    have hGS := hGS.up e11
    have hs11 := hs10.up e11
    have hT11 := hT10.ext e11
    clear hRG10 hgt hs10 hT10 hw10 hzp hzs hwl hwn hrl hsp e11
    generalize wideR w0 w1 w2 w3 w4 w5 = ds at hze hex hGS
    generalize wideG w0 w3 (w0 :: w1 :: w2 :: w3 :: w4 :: w5 :: rest) = g at hze hex hgd hGS
    subst hze
    obtain ⟨mx, hmx, hcx⟩ := hex
    have hne : mx ∈ msG ds g := List.mem_filter.mpr ⟨List.mem_range.mpr hmx, hcx⟩
    have hno := hGS.none
    have h256 : 2 ^ (zsG ds g).length ≤ 2 ^ 8 := Nat.pow_le_pow_right (by decide) hz8
    refine ⟨sp, zsG ds g, rfl, SqL.of hz11, hz8, fun pc ys H12 e12 _ hpc hC => ⟨pc, rfl, ⟨_, SqL.of hpc⟩, fun D hD => ?_⟩⟩
    have hyl : ys.length = 2 ^ (zsG ds g).length := by rw [hC.1, List.length_range]
    have hGS := hGS.up e12
    have hs12 := hs11.up e12
    have hT12 := hT11.ext e12
    clear hs11 hT11 hz11 e12 hmx hcx
    refine lc_selL (fun i => if counterB ds g (casN (zsG ds g) i) = true then ys[i]? else none) (SqL.of hpc) hD (le_line (by omega)) ?_ ?_
    · intro i x H7 hx e7 Qy Qn ky kn
      have hi := (List.getElem?_eq_some_iff.mp hx).1
      obtain ⟨c, hyc, hc⟩ := hC.2 i i (List.getElem?_range (by omega))
      obtain rfl : x = .ref c := Option.some.inj (hx.symm.trans hyc)
      have hG7 := hGS.up e7
      refine ⟨rfl, _, rfl, _, rfl, _, rfl, l5, _, ds, .ref t10, g, c, _, _, rfl, hG7.rg, hG7.gt, hgd, e7 _ _ hc, casN_case _ _, fun H8 e8 => ⟨_, rfl, if_b (fun hb => ?_) (fun hb => ?_)⟩⟩
      · exact ⟨_, rfl, ky _ _ e8 (by rw [hb, if_pos rfl]; exact hyc)⟩
      · exact kn _ e8 (by rw [hb, if_neg (by decide)])
    intro H13 e13 hD13
    have hM := cas_filt (hC.up e13) fun m => counterB ds g (casN (zsG ds g) m)
    have hM : CasL (zsG ds g) H13 (msG ds g) _ := hM
    generalize (List.range ys.length).filterMap (fun i => if counterB ds g (casN (zsG ds g) i) = true then ys[i]? else none) = du at hD13 hM
    have hGS := hGS.up e13
    have hs13 := hs12.up e13
    have hT13 := hT12.ext e13
    clear hs12 hT12 e13 hC hpc hD hyl
    have hms : (msG ds g).length ≤ 256 := Nat.le_trans (List.length_filter_le _ _) (by rw [List.length_range]; omega)
    refine ⟨_, rfl, _, rfl, .ref l5, .ref t10, ds, g, rfl, rg_rules hGS.rg, goodg_goal hgd hGS.gt, fun _ => ⟨l5, _, rfl, hGS, fun xs H14 e14 hX => ?_⟩, fun e he => by rw [hno] at he; cases he⟩
    intro lp hlp
    have hX := hX.up (same_new hlp (.lst xs))
    have e15 := e14.trans (same_new hlp (.lst xs))
    refine ⟨_, rfl, .inl (same_cas hzl hzn hz8 upd_same (e15 _ _ hD13) hX (hM.up e15) (by omega) fun H16 e16 => ⟨_, rfl, iteF ?_⟩)⟩
    have e16 := e15.trans e16
    have hGS := hGS.up e16
    refine ⟨_, rfl, _, rfl, .ref l5, .ref t10, ds, g, rfl, rg_rules hGS.rg, goodg_goal hgd hGS.gt, fun _ => ⟨l5, _, rfl, hGS, fun u H17 e17 hF => ?_⟩, fun e he => by rw [hno] at he; cases he⟩
    have e17 := e16.trans e17
    have hD17 := e17 _ _ hD13
    have hM17 := hM.up e17
    rcases hF with ⟨_, h0⟩ | ⟨c, m, rfl, hc, hm⟩
    · rw [h0] at hne
      cases hne
    obtain ⟨c', h1, h2⟩ := hM17.2 0 m hm
    refine ⟨_, rfl, D, du, _, .ref c', rfl, rfl, SqL.of hD17, atI_nat (j := 0) h1, .inr (.inl ⟨c, c', _, rfl, hc, h2, boolK_of hzl hzn hz8 _, fun H18 e18 => ⟨_, rfl, iteF ?_⟩⟩)⟩
    have e18 := e17.trans e18
    have hs18 := hs13.up e18
    have hT18 := hT13.ext e18
    clear hs13 hT13 hD13 hM hD17 hM17 hGS hX e15 e16 e17 e18 hc h1 h2 hm hne hms h256 hno hzl hzn hz8 hgd
    refine ⟨hT18, fun H19 eN hT19 => ?_⟩
    refine tt_err (e := .rules 0) (fun E Q' k => ⟨(by show 1 ≤ sizeLine; decide), fun l3 hl3 => ⟨.ref l3, .non, [.int 3], .none, rfl, ⟨⟨l3, [.int 3], rfl, .inl (SqL.of upd_same), rfl, fun i u d h1 h2 => ?_⟩, by simp⟩, ⟨.non, ⟨by decide +kernel, by decide +kernel⟩, fun z => by cases z⟩, fun h0 => (by cases h0), fun e he => ?_⟩⟩) (fun v1 H20 e20 hv1 => ?_)
    · match i, h1, h2 with
      | 0, h1, h2 =>
        cases h1
        cases h2
        exact ⟨.int 3, ⟨by decide +kernel, by decide +kernel⟩, fun z => by cases z⟩
      | i + 1, h1, _ => simp at h1
    · have h1 : goalErr [.int 3] .none = some (.rules 0) := rfl
      rw [h1] at he
      cases he
      exact errNo T.ns_InvalidRules T.ns_InvalidGoal T.ns_TooManyTerms (Err1.up k (same_new hl3 _))
    refine ⟨hT19.ext e20, fun H21 eN3 hT21 => ?_⟩
    refine tt_err (e := .goal) (fun E Q' k => ⟨(by show 0 ≤ sizeLine; decide), fun l3 hl3 => ⟨.ref l3, .non, [], .none, rfl, rg_rules (nil_rg upd_same), ⟨.non, ⟨by decide +kernel, by decide +kernel⟩, fun z => by cases z⟩, fun h0 => (by cases h0), fun e he => ?_⟩⟩) (fun v2 H22 e22 hv2 => ?_)
    · have h1 : goalErr [] .none = some .goal := rfl
      rw [h1] at he
      cases he
      exact Err0.up k (same_new hl3 _)
    refine ⟨(by show 2 ≤ sizeLine; decide), fun p5 hp5 => ?_⟩
    have e5 := same_new hp5 (.lst [v1, v2])
    have hv1' := (tp_n hv1 eN3).up (Same.T (e22.trans e5))
    have hv2' := hv2.up (Same.T e5)
    refine ⟨_, rfl, ?_⟩
    refine ⟨(by show 2 ≤ sizeLine; decide), fun y1 hy1 => ⟨(by show 2 ≤ sizeLine; decide), fun y2 hy2 => ⟨(by show 2 ≤ sizeLine; decide), fun y3 hy3 => ⟨(by show 2 ≤ sizeLine; decide), fun y4 hy4 => ?_⟩⟩⟩⟩
    have k1 := same_new hy1 (.tup [.str "rules", .int 0])
    have k2 := same_new hy2 (.tup [.non, .ref y1])
    have k3 := same_new hy3 (.tup [.non, .str "goal"])
    have k4 := same_new hy4 (.lst [.ref y2, .ref y3])
    have hd6 : Dp K (upd (upd (upd (upd (upd H22 p5 (.lst [v1, v2])) y1 (.tup [.str "rules", .int 0])) y2 (.tup [.non, .ref y1])) y3 (.tup [.non, .str "goal"])) y4 (.lst [.ref y2, .ref y3])) (.ref y4) (.list [.tuple [.none, .tuple [.str "rules", .int 0]], .tuple [.none, .str "goal"]]) :=
      .lst (SqL.of upd_same) (.cons (.tup (SqT.of ((k3.trans k4) _ _ upd_same)) (.cons .non (.cons (.tup (SqT.of ((k2.trans (k3.trans k4)) _ _ upd_same)) (.cons (.str _) (.cons (.int _) .nil))) .nil))) (.cons (.tup (SqT.of (k4 _ _ upd_same)) (.cons .non (.cons (.str _) .nil))) .nil))
    have e6 := k1.trans (k2.trans (k3.trans k4))
    have hp6 := e6 _ _ (show (upd H22 p5 (.lst [v1, v2])) p5 = some (.lst [v1, v2]) from upd_same)
    have hq1 := up_d e6 hv1'.dp
    have hq2 := up_d e6 hv2'.dp
    generalize upd (upd (upd (upd (upd H22 p5 (.lst [v1, v2])) y1 (.tup [.str "rules", .int 0])) y2 (.tup [.non, .ref y1])) y3 (.tup [.non, .str "goal"])) y4 (.lst [.ref y2, .ref y3]) = H6 at hd6 hp6 hq1 hq2 ⊢
    clear k1 k2 k3 k4 e6 hy1 hy2 hy3 hy4 e5 hv1' hv2' hv1 hv2 hp5
    refine ⟨.list [.tuple [.none, errD (.rules 0)], .tuple [.none, errD .goal]], _, .lst (SqL.of hp6) (.cons hq1 (.cons hq2 .nil)), hd6, (by decide +kernel), (by decide +kernel), ?_⟩
    rw [show PyData.eqv (.list [.tuple [.none, errD (.rules 0)], .tuple [.none, errD .goal]]) (.list [.tuple [.none, .tuple [.str "rules", .int 0]], .tuple [.none, .str "goal"]]) = true from by decide +kernel]
    refine ⟨_, rfl, iteT ?_⟩
    refine ⟨(by show 0 ≤ sizeLine; decide), fun l8 hl8 => ⟨(by show 2 ≤ sizeLine; decide), fun t8 ht8 => ?_⟩⟩
    have e8 := same_new hl8 (.lst [])
    have e9 := same_new ht8 (.tup [.str "h", .str "a"])
    have hl9 := e9 _ _ (show (upd H6 l8 (HO.lst [])) l8 = some (.lst []) from upd_same)
    have htp : Tp K (upd (upd H6 l8 (.lst [])) t8 (.tup [.str "h", .str "a"])) (.ref t8) lastG := .tup (.inl upd_same) (.cons (.str _) (.cons (.str _) .nil))
    have hGS : GS K (upd (upd H6 l8 (.lst [])) t8 (.tup [.str "h", .str "a"])) l8 [] [] (.ref t8) lastG := ⟨nil_rg hl9, .nil, htp, last_good, last_few⟩
    refine ⟨.ref l8, .ref t8, [], lastG, rfl, rg_rules hGS.rg, goodg_goal last_good htp, fun _ => ⟨l8, [], rfl, hGS, fun u H10 e10 hF => ?_⟩, fun e he => by rw [hGS.none] at he; cases he⟩
    rcases hF with ⟨_, h0⟩ | ⟨c, m, rfl, hc, hm⟩
    · rw [last_ms] at h0
      cases h0
    rw [last_ms] at hm
    obtain rfl : 1 = m := Option.some.inj hm
    rw [last_zs, show kvsL (prN [("a" : Str), ("h" : Str)] 1) = [((.inr "a" : Key), V.bl false), ((.inr "h" : Key), V.bl true)] from by decide +kernel] at hc
    refine fun D2 hD2 => ⟨upd_same, [((.inr "a" : Key), V.bl false), ((.inr "h" : Key), V.bl true)], rfl, by decide, ?_⟩
    have hcD : c ≠ D2 := fun e => by rw [e, hD2] at hc; cases hc
    refine ⟨c, D2, [((.inr "a" : Key), V.bl false), ((.inr "h" : Key), V.bl true)], [((.inr "a" : Key), V.bl false), ((.inr "h" : Key), V.bl true)], rfl, rfl, by rw [upd_ne hcD, upd_ne hcD]; exact hc, upd_same, rfl, fun p hp => ?_, ?_⟩
    · rcases List.mem_cons.mp hp with rfl | hp
      · exact ⟨by decide +kernel, rfl⟩
      · rw [List.mem_singleton.mp hp]
        exact ⟨by decide +kernel, rfl⟩
    exact q _
end
end FF

namespace FF
open PySem PySem.Spec PyProof.Rows L2
theorem facts {P : Program} {w : World} {K : PySem.W.Frag} {h : Heap} {mg : Str → Option Value} {f : Addr} (X : K.In h) (G : h.Ns mainGlobals mg) (hfa : mg ("law" : Str) = some (.ref f)) (cx : He.SaysX fa fn [] [("law", none)] ex w h K) :
    ∃ fd : FuncData, (∀ (s : Shared) (v : Value), BindsTo s fd ⟨[v], []⟩ [("_law_script", v)]) ∧ ∀ base : Heap, K.In base → base.Ns mainGlobals mg → (∀ p ∈ [He.cT K ("law", none)], LamX.TabB base mg p.1 p.2) → FnOk P w K mg base CX0 42 f fd ["_law_script"] (spLaw K) := by
  have c := cx.t.d
  have T := top_of X G c cx.more
  obtain ⟨fd_is_letter, F_is_letter⟩ := c.def_ 0 (d := d_is_letter) rfl
  have m_is_letter := He.glo_ok X G (c.fact 37 (f := .glo "is_letter") rfl)
  obtain ⟨fd_measured, F_measured⟩ := c.def_ 1 (d := d_measured) rfl
  have m_measured := He.glo_ok X G (c.fact 38 (f := .glo "measured") rfl)
  obtain ⟨fd_is_term, F_is_term⟩ := c.def_ 2 (d := d_is_term) rfl
  have m_is_term := He.glo_ok X G (c.fact 39 (f := .glo "is_term") rfl)
  obtain ⟨fd_parts_of, F_parts_of⟩ := c.def_ 3 (d := d_parts_of) rfl
  have m_parts_of := He.glo_ok X G (c.fact 40 (f := .glo "parts_of") rfl)
  obtain ⟨fd_walked, F_walked⟩ := c.def_ 4 (d := d_walked) rfl
  have m_walked := He.glo_ok X G (c.fact 41 (f := .glo "walked") rfl)
  obtain ⟨fd_is_name, F_is_name⟩ := c.def_ 5 (d := d_is_name) rfl
  have m_is_name := He.glo_ok X G (c.fact 42 (f := .glo "is_name") rfl)
  obtain ⟨fd_text_of, F_text_of⟩ := c.def_ 6 (d := d_text_of) rfl
  have m_text_of := He.glo_ok X G (c.fact 43 (f := .glo "text_of") rfl)
  obtain ⟨fd_is_goal, F_is_goal⟩ := c.def_ 7 (d := d_is_goal) rfl
  have m_is_goal := He.glo_ok X G (c.fact 44 (f := .glo "is_goal") rfl)
  obtain ⟨fd_is_rule, F_is_rule⟩ := c.def_ 8 (d := d_is_rule) rfl
  have m_is_rule := He.glo_ok X G (c.fact 45 (f := .glo "is_rule") rfl)
  obtain ⟨fd_words_of, F_words_of⟩ := c.def_ 9 (d := d_words_of) rfl
  have m_words_of := He.glo_ok X G (c.fact 46 (f := .glo "words_of") rfl)
  obtain ⟨fd_pairs_in, F_pairs_in⟩ := c.def_ 10 (d := d_pairs_in) rfl
  have m_pairs_in := He.glo_ok X G (c.fact 47 (f := .glo "pairs_in") rfl)
  obtain ⟨fd_need_list, F_need_list⟩ := c.def_ 11 (d := d_need_list) rfl
  have m_need_list := He.glo_ok X G (c.fact 48 (f := .glo "need_list") rfl)
  obtain ⟨fd_checked_words, F_checked_words⟩ := c.def_ 12 (d := d_checked_words) rfl
  have m_checked_words := He.glo_ok X G (c.fact 49 (f := .glo "checked_words") rfl)
  obtain ⟨fd_goal_words, F_goal_words⟩ := c.def_ 13 (d := d_goal_words) rfl
  have m_goal_words := He.glo_ok X G (c.fact 50 (f := .glo "goal_words") rfl)
  obtain ⟨fd_truth_in, F_truth_in⟩ := c.def_ 14 (d := d_truth_in) rfl
  have m_truth_in := He.glo_ok X G (c.fact 51 (f := .glo "truth_in") rfl)
  obtain ⟨fd_is_kept, F_is_kept⟩ := c.def_ 15 (d := d_is_kept) rfl
  have m_is_kept := He.glo_ok X G (c.fact 52 (f := .glo "is_kept") rfl)
  obtain ⟨fd_is_broken, F_is_broken⟩ := c.def_ 16 (d := d_is_broken) rfl
  have m_is_broken := He.glo_ok X G (c.fact 53 (f := .glo "is_broken") rfl)
  obtain ⟨fd_letters_of, F_letters_of⟩ := c.def_ 17 (d := d_letters_of) rfl
  have m_letters_of := He.glo_ok X G (c.fact 54 (f := .glo "letters_of") rfl)
  obtain ⟨fd_is_counter, F_is_counter⟩ := c.def_ 18 (d := d_is_counter) rfl
  have m_is_counter := He.glo_ok X G (c.fact 55 (f := .glo "is_counter") rfl)
  obtain ⟨fd_case_at, F_case_at⟩ := c.def_ 19 (d := d_case_at) rfl
  have m_case_at := He.glo_ok X G (c.fact 56 (f := .glo "case_at") rfl)
  obtain ⟨fd_cases, F_cases⟩ := c.def_ 20 (d := d_cases) rfl
  have m_cases := He.glo_ok X G (c.fact 57 (f := .glo "cases") rfl)
  obtain ⟨fd_first_case, F_first_case⟩ := c.def_ 21 (d := d_first_case) rfl
  have m_first_case := He.glo_ok X G (c.fact 58 (f := .glo "first_case") rfl)
  obtain ⟨fd_law_source, F_law_source⟩ := c.def_ 22 (d := d_law_source) rfl
  have m_law_source := He.glo_ok X G (c.fact 59 (f := .glo "_law_source") rfl)
  obtain ⟨fd_law_take, F_law_take⟩ := c.def_ 23 (d := d_law_take) rfl
  have m_law_take := He.glo_ok X G (c.fact 60 (f := .glo "_law_take") rfl)
  obtain ⟨fd_law_pick, F_law_pick⟩ := c.def_ 24 (d := d_law_pick) rfl
  have m_law_pick := He.glo_ok X G (c.fact 61 (f := .glo "_law_pick") rfl)
  obtain ⟨fd_law_mixed, F_law_mixed⟩ := c.def_ 25 (d := d_law_mixed) rfl
  have m_law_mixed := He.glo_ok X G (c.fact 62 (f := .glo "_law_mixed") rfl)
  obtain ⟨fd_law_same, F_law_same⟩ := c.def_ 26 (d := d_law_same) rfl
  have m_law_same := He.glo_ok X G (c.fact 63 (f := .glo "_law_same") rfl)
  obtain ⟨fd_law_parts, F_law_parts⟩ := c.def_ 27 (d := d_law_parts) rfl
  have m_law_parts := He.glo_ok X G (c.fact 64 (f := .glo "_law_parts") rfl)
  obtain ⟨fd_law_text, F_law_text⟩ := c.def_ 28 (d := d_law_text) rfl
  have m_law_text := He.glo_ok X G (c.fact 65 (f := .glo "_law_text") rfl)
  obtain ⟨fd_law_walk, F_law_walk⟩ := c.def_ 29 (d := d_law_walk) rfl
  have m_law_walk := He.glo_ok X G (c.fact 66 (f := .glo "_law_walk") rfl)
  obtain ⟨fd_law_signs_in, F_law_signs_in⟩ := c.def_ 30 (d := d_law_signs_in) rfl
  have m_law_signs_in := He.glo_ok X G (c.fact 67 (f := .glo "_law_signs_in") rfl)
  obtain ⟨fd_law_by_text, F_law_by_text⟩ := c.def_ 31 (d := d_law_by_text) rfl
  have m_law_by_text := He.glo_ok X G (c.fact 68 (f := .glo "_law_by_text") rfl)
  obtain ⟨fd_law_pairs, F_law_pairs⟩ := c.def_ 32 (d := d_law_pairs) rfl
  have m_law_pairs := He.glo_ok X G (c.fact 69 (f := .glo "_law_pairs") rfl)
  obtain ⟨fd_law_words, F_law_words⟩ := c.def_ 33 (d := d_law_words) rfl
  have m_law_words := He.glo_ok X G (c.fact 70 (f := .glo "_law_words") rfl)
  obtain ⟨fd_law_term, F_law_term⟩ := c.def_ 34 (d := d_law_term) rfl
  have m_law_term := He.glo_ok X G (c.fact 71 (f := .glo "_law_term") rfl)
  obtain ⟨fd_law_signs, F_law_signs⟩ := c.def_ 35 (d := d_law_signs) rfl
  have m_law_signs := He.glo_ok X G (c.fact 72 (f := .glo "_law_signs") rfl)
  obtain ⟨fd_law_names, F_law_names⟩ := c.def_ 36 (d := d_law_names) rfl
  have m_law_names := He.glo_ok X G (c.fact 73 (f := .glo "_law_names") rfl)
  obtain ⟨fd_law_kept_few, F_law_kept_few⟩ := c.def_ 37 (d := d_law_kept_few) rfl
  have m_law_kept_few := He.glo_ok X G (c.fact 74 (f := .glo "_law_kept_few") rfl)
  obtain ⟨fd_law_known_goal, F_law_known_goal⟩ := c.def_ 38 (d := d_law_known_goal) rfl
  have m_law_known_goal := He.glo_ok X G (c.fact 75 (f := .glo "_law_known_goal") rfl)
  obtain ⟨fd_law_goal, F_law_goal⟩ := c.def_ 39 (d := d_law_goal) rfl
  have m_law_goal := He.glo_ok X G (c.fact 76 (f := .glo "_law_goal") rfl)
  obtain ⟨fd_law_premises, F_law_premises⟩ := c.def_ 40 (d := d_law_premises) rfl
  have m_law_premises := He.glo_ok X G (c.fact 77 (f := .glo "_law_premises") rfl)
  obtain ⟨fd_law_scene, F_law_scene⟩ := c.def_ 41 (d := d_law_scene) rfl
  have m_law_scene := He.glo_ok X G (c.fact 78 (f := .glo "_law_scene") rfl)
  obtain ⟨fd_law_truth, F_law_truth⟩ := c.def_ 42 (d := d_law_truth) rfl
  have m_law_truth := He.glo_ok X G (c.fact 79 (f := .glo "_law_truth") rfl)
  obtain ⟨fd_law_holds, F_law_holds⟩ := c.def_ 43 (d := d_law_holds) rfl
  have m_law_holds := He.glo_ok X G (c.fact 80 (f := .glo "_law_holds") rfl)
  obtain ⟨fd_law_fails, F_law_fails⟩ := c.def_ 44 (d := d_law_fails) rfl
  have m_law_fails := He.glo_ok X G (c.fact 81 (f := .glo "_law_fails") rfl)
  obtain ⟨fd_law_counters, F_law_counters⟩ := c.def_ 45 (d := d_law_counters) rfl
  have m_law_counters := He.glo_ok X G (c.fact 82 (f := .glo "_law_counters") rfl)
  obtain ⟨fd_law_cases, F_law_cases⟩ := c.def_ 46 (d := d_law_cases) rfl
  have m_law_cases := He.glo_ok X G (c.fact 83 (f := .glo "_law_cases") rfl)
  obtain ⟨fd_law_rule_error, F_law_rule_error⟩ := c.def_ 47 (d := d_law_rule_error) rfl
  have m_law_rule_error := He.glo_ok X G (c.fact 84 (f := .glo "_law_rule_error") rfl)
  obtain ⟨fd_law_all_signs, F_law_all_signs⟩ := c.def_ 48 (d := d_law_all_signs) rfl
  have m_law_all_signs := He.glo_ok X G (c.fact 85 (f := .glo "_law_all_signs") rfl)
  obtain ⟨fd_law, F_law⟩ := c.def_ 49 (d := d_law) rfl
  have m_law := He.glo_ok X G (c.fact 86 (f := .glo "law") rfl)
  obtain ⟨fd_FaultError_init, F_FaultError_init⟩ := c.def_ 50 (d := d_FaultError_init) rfl
  obtain ⟨fd_InvalidRules_init, F_InvalidRules_init⟩ := c.def_ 51 (d := d_InvalidRules_init) rfl
  obtain ⟨fd_InvalidGoal_init, F_InvalidGoal_init⟩ := c.def_ 52 (d := d_InvalidGoal_init) rfl
  obtain ⟨fd_TooManyTerms_init, F_TooManyTerms_init⟩ := c.def_ 53 (d := d_TooManyTerms_init) rfl
  have e := hfa.symm.trans m_law
  cases e
  have b := FunD.bindsA (ps := ["_law_script"]) F_law fun _ _ _ _ _ _ us hl => match us, hl with | [_], _ => rfl
  refine ⟨fd_law, fun s v => b s [v] rfl, fun base _ _ hTB => ?_⟩
  have D_take : Def P w K mg base "_law_take" 1 ["_law_source_here", "_law_many"] spTake := take_hid (ok_take F_law_take m_law_take T)
  have D_source : Def P w K mg base "_law_source" 1 ["_law_script"] (spSource K) := ok_source F_law_source m_law_source T
  have D_pick : Def P w K mg base "_law_pick" 2 ["_law_source_here", "_law_row"] (spPick K) := ok_pick F_law_pick m_law_pick T D_take
  have D_mixed : Def P w K mg base "_law_mixed" 2 ["_law_source_here", "_law_row"] (spMixed K) := ok_mixed F_law_mixed m_law_mixed T D_take
  have D_signs : Def P w K mg base "_law_signs" 3 ["_law_source_here", "_law_most"] spSigns := ok_signs F_law_signs m_law_signs T D_take D_mixed
  have D_term : Def P w K mg base "_law_term" 8 ["_law_source_here", "_law_signs_here", "_law_deep", "_law_room"] (spTermF K) := termF (ok_termR F_law_term m_law_term T D_take D_pick 6)
  have D_let : Def P w K mg base "is_letter" 1 ["value"] (spIsLetter K) := ok_is_letter F_is_letter m_is_letter T
  have D_measured : ∀ n, Def P w K mg base "measured" (n + 1) ["value", "max_depth"] (spMeasured K n) := fun n => by
    induction n with
    | zero => exact (def_none F_measured m_measured (F_measured.bindsN fun _ _ _ _ _ _ us hl => match us, hl with | [_, _], _ => rfl) fun vs H Q E ⟨_, _, _, _, _, _, h, _⟩ => by omega).mono (Nat.zero_le _)
    | succ n ih => exact ok_measured_step F_measured m_measured T D_let ih
  have b_fe : Binds K fd_FaultError_init ["self", "code"] [] := F_FaultError_init.bindsN fun _ _ _ _ _ _ us hl => match us, hl with | [_, _], _ => rfl
  have FE : FnOk P w K mg base CX0 1 (He.ma K (He.ga K "FaultError") "__init__") fd_FaultError_init ["self", "code"] (spFE K) := fn_fe F_FaultError_init T
  have R_goal : RaiseD P w K mg base "InvalidGoal" "FaultError" 2 "InvalidGoal" := ⟨T.x_InvalidGoal, T.c_InvalidGoal, fd_InvalidGoal_init, fn_InvalidGoal F_InvalidGoal_init T FE b_fe, F_InvalidGoal_init.bindsN fun _ _ _ _ _ _ us hl => match us, hl with | [_], _ => rfl⟩
  have R_rules : RaiseD1 P w K mg base "InvalidRules" "FaultError" 2 "InvalidRules" "index" := ⟨T.x_InvalidRules, T.n_InvalidRules_index, T.c_InvalidRules, fd_InvalidRules_init, fn_InvalidRules F_InvalidRules_init T FE b_fe, F_InvalidRules_init.bindsN fun _ _ _ _ _ _ us hl => match us, hl with | [_, _], _ => rfl⟩
  have R_terms : RaiseD1 P w K mg base "TooManyTerms" "FaultError" 2 "TooManyTerms" "count" := ⟨T.x_TooManyTerms, T.n_TooManyTerms_count, T.c_TooManyTerms, fd_TooManyTerms_init, fn_TooManyTerms F_TooManyTerms_init T FE b_fe, F_TooManyTerms_init.bindsN fun _ _ _ _ _ _ us hl => match us, hl with | [_, _], _ => rfl⟩
  have D_to : ∀ n, Def P w K mg base "text_of" n ["term"] (spText K n) := fun n => by
    induction n with
    | zero => exact def_none F_text_of m_text_of (F_text_of.bindsN fun _ _ _ _ _ _ us hl => match us, hl with | [_], _ => rfl) fun vs H Q E ⟨_, _, _, _, _, _, h, _⟩ => by omega
    | succ n ih => exact ok_text_of_step F_text_of m_text_of T ih
  have D_lt : ∀ n, Def P w K mg base "_law_text" n ["_law_word"] (spText K n) := fun n => by
    induction n with
    | zero => exact def_none F_law_text m_law_text (F_law_text.bindsN fun _ _ _ _ _ _ us hl => match us, hl with | [_], _ => rfl) fun vs H Q E ⟨_, _, _, _, _, _, h, _⟩ => by omega
    | succ n ih => exact ok_law_text_step F_law_text m_law_text T ih
  have D_parts : Def P w K mg base "parts_of" 1 ["term"] (spParts K) := ok_parts_of F_parts_of m_parts_of T
  have D_lparts : Def P w K mg base "_law_parts" 1 ["_law_word"] (spPartsL K) := ok_law_parts F_law_parts m_law_parts T
  have D_walked : ∀ n, Def P w K mg base "walked" (n + 1) ["term"] (spWalked K n) := fun n => by
    induction n with
    | zero => exact (def_none F_walked m_walked (F_walked.bindsN fun _ _ _ _ _ _ us hl => match us, hl with | [_], _ => rfl) fun vs H Q E ⟨_, _, _, _, _, _, h, _⟩ => by omega).mono (Nat.zero_le _)
    | succ n ih => exact ok_walked_step F_walked m_walked T D_parts ih
  have D_walk : ∀ n, Def P w K mg base "_law_walk" (n + 1) ["_law_word"] (spWalked K n) := fun n => by
    induction n with
    | zero => exact (def_none F_law_walk m_law_walk (F_law_walk.bindsN fun _ _ _ _ _ _ us hl => match us, hl with | [_], _ => rfl) fun vs H Q E ⟨_, _, _, _, _, _, h, _⟩ => by omega).mono (Nat.zero_le _)
    | succ n ih => exact ok_law_walk_step F_law_walk m_law_walk T D_lparts ih
  have D_wo : Def P w K mg base "words_of" 10 ["pairs"] (spWordsOf K) := ok_words_of F_words_of m_words_of T (D_walked 6) (D_to 7)
  have D_bt : Def P w K mg base "_law_by_text" 10 ["_law_row"] (spByText K) := ok_by_text F_law_by_text m_law_by_text T (D_lt 7)
  have D_lw : Def P w K mg base "_law_words" 11 ["_law_pairs_here"] (spWordsOf K) := ok_law_words F_law_words m_law_words T (D_walk 6) D_bt
  have D_name : Def P w K mg base "is_name" 1 ["text"] (spName K) := ok_is_name F_is_name m_is_name T
  have D_goal : Def P w K mg base "is_goal" 14 ["value"] (spGoal K) := ok_is_goal F_is_goal m_is_goal T F_is_term m_is_term (fn_is_term F_is_term T (D_measured 11))
  have D_rule : Def P w K mg base "is_rule" 15 ["value"] (spRule K) := ok_is_rule F_is_rule m_is_rule T D_name D_goal
  have D_nl : DefX P w K mg base "need_list" 16 ["rules"] (spNeedList K) := ok_need_list F_need_list m_need_list T D_rule R_rules
  have D_pi : Def P w K mg base "pairs_in" 1 ["rules", "goal"] (spPairsIn K) := ok_pairs_in F_pairs_in m_pairs_in T
  have D_cw : DefX P w K mg base "checked_words" 17 ["rules", "goal"] (spChecked K) := ok_checked F_checked_words m_checked_words T D_nl D_goal D_pi D_wo R_goal R_terms
  have D_names : Def P w K mg base "_law_names" 3 ["_law_source_here", "_law_many"] (spNamesG K) := ok_namesG F_law_names m_law_names T D_take D_pick
  have D_pl : Def P w K mg base "_law_pairs" 1 ["_law_premises_here", "_law_aim"] (spPairsL K) := ok_pairsL F_law_pairs m_law_pairs T
  have D_kf : Def P w K mg base "_law_kept_few" 12 ["_law_premises_here", "_law_aim", "_law_most"] (spKept K) := ok_kept F_law_kept_few m_law_kept_few T D_pl D_lw
  have D_kg : Def P w K mg base "_law_known_goal" 3 ["_law_source_here", "_law_signs_here"] (spKnown K) := ok_known F_law_known_goal m_law_known_goal T D_pick
  have D_pr : Def P w K mg base "_law_premises" 9 ["_law_source_here", "_law_signs_here", "_law_most"] (spPremises K) := ok_premises F_law_premises m_law_premises T D_take D_pick D_names D_term
  have D_go : Def P w K mg base "_law_goal" 9 ["_law_source_here", "_law_signs_here", "_law_premises_here"] (spGoalL K) := ok_goalL F_law_goal m_law_goal T D_take D_pick D_kg D_term
  have D_scene : Def P w K mg base "_law_scene" 13 ["_law_source_here", "_law_most", "_law_words_here"] (spScene K) := ok_scene F_law_scene m_law_scene T D_signs D_pr D_go D_lw D_kf
  have D_gw : DefX P w K mg base "goal_words" 18 ["rules", "goal"] (spGoalW K) := ok_goal_words F_goal_words m_goal_words T D_nl D_cw R_goal
  have D_truth : ∀ n, Def P w K mg base "truth_in" n ["term", "case"] (spTruth K n) := fun n => by
    induction n with
    | zero => exact def_none F_truth_in m_truth_in (F_truth_in.bindsN fun _ _ _ _ _ _ us hl => match us, hl with | [_, _], _ => rfl) fun vs H Q E ⟨_, _, _, _, _, _, _, _, _, h, _⟩ => by omega
    | succ n ih => exact ok_truth_in_step F_truth_in m_truth_in T ih
  have D_ltruth : ∀ n, Def P w K mg base "_law_truth" n ["_law_word", "_law_case_now"] (spTruth K n) := fun n => by
    induction n with
    | zero => exact def_none F_law_truth m_law_truth (F_law_truth.bindsN fun _ _ _ _ _ _ us hl => match us, hl with | [_, _], _ => rfl) fun vs H Q E ⟨_, _, _, _, _, _, _, _, _, h, _⟩ => by omega
    | succ n ih => exact ok_law_truth_step F_law_truth m_law_truth T ih
  have D_lh : Def P w K mg base "_law_holds" 5 ["_law_left", "_law_right", "_law_case_now"] (spPairB K keepB) := ok_law_holds F_law_holds m_law_holds T (D_ltruth 4)
  have D_lf : Def P w K mg base "_law_fails" 5 ["_law_left", "_law_right", "_law_case_now"] (spPairB K brokB) := ok_law_fails F_law_fails m_law_fails T (D_ltruth 4)
  have D_lc : Def P w K mg base "_law_counters" 6 ["_law_premises_here", "_law_aim", "_law_case_now"] (spCtr K) := ok_law_counters F_law_counters m_law_counters T D_lf D_lh
  have D_kept : Def P w K mg base "is_kept" 5 ["left", "right", "case"] (spPairB K keepB) := ok_is_kept F_is_kept m_is_kept T (D_truth 4)
  have D_broken : Def P w K mg base "is_broken" 5 ["left", "right", "case"] (spPairB K brokB) := ok_is_broken F_is_broken m_is_broken T (D_truth 4)
  have D_letters : Def P w K mg base "letters_of" 1 ["words"] (spLettersG K) := ok_lettersG F_letters_of m_letters_of T
  have D_ic : Def P w K mg base "is_counter" 6 ["rules", "goal", "case"] (spCtr K) := ok_is_counter F_is_counter m_is_counter T D_broken D_kept
  have D_ca : Def P w K mg base "case_at" 1 ["names", "number"] (spCaseAt K) := ok_case_at F_case_at m_case_at T
  have D_si : Def P w K mg base "_law_signs_in" 12 ["_law_word"] (spLets K) := ok_signs_in F_law_signs_in m_law_signs_in T (D_walk 8)
  have D_as : Def P w K mg base "_law_all_signs" 13 ["_law_some"] (spAllSignsW K) := ok_all_signsW F_law_all_signs m_law_all_signs T D_si
  have D_lcs : Def P w K mg base "_law_cases" 1 ["_law_signs_here"] (spLawCases K) := ok_law_cases F_law_cases m_law_cases T
  have D_casX : DefF P w K mg base "cases" 19 ["rules", "goal"] (spCasX K) := ⟨_, _, gfx_cases F_cases T D_gw D_letters D_ca D_ic, m_cases, F_cases.kp, F_cases.bindsN fun _ _ _ _ _ _ us hl => match us, hl with | [_, _], _ => rfl⟩
  exact ok_law F_law T (hTB (He.cT K ("law", none)) (List.mem_singleton.mpr rfl)) F_law_rule_error m_law_rule_error F_cases (gl_cases F_cases T D_gw D_letters D_ca D_ic) m_cases F_first_case m_first_case (fn_first_caseX F_first_case T T.ns_InvalidRules T.ns_InvalidGoal T.ns_TooManyTerms D_casX) D_source D_take D_mixed D_scene D_pl D_lw D_as D_lcs (ok_sameU F_law_same m_law_same T) D_lc
end FF
open PySem PySem.W PySem.Calls PyProof.Rows
set_option maxRecDepth 100000 in
set_option maxHeartbeats 0 in
theorem PySem.Challenge.cw_fivefault_k31_cases_in_order_holds : PySem.Challenge.rw_fivefault_k31_cases_in_order.Holds := by
  w_on; o_law
  refine HandSHeadRun.head_any (r := PySem.W.OpenLaw.row PySem.Challenge.rw_fivefault_k31_cases_in_order) (q := PySem.W.view (PySem.W.OpenLaw.row PySem.Challenge.rw_fivefault_k31_cases_in_order).prog [67]) (H := FF.hk) (ob := FF.ob) (M := 20000) (loose := FF.loose) (d := HandSHeadRun.topDef (PySem.W.OpenLaw.row PySem.Challenge.rw_fivefault_k31_cases_in_order).prog 67) (kwd := []) FF.ob_eq
    (by kernel_rfl) (fun s => by kernel_rfl) FF.run (by kernel_rfl) (by kernel_rfl) (by kernel_rfl) (by rfl) (by first | assumption | decide +kernel) (by decide +kernel) ⟨rfl, rfl, rfl, rfl, rfl, by decide +kernel⟩ ?hw ?hc
  case hw => w_witness2
  case hc =>
    refine LamX.walk_ofTsE (l := PySem.Challenge.rw_fivefault_k31_cases_in_order) (n := 63) (k := 42) (x := "_law_script") (CX := fun _ => L2.CX0) rfl (by decide) (by kernel_rfl) ⟨rfl, by decide, by decide⟩ ?F (fun _ _ _ _ _ z => z)
    intro w mg fa h Y G hmg0
    obtain ⟨K, KX, c⟩ := Y
    have hmg : mg ("law" : PySem.Str) = some (.ref fa) := by
      have e : (HandSHeadRun.topDef (PySem.W.OpenLaw.row PySem.Challenge.rw_fivefault_k31_cases_in_order).prog 67).name = ("law" : PySem.Str) := by kernel_rfl
      rw [← e]
      exact hmg0
    obtain ⟨fd, hb, hF⟩ := FF.facts (P := (PySem.Challenge.rw_fivefault_k31_cases_in_order).prog) (w := w) KX G hmg c
    refine ⟨K, KX, fd, [He.cT K ("law", none)], FF.spLaw K, fun p hp => ?_, fun p hp => ?_, fun p hp => ?_, hb, fun H a ns hl _ hT hS => ⟨a, ns, rfl, hS, fun p hp => ?_, fun _ => rfl⟩, hF⟩
    · exact List.mem_singleton.mp hp ▸ c.empty ("law", none) (by simp)
    · exact List.mem_singleton.mp hp ▸ c.out ("law", none) (by simp)
    · exact List.mem_singleton.mp hp ▸ PySem.W.codeHd_of_K KX (c.hd ("law", none) (by simp))
    · exact List.mem_singleton.mp hp ▸ LamX.TabS.nil (hT (He.cT K ("law", none)) (by simp))

