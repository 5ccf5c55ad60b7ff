import PyProof.Rows.All
import Wide.All
import OpenK.AllK
import Wide.FinOn
import HandS.ForMost
import HandS.IsInst
import HandS.Deep
import HandS.Zip
import HandS.Defaults
import HandS.More
import HandS.Conv
import HandS.Style
import HandS.Codes
import HandS.ExcInit
import HandS.ExcField
import HandS.TryMany
import HandS.ClsMeth
import HandS.Lambda
import HandS.EndTab
import HandS.HeadWalk
import HandS.WordsExc
import PyProof.P3Eq
import HandS.HeadHook4
import HandS.Head2
import HandS.HeadEnd
import PyProof.P3In
import PyProof.ListStr
import HandS.Star
import HandS.DictComp
import HandS.FStr
import HandS.StrMore
import PyProof.Rows.SortShellSt
import KE.GoesMore
import HandS.Walk
import HandS.SetKeys
import HandS.IntHex
import HandS.OwnEq
import HandS.DictSub
import HandS.MakeKwOnly
import KE.DataCmp
import HandS.Property
import HandS.MethStar
import HandS.SetFor
import HandS.SetBool
import HandS.Strs
import HandS.TupAny
import HandS.GenYield
import HandS.GenList
import HandS.IterVal
import HandS.SortKw
import HandS.SortRule
import KE.DatumOrd
import KE.KeyNested
import KE.KDictKeyed
import HandS.Flow
import KE.KSuperObj
import HandS.More
import KE.KCallOwn
import KE.KEqNest
import HandS.WordsDict
import HandS.Finally
import KE.KExcInit
import PySem.Challenge.RW_fivefault_k50_capacities_of_a_store
set_option Elab.async false
set_option linter.all false
set_option maxRecDepth 100000
set_option maxHeartbeats 2000000
/-! Fivefault, part 1: heaps that grow, data, the draws' source. -/
namespace FF
open PySem PySem.Spec PyProof.Rows L2

/-! ### heaps that grow -/
theorem same_new {H : Hp} {p : Addr} (h : H p = none) (o : HO) : Same H (upd H p o) := fun b u q => by rw [upd_ne (ne_of_none q h)]; exact q
theorem same_rd {H H' : Hp} {a : Addr} {u : HO} (e : Same H H') (h : Rd H a u) : Rd H' a u := by
  rcases h with h | ⟨o, h⟩
  · exact .inl (e _ _ h)
  · exact .inr ⟨o, e _ _ h⟩
theorem up_l {K : PySem.W.Frag} {H H' : Hp} {a : Addr} {xs : List V} (e : Same H H') (h : SqL K H a xs) : SqL K H' a xs := by
  rcases h with h | h
  · exact .inl (same_rd e h)
  · exact .inr h
theorem up_t {K : PySem.W.Frag} {H H' : Hp} {a : Addr} {xs : List V} (e : Same H H') (h : SqT K H a xs) : SqT K H' a xs := by
  rcases h with h | h
  · exact .inl (same_rd e h)
  · exact .inr h
mutual
theorem up_d {K : PySem.W.Frag} {H H' : Hp} (e : Same H H') : ∀ {v : V} {d : PyData}, Dp K H v d → Dp K H' v d
  | _, _, .non => .non
  | _, _, .bl b => .bl b
  | _, _, .int i => .int i
  | _, _, .str x => .str x
  | _, _, .lst h a => .lst (up_l e h) (up_da e a)
  | _, _, .tup h a => .tup (up_t e h) (up_da e a)
theorem up_da {K : PySem.W.Frag} {H H' : Hp} (e : Same H H') : ∀ {vs : List V} {ds : List PyData}, DpAll K H vs ds → DpAll K H' vs ds
  | _, _, .nil => .nil
  | _, _, .cons h a => .cons (up_d e h) (up_da e a)
end
theorem da_get {K : PySem.W.Frag} {H : Hp} : ∀ {vs : List V} {ds : List PyData} {i : Nat} {v : V}, DpAll K H vs ds → vs[i]? = some v → ∃ d, ds[i]? = some d ∧ Dp K H v d
  | _, _, 0, _, .cons h _, e => by cases e; exact ⟨_, rfl, h⟩
  | _, _, i + 1, _, .cons _ t, e => da_get (i := i) t e
theorem da_len {K : PySem.W.Frag} {H : Hp} : ∀ {vs : List V} {ds : List PyData}, DpAll K H vs ds → vs.length = ds.length
  | _, _, .nil => rfl
  | _, _, .cons _ t => congrArg Nat.succ (da_len t)
/-! ### what data is -/
def tyN : PyData → String
  | .none => "NoneType"
  | .bool _ => "bool"
  | .int _ => "int"
  | .str _ => "str"
  | .list _ => "list"
  | .tuple _ => "tuple"
  | .dict _ => "dict"
theorem dp_ty {K : PySem.W.Frag} {H : Hp} {v : V} {d : PyData} (h : Dp K H v d) : TyX K H v (.type (tyN d)) := by
  cases h with
  | non => exact .base .non
  | bl b => exact .base (.bl b)
  | int i => exact .base (.int i)
  | str x => exact .base (.str x)
  | lst h _ =>
    rcases h with (h | ⟨o, h⟩) | ⟨o, _, _, h, c, _⟩
    · exact .base (.lst h)
    · exact .base (.frz h)
    · exact .kList h c
  | tup h _ =>
    rcases h with (h | ⟨o, h⟩) | ⟨o, _, _, h, c, _⟩
    · exact .base (.tup h)
    · exact .fTuple h
    · exact .kTuple h c
def isStr : PyData → Bool
  | .str _ => true
  | _ => false
def isTup : PyData → Bool
  | .tuple _ => true
  | _ => false
def isLst : PyData → Bool
  | .list _ => true
  | _ => false
def isBool : PyData → Bool
  | .bool _ => true
  | _ => false
def isInt : PyData → Bool
  | .bool _ => true
  | .int _ => true
  | _ => false
def isDict : PyData → Bool
  | .dict _ => true
  | _ => false
theorem kb_str (d : PyData) : kitB (tyN d) "str" = some (isStr d) := by cases d <;> kernel_rfl
theorem kb_tup (d : PyData) : kitB (tyN d) "tuple" = some (isTup d) := by cases d <;> kernel_rfl
theorem kb_lst (d : PyData) : kitB (tyN d) "list" = some (isLst d) := by cases d <;> kernel_rfl
theorem kb_bool (d : PyData) : kitB (tyN d) "bool" = some (isBool d) := by cases d <;> kernel_rfl
theorem kb_int (d : PyData) : kitB (tyN d) "int" = some (isInt d) := by cases d <;> kernel_rfl
theorem kb_dict (d : PyData) : kitB (tyN d) "dict" = some (isDict d) := by cases d <;> kernel_rfl
/-- isinstance(x, T) over data -/
def rIsD (K : PySem.W.Frag) (T : String) (f : PyData → Bool) : List V → Hp → VK → Prop := fun xs H Q => ∃ (x : V) (d : PyData), xs = [x, .ty T] ∧ Dp K H x d ∧ Q (.bl (f d)) H
theorem call_isD {X : Cx} {T : String} {f : PyData → Bool} (hk : ∀ d, kitB (tyN d) T = some (f d)) : CallR X (.builtin "isinstance") (rIsD X.K T f) := by
  intro pins s σ H xs us Q I r h
  obtain ⟨x, d, rfl, hd, q⟩ := h
  exact call_isi pins s σ H _ us Q I r ⟨x, .ty T, _, _, _, rfl, .ty T, dp_ty hd, kit_ty (hk d), q⟩

/-! ### defs of the text -/
/-- the def x of the top keeps the promise sp at level k -/
structure Def (P : Program) (w : World) (K : PySem.W.Frag) (mg : Str → Option Value) (base : Heap) (x : Str) (k : Nat) (ps : List Str) (sp : Sp) : Prop where
  ex : ∃ (f : Addr) (fd : FuncData), FnOk P w K mg base CX0 k f fd ps sp ∧ mg x = some (.ref f) ∧ PySem.W.keepIn K (.ref f) = true ∧ Binds K fd ps []
theorem pe_def {X : Cx} {x : Str} {k j : Nat} {ps : List Str} {sp : Sp} {e : Expr} {es : List Expr} {p pos : Pos} {t : TA} (D : Def X.prog X.w X.K X.mg X.base x k ps sp) (hr : Room j X.A) (hkj : k ≤ j) (ha : PA X (e :: es) t)
    (hg : Gl X x := by rfl) (hdb : (x == ("__debug__" : Str)) = false := by decide) (he : starEach (e :: es) X.env = (false, eval e X.env) :: starEach es X.env := by rfl) (hpl : (backTo pos (starEach es X.env)).any (·.1) = false := by rfl) :
    PE X (.Call (.Name x p) (e :: es) [] pos) (tCall sp [] E0 t) := by
  obtain ⟨f, fd, F, hm, hk, hb⟩ := D.ex
  exact pe_call F (hr.mono hkj) hg hm hk hb .nil pass0 ha hdb he hpl
theorem Def.imp {P : Program} {w : World} {K : PySem.W.Frag} {mg : Str → Option Value} {base : Heap} {x : Str} {k : Nat} {ps : List Str} {sp sp' : Sp} (D : Def P w K mg base x k ps sp) (h : ∀ vs H Q E, sp' vs H Q E → sp vs H Q E) : Def P w K mg base x k ps sp' := by
  obtain ⟨f, fd, F, r⟩ := D.ex
  exact ⟨f, fd, F.imp h, r⟩
theorem Def.mono {P : Program} {w : World} {K : PySem.W.Frag} {mg : Str → Option Value} {base : Heap} {x : Str} {j k : Nat} {ps : List Str} {sp : Sp} (D : Def P w K mg base x j ps sp) (h : j ≤ k) : Def P w K mg base x k ps sp := by
  obtain ⟨f, fd, F, r⟩ := D.ex
  exact ⟨f, fd, F.mono h, r⟩

/-! ### a list that is hidden: its state is some good one -/
/-- at a stands a list whose items are good -/
def hid (good : List V → Prop) (a : Addr) : HO := .ext fun h => ∃ (xs : List V) (its : List Value) (n : Nat), good xs ∧ xs.length ≤ sizeLine ∧ Vals xs its ∧ h.get? a = some { cls := .type "list", data := .seq its.toArray n }
section
variable {P : Program} {w : World} {K : PySem.W.Frag} {mg : Str → Option Value} {base : Heap}
theorem upd_back {H : Hp} {a : Addr} {o u : HO} (h : H a = some u) : upd (upd H a o) a u = H := by
  funext b
  unfold upd
  split
  · next e => rw [e, h]
  · rfl
theorem hok_open {H : Hp} {h : Heap} {a : Addr} {good : List V → Prop} (hs : H a = some (hid good a)) (ok : HOk P w H h) : ∃ xs, good xs ∧ HOk P w (upd H a (.lst xs)) h := by
  obtain ⟨⟨xs, its, n, hg, hz, hv, he⟩, _, _⟩ := ok a _ hs
  refine ⟨xs, hg, fun b o e => ?_⟩
  by_cases hb : b = a
  · subst hb
    rw [upd_same] at e
    cases e
    exact ⟨hz, its, n, hv, he⟩
  · rw [upd_ne hb] at e
    refine (ok b o e).stay (fun _ _ _ q => q) (fun c q => ?_) (fun c ys q => ?_)
    · have hc : c ≠ a := by
        intro z
        rw [z, hs] at q
        cases q
      rw [upd_ne hc]
      exact q
    · have hc : c ≠ a := by
        intro z
        rw [z, hs] at q
        cases q
      rw [upd_ne hc]
      exact q
theorem hok_shut {H : Hp} {h : Heap} {a : Addr} {good : List V → Prop} {xs : List V} (hs : H a = some (.lst xs)) (hg : good xs) (ok : HOk P w H h) : HOk P w (upd H a (hid good a)) h := by
  obtain ⟨hz, its, n, hv, he⟩ := ok a _ hs
  intro b o e
  by_cases hb : b = a
  · subst hb
    rw [upd_same] at e
    cases e
    refine ⟨⟨xs, its, n, hg, hz, hv, he⟩, ⟨_, he⟩, fun h1 h2 ⟨xs1, its1, n1, g1, z1, v1, e1⟩ hk => ⟨xs1, its1, n1, g1, z1, v1, hk _ e1⟩⟩
  · rw [upd_ne hb] at e
    refine (ok b o e).stay (fun _ _ _ q => q) (fun c q => ?_) (fun c ys q => ?_)
    · have hc : c ≠ a := by
        intro z
        rw [z, hs] at q
        cases q
      rw [upd_ne hc]
      exact q
    · have hc : c ≠ a := by
        intro z
        rw [z, hs] at q
        cases q
      rw [upd_ne hc]
      exact q
/-- the list at a opened: what its items are the body may read and change; behind it the list is hidden again -/
theorem FnOk.open_ {k : Nat} {f : Addr} {fd : FuncData} {ps : List Str} {sp sp' : Sp} (F : FnOk P w K mg base CX0 k f fd ps sp) (len : ∀ vs H Q E, sp' vs H Q E → vs.length = ps.length)
    (h : ∀ vs H Q E, sp' vs H Q E → ∃ (a : Addr) (good : List V → Prop), H a = some (hid good a) ∧
      ∀ xs, good xs → sp vs (upd H a (.lst xs)) (fun v H' => ∃ ys, H' a = some (.lst ys) ∧ good ys ∧ Q v (upd H' a (hid good a))) E) : FnOk P w K mg base CX0 k f fd ps sp' := by
  refine ⟨len, fun A outer s H args us vs Q E hr e0 hb hv hsp => ?_⟩
  obtain ⟨a, good, ha, hq⟩ := h vs H Q E hsp
  obtain ⟨xs, hg, ok⟩ := hok_open ha e0.hok
  have dom : ∀ {b}, H b = none → (upd H a (.lst xs)) b = none := fun {b} n => by
    rw [upd_ne (fun z => by rw [z, ha] at n; cases n)]
    exact n
  have e1 : Env0 P w K mg base A outer s (upd H a (.lst xs)) := ⟨e0.frames, e0.mod, fun b o e => ⟨(e0.bs b o e).1, dom (e0.bs b o e).2⟩, e0.bsz, e0.funs, fun b hb => dom (e0.frf b hb), ok, e0.bare⟩
  refine codeAny_mono (F.run A outer s _ args us vs _ E hr e1 hb hv (hq xs hg)) fun r s' hc => ?_
  cases r with
  | error e => exact hc
  | ok fl =>
    cases fl with
    | ret u =>
      obtain ⟨v, H', os, bare, un, hok, rv, ys, hy, gy, q⟩ := hc
      refine ⟨v, _, os, bare, ?_, hok_shut hy gy hok, rv, q⟩
      have back : ∀ {b o}, H b = some o → b ≠ a → (upd H a (.lst xs)) b = some o := fun {b o} e hb => by rw [upd_ne hb]; exact e
      have notA : ∀ {b}, H b = none → b ≠ a := fun {b} n z => by rw [z, ha] at n; cases n
      refine ⟨fun b o e n h1 h2 => un.keep b o e (dom n) h1 h2, fun b o e n h1 h2 => un.slot b o e (dom n) h1 h2, fun b o e n h1 => ?_, un.there, fun b ys' e => ?_, fun b o u' e => ?_, fun b ps' e => ?_⟩
      · rw [upd_ne (notA n)]
        exact un.free b o e (dom n) h1
      · have hb : b ≠ a := fun z => by rw [z, ha] at e; cases e
        rw [upd_ne hb]
        exact un.tups b ys' (back e hb)
      · have hb : b ≠ a := fun z => by rw [z, ha] at e; cases e
        rw [upd_ne hb]
        exact un.frzs b o u' (back e hb)
      · have hb : b ≠ a := fun z => by rw [z, ha] at e; cases e
        rw [upd_ne hb]
        exact un.tbls b ps' (back e hb)
    | next => exact hc
    | brk => exact hc
    | cont => exact hc
/-- behind the body the list at a is hidden -/
theorem FnOk.shut_ {k : Nat} {f : Addr} {fd : FuncData} {ps : List Str} {sp sp' : Sp} (F : FnOk P w K mg base CX0 k f fd ps sp) (len : ∀ vs H Q E, sp' vs H Q E → vs.length = ps.length)
    (h : ∀ vs H Q E, sp' vs H Q E → sp vs H (fun v H' => ∃ (a : Addr) (good : List V → Prop) (ys : List V), H a = none ∧ H' a = some (.lst ys) ∧ good ys ∧ Q v (upd H' a (hid good a))) E) : FnOk P w K mg base CX0 k f fd ps sp' := by
  refine ⟨len, fun A outer s H args us vs Q E hr e0 hb hv hsp => ?_⟩
  refine codeAny_mono (F.run A outer s _ args us vs _ E hr e0 hb hv (h vs H Q E hsp)) fun r s' hc => ?_
  cases r with
  | error e => exact hc
  | ok fl =>
    cases fl with
    | ret u =>
      obtain ⟨v, H', os, bare, un, hok, rv, a, good, ys, hn, hy, gy, q⟩ := hc
      refine ⟨v, _, os, bare, ?_, hok_shut hy gy hok, rv, q⟩
      refine ⟨un.keep, un.slot, fun b o e n h1 => ?_, un.there, fun b ys' e => ?_, fun b o u' e => ?_, fun b ps' e => ?_⟩
      · have hb : b ≠ a := fun z => by
          have q1 := un.free b o e n h1
          rw [z, hy] at q1
          cases q1
        rw [upd_ne hb]
        exact un.free b o e n h1
      · rw [upd_ne (ne_of_none e hn)]
        exact un.tups b ys' e
      · rw [upd_ne (ne_of_none e hn)]
        exact un.frzs b o u' e
      · rw [upd_ne (ne_of_none e hn)]
        exact un.tbls b ps' e
    | next => exact hc
    | brk => exact hc
    | cont => exact hc
end
end FF
/-! Fivefault, part 2: defs by their bodies, names of the top, the draws' source. -/
namespace FF
open PySem PySem.Spec PyProof.Rows L2

/-! ### names of the top -/
section
variable {X : Cx} {x : Str} {pos : Pos}
theorem pe_gi {i : Int} (h : ∃ t, X.mg x = some (.int i t)) (hg : Gl X x := by rfl) (hd : (x == ("__debug__" : Str)) = false := by decide) : PE X (.Name x pos) (tC (.int i)) := by
  obtain ⟨t, h⟩ := h
  exact pe_glob hg h ⟨t, rfl⟩ hd
theorem pe_gs {z : Str} (h : ∃ t, X.mg x = some (.str z t)) (hg : Gl X x := by rfl) (hd : (x == ("__debug__" : Str)) = false := by decide) : PE X (.Name x pos) (tC (.str z)) := by
  obtain ⟨t, h⟩ := h
  exact pe_glob hg h ⟨t, rfl⟩ hd
theorem pe_gT {a : Addr} (h : X.mg x = some (.ref a)) (hg : Gl X x := by rfl) (hd : (x == ("__debug__" : Str)) = false := by decide) : PE X (.Name x pos) (tC (.ref a)) := pe_glob (v := .ref a) hg h rfl hd
end
/-! ### a def by its body -/
section
variable {P : Program} {w : World} {K : PySem.W.Frag} {mg : Str → Option Value} {base : Heap}
theorem def_mk {x : Str} {st : Stmt} {f : Addr} {fd : FuncData} {dvs : List V} {kws : List (Str × V)} {N ps : List Str} {k : Nat} {sp : Sp} (F : FunD K x x (defArgs st) (defBody st) (defScope st) dvs kws f fd) (hm : mg x = some (.ref f)) (hb : Binds K fd ps [])
    (S : FnScope N ps (defScope st)) (len : ∀ vs H Q E, sp vs H Q E → vs.length = ps.length)
    (body : ∀ (cdv : Value) (A : Around) (outer : List Env) (s : Shared) (H : Hp) (vs : List V) (Q : VK) (E : XK), Room k (A.deeper (envOfC x (defScope st) s.heap.objs.size f cdv)) → sp vs H Q E →
      ∃ t, PSs (cxOf CX0 P w K mg base N x (defScope st) f cdv A outer s H E).nox (defBody st) t ∧ t { nx := fun _ H' => Q .non H', rt := Q } (start N vs) H) : Def P w K mg base x (k + 1) ps sp :=
  ⟨f, fd, FunD.ok F S len (fun cdv A outer s H vs Q E hr h => let ⟨t, a, b⟩ := body cdv A outer s H vs Q E hr h; ⟨t, PSs.nox a, b⟩), hm, F.kp, hb⟩
/-- two more ways to say it: the list at an address hidden -/
theorem Def.open_ {x : Str} {k : Nat} {ps : List Str} {sp sp' : Sp} (D : Def P w K mg base x k ps sp) (len : ∀ vs H Q E, sp' vs H Q E → vs.length = ps.length)
    (h : ∀ vs H Q E, sp' vs H Q E → ∃ (a : Addr) (good : List V → Prop), H a = some (hid good a) ∧
      ∀ xs, good xs → sp vs (upd H a (.lst xs)) (fun v H' => ∃ ys, H' a = some (.lst ys) ∧ good ys ∧ Q v (upd H' a (hid good a))) E) : Def P w K mg base x k ps sp' := by
  obtain ⟨f, fd, F, r⟩ := D.ex
  exact ⟨f, fd, FnOk.open_ F len h, r⟩
theorem Def.shut_ {x : Str} {k : Nat} {ps : List Str} {sp sp' : Sp} (D : Def P w K mg base x k ps sp) (len : ∀ vs H Q E, sp' vs H Q E → vs.length = ps.length)
    (h : ∀ vs H Q E, sp' vs H Q E → sp vs H (fun v H' => ∃ (a : Addr) (good : List V → Prop) (ys : List V), H a = none ∧ H' a = some (.lst ys) ∧ good ys ∧ Q v (upd H' a (hid good a))) E) : Def P w K mg base x k ps sp' := by
  obtain ⟨f, fd, F, r⟩ := D.ex
  exact ⟨f, fd, FnOk.shut_ F len h, r⟩
end
/-! ### list of a text -/
theorem vals_at : ∀ {xs : List V} {us : List Value}, xs.length = us.length → (∀ (i : Nat) (x : V), xs[i]? = some x → ∃ u, us[i]? = some u ∧ RelV x u) → Vals xs us
  | [], [], _, _ => .nil
  | [], _ :: _, h, _ => by cases h
  | _ :: _, [], h, _ => by cases h
  | x :: xs, u :: us, h, k => by
    obtain ⟨u', e, r⟩ := k 0 x rfl
    cases e
    exact .cons r (vals_at (Nat.succ.inj h) fun i y hy => k (i + 1) y hy)
theorem items_signs {z : Str} {us : Array Value} (h : ItemsOf (SignAt z) us z.cps.size) : Vals (z.cps.toList.map fun c => V.str ⟨#[c]⟩) us.toList := by
  obtain ⟨h1, h2⟩ := h
  refine vals_at (by simp [h1]) fun i x hx => ?_
  rw [List.getElem?_map] at hx
  cases e : z.cps.toList[i]? with
  | none => rw [e] at hx; cases hx
  | some c =>
    rw [e] at hx
    cases hx
    have hi : i < us.size := by
      have := (List.getElem?_eq_some_iff.mp e).1
      simp at this
      omega
    obtain ⟨c', u, e1, e2⟩ := h2 i us[i] (Array.getElem?_eq_getElem hi)
    have e3 : z.cps.toList[i]? = some c' := by simpa using e1
    rw [e] at e3
    cases e3
    exact ⟨us[i], by simp [hi], u, e2⟩
def rListS : List V → Hp → VK → Prop := fun xs H Q => ∃ z : Str, xs = [.str z] ∧ z.length ≤ sizeLine ∧ ∀ l, H l = none → Q (.ref l) (upd H l (.lst (z.cps.toList.map fun c => V.str ⟨#[c]⟩)))
theorem call_list_s {X : Cx} (hc : X.calm = true) : CallR X (.type "list") rListS := by
  intro pins s σ H xs us Q I r h
  obtain ⟨z, rfl, hz, q⟩ := h
  obtain ⟨u, rfl, t, rfl⟩ := Vals.one r
  refine call_list_str (I.ok.hd hc) z t (fun h' tk acc' c' hk hl hi => ?_) hz
  have hv := items_signs hi
  exact ⟨.ref _, _, I.laid (t' := tk) (o := .lst (z.cps.toList.map fun c => V.str ⟨#[c]⟩)) hk (Nat.le_refl _) ⟨by rw [List.length_map]; exact hz, acc'.toList, c', hv, by simpa using hl⟩, rfl, q _ (I.hok.fresh (Nat.le_refl _))⟩
end FF
/-! Fivefault, part 3: data that is well formed; in, not in; measures of values. -/
namespace FF
open PySem PySem.Spec PyProof.Rows L2

/-! ### data that is well formed: texts are short, nested at most 60 deep -/
mutual
def nice : PyData → Bool
  | .none => true
  | .bool _ => true
  | .int _ => true
  | .str x => decide (x.length ≤ 20000) && PyData.strOk x
  | .list xs => decide (xs.length ≤ 20000) && niceAll xs
  | .tuple xs => decide (xs.length ≤ 20000) && niceAll xs
  | .dict _ => false
def niceAll : List PyData → Bool
  | [] => true
  | x :: xs => nice x && niceAll xs
end
mutual
theorem nice_lay : ∀ d : PyData, nice d = true → d.canLay0 = true
  | .none, _ => rfl
  | .bool _, _ => rfl
  | .int _, _ => rfl
  | .str x, h => by
    simp only [nice, Bool.and_eq_true] at h
    simp only [PyData.canLay0]
    exact h.2
  | .list xs, h => by
    simp only [nice, Bool.and_eq_true] at h
    simp only [PyData.canLay0]
    exact niceAll_lay xs h.2
  | .tuple xs, h => by
    simp only [nice, Bool.and_eq_true] at h
    simp only [PyData.canLay0]
    exact niceAll_lay xs h.2
  | .dict _, h => by simp [nice] at h
theorem niceAll_lay : ∀ ds : List PyData, niceAll ds = true → PyData.canLayAll0 ds = true
  | [], _ => rfl
  | x :: xs, h => by
    simp only [niceAll, Bool.and_eq_true] at h
    simp only [PyData.canLayAll0, nice_lay x h.1, niceAll_lay xs h.2, Bool.and_self]
end
theorem niceAll_mem : ∀ {ds : List PyData} {d : PyData}, niceAll ds = true → d ∈ ds → nice d = true
  | x :: xs, d, h, m => by
    simp only [niceAll, Bool.and_eq_true] at h
    rcases List.mem_cons.mp m with e | m
    · rw [e]; exact h.1
    · exact niceAll_mem h.2 m
theorem niceAll_of : ∀ {ds : List PyData}, (∀ d ∈ ds, nice d = true) → niceAll ds = true
  | [], _ => rfl
  | x :: xs, h => by
    simp only [niceAll, Bool.and_eq_true]
    exact ⟨h x (List.mem_cons_self ..), niceAll_of fun d m => h d (List.mem_cons_of_mem _ m)⟩
theorem depthAll_mem : ∀ {ds : List PyData} {d : PyData}, d ∈ ds → d.depth ≤ PyData.depthAll ds
  | x :: xs, d, m => by
    rw [PyData.depthAll]
    rcases List.mem_cons.mp m with e | m
    · rw [e]; omega
    · have := depthAll_mem m; omega
theorem depthAll_of : ∀ {ds : List PyData} {n : Nat}, (∀ d ∈ ds, d.depth ≤ n) → PyData.depthAll ds ≤ n
  | [], _, _ => by rw [PyData.depthAll]; omega
  | x :: xs, n, h => by
    rw [PyData.depthAll]
    have h1 := h x (List.mem_cons_self ..)
    have h2 := depthAll_of fun d m => h d (List.mem_cons_of_mem x m)
    omega
/-- nested at most n deep, with short texts -/
structure Nice (n : Nat) (d : PyData) : Prop where
  ok : nice d = true
  dp : d.depth ≤ n
theorem Nice.shaped {n : Nat} {d : PyData} (h : Nice n d) (hn : n ≤ 64 := by decide) : SeqAt.shaped d = true := by
  have h1 := nice_lay d h.ok
  have h2 : d.depth ≤ 64 := Nat.le_trans h.dp hn
  show (d.canLay0 && decide (d.depth ≤ 64)) = true
  rw [h1, decide_eq_true h2] <;> rfl
theorem Nice.mono {m n : Nat} {d : PyData} (h : Nice m d) (hm : m ≤ n) : Nice n d := ⟨h.ok, Nat.le_trans h.dp hm⟩
theorem Nice.itemT {n : Nat} {ds : List PyData} {d : PyData} (h : Nice n (.tuple ds)) (m : d ∈ ds) : Nice n d := by
  obtain ⟨h1, h2⟩ := h
  simp only [nice, Bool.and_eq_true] at h1
  simp only [PyData.depth] at h2
  have := depthAll_mem m
  exact ⟨niceAll_mem h1.2 m, by omega⟩
theorem Nice.tuple {n : Nat} {ds : List PyData} (hl : ds.length ≤ 20000) (h : ∀ d ∈ ds, Nice n d) : Nice (n + 1) (.tuple ds) := by
  refine ⟨by simp only [nice, Bool.and_eq_true, decide_eq_true_eq]; exact ⟨hl, niceAll_of fun d m => (h d m).ok⟩, ?_⟩
  simp only [PyData.depth]
  have := depthAll_of (n := n) fun d m => (h d m).dp
  omega
theorem Nice.list {n : Nat} {ds : List PyData} (hl : ds.length ≤ 20000) (h : ∀ d ∈ ds, Nice n d) : Nice (n + 1) (.list ds) := by
  refine ⟨by simp only [nice, Bool.and_eq_true, decide_eq_true_eq]; exact ⟨hl, niceAll_of fun d m => (h d m).ok⟩, ?_⟩
  simp only [PyData.depth]
  have := depthAll_of (n := n) fun d m => (h d m).dp
  omega
theorem nice_str {z : Str} (h : nice (.str z) = true) : z.length ≤ sizeLine := by
  simp only [nice, Bool.and_eq_true, decide_eq_true_eq] at h
  exact Nat.le_trans h.1 (by decide)

theorem nice_tl {ds : List PyData} (h : nice (.tuple ds) = true) : ds.length ≤ 20000 := by
  simp only [nice, Bool.and_eq_true, decide_eq_true_eq] at h
  exact h.1
theorem nice_ll {ds : List PyData} (h : nice (.list ds) = true) : ds.length ≤ 20000 := by
  simp only [nice, Bool.and_eq_true, decide_eq_true_eq] at h
  exact h.1
theorem nice_ti {ds : List PyData} {d : PyData} (h : nice (.tuple ds) = true) (m : d ∈ ds) : nice d = true := by
  simp only [nice, Bool.and_eq_true, decide_eq_true_eq] at h
  exact niceAll_mem h.2 m
theorem nice_li {ds : List PyData} {d : PyData} (h : nice (.list ds) = true) (m : d ∈ ds) : nice d = true := by
  simp only [nice, Bool.and_eq_true, decide_eq_true_eq] at h
  exact niceAll_mem h.2 m
theorem le_line {n : Nat} (h : n ≤ 20000) : n ≤ sizeLine := Nat.le_trans h (by decide)
theorem lt_line {n : Nat} (h : n ≤ 20000) : n < sizeLine := Nat.lt_of_le_of_lt h (by decide)

/-! ### x in a written tuple or list, for any data -/
def rInDs (K : PySem.W.Frag) (neg : Bool) : R2 := fun x y H Q => ∃ d ds, Dp K H x d ∧ (Dp K H y (.list ds) ∨ Dp K H y (.tuple ds)) ∧ SeqAt.shaped d = true ∧ SeqAt.shaped (.list ds) = true ∧ Q (.bl (if neg then !(ds.any fun z => PyData.eqv z d) else (ds.any fun z => PyData.eqv z d))) H
theorem op_inDs {X : Cx} (hu : X.A.units + 65 < cLine) : OpR X (compareOp .In) (rInDs X.K false) := by
  intro pins s σ H x y v u Q I rx ry h
  obtain ⟨d, ds, hd, he | he, sd, se, q⟩ := h
  · obtain ⟨as, r1⟩ := Dp.reads I d x v hd rx
    obtain ⟨bs, r2⟩ := Dp.reads I (.list ds) y u he ry
    exact SeqAt.in_list_reads r2 r1 (SeqAt.canLay_of_shaped se) (SeqAt.canLay_of_shaped sd) (room_in_shaped sd hu) ⟨.bl _, H, I, rfl, q⟩
  · obtain ⟨as, r1⟩ := Dp.reads I d x v hd rx
    obtain ⟨bs, r2⟩ := Dp.reads I (.tuple ds) y u he ry
    exact SeqAt.in_tuple_reads r2 r1 (SeqAt.canLay_of_shaped se) (SeqAt.canLay_of_shaped sd) (room_in_shaped sd hu) ⟨.bl _, H, I, rfl, q⟩
theorem op_notInDs {X : Cx} (hu : X.A.units + 65 < cLine) : OpR X (compareOp .NotIn) (rInDs X.K true) := by
  intro pins s σ H x y v u Q I rx ry h
  obtain ⟨d, ds, hd, he | he, sd, se, q⟩ := h
  · obtain ⟨as, r1⟩ := Dp.reads I d x v hd rx
    obtain ⟨bs, r2⟩ := Dp.reads I (.list ds) y u he ry
    exact SeqAt.notIn_list_reads r2 r1 (SeqAt.canLay_of_shaped se) (SeqAt.canLay_of_shaped sd) (room_in_shaped sd hu) ⟨.bl _, H, I, rfl, q⟩
  · obtain ⟨as, r1⟩ := Dp.reads I d x v hd rx
    obtain ⟨bs, r2⟩ := Dp.reads I (.tuple ds) y u he ry
    exact SeqAt.notIn_tuple_reads r2 r1 (SeqAt.canLay_of_shaped se) (SeqAt.canLay_of_shaped sd) (room_in_shaped sd hu) ⟨.bl _, H, I, rfl, q⟩

/-! ### letters and measures -/
abbrev lettersS : Str := "abcdefgh"
def isLetS (z : Str) : Bool := match z.cps.toList with
  | [c] => decide (c ∈ lettersS.cps.toList)
  | _ => false
def isLet : PyData → Bool
  | .str z => isLetS z
  | _ => false
def isOp : PyData → Bool
  | .str z => decide (z = ("&" : Str)) || decide (z = ("|" : Str))
  | _ => false
theorem len1 {z : Str} (h : z.length = 1) : ∃ c, z = ⟨#[c]⟩ := by
  obtain ⟨⟨l⟩⟩ := z
  match l, h with
  | [c], _ => exact ⟨c, rfl⟩
theorem isLetS_no {z : Str} (h : z.length ≠ 1) : isLetS z = false := by
  obtain ⟨⟨l⟩⟩ := z
  match l, h with
  | [], _ => rfl
  | [c], h => exact absurd rfl h
  | _ :: _ :: _, _ => rfl
/-- what stands in a tuple of the form of a term -/
def measP (f : PyData → Int) : PyData → Int
  | .tuple (x :: y :: z :: r) => if isOp x = true then (if (0 : Int) ∈ ((y :: z :: r).map f) then 0 else ((y :: z :: r).map f).sum) else 0
  | _ => 0
/-- the size of a value of the form of a term, at most n deep, or 0 -/
def meas : Nat → PyData → Int
  | 0, _ => 0
  | n + 1, d => if isLet d = true then 1 else if n = 0 then 0 else measP (meas n) d
theorem meas_let {n : Nat} {d : PyData} (h : isLet d = true) : meas n d = if 0 < n then 1 else 0 := by
  cases n with
  | zero => rfl
  | succ n =>
    show (if isLet d = true then (1 : Int) else _) = _
    rw [if_pos h, if_pos (Nat.succ_pos n)]
theorem meas_low {n : Nat} {d : PyData} (h : isLet d = false) (hn : n < 2) : meas n d = 0 := by
  match n, hn with
  | 0, _ => rfl
  | 1, _ =>
    show (if isLet d = true then (1 : Int) else if 0 = 0 then 0 else _) = _
    rw [if_neg (by rw [h]; decide), if_pos rfl]
theorem meas_up {n : Nat} {d : PyData} (h : isLet d = false) (hn : 0 < n) : meas (n + 1) d = measP (meas n) d := by
  show (if isLet d = true then (1 : Int) else if n = 0 then 0 else measP (meas n) d) = _
  rw [if_neg (by rw [h]; decide), if_neg (by omega)]
end FF
/-! Fivefault, part 4: hidden lists read and stored; calls with keywords; tests. -/
namespace FF
open PySem PySem.Spec PyProof.Rows L2

section
variable {X : Cx} {pins : List (Addr × Obj)} {σ : L2.St} {H : Hp} {s : Shared} {a : Addr} {good : List V → Prop}
theorem inv_open (ha : H a = some (hid good a)) (I : Inv X pins σ H s) : ∃ xs, good xs ∧ Inv X pins σ (upd H a (.lst xs)) s := by
  obtain ⟨xs, hg, ok⟩ := hok_open ha I.hok
  have dom : ∀ {b}, H b = none → (upd H a (.lst xs)) b = none := fun {b} n => by
    rw [upd_ne (fun z => by rw [z, ha] at n; cases n)]
    exact n
  have back : ∀ {b o}, H b = some o → (∀ φ, o ≠ .ext φ) → (upd H a (.lst xs)) b = some o := fun {b o} e hb => by
    rw [upd_ne (fun z => by rw [z, ha] at e; cases e; exact hb _ rfl)]
    exact e
  refine ⟨xs, hg, I.ok, I.os, I.bare, ⟨I.base.keep, I.base.slot, fun b o e n x => dom (I.base.free b o e n x), I.base.there, fun b ys e => back (I.base.tups b ys e) (fun _ z => nomatch z), fun b o u e => back (I.base.frzs b o u e) (fun _ z => nomatch z), fun b ps e => ?_⟩, I.loc, I.cell, dom I.free, fun x c e => dom (I.freeC x c e), fun p hp => ?_, ok, I.len⟩
  · obtain ⟨m, q⟩ := I.base.tbls b ps e
    exact ⟨m, back q (fun _ z => nomatch z)⟩
  · obtain ⟨h1, h2, h3⟩ := I.pin p hp
    exact ⟨h1, dom h2, h3⟩
theorem inv_shut {xs : List V} (ha : H a = some (.lst xs)) (hg : good xs) (I : Inv X pins σ H s) : Inv X pins σ (upd H a (hid good a)) s := by
  have dom : ∀ {b}, H b = none → (upd H a (hid good a)) b = none := fun {b} n => by
    rw [upd_ne (fun z => by rw [z, ha] at n; cases n)]
    exact n
  have back : ∀ {b o}, H b = some o → (∀ ys, o ≠ .lst ys) → (upd H a (hid good a)) b = some o := fun {b o} e hb => by
    rw [upd_ne (fun z => by rw [z, ha] at e; cases e; exact hb _ rfl)]
    exact e
  refine ⟨I.ok, I.os, I.bare, ⟨I.base.keep, I.base.slot, fun b o e n x => dom (I.base.free b o e n x), I.base.there, fun b ys e => back (I.base.tups b ys e) (fun _ z => nomatch z), fun b o u e => back (I.base.frzs b o u e) (fun _ z => nomatch z), fun b ps e => ?_⟩, I.loc, I.cell, dom I.free, fun x c e => dom (I.freeC x c e), fun p hp => ?_, hok_shut ha hg I.hok, I.len⟩
  · obtain ⟨m, q⟩ := I.base.tbls b ps e
    exact ⟨m, back q (fun _ z => nomatch z)⟩
  · obtain ⟨h1, h2, h3⟩ := I.pin p hp
    exact ⟨h1, dom h2, h3⟩
end
/-- a list that is made, hidden: the rule for a display -/
def tHide (good : List V → Prop) (te : TE) : TE := fun σ H Q => te σ H fun v H' => ∃ a xs, v = .ref a ∧ H' a = some (.lst xs) ∧ good xs ∧ Q (.ref a) (upd H' a (hid good a))
theorem pe_hide {X : Cx} {e : Expr} {te : TE} {good : List V → Prop} (h : PE X e te) : PE X e (tHide good te) := by
  refine ⟨fun pins s σ H Q I hw => ?_⟩
  refine thn (h.run pins s σ H _ I hw) fun v s1 ⟨v', H', I1, r, a, xs, e, ha, hg, q⟩ => ?_
  subst e
  exact ⟨_, _, inv_shut ha hg I1, r, q⟩

/-! ### calls with keywords -/
section
variable {K : PySem.W.Frag} {x qual : Str} {params : Arguments} {body : List Stmt} {scope : Scope} {kws : List (Str × V)} {f : Addr} {fd : FuncData} {ps : List Str}
end
section
variable {X : Cx} {CX : CXT} {k n : Nat} {f : Addr} {fd : FuncData} {ps ks : List Str} {sp : Sp} {E : XK} {x : Str} {p pos : Pos} {kws : List Keyword} {tk : TA} {g : List Value → List Value → List Value} {gV : List V → List V → List V}
end

/-! ### tests -/
theorem if_int {a b : Int} {A B : Prop} (h1 : a = b → A) (h2 : a ≠ b → B) : if decide (V.int a = V.int b) = true then A else B := by
  by_cases h : a = b
  · rw [decide_eq_true (congrArg V.int h)]
    exact iteT (h1 h)
  · rw [decide_eq_false (fun z => h (V.int.inj z))]
    exact iteF (h2 h)
theorem if_dec {p : Prop} [Decidable p] {A B : Prop} (h1 : p → A) (h2 : ¬ p → B) : if decide p = true then A else B := by
  by_cases h : p
  · rw [decide_eq_true h]
    exact iteT (h1 h)
  · rw [decide_eq_false h]
    exact iteF (h2 h)
theorem if_b {b : Bool} {A B : Prop} (h1 : b = true → A) (h2 : b = false → B) : if b = true then A else B := by
  cases b
  · exact iteF (h2 rfl)
  · exact iteT (h1 rfl)
theorem if_nb {b : Bool} {A B : Prop} (h1 : b = false → A) (h2 : b = true → B) : if (!b) = true then A else B := by
  cases b
  · exact iteT (h1 rfl)
  · exact iteF (h2 rfl)
theorem qi {Q : VK} {H : Hp} {a b : Int} (h : Q (.int a) H) (e : a = b) : Q (.int b) H := e ▸ h
theorem qb {Q : VK} {H : Hp} {a b : Bool} (h : Q (.bl a) H) (e : a = b) : Q (.bl b) H := e ▸ h
theorem r65 {k : Nat} {A : Around} (hr : Room k A) : A.units + 65 < cLine := by have := hr.un; omega
theorem at0 {α : Type} {x : α} {xs : List α} : atI (x :: xs) 0 = some x := atI_nat (j := 0) rfl
end FF
/-! Fivefault, part 5: tuples never change; comprehensions that map; slices. -/
namespace FF
open PySem PySem.Spec PyProof.Rows L2

/-! ### tuples stay -/
def SameT (H H' : Hp) : Prop := ∀ b xs, H b = some (.tup xs) → H' b = some (.tup xs)
theorem SameT.refl (H : Hp) : SameT H H := fun _ _ h => h
theorem SameT.trans {H H1 H2 : Hp} (a : SameT H H1) (b : SameT H1 H2) : SameT H H2 := fun c o h => b c o (a c o h)
theorem Same.T {H H' : Hp} (e : Same H H') : SameT H H' := fun b xs h => e b _ h
theorem SameT.upd {H H' : Hp} {p : Addr} {o : HO} (e : SameT H H') (h : ∀ xs, H' p ≠ some (.tup xs)) : SameT H (upd H' p o) := fun b xs q => by
  have := e b xs q
  rw [upd_ne (fun z => h xs (by rw [← z]; exact this))]
  exact this
theorem SameT.updL {H H' : Hp} {p : Addr} {o : HO} {ys : List V} (e : SameT H H') (h : H' p = some (.lst ys)) : SameT H (L2.upd H' p o) := e.upd fun xs z => by rw [h] at z; cases z
def SqU (K : PySem.W.Frag) (H : Hp) (a : Addr) (xs : List V) : Prop :=
  H a = some (.tup xs) ∨ ∃ (o : Obj) (its : Array Value) (n : Nat), K.lookup a = some o ∧ o.cls = .type "tuple" ∧ o.data = .seq its n ∧ its.size ≤ sizeLine ∧ Vals xs its.toList
theorem SqU.sqT {K : PySem.W.Frag} {H : Hp} {a : Addr} {xs : List V} (h : SqU K H a xs) : SqT K H a xs := by
  rcases h with h | h
  · exact .inl (.inl h)
  · exact .inr h
theorem SqU.up {K : PySem.W.Frag} {H H' : Hp} {a : Addr} {xs : List V} (e : SameT H H') (h : SqU K H a xs) : SqU K H' a xs := by
  rcases h with h | h
  · exact .inl (e _ _ h)
  · exact .inr h
mutual
/-- data of tuples, texts and the like: no lists -/
inductive Tp (K : PySem.W.Frag) (H : Hp) : V → PyData → Prop
  | non : Tp K H .non .none
  | bl (b : Bool) : Tp K H (.bl b) (.bool b)
  | int (i : Int) : Tp K H (.int i) (.int i)
  | str (x : Str) : Tp K H (.str x) (.str x)
  | tup {a : Addr} {xs : List V} {ds : List PyData} : SqU K H a xs → TpAll K H xs ds → Tp K H (.ref a) (.tuple ds)
inductive TpAll (K : PySem.W.Frag) (H : Hp) : List V → List PyData → Prop
  | nil : TpAll K H [] []
  | cons {v : V} {vs : List V} {d : PyData} {ds : List PyData} : Tp K H v d → TpAll K H vs ds → TpAll K H (v :: vs) (d :: ds)
end
section
variable {K : PySem.W.Frag} {H H' : Hp}
mutual
theorem Tp.dp : ∀ {v : V} {d : PyData}, Tp K H v d → Dp K H v d
  | _, _, .non => .non
  | _, _, .bl b => .bl b
  | _, _, .int i => .int i
  | _, _, .str x => .str x
  | _, _, .tup h a => .tup h.sqT a.dp
theorem TpAll.dp : ∀ {vs : List V} {ds : List PyData}, TpAll K H vs ds → DpAll K H vs ds
  | _, _, .nil => .nil
  | _, _, .cons h a => .cons h.dp a.dp
end
mutual
theorem Tp.up (e : SameT H H') : ∀ {v : V} {d : PyData}, Tp K H v d → Tp K H' v d
  | _, _, .non => .non
  | _, _, .bl b => .bl b
  | _, _, .int i => .int i
  | _, _, .str x => .str x
  | _, _, .tup h a => .tup (h.up e) (a.up e)
theorem TpAll.up (e : SameT H H') : ∀ {vs : List V} {ds : List PyData}, TpAll K H vs ds → TpAll K H' vs ds
  | _, _, .nil => .nil
  | _, _, .cons h a => .cons (h.up e) (a.up e)
end
theorem TpAll.len : ∀ {vs : List V} {ds : List PyData}, TpAll K H vs ds → vs.length = ds.length
  | _, _, .nil => rfl
  | _, _, .cons _ t => congrArg Nat.succ (TpAll.len t)
theorem TpAll.get : ∀ {vs : List V} {ds : List PyData} {i : Nat} {v : V}, TpAll K H vs ds → vs[i]? = some v → ∃ d, ds[i]? = some d ∧ Tp K H v d
  | _, _, 0, _, .cons h _, e => by cases e; exact ⟨_, rfl, h⟩
  | _, _, i + 1, _, .cons _ t, e => TpAll.get (i := i) t e
theorem TpAll.app : ∀ {vs ws : List V} {ds es : List PyData}, TpAll K H vs ds → TpAll K H ws es → TpAll K H (vs ++ ws) (ds ++ es)
  | _, _, _, _, .nil, r => r
  | _, _, _, _, .cons h t, r => .cons h (t.app r)
theorem TpAll.of_get : ∀ {vs : List V} {ds : List PyData}, vs.length = ds.length → (∀ (i : Nat) (v : V) (d : PyData), vs[i]? = some v → ds[i]? = some d → Tp K H v d) → TpAll K H vs ds
  | [], [], _, _ => .nil
  | [], _ :: _, h, _ => by cases h
  | _ :: _, [], h, _ => by cases h
  | v :: vs, d :: ds, h, k => .cons (k 0 v d rfl rfl) (TpAll.of_get (Nat.succ.inj h) fun i v d h1 h2 => k (i + 1) v d h1 h2)
end

/-! ### slices t[1:] -/
theorem cut1 {x : V} {xs : List V} : cutV (x :: xs) (some 1) none = xs := by
  show (((x :: xs).drop (HT.sIx (xs.length + 1) 0 (some ((1 : Nat) : Int)))).take (HT.sIx (xs.length + 1) (xs.length + 1) none - HT.sIx (xs.length + 1) 0 (some ((1 : Nat) : Int)))) = xs
  rw [HT.sIx_nat, HT.sIx_none, show min 1 (xs.length + 1) = 1 by omega]
  show xs.take (xs.length + 1 - 1) = xs
  rw [Nat.add_sub_cancel, List.take_length]
theorem notWhole1 {x : V} {xs : List V} : ¬ (HT.sIx (x :: xs).length 0 (some 1) = 0 ∧ HT.sIx (x :: xs).length (x :: xs).length none = (x :: xs).length) := by
  rintro ⟨h, _⟩
  have : HT.sIx (xs.length + 1) 0 (some ((1 : Nat) : Int)) = 0 := h
  rw [HT.sIx_nat] at this
  omega

/-! ### [e for x in xs] -/
section
variable {K : PySem.W.Frag} {a : Addr} {xs : List V} {te : TE} {vs : List Nat} {σ : L2.St} {H1 : Hp} {D : Addr} {Qd : Hp → Prop} {j : Nat}
/-- what a step of the loop over the list gives -/
theorem lc_turn {i : Nat} {H : Hp} {x : V} {R : Nat → V → Hp → Prop} (mono : ∀ i y H H', SameT H H' → R i y H → R i y H') (hD : H1 D = none)
    (p : Same H1 H ∧ ∃ ys, H D = some (.lst ys) ∧ ys.length = i ∧ ∀ m y, ys[m]? = some y → R m y H) (hi : i < sizeLine)
    (st : ∀ Q' : VK, (∀ y H3, Same H H3 → R i y H3 → Q' y H3) → te ((wipe σ vs).set j (some x)) H Q') :
    te ((wipe σ vs).set j (some x)) H fun y H4 => ∃ acc, H4 D = some (.lst acc) ∧ acc.length < sizeLine ∧ (Same H1 (upd H4 D (.lst (acc ++ [y]))) ∧ ∃ ys, (upd H4 D (.lst (acc ++ [y]))) D = some (.lst ys) ∧ ys.length = i + 1 ∧ ∀ m y', ys[m]? = some y' → R m y' (upd H4 D (.lst (acc ++ [y])))) := by
  obtain ⟨e1, ys, h2, h3, h4⟩ := p
  refine st _ fun y H3 e3 r => ?_
  have hd := e3 _ _ h2
  refine ⟨ys, hd, by omega, fun b o q => ?_, ys ++ [y], upd_same, by simp [h3], fun m y' q => ?_⟩
  · rw [upd_ne (ne_of_none q hD)]
    exact e3 _ _ (e1 _ _ q)
  · have eT : SameT H3 (upd H3 D (.lst (ys ++ [y]))) := (SameT.refl H3).updL hd
    by_cases hm : m < ys.length
    · rw [List.getElem?_append_left hm] at q
      exact mono _ _ _ _ ((Same.T e3).trans eT) (h4 m y' q)
    · have : m = ys.length := by
        have := (List.getElem?_eq_some_iff.mp q).1
        simp at this
        omega
      subst this
      rw [List.getElem?_append_right (Nat.le_refl _), Nat.sub_self] at q
      cases q
      rw [h3]
      exact mono _ _ _ _ eT r
theorem lc_mapT (R : Nat → V → Hp → Prop) (mono : ∀ i y H H', SameT H H' → R i y H → R i y H') (hD : H1 D = none) (hs : SqT K H1 a xs) (hz : xs.length ≤ sizeLine)
    (hw : ∀ x, wipe ((wipe σ vs).set j (some x)) vs = wipe σ vs)
    (step : ∀ i x H2, xs[i]? = some x → Same H1 H2 → ∀ Q' : VK, (∀ y H3, Same H2 H3 → R i y H3 → Q' y H3) → te ((wipe σ vs).set j (some x)) H2 Q')
    (done : ∀ H2 ys, Same H1 H2 → H2 D = some (.lst ys) → ys.length = xs.length → (∀ (i : Nat) (y : V), ys[i]? = some y → R i y H2) → Qd H2) :
    ∃ W : Nat → Nat → Hp → Prop, (∃ m, W 0 m (upd H1 D (.lst []))) ∧ ∀ i m H, W i m H →
      ((Itt K a).stop i H ∧ Qd H) ∨ ((Itt K a).go i H ∧ ∃ Nx : Hp → Prop, (∀ H', Nx H' → ∃ m', m' < m ∧ W (i + 1) m' H') ∧ ∀ x H', (Itt K a).yld i H x H' → gName j x (wipe σ vs) H' fun σ2 H2 => wipe σ2 vs = wipe σ vs ∧ tYes σ2 H2 fun b H3 =>
        if b = true then te σ2 H3 fun y H4 => ∃ acc, H4 D = some (.lst acc) ∧ acc.length < sizeLine ∧ Nx (upd H4 D (.lst (acc ++ [y]))) else Nx H3) :=
  lc_tup (fun i H => Same H1 H ∧ ∃ ys, H D = some (.lst ys) ∧ ys.length = i ∧ ∀ m y, ys[m]? = some y → R m y H)
    ⟨same_new hD _, [], upd_same, rfl, fun m y q => by simp at q⟩ (fun i H _ p => up_t p.1 hs)
    (fun i x H hx p => ⟨hw x, lc_turn mono hD p (Nat.lt_of_lt_of_le (List.getElem?_eq_some_iff.mp hx).1 hz) (step i x H hx p.1)⟩)
    fun H ⟨e, ys, h1, h2, h3⟩ => done H ys e h1 h2 h3
theorem lc_mapL (R : Nat → V → Hp → Prop) (mono : ∀ i y H H', SameT H H' → R i y H → R i y H') (hD : H1 D = none) (hs : SqL K H1 a xs) (hz : xs.length ≤ sizeLine)
    (hw : ∀ x, wipe ((wipe σ vs).set j (some x)) vs = wipe σ vs)
    (step : ∀ i x H2, xs[i]? = some x → Same H1 H2 → ∀ Q' : VK, (∀ y H3, Same H2 H3 → R i y H3 → Q' y H3) → te ((wipe σ vs).set j (some x)) H2 Q')
    (done : ∀ H2 ys, Same H1 H2 → H2 D = some (.lst ys) → ys.length = xs.length → (∀ (i : Nat) (y : V), ys[i]? = some y → R i y H2) → Qd H2) :
    ∃ W : Nat → Nat → Hp → Prop, (∃ m, W 0 m (upd H1 D (.lst []))) ∧ ∀ i m H, W i m H →
      ((Itl K a).stop i H ∧ Qd H) ∨ ((Itl K a).go i H ∧ ∃ Nx : Hp → Prop, (∀ H', Nx H' → ∃ m', m' < m ∧ W (i + 1) m' H') ∧ ∀ x H', (Itl K a).yld i H x H' → gName j x (wipe σ vs) H' fun σ2 H2 => wipe σ2 vs = wipe σ vs ∧ tYes σ2 H2 fun b H3 =>
        if b = true then te σ2 H3 fun y H4 => ∃ acc, H4 D = some (.lst acc) ∧ acc.length < sizeLine ∧ Nx (upd H4 D (.lst (acc ++ [y]))) else Nx H3) :=
  lc_list (fun i H => Same H1 H ∧ ∃ ys, H D = some (.lst ys) ∧ ys.length = i ∧ ∀ m y, ys[m]? = some y → R m y H)
    ⟨same_new hD _, [], upd_same, rfl, fun m y q => by simp at q⟩ (fun i H _ p => up_l p.1 hs)
    (fun i x H hx p => ⟨hw x, lc_turn mono hD p (Nat.lt_of_lt_of_le (List.getElem?_eq_some_iff.mp hx).1 hz) (step i x H hx p.1)⟩)
    fun H ⟨e, ys, h1, h2, h3⟩ => done H ys e h1 h2 h3
/-- the lists' items told by a function of the place -/
theorem eq_map_of {α : Type} {ys : List V} {ds : List α} {f : α → V} (hl : ys.length = ds.length) (h : ∀ (i : Nat) (y : V), ys[i]? = some y → ∃ d, ds[i]? = some d ∧ y = f d) : ys = ds.map f := by
  refine List.ext_getElem? fun i => ?_
  rw [List.getElem?_map]
  cases e : ys[i]? with
  | none =>
    have : ds.length ≤ i := by rw [← hl]; exact List.getElem?_eq_none_iff.mp e
    rw [List.getElem?_eq_none_iff.mpr this] <;> rfl
  | some y =>
    obtain ⟨d, h1, h2⟩ := h i y e
    rw [h1, h2] <;> rfl
end
end FF
/-! Fivefault, part 6: comprehensions over zip. -/
namespace FF
open PySem PySem.Spec PyProof.Rows L2
def ItS (S : Hp → Addr → List V → Prop) (a b : Addr) : It :=
  ⟨fun i H => ∃ (xs ys : List V) (x y : V), S H a xs ∧ S H b ys ∧ xs[i]? = some x ∧ ys[i]? = some y,
    fun i H v H' => ∃ T x y, v = .ref T ∧ H T = none ∧ H' = upd H T (.tup [x, y]) ∧ (∀ xs, S H a xs → xs[i]? = some x) ∧ ∀ ys, S H b ys → ys[i]? = some y,
    fun i H => ∃ xs ys : List V, S H a xs ∧ S H b ys ∧ (xs.length ≤ i ∨ ys.length ≤ i)⟩
section
variable {K : PySem.W.Frag} {S : Hp → Addr → List V → Prop} {a b : Addr} {xs ys : List V} {te : TE} {vs : List Nat} {σ : L2.St} {H1 : Hp} {D : Addr} {Qd : Hp → Prop} {j k : Nat}
theorem lc_zipS (up : ∀ {H H' a xs}, Same H H' → S H a xs → S H' a xs) (R : Nat → V → Hp → Prop) (mono : ∀ i y H H', SameT H H' → R i y H → R i y H') (hD : H1 D = none) (hx : S H1 a xs) (hy : S H1 b ys) (hl : xs.length = ys.length) (hz : xs.length ≤ sizeLine)
    (hw : ∀ x y, wipe (((wipe σ vs).set j (some x)).set k (some y)) vs = wipe σ vs)
    (step : ∀ i x y H2, xs[i]? = some x → ys[i]? = some y → Same H1 H2 → ∀ Q' : VK, (∀ u H3, Same H2 H3 → R i u H3 → Q' u H3) → te (((wipe σ vs).set j (some x)).set k (some y)) H2 Q')
    (done : ∀ H2 us, Same H1 H2 → H2 D = some (.lst us) → us.length = xs.length → (∀ (i : Nat) (u : V), us[i]? = some u → R i u H2) → Qd H2) :
    ∃ W : Nat → Nat → Hp → Prop, (∃ m, W 0 m (upd H1 D (.lst []))) ∧ ∀ i m H, W i m H →
      ((ItS S a b).stop i H ∧ Qd H) ∨ ((ItS S a b).go i H ∧ ∃ Nx : Hp → Prop, (∀ H', Nx H' → ∃ m', m' < m ∧ W (i + 1) m' H') ∧ ∀ x H', (ItS S a b).yld i H x H' → gTup K 2 (gCons (gName j) (gCons (gName k) gNil)) x (wipe σ vs) H' fun σ2 H2 => wipe σ2 vs = wipe σ vs ∧ tYes σ2 H2 fun b H3 =>
        if b = true then te σ2 H3 fun y H4 => ∃ acc, H4 D = some (.lst acc) ∧ acc.length < sizeLine ∧ Nx (upd H4 D (.lst (acc ++ [y]))) else Nx H3) := by
  let Pv : Nat → Hp → Prop := fun i H => Same H1 H ∧ ∃ us, H D = some (.lst us) ∧ us.length = i ∧ ∀ (m : Nat) (u : V), us[m]? = some u → R m u H
  refine ⟨fun i m H => m = xs.length - i ∧ i ≤ xs.length ∧ Pv i H, ⟨xs.length, by simp, Nat.zero_le _, same_new hD _, [], upd_same, rfl, fun m u q => by simp at q⟩, ?_⟩
  rintro i m H ⟨rfl, hi, e, us, h2, h3, h4⟩
  by_cases hlt : i < xs.length
  · refine .inr ⟨⟨xs, ys, xs[i], ys[i]'(by omega), up e hx, up e hy, by simp [hlt], by simp [show i < ys.length by omega]⟩, Pv (i + 1), fun H' p' => ⟨xs.length - (i + 1), by omega, rfl, hlt, p'⟩, ?_⟩
    rintro v H' ⟨T, x, y, rfl, nT, rfl, qx, qy⟩
    refine ⟨T, [x, y], rfl, SqT.of upd_same, rfl, x, [y], rfl, y, [], rfl, rfl, hw x y, ?_⟩
    have eT := same_new nT (.tup [x, y])
    have e' := e.trans eT
    show te (((wipe σ vs).set j (some x)).set k (some y)) (upd H T (.tup [x, y])) _
    refine step i x y _ (qx xs (up e hx)) (qy ys (up e hy)) e' _ fun u H3 e3 r => ?_
    have hd := e3 _ _ (eT _ _ h2)
    refine ⟨us, hd, by omega, fun b o q => ?_, us ++ [u], upd_same, by simp [h3], fun m u' q => ?_⟩
    · rw [upd_ne (ne_of_none q hD)]
      exact e3 _ _ (e' _ _ q)
    · have eD : SameT H3 (upd H3 D (.lst (us ++ [u]))) := (SameT.refl H3).updL hd
      by_cases hm : m < us.length
      · rw [List.getElem?_append_left hm] at q
        exact mono _ _ _ _ (((Same.T eT).trans (Same.T e3)).trans eD) (h4 m u' q)
      · have : m = us.length := by
          have := (List.getElem?_eq_some_iff.mp q).1
          simp at this
          omega
        subst this
        rw [List.getElem?_append_right (Nat.le_refl _), Nat.sub_self] at q
        cases q
        rw [h3]
        exact mono _ _ _ _ eD r
  · have hi2 : i = xs.length := by omega
    exact .inl ⟨⟨xs, ys, up e hx, up e hy, .inl (by omega)⟩, done H us e h2 (by omega) h4⟩
end
theorem all_true : ∀ (n : Nat), (List.replicate n true).all id = true
  | 0 => rfl
  | n + 1 => by rw [List.replicate_succ, List.all_cons, all_true n]; rfl
end FF
/-! Fivefault, part 7: what an expression over data gives (displays of constants and names). -/
namespace FF
open PySem PySem.Spec PyProof.Rows L2
section
variable {K : PySem.W.Frag} {σ : L2.St} {H : Hp}
end
end FF
/-! Fivefault, part 8: the rules that name the written part, with K said outright (for comprehensions' blocks). -/
namespace FF
open PySem PySem.Spec PyProof.Rows L2
section
variable (K : PySem.W.Frag) {X : Cx}
theorem ix_listK (h : X.K = K := by rfl) : IxR X (rIxL K) := by subst h; exact ix_list
theorem ix_tupK (h : X.K = K := by rfl) : IxR X (rIxT K) := by subst h; exact ix_tup
theorem call_lenK (h : X.K = K := by rfl) : CallR X (.builtin "len") (fun xs H Q => ∃ x n, xs = [x] ∧ LenV K x H n ∧ Q (.int n) H) := by subst h; exact call_len
theorem call_isK {T : String} {f : PyData → Bool} (hk : ∀ d, kitB (tyN d) T = some (f d)) (h : X.K = K := by rfl) : CallR X (.builtin "isinstance") (rIsD K T f) := by subst h; exact call_isD hk
theorem op_eqK (hu : X.A.units + 64 < cLine) (h : X.K = K := by rfl) : OpR X (compareOp .Eq) (rEqD K) := by subst h; exact op_eqD hu
theorem op_neK (hu : X.A.units + 64 < cLine) (h : X.K = K := by rfl) : OpR X (compareOp .NotEq) (rNeD K) := by subst h; exact op_neD hu
theorem op_inK (hu : X.A.units + 65 < cLine) (h : X.K = K := by rfl) : OpR X (compareOp .In) (rInDs K false) := by subst h; exact op_inDs hu
theorem op_notInK (hu : X.A.units + 65 < cLine) (h : X.K = K := by rfl) : OpR X (compareOp .NotIn) (rInDs K true) := by subst h; exact op_notInDs hu
theorem op_in_seqK (h : X.K = K := by rfl) : OpR X (compareOp .In) (rIn K false) := by subst h; exact op_in_seq
theorem op_notIn_seqK (h : X.K = K := by rfl) : OpR X (compareOp .NotIn) (rIn K true) := by subst h; exact op_notIn_seq
theorem sl_tupK (h : X.K = K := by rfl) : SlR X (rSlT K) := by subst h; exact sl_tup
theorem sl_listK (h : X.K = K := by rfl) : SlR X (rSlL K) := by subst h; exact sl_list
theorem call_list_ofK (h : X.K = K := by rfl) : CallR X (.type "list") (fun xs H Q => ∃ p ys, xs = [.ref p] ∧ (SqL K H p ys ∨ SqT K H p ys) ∧ ∀ l, H l = none → Q (.ref l) (upd H l (.lst ys))) := by subst h; exact call_list_of
theorem call_tuple_ofK (h : X.K = K := by rfl) : CallR X (.type "tuple") (fun xs H Q => ∃ p ys, xs = [.ref p] ∧ ((SqL K H p ys ∧ ∀ l, H l = none → Q (.ref l) (upd H l (.tup ys))) ∨ (SqT K H p ys ∧ Q (.ref p) H))) := by subst h; exact call_tuple_of
theorem cr_sumK (hc : X.calm = true) (h : X.K = K := by rfl) : CallR X (.builtin "sum") (rSum K) := by subst h; exact cr_sum hc
theorem cr_allK (hc : X.calm = true) (h : X.K = K := by rfl) : CallR X (.builtin "all") (rAll K) := by subst h; exact cr_all hc
theorem pg_tupK {es : List Expr} {k : Nat} {t : TGs} {n : Nat} {pos : Pos} (hc : X.calm = true) (h : PGs X es t) (hk : X.K = K := by rfl)
    (hn : (assignEach es X.env).length = n := by rfl) (hst : (assignEach es X.env).findIdx? (·.1) = none := by rfl) : PG X (.Tuple es k pos) (gTup K n t) := by subst hk; exact pg_tup hc h hn hst
theorem pi_listK {tg l : Expr} {tl : TE} (hl : PE X l tl) (h : X.K = K := by rfl) : PI X tg l (iList K tl) := by subst h; exact pi_list hl
theorem pi_tupK {tg l : Expr} {tl : TE} (hl : PE X l tl) (h : X.K = K := by rfl) : PI X tg l (iTup K tl) := by subst h; exact pi_tup hl
theorem pi_zipK {e e2 : Expr} {ta : TA} {p pos tpos : Pos} {elts : List Expr} {kk : Nat} (hg : Gl X "zip") (hm : X.mg "zip" = none) (ha : PA X [e, e2] ta) (h : X.K = K := by rfl)
    (hs : starEach [e, e2] X.env = (false, eval e X.env) :: starEach [e2] X.env := by rfl) (hpl : (backTo pos (starEach [e2] X.env)).any (·.1) = false := by rfl) :
    PI X (.Tuple elts kk tpos) (.Call (.Name "zip" p) [e, e2] [] pos) (RZ.iZipA K ta) := by subst h; exact RZ.pi_zipA hg hm ha hs hpl
theorem pe_bmK {T name id : String} {r : V → List V → Hp → VK → Prop} {o e : Expr} {es : List Expr} {to : TE} {t : TA} {apos cpos : Pos} (pa : PlainAttrs T) (slot : Slot T name id) (hty : typeOf (.builtin id) = pure (.type "method_descriptor")) (hm : MtR X id r) (ho : PE X o to) (ha : PA X (e :: es) t) (h : X.K = K := by rfl)
    (hbase : attributeBase o name X.env (eval o X.env) = eval o X.env := by rfl)
    (hfew : ((backTo cpos (starEach (e :: es) X.env)).all (fun x => !x.1) && (backToKw cpos (keywordEach [] X.env)).all (fun x => x.1.isSome)
      && decide ((e :: es).length + ([] : List Keyword).length + (if ([] : List Keyword).isEmpty then 0 else 1) < 30)) = true := by rfl)
    (hline : (apos.endLine == cpos.line) = true := by rfl) (hs : starEach (e :: es) X.env = (false, eval e X.env) :: starEach es X.env := by rfl) (hplain : (backTo cpos (starEach es X.env)).any (·.1) = false := by rfl) :
    PE X (.Call (.Attribute o name apos) (e :: es) [] cpos) (tBM K T r to t) := by subst h; exact pe_bm pa slot hty hm ho ha hbase hfew hline hs hplain
end
end FF
namespace FF
open L2
end FF
namespace FF
open PySem PySem.Spec PyProof.Rows L2
theorem fn_mk {P : Program} {w : World} {K : PySem.W.Frag} {mg : Str → Option Value} {base : Heap} {x : Str} {st : Stmt} {f : Addr} {fd : FuncData} {dvs : List V} {kws : List (Str × V)} {N ps : List Str} {k : Nat} {sp : Sp} (F : FunD K x x (defArgs st) (defBody st) (defScope st) dvs kws f fd)
    (S : FnScope N ps (defScope st)) (len : ∀ vs H Q E, sp vs H Q E → vs.length = ps.length)
    (body : ∀ (cdv : Value) (A : Around) (outer : List Env) (s : Shared) (H : Hp) (vs : List V) (Q : VK) (E : XK), Room k (A.deeper (envOfC x (defScope st) s.heap.objs.size f cdv)) → sp vs H Q E →
      ∃ t, PSs (cxOf CX0 P w K mg base N x (defScope st) f cdv A outer s H E).nox (defBody st) t ∧ t { nx := fun _ H' => Q .non H', rt := Q } (start N vs) H) : FnOk P w K mg base CX0 (k + 1) f fd ps sp :=
  FunD.ok F S len fun cdv A outer s H vs Q E hr h => let ⟨t, a, b⟩ := body cdv A outer s H vs Q E hr h; ⟨t, PSs.nox a, b⟩
end FF
namespace FF
open PySem PySem.Spec PyProof.Rows L2
/-- a <= b <= c, both answers at once -/
theorem chain_le {a b c : Int} {tc : TE} {σ : L2.St} {H : Hp} {Q : VK} (hc : ∀ Q' : VK, Q' (.int c) H → tc σ H Q') (h : Q (.bl (decide (a ≤ b) && decide (b ≤ c))) H) :
    rI0 (fun i j => .bl (decide (i ≤ j))) (.int a) (.int b) H fun z H3 => ∃ k, z = .bl k ∧ if k = true then tc σ H3 fun w H4 => rI0 (fun i j => .bl (decide (i ≤ j))) (.int b) w H4 Q else Q (.bl false) H3 := by
  refine ⟨_, _, rfl, rfl, _, rfl, ?_⟩
  refine if_dec (fun h1 => ?_) (fun h1 => ?_)
  · rw [decide_eq_true h1, Bool.true_and] at h
    exact hc _ ⟨_, _, rfl, rfl, h⟩
  · rw [decide_eq_false h1, Bool.false_and] at h
    exact h
end FF
namespace FF
open PySem PySem.Spec PyProof.Rows L2
/-- a promise that is never asked -/
theorem def_none {P : Program} {w : World} {K : PySem.W.Frag} {mg : Str → Option Value} {base : Heap} {x qual : Str} {params : Arguments} {body : List Stmt} {scope : Scope} {dvs : List V} {kws : List (Str × V)} {f : Addr} {fd : FuncData} {ps : List Str} {sp : Sp}
    (F : FunD K x qual params body scope dvs kws f fd) (hm : mg x = some (.ref f)) (hb : Binds K fd ps []) (no : ∀ vs H Q E, ¬ sp vs H Q E) : Def P w K mg base x 0 ps sp :=
  ⟨f, fd, ⟨fun vs H Q E h => absurd h (no vs H Q E), fun A outer s H args us vs Q E _ _ _ _ h => absurd h (no vs H Q E)⟩, hm, F.kp, hb⟩
end FF
/-! Fivefault, part 9: exceptions with own __init__s that call the base's; clauses with names; f(lambda: ..). -/
namespace FF
open PySem PySem.Spec PyProof.Rows L2
/-! ### C.m(self, ..), m a def of the class C -/
section
variable {X : Cx} {CX : CXT} {k : Nat} {C g : Addr} {mc : Value} {fd : FuncData} {ps : List Str} {sp : Sp} {E : XK} {x m : Str} {p1 p2 pos : Pos} {e : Expr} {es : List Expr} {t : TA}
theorem pe_clsfn {pl : Sem Bool} (hg : Gl X x) (hm : X.mg x = some (.ref C)) (r : ClX.CRead X.K C mc) (c : ClX.CVal X.K C mc m (.ref g) (.ref g)) (F : FnOk X.prog X.w X.K X.mg X.base CX k g fd ps sp) (hr : Room k X.A) (hk : PySem.W.keepIn X.K (.ref g) = true) (hb : Binds X.K fd ps []) (hx : Passes CX X E)
    (ha : PA X (e :: es) t) (hd : (x == ("__debug__" : Str)) = false := by decide)
    (hc : eval (.Call (.Attribute (.Name x p1) m p2) (e :: es) [] pos) X.env = (do
      let ov ← eval (.Name x p1) X.env
      standAt p2.atName
      let (f, first) ← holding [ov] (getMethod ov m pl)
      callWith pos f first (backTo pos (starEach (e :: es) X.env)) (backToKw pos (keywordEach [] X.env))) := by rfl)
    (he : starEach (e :: es) X.env = (false, eval e X.env) :: starEach es X.env := by rfl) (hpl : (backTo pos (starEach es X.env)).any (·.1) = false := by rfl) :
    PE X (.Call (.Attribute (.Name x p1) m p2) (e :: es) [] pos) (tCall sp [] E t) := by
  refine ⟨fun pins s σ H Q I h => ?_⟩
  refine PySem.W.methodCall_KW (pl := pl) (ld_glob I hg hm ?_ hd) hc
  refine PySem.W.method_cls I.kIn r.ga (ClX.getcval_ok I r c fun s' I' => ?_)
  refine PySem.W.callWith_K (h₀ := X.base) I.ok.mod.kin hk (thn (ha.run pos pins s' σ H _ I' h) fun us s1 ⟨vs, H1, I1, r1, q⟩ => ⟨I1.kIn, ?_⟩) he hpl
  exact run_fn F hr hb .nil hx I1 r1 q
end
/-! ### C(): an own exception without arguments -/
section
variable {X : Cx} {p pos : Pos}
theorem pmk_oex0 {CX : CXT} {x : Str} {C fI : Addr} {k : Nat} {fd : FuncData} {ps : List Str} {sp : Sp} (T : OexC X.K C) (iC : PySem.W.findIn X.K (.ref C) "__init__" = some (some (.ref fI))) (tI : PySem.W.typeIn X.K (.ref fI) = some (.type "function"))
    (F1 : FnOk X.prog X.w X.K X.mg X.base CX k fI fd ps sp) (hr : Room (k + 1) X.A) (hb : Binds X.K fd ps []) (hx : Passes CX X (fun _ _ _ => False)) (hg : Gl X x) (hm : X.mg x = some (.ref C)) (hdb : (x == ("__debug__" : Str)) = false := by decide) :
    PMk X (.Call (.Name x p) [] [] pos) (tMkO C sp [] tNil) := by
  intro pins s σ H Q I h
  obtain ⟨nm, q, N, bs, bm, sn, sub, ab, col, dd, k0, k1, k2, k3, k5, hC, hbm⟩ := T.cls
  refine wpAny_Call_Name_kw (ld_glob I hg hm ?_ hdb)
  refine PySem.W.callWith_K0 (first := []) I.kIn T.kC ?_
  obtain ⟨hz, q1⟩ := h
  show wpAny _ _ (call (.ref C) []) _ _ _
  obtain ⟨hp, g, dr, tk, os⟩ := s
  have hsz : hp.objs.size ≤ hp.objs.size + 1 := Nat.le_succ _
  have hn : H (hp.objs.size + 1) = none := I.hok.fresh hsz
  have hq := q1 (hp.objs.size + 1) hn
  have kk : ∀ b o, hp.get? b = some o → ((hp.push (PySem.W.kdv_tup [])).push (PySem.HandSPX.excO C hp.objs.size)).get? b = some o := fun b o e => Heap.get?_push_of_some _ (Heap.get?_push_of_some _ e)
  have hget : ((hp.push (PySem.W.kdv_tup [])).push (PySem.HandSPX.excO C hp.objs.size)).get? (hp.objs.size + 1) = some (PySem.HandSPX.excO C hp.objs.size) := by heap_get
  have I2 : Inv X pins σ (upd H (hp.objs.size + 1) (exo (hp.objs.size + 1) C none)) ⟨(hp.push (PySem.W.kdv_tup [])).push (PySem.HandSPX.excO C hp.objs.size), g, dr, tk, os⟩ :=
    I.laid (t' := tk) (a := hp.objs.size + 1) (o := exo (hp.objs.size + 1) C none) (h' := (hp.push (PySem.W.kdv_tup [])).push (PySem.HandSPX.excO C hp.objs.size)) kk hsz (exo_ok hget)
  have r2 : Vals [V.ref (hp.objs.size + 1)] [Value.ref (hp.objs.size + 1)] := .cons rfl .nil
  have hl : ([Value.ref (hp.objs.size + 1)] ++ ([] : List Value)).length = ps.length := by
    have e := F1.len _ _ _ _ hq
    show 1 = ps.length
    exact e
  refine wpAny_call (PySem.HandSPX.call_own F.excBase_ValueError (fun Y => PySem.HandSPX.refsVE_contains Y bm hbm) (I.kIn _ _ hC) (PySem.W.looks_findIn I.kIn iC) (fun self => PySem.W.bind_fn I.kIn self tI) (Nat.zero_le _)
    (codeAny_mono (F1.run _ X.stack _ _ ⟨[Value.ref (hp.objs.size + 1)], []⟩ [Value.ref (hp.objs.size + 1)] _ _ (fun _ _ _ => False) (hr.make C [] []) (I2.env0.make C [] []) (hb _ [Value.ref (hp.objs.size + 1)] I2.kIn hl) r2 hq) fun r s' hq' => ?_))
  cases r with
  | error er => exact hx pins σ _ _ er s' I2 hq'
  | ok fl =>
    cases fl with
    | ret u =>
      obtain ⟨v, H2, os2, bare2, un2, hok2, rv, ev, d, fs, ea, ed, hd1, q2⟩ := hq'
      subst ev
      obtain ⟨h2, g2, d2, t2, os'⟩ := s'
      exact ⟨rv, mk_end (raises_own T.exC T.tyC) I hsz kk un2 hok2 os2 bare2 ea ed hd1 q2⟩
    | next => exact False.elim hq'
    | brk => exact False.elim hq'
    | cont => exact False.elim hq'
end
/-! ### try .. except A as e: .. except B as e: .. -/
abbrev asEnds (i : Nat) (D : Ends) : Ends := { nx := fun σ' H' => D.nx (σ'.set i none) H', rt := D.rt, bk := fun σ' H' => D.bk (σ'.set i none) H', ct := fun σ' H' => D.ct (σ'.set i none) H' }
inductive HdsA (X : Cx) (n : Str) : List ExceptHandler → List (Value × (Addr → Value → Option Addr → TS)) → Prop
  | nil : HdsA X n [] []
  | cons {x : Str} {c : Value} {ts : Addr → Value → Option Addr → TS} {b₀ : Stmt} {suite : List Stmt} {np pos' : Pos} {hds : List ExceptHandler} {l : List (Value × (Addr → Value → Option Addr → TS))} (hc : Names X x c)
      (hsu : ∀ (a : Addr) (oe : Obj) (cls : Value) (d : Option Addr) (pn : List (Addr × Obj)), Zc cls d oe → (∃ vs, oe.data = .fields vs) → PSs (X.suite a ((a, oe) :: pn)) (b₀ :: suite) (ts a cls d)) (r : HdsA X n hds l) :
      HdsA X n (.ExceptHandler (some (.Name x np)) (some n) (b₀ :: suite) pos' :: hds) ((c, ts) :: l)
section
variable {X : Cx} {n : Str} {i : Nat} {body : List Stmt} {h₀ : ExceptHandler} {hds : List ExceptHandler} {l : List (Value × (Addr → Value → Option Addr → TS))} {pos : Pos} {tb : WX → TS} {Wout : WX}
end
end FF
/-! Fivefault, part 10: own exceptions told of, defs that raise, f(lambda: ..) caught by clauses. -/
namespace FF
open PySem PySem.Spec PyProof.Rows L2
/-! ### what the written part says of an own class of exceptions, by a Bool -/
def oexB (K : PySem.W.Frag) (C : Addr) : Bool := match K.lookup C with
  | some ⟨.type "type", _, .cls cd, sl⟩ => (match cd.mro, sl.toList with
    | .ref C' :: bm, [_, _, _, _, some (.builtin n), _] => C' == C && n == "ValueError.__new__" && !cd.hasDel && cd.hasDict && PySem.HandSPX.refsVE bm
    | _, _ => false)
  | _ => false
theorem oexB_ok {K : PySem.W.Frag} {C : Addr} (q : oexB K C = true) : ∃ nm q N bs bm sn sub ab col dd k0 k1 k2 k3 k5, K.lookup C = some (excClassObj nm q C N bs bm true sn sub ab col dd k0 k1 k2 k3 k5 "ValueError.__new__") ∧ PySem.HandSPX.refsVE bm = true := by
  unfold oexB at q
  split at q
  · rename_i dd cd sl ho
    split at q
    · rename_i C' bm k0 k1 k2 k3 n k5 hm hs
      simp only [Bool.and_eq_true, beq_iff_eq, Bool.not_eq_true'] at q
      obtain ⟨⟨⟨⟨rfl, rfl⟩, hdel⟩, hdict⟩, ht⟩ := q
      obtain ⟨nm, bs, mro, ns, qn, hd, sn, sub, ab, col, del⟩ := cd
      dsimp only at hm hdel hdict
      subst hm hdel hdict
      have hsl : sl = #[k0, k1, k2, k3, some (.builtin "ValueError.__new__"), k5] := by
        obtain ⟨l⟩ := sl
        simp only at hs
        rw [hs]
      subst hsl
      exact ⟨nm, qn, ns, bs, bm, sn, sub, ab, col, dd, k0, k1, k2, k3, k5, ho, ht⟩
    · cases q
  · cases q
/-- an own class C of exceptions: raised, caught, its code read -/
structure OwnC (K : PySem.W.Frag) (C : Addr) : Prop where
  o : OexC K C
  xf : XfC K C
  noc : PySem.W.findIn K (.ref C) "code" = some none
def ownCB (K : PySem.W.Frag) (C : Addr) : Bool := oexB K C && (He.eqO (PySem.W.findIn K (.ref C) "__setattr__") (some (some (.builtin "object.__setattr__"))) && (decide (PySem.W.subIn K (.ref C) (.type "BaseException") = some true) && (decide (PySem.W.typeIn K (.ref C) = some (.type "type")) &&
  (PySem.W.keepIn K (.ref C) && (xfB K C && He.eqO (PySem.W.findIn K (.ref C) "code") (some none))))))
theorem ownCB_ok {K : PySem.W.Frag} {C : Addr} (h : ownCB K C = true) : OwnC K C := by
  obtain ⟨h1, h⟩ := He.ba h
  obtain ⟨h2, h⟩ := He.ba h
  obtain ⟨h3, h⟩ := He.ba h
  obtain ⟨h4, h⟩ := He.ba h
  obtain ⟨h5, h⟩ := He.ba h
  obtain ⟨h6, h7⟩ := He.ba h
  exact ⟨⟨oexB_ok h1, He.eqO_ok h2, of_decide_eq_true h3, of_decide_eq_true h4, h5⟩, xfB_ok h6, He.eqO_ok h7⟩
/-- the class x: an own class whose own __init__ is a def; caught as y -/
structure OwnX (K : PySem.W.Frag) (x y : Str) : Prop where
  c : OwnC K (He.ga K x)
  ini : PySem.W.findIn K (.ref (He.ga K x)) "__init__" = some (some (.ref (He.ma K (He.ga K x) "__init__")))
  tyI : PySem.W.typeIn K (.ref (He.ma K (He.ga K x) "__init__")) = some (.type "function")
  exm : PySem.W.exmOne K (.ref (He.ga K x)) (.ref (He.ga K y)) = some true
def ownXB (K : PySem.W.Frag) (x y : Str) : Bool := ownCB K (He.ga K x) && (He.eqO (PySem.W.findIn K (.ref (He.ga K x)) "__init__") (some (some (.ref (He.ma K (He.ga K x) "__init__")))) && (decide (PySem.W.typeIn K (.ref (He.ma K (He.ga K x) "__init__")) = some (.type "function")) &&
  decide (PySem.W.exmOne K (.ref (He.ga K x)) (.ref (He.ga K y)) = some true)))
theorem ownXB_ok {K : PySem.W.Frag} {x y : Str} (h : ownXB K x y = true) : OwnX K x y := by
  obtain ⟨h1, h⟩ := He.ba h
  obtain ⟨h2, h⟩ := He.ba h
  obtain ⟨h3, h4⟩ := He.ba h
  exact ⟨ownCB_ok h1, He.eqO_ok h2, of_decide_eq_true h3, of_decide_eq_true h4⟩
/-- x.__init__ read from the class x; ValueError.__init__ -/
structure FeC (K : PySem.W.Frag) (x : Str) : Prop where
  rd : ClX.CRead K (He.ga K x) (.type "type")
  at_ : PySem.W.findCls K (.ref (He.ga K x)) (.type "type") "__init__" = some (.val (.ref (He.ma K (He.ga K x) "__init__")))
  kp : PySem.W.keepIn K (.ref (He.ma K (He.ga K x) "__init__")) = true
  ve : PySem.W.findCls K (.type "ValueError") (.type "type") "__init__" = some (.val (.builtin "ValueError.__init__"))
def fcl (o : Option PySem.W.CFound) (v : Value) : Bool := match o with
  | some (.val u) => decide (u = v)
  | _ => false
theorem fcl_ok {o : Option PySem.W.CFound} {v : Value} (h : fcl o v = true) : o = some (.val v) := by
  cases o with
  | none => cases h
  | some f =>
    cases f with
    | val u => rw [of_decide_eq_true (show decide (u = v) = true from h)]
    | _ => cases h
def feCB (K : PySem.W.Frag) (x : Str) : Bool := PySem.W.readsIn K (He.ga K x) (.type "type") && (He.eqO (PySem.W.specialIn K (.ref (He.ga K x)) "__getattribute__") (some (some (.builtin "type.__getattribute__"))) && (fcl (PySem.W.findCls K (.ref (He.ga K x)) (.type "type") "__init__") (.ref (He.ma K (He.ga K x) "__init__")) &&
  (PySem.W.keepIn K (.ref (He.ma K (He.ga K x) "__init__")) && fcl (PySem.W.findCls K (.type "ValueError") (.type "type") "__init__") (.builtin "ValueError.__init__"))))
theorem feCB_ok {K : PySem.W.Frag} {x : Str} (h : feCB K x = true) : FeC K x := by
  obtain ⟨h1, h⟩ := He.ba h
  obtain ⟨h2, h⟩ := He.ba h
  obtain ⟨h3, h⟩ := He.ba h
  obtain ⟨h4, h5⟩ := He.ba h
  exact ⟨⟨h1, He.eqO_ok h2⟩, fcl_ok h3, h4, fcl_ok h5⟩
/-! ### the __init__s -/
def spFE (K : PySem.W.Frag) : Sp := fun vs H Q _ => ∃ (a C : Addr) (z : V), vs = [.ref a, z] ∧ OexC K C ∧ PySem.W.findIn K (.ref C) "code" = some none ∧ H a = some (exo a C none) ∧
  ∀ dx, H dx = none → dx ≠ a → Q .non (upd (upd H dx (exd dx [("code", z)])) a (exo a C (some dx)))
def spIni (K : PySem.W.Frag) (z : Str) : Sp := fun vs H Q _ => ∃ (a C : Addr), vs = [.ref a] ∧ OexC K C ∧ PySem.W.findIn K (.ref C) "code" = some none ∧ H a = some (exo a C none) ∧
  ∀ dx, H dx = none → dx ≠ a → Q .non (upd (upd H dx (exd dx [("code", .str z)])) a (exo a C (some dx)))
/-- an exception in the air: its dict d, its code z -/
def Thr (z : Str) (d : Option Addr) (H : Hp) : Prop := ∃ (dd : Addr) (fs : List (Str × V)), d = some dd ∧ H dd = some (.xd fs) ∧ fs.lookup ("code" : Str) = some (V.str z)
/-- the class x raised: x() makes an exception with the code z -/
structure RaiseD (P : Program) (w : World) (K : PySem.W.Frag) (mg : Str → Option Value) (base : Heap) (x y : Str) (k : Nat) (z : Str) : Prop where
  own : OwnX K x y
  hm : mg x = some (.ref (He.ga K x))
  ini : ∃ fd, FnOk P w K mg base CX0 k (He.ma K (He.ga K x) "__init__") fd ["self"] (spIni K z) ∧ Binds K fd ["self"] []
def tOwn (K : PySem.W.Frag) (x z : Str) : L2.St → Hp → XK → Prop := fun _ H Q => ∀ d H', Same H H' → Thr z d H' → Q (.ref (He.ga K x)) d H'
theorem pmk_imp {X : Cx} {e : Expr} {t t' : L2.St → Hp → XK → Prop} (h : PMk X e t) (i : ∀ σ H Q, t' σ H Q → t σ H Q) : PMk X e t' := fun pins s σ H Q I q => h pins s σ H Q I (i _ _ _ q)
theorem pmk_raise {X : Cx} {x y z : Str} {k j : Nat} {p pos : Pos} (D : RaiseD X.prog X.w X.K X.mg X.base x y k z) (hr : Room j X.A) (hkj : k + 1 ≤ j) (hg : Gl X x := by rfl) (hdb : (x == ("__debug__" : Str)) = false := by decide) : PMk X (.Call (.Name x p) [] [] pos) (tOwn X.K x z) := by
  obtain ⟨fd, F, hb⟩ := D.ini
  refine pmk_imp (pmk_oex0 D.own.c.o D.own.ini D.own.tyI F (hr.mono hkj) hb pass0 hg D.hm hdb) fun σ H Q q => ?_
  refine ⟨by simp [sizeLine], fun a ha => ⟨a, He.ga X.K x, rfl, D.own.c.o, D.own.c.noc, upd_same, fun dx hdx hne => ⟨rfl, dx, [("code", .str z)], upd_same, ?_, ?_, ?_⟩⟩⟩
  · rw [upd_ne hne, upd_same]
  · rwa [upd_ne hne] at hdx
  · have hdx2 : H dx = none := by rwa [upd_ne hne] at hdx
    refine q _ _ (fun b u hb => ?_) ⟨dx, _, rfl, upd_same, rfl⟩
    have b1 : b ≠ dx := ne_of_none hb hdx2
    have b2 : b ≠ a := ne_of_none hb ha
    rw [upd_ne b1, del_ne b2, upd_ne b2, upd_ne b1, upd_ne b2]
    exact hb
/-! ### defs that may raise -/
structure DefX (P : Program) (w : World) (K : PySem.W.Frag) (mg : Str → Option Value) (base : Heap) (x : Str) (k : Nat) (ps : List Str) (sp : Sp) : Prop where
  ex : ∃ (f : Addr) (fd : FuncData), FnOk P w K mg base (L2.CX P w) k f fd ps sp ∧ mg x = some (.ref f) ∧ PySem.W.keepIn K (.ref f) = true ∧ Binds K fd ps []
theorem DefX.mono {P : Program} {w : World} {K : PySem.W.Frag} {mg : Str → Option Value} {base : Heap} {x : Str} {j k : Nat} {ps : List Str} {sp : Sp} (D : DefX P w K mg base x j ps sp) (h : j ≤ k) : DefX P w K mg base x k ps sp := by
  obtain ⟨f, fd, F, r⟩ := D.ex
  exact ⟨f, fd, F.mono h, r⟩
/-- called where an exception is taken -/
theorem pe_defx {X : Cx} {W : WX} {E : XK} {x : Str} {k j : Nat} {ps : List Str} {sp : Sp} {e : Expr} {es : List Expr} {p pos : Pos} {t : TA} (D : DefX X.prog X.w X.K X.mg X.base x k ps sp) (tk : Takes X W) (hW : ∀ cls d σ' H', E cls d H' → W cls d σ' H') (hr : Room j X.A) (hkj : k ≤ j) (ha : PA X (e :: es) t)
    (hg : Gl X x := by rfl) (hdb : (x == ("__debug__" : Str)) = false := by decide) (he : starEach (e :: es) X.env = (false, eval e X.env) :: starEach es X.env := by rfl) (hpl : (backTo pos (starEach es X.env)).any (·.1) = false := by rfl) :
    PE X (.Call (.Name x p) (e :: es) [] pos) (tCall sp [] E t) := by
  obtain ⟨f, fd, F, hm, hk, hb⟩ := D.ex
  exact pe_call F (hr.mono hkj) hg hm hk hb .nil (passes_call tk hW) ha hdb he hpl
theorem defx_mk {P : Program} {w : World} {K : PySem.W.Frag} {mg : Str → Option Value} {base : Heap} {x : Str} {st : Stmt} {f : Addr} {fd : FuncData} {dvs : List V} {kws : List (Str × V)} {N ps : List Str} {k : Nat} {sp : Sp} (F : FunD K x x (defArgs st) (defBody st) (defScope st) dvs kws f fd) (hm : mg x = some (.ref f)) (hb : Binds K fd ps [])
    (S : FnScope N ps (defScope st)) (len : ∀ vs H Q E, sp vs H Q E → vs.length = ps.length)
    (body : ∀ (cdv : Value) (A : Around) (outer : List Env) (s : Shared) (H : Hp) (vs : List V) (Q : VK) (E : XK), Room k (A.deeper (envOfC x (defScope st) s.heap.objs.size f cdv)) → sp vs H Q E →
      (Takes (cxOf (L2.CX P w) P w K mg base N x (defScope st) f cdv A outer s H E) fun cls d _ H => E cls d H) →
      ∃ t, PSs (cxOf (L2.CX P w) P w K mg base N x (defScope st) f cdv A outer s H E) (defBody st) t ∧ t { nx := fun _ H' => Q .non H', rt := Q } (start N vs) H) : DefX P w K mg base x (k + 1) ps sp :=
  ⟨f, fd, FunD.ok F S len (fun cdv A outer s H vs Q E hr h => body cdv A outer s H vs Q E hr h (takes_of rfl rfl rfl rfl)), hm, F.kp, hb⟩
/-! ### _law_call -/
end FF
/-! Fivefault, part 11: f(lambda: ..), the promise of an exception told of the slots at the call. -/
namespace FF
open PySem PySem.Spec PyProof.Rows L2 LamX
section
variable {X : Cx} {pins : List (Addr × Obj)} {σ : L2.St} {H HZ : Hp} {s s1 : Shared}
theorem pe_actS {CXg : CXT} {Eg : XK} {Ng : List Str} {qg : Str} {sg : Scope} {g f c' : Addr} {cdg pm ctv : Value} {params : Arguments} {body : Expr} {scope : Scope} {k i : Nat} {a : Str} {pn : List (Addr × Obj)} {xe : Value → Shared → Prop} {W : WX} {tb : XK → TE} {p1 p2 : Pos}
    (I : Inv X pins σ H s) (L : LamS X.env.scope scope) (hf : s.heap.get? f = some (PySem.W.kla_obj "<lambda>" (X.env.qual ++ "<lambda>") params body scope (cloFrom X.env.cells scope.names []) pm c' ctv)) (hfn : H f = none) (hfr : f ∉ frs X.stack)
    (hbind : bindArgs (PySem.W.kla_fn "<lambda>" (X.env.qual ++ "<lambda>") params body scope (cloFrom X.env.cells scope.names []) pm (.ref c') ctv) ⟨[], []⟩ = pure [])
    (tk : Takes ((cxOf CXg X.prog X.w X.K X.mg X.base Ng qg sg g cdg X.A X.stack s H Eg).tr pn xe) W) (hr : Room (k + 1) (X.A.deeper (envOfC qg sg s.heap.objs.size g cdg)))
    (hbody : ∀ (A : Around) (outer : List Env) (s : Shared) (H : Hp) (E : XK), Room k (A.deeper (lamEnv X scope s.heap.objs.size f c')) → PE (lamCx X A outer s H E scope f c') body (tb E))
    (hN : Ng[i]? = some a) (hv : Vis sg a) (hd : (a == ("__debug__" : Str)) = false := by decide) (hcd : (a == ("__classdict__" : Str)) = false := by decide) :
    PE ((cxOf CXg X.prog X.w X.K X.mg X.base Ng qg sg g cdg X.A X.stack s H Eg).tr pn xe) (.Call (.Name a p1) [] [] p2)
      (fun σZ HZ Q => σZ[i]? = some (some (.ref f)) ∧ HZ c' = some (CodeO c' (X.env.qual ++ "<lambda>")) ∧ ∃ E : XK, (∀ cls d H', E cls d H' → W cls d σZ H') ∧ tb E σ HZ Q) := by
  refine ⟨fun pinsZ sZ σZ HZ Q IZ h => ?_⟩
  obtain ⟨hs, hc, E, hW, ht⟩ := h
  refine wpAny_Call_Name_kw (thn ((pe_var (pos := p1) (i := i) hN hv hd hcd).run pinsZ sZ σZ HZ (fun v H1 => v = .ref f ∧ H1 = HZ) IZ ⟨.ref f, hs, rfl, rfl⟩) fun u s1 ⟨v, H1, I1, r1, q1⟩ => ?_)
  obtain ⟨ev, eH⟩ := q1
  subst ev
  rw [eH] at I1
  obtain rfl : u = Value.ref f := r1
  have of1 := I1.base.keep f _ hf hfn hfr (fun z => nomatch (show f ∈ ([] : List Addr) from z))
  refine PySem.W.callWith_F0 ⟨_, _, _, _, of1⟩ ?_
  have un : Un (frs X.stack) [] H HZ s.heap s1.heap := I1.base
  obtain ⟨⟨oc, vs, t, hoc, hdc, hvc⟩, _, _⟩ := I1.hok c' _ hc
  have rc : codeAny (model X.prog X.w) (X.A.deeper (envOfC qg sg s.heap.objs.size g cdg)) (.call (.ref f) ⟨[], []⟩) (CR (L2.CX X.prog X.w) (envOfC qg sg s.heap.objs.size g cdg :: X.stack) X.prog X.w HZ s1 Q E) s1 := by
    refine PySem.W.kla_callFunE hr.depth of1 rfl L.co L.gen rfl ⟨c', oc, vs, t, rfl, hoc, hdc, hvc⟩ ?_
    rw [hbind]
    refine wpAny_pure (wpAny_newFunctionEnv (fun y hy => (L.own y hy).2) (fun y hy => absurd hy (by simp)) (fun h₁ hns hsb => ⟨I1.nolimit.fresh _ hsb, ?_⟩) L.kind)
    show codeAny _ _ (.expr body (lamEnv X scope s1.heap.objs.size f c')) _ _
    have kp : ∀ b o, s1.heap.get? b = some o → h₁.get? b = some o := fun b o e => hsb.extBut b o (Nat.ne_of_lt (Heap.lt_size e)) (Heap.get?_push_of_some _ e)
    have J := lam_start2 (f := f) (c' := c') (E := E) (tk := s1.toks + ([] : List (Str × Value)).length) I L I1.env0 hr.hd un hns kp
    refine PySem.W.kla_codeExpr (wpAny_mono ((hbody _ _ s1 HZ E (hr.deeper _)).run [] _ _ HZ Q J ht) (fun v s' hq => ?_) fun e s' hq => hq)
    obtain ⟨w', H', J', rv, q⟩ := hq
    exact ⟨w', H', J'.os, J'.bare, J'.base, J'.hok, rv, q⟩
  refine wpAny_call (codeAny_mono rc fun r s' hq => ?_)
  cases r with
  | error e => exact tk e s' (XE.of_call I1 (fun cls d H' h => hW cls d H' h) hq)
  | ok fl =>
    cases fl with
    | ret u => exact I1.after hq
    | next => exact False.elim hq
    | brk => exact False.elim hq
    | cont => exact False.elim hq
end
/-- the def that calls what it got -/
def GivesS (X : Cx) (Ng : List Str) (x : Str) (sg : Scope) (g : Addr) (cdg : Value) (bg : List Stmt) (a : Str) (q : Str) (TT : (XK → Hp → VK → Prop) → Hp → VK → Prop) : Prop :=
  ∀ (f c' : Addr) (s : Shared) (H : Hp) (Q : VK) (tl : XK → Hp → VK → Prop),
    (∀ (W : WX) (pn : List (Addr × Obj)) (xe : Value → Shared → Prop) (p1 p2 : Pos), Takes ((cxOf C8.CX0 X.prog X.w X.K X.mg X.base Ng x sg g cdg X.A X.stack s H C8.E0).tr pn xe) W →
      PE ((cxOf C8.CX0 X.prog X.w X.K X.mg X.base Ng x sg g cdg X.A X.stack s H C8.E0).tr pn xe) (.Call (.Name a p1) [] [] p2) (fun σZ HZ Q => σZ[0]? = some (some (.ref f)) ∧ HZ c' = some (CodeO c' q) ∧ ∃ E : XK, (∀ cls d H', E cls d H' → W cls d σZ H') ∧ tl E HZ Q)) →
    H c' = some (CodeO c' q) → TT tl H Q →
    ∃ t, PSs (cxOf C8.CX0 X.prog X.w X.K X.mg X.base Ng x sg g cdg X.A X.stack s H C8.E0).nox bg t ∧ t { nx := fun _ H' => Q .non H', rt := Q } (L2.start Ng [.ref f]) H
/-- x(lambda: body), x a def of the top -/
theorem pe_lamS {X : Cx} {T : List (Addr × Str)} {TT : (XK → Hp → VK → Prop) → Hp → VK → Prop} {x a : Str} {g c P : Addr} {k : Nat} {st : Stmt} {fd : FuncData} {Ng : List Str} {params : Arguments} {body : Expr} {scope : Scope} {t : XK → TE} {p lpos pos : Pos}
    (hg : Gl X x) (hm : X.mg x = some (.ref g)) (F : FunD X.K x x (defArgs st) (defBody st) (defScope st) [] [] g fd) (hb : L2.Binds X.K fd [a] []) (Sg : FnScope Ng [a] (defScope st)) (hNg : Ng[0]? = some a) (hva : Vis (defScope st) a)
    (hG : ∀ cdg, GivesS X Ng x (defScope st) g cdg (defBody st) a (X.env.qual ++ "<lambda>") TT)
    (TB : TabB X.base X.mg c P) (hcode : X.env.code = .ref c) (hT : T = [(P, X.env.qual ++ "<lambda>")]) (hr : Room (k + 2) X.A) (L : LamS X.env.scope scope) (hdef : defaultsOf params X.env = ([], []))
    (hbind : ∀ (q : Str) (cl : List (Str × Addr)) (pm cv ctv : Value), bindArgs (PySem.W.kla_fn "<lambda>" q params body scope cl pm cv ctv) ⟨[], []⟩ = pure [])
    (hbody : ∀ (A : Around) (outer : List Env) (s : Shared) (H : Hp) (E : XK) (f c' : Addr), Room k (A.deeper (lamEnv X scope s.heap.objs.size f c')) → PE (lamCx X A outer s H E scope f c') body (t E))
    (hdb : (x == ("__debug__" : Str)) = false := by decide) (hd : (a == ("__debug__" : Str)) = false := by decide) (hcd : (a == ("__classdict__" : Str)) = false := by decide) :
    PE X (.Call (.Name x p) [.Lambda params body scope lpos] [] pos) (tLam T TT t) := by
  obtain ⟨oc, od, dV, kV, doc, pm, an, cdv, ct, osl, rfl, lk, hcg, _, _⟩ := F.ex
  refine ⟨fun pins s σ H Q I h => ?_⟩
  obtain ⟨hTs, h⟩ := h
  refine wpAny_Call_Name_kw (ld_glob I hg hm ?_ hdb)
  refine PySem.W.callWith_K (h₀ := X.base) I.ok.mod.kin F.kp ?_ (by rfl) (by rfl)
  show wpAny _ _ (spliced ((false, eval (.Lambda params body scope lpos) X.env) :: backTo pos (starEach [] X.env))) _ _ s
  have hmT : (P, X.env.qual ++ "<lambda>") ∈ T := by rw [hT]; exact List.mem_singleton.mpr rfl
  have hu : ∀ p ∈ T, p.1 = P → p.2 = X.env.qual ++ "<lambda>" := fun p hp _ => by rw [hT] at hp; rw [List.mem_singleton.mp hp]
  refine Calls.spliced_cons (lam_make2 I TB hcode hmT hu hTs hdef (L.has I.ok) fun f c' pm' ctv H1 s' I1 eN T1 hf hfn hfr hco => ?_)
  refine Calls.spliced_nil ⟨I1.kIn, ?_⟩
  have rc : codeAny (model X.prog X.w) X.A (.call (.ref g) ⟨[.ref f], []⟩) (CR C8.CX0 X.stack X.prog X.w H1 s' Q C8.E0) s' := by
    refine run_ofS (N := Ng) (ps := [a]) (us := [.ref f]) (vs := [.ref f]) lk hcg Sg hr I1.env0 (hb s' [.ref f] I1.kIn rfl) (.cons rfl .nil) rfl fun hr' => ?_
    obtain ⟨t', ht', hq'⟩ := hG cdv f c' s' H1 Q (fun E H' Q' => t E σ H' Q') (fun W pn xe p1 p2 tk => pe_actS (i := 0) I1 L hf hfn hfr (hbind _ _ _ _ _) tk hr' (fun A outer s H E hr2 => hbody A outer s H E f c' hr2) hNg hva hd hcd) hco (h H1 eN T1)
    exact ⟨t', ht'.nox, hq'⟩
  refine wpAny_call (codeAny_mono rc fun r s2 hq => ?_)
  cases r with
  | error e => exact (show False from hq).elim
  | ok fl =>
    cases fl with
    | ret u => exact I1.after hq
    | next => exact False.elim hq
    | brk => exact False.elim hq
    | cont => exact False.elim hq
/-- a def told with its code object -/
theorem fn_mkC {P : Program} {w : World} {K : PySem.W.Frag} {mg : Str → Option Value} {base : Heap} {x : Str} {st : Stmt} {fd : FuncData} {dvs : List V} {kws : List (Str × V)} {N ps : List Str} {k : Nat} {sp : Sp} {p : He.Defn} (F : FunD K x x (defArgs st) (defBody st) (defScope st) dvs kws (He.fAd K p) fd)
    (S : FnScope N ps (defScope st)) (len : ∀ vs H Q E, sp vs H Q E → vs.length = ps.length)
    (body : ∀ (cdv : Value) (A : Around) (outer : List Env) (s : Shared) (H : Hp) (vs : List V) (Q : VK) (E : XK), cdv = .ref (He.codeOf K p) → Room k (A.deeper (envOfC x (defScope st) s.heap.objs.size (He.fAd K p) cdv)) → sp vs H Q E →
      ∃ t, PSs (cxOf CX0 P w K mg base N x (defScope st) (He.fAd K p) cdv A outer s H E).nox (defBody st) t ∧ t { nx := fun _ H' => Q .non H', rt := Q } (start N vs) H) : FnOk P w K mg base CX0 (k + 1) (He.fAd K p) fd ps sp := by
  obtain ⟨oc, od, dV, kV, doc, pm, an, cdv, ct, osl, rfl, lk, hcd, _, _⟩ := F.ex
  obtain ⟨c, ec⟩ := He.codeIn_ref hcd
  have e : cdv = .ref (He.codeOf K p) := by rw [ec, He.codeOf_eq lk (show (PySem.W.fnOf x x (defArgs st) (defBody st) (defScope st) dV kV doc pm an cdv ct).code = .ref c from ec)]
  exact fn_of lk hcd S len fun A outer s H vs Q E hr hsp => let ⟨t, a, b⟩ := body cdv A outer s H vs Q E e hr hsp; ⟨t, PSs.nox a, b⟩
/-! ### heaps in which all but the tables stay -/
theorem sn_of {H H' : Hp} (e : Same H H') : ExtN H H' := ExtN.of e
end FF
/-! Fivefault, part 12: defs with *v alone. -/
namespace FF
open PySem PySem.Spec PyProof.Rows L2 StX
structure DefS (P : Program) (w : World) (K : PySem.W.Frag) (mg : Str → Option Value) (base : Heap) (x : Str) (k : Nat) (sp : Sp) : Prop where
  ex : ∃ f : Addr, FnR P w K mg base (L2.CX P w) k f sp ∧ mg x = some (.ref f) ∧ PySem.W.keepIn K (.ref f) = true
section
variable {X : Cx} {W : WX} {E : XK} {x : Str} {k j : Nat} {sp : Sp} {e : Expr} {es : List Expr} {p pos : Pos} {t : TA}
end
/-- a reading with a wish that is stronger -/
theorem pe_mono {X : Cx} {e : Expr} {t : TE} (h : PE X e t) : PE X e (fun σ H Q => ∃ Q' : VK, (∀ v H', Q' v H' → Q v H') ∧ t σ H Q') :=
  ⟨fun pins s σ H Q I ⟨Q', hq, ht⟩ => thn (h.run pins s σ H Q' I ht) fun u s1 ⟨v, H1, I1, r, q⟩ => ⟨v, H1, I1, r, hq v H1 q⟩⟩
theorem lam_by {X : Cx} {scope : Scope} (st : Stmt) (h : X.env.scope = defScope st) (hb : LamX.lamSB (defScope st) scope = true) : LamX.LamS X.env.scope scope := by
  rw [h]
  exact LamX.lamS_by hb
end FF
/-! Fivefault, part 13: a list that stands aside during a call. -/
namespace FF
open PySem PySem.Spec PyProof.Rows L2
section
variable {P : Program} {w : World} {K : PySem.W.Frag} {mg : Str → Option Value} {base : Heap}
end
/-- all but the object at a stays -/
def SameB (a : Addr) (H H' : Hp) : Prop := ∀ b u, b ≠ a → H b = some u → H' b = some u
end FF
/-! Fivefault, part 14: the Hook, with the interpreter's own statics in sight. -/
namespace FF
open PySem PySem.Spec PyProof.Rows L2
theorem saysY_of {fa : List He.Fa} {fn : List He.DefD} {tf : List He.Defn} {ex : PySem.W.Frag → Bool} {w : World} {h : Heap} {l : List Addr} (e : ((He.obsT fa fn [] (He.frT h.get? l), ex (He.frT h.get? l) && He.tabsB h.get? tf (He.frT h.get? l)) : He.AlX) = He.valX fn [] w) : He.SaysX fa fn [] tf ex w h (He.frT h.get? l) := by
  have e1 : He.obsT fa fn [] (He.frT h.get? l) = He.valT fn [] w := congrArg (fun z : He.AlX => z.1) e
  have e2 : (ex (He.frT h.get? l) && He.tabsB h.get? tf (He.frT h.get? l)) = true := congrArg (fun z : He.AlX => z.2) e
  obtain ⟨h1, h2⟩ := He.ba e2
  have key := fun p hp => He.ba (List.all_eq_true.mp h2 p hp)
  have tab : ∀ p ∈ tf, ∃ o, h.get? (He.cT (He.frT h.get? l) p).2 = some o ∧ He.emptyTab o = true := fun p hp => by
    have h4 := (key p hp).2
    cases q : h.get? (He.cT (He.frT h.get? l) p).2 with
    | none =>
      rw [q] at h4
      cases h4
    | some o =>
      rw [q] at h4
      exact ⟨o, rfl, h4⟩
  exact ⟨e1, h1, fun p hp => (key p hp).1, fun p hp => let ⟨_, q, z⟩ := tab p hp; He.frT_none q z, fun p hp => by
    obtain ⟨_, q, z⟩ := tab p hp
    rw [q, He.emptyTab_eq z]⟩
end FF
/-! Fivefault, part 15: comprehensions with a test, over a text; dicts made of pairs. -/
namespace FF
open PySem PySem.Spec PyProof.Rows L2
section
variable {K : PySem.W.Frag} {a D : Addr} {xs : List V} {tt : TT} {te : TE} {vs : List Nat} {j : Nat} {σ : L2.St} {H1 : Hp} {Qd : Hp → Prop}
theorem same_at {H H1 : Hp} {D : Addr} {o : HO} (hD : H1 D = none) (e : Same H1 H) : Same H1 (upd H D o) := fun b u hb => by
  rw [upd_ne (ne_of_none hb hD)]
  exact e _ _ hb
end
/-! ### dicts made of pairs -/
end FF
/-! Fivefault, part 16: keywords gathered in a dict (def f(a, .., **d), called with keywords). -/
namespace FF
open PySem PySem.Spec PyProof.Rows L2
section
variable {prog : Program} {w : World} {A : Around} {E : Value → Shared → Prop} {d : Addr}
end
end FF
/-! Fivefault, part 17: defs with **d, called with keywords. -/
namespace FF
open PySem PySem.Spec PyProof.Rows L2 StX
def FnKw (P : Program) (w : World) (K : PySem.W.Frag) (mg : Str → Option Value) (base : Heap) (CX : CXT) (k : Nat) (f : Addr) (n : Nat) (ks : List Str) (sp : Sp) : Prop :=
  ∀ (A : Around) (outer : List Env) (s : Shared) (H : Hp) (us ws : List Value) (vs zs : List V) (Q : VK) (E : XK), Room k A → Env0 P w K mg base A outer s H → Vals vs us → Vals zs ws → vs.length = n → zs.length = ks.length → sp (vs ++ zs) H Q E →
    codeAny (model P w) A (.call (.ref f) ⟨us, ks.zip ws⟩) (CR CX outer P w H s Q E) s
structure DefK (P : Program) (w : World) (K : PySem.W.Frag) (mg : Str → Option Value) (base : Heap) (x : Str) (k n : Nat) (ks : List Str) (sp : Sp) : Prop where
  ex : ∃ f : Addr, FnKw P w K mg base (L2.CX P w) k f n ks sp ∧ mg x = some (.ref f) ∧ PySem.W.keepIn K (.ref f) = true
end FF
/-! Fivefault, part 18: own exceptions with one field. -/
namespace FF
open PySem PySem.Spec PyProof.Rows L2
/-- C.__init__(self, y): the code z, the field f -/
def spIni1 (K : PySem.W.Frag) (z f : Str) : Sp := fun vs H Q _ => ∃ (a C : Addr) (y : V), vs = [.ref a, y] ∧ OexC K C ∧ PySem.W.findIn K (.ref C) "code" = some none ∧ PySem.W.findIn K (.ref C) f = some none ∧ H a = some (exo a C none) ∧
  ∀ dx, H dx = none → dx ≠ a → Q .non (upd (upd (upd H dx (exd dx [("code", .str z)])) a (exo a C (some dx))) dx (exd dx [(f, y), ("code", .str z)]))
structure RaiseD1 (P : Program) (w : World) (K : PySem.W.Frag) (mg : Str → Option Value) (base : Heap) (x y : Str) (k : Nat) (z f : Str) : Prop where
  own : OwnX K x y
  nof : PySem.W.findIn K (.ref (He.ga K x)) f = some none
  hm : mg x = some (.ref (He.ga K x))
  ini : ∃ fd, FnOk P w K mg base CX0 k (He.ma K (He.ga K x) "__init__") fd ["self", f] (spIni1 K z f) ∧ Binds K fd ["self", f] []
def tOwn1 (K : PySem.W.Frag) (x z f : Str) (ta : TA) : L2.St → Hp → XK → Prop := fun σ H Q => ta σ H fun vs H1 => ∃ y, vs = [y] ∧ ∀ dd H', Same H1 H' → H' dd = some (.xd [(f, y), ("code", .str z)]) → Q (.ref (He.ga K x)) (some dd) H'
theorem pmk_raise1 {X : Cx} {x y z f : Str} {k j : Nat} {e : Expr} {p pos : Pos} {ta : TA} (D : RaiseD1 X.prog X.w X.K X.mg X.base x y k z f) (hr : Room j X.A) (hkj : k + 1 ≤ j) (ha : PA X [e] ta) (hg : Gl X x := by rfl) (hdb : (x == ("__debug__" : Str)) = false := by decide)
    (he : starEach [e] X.env = (false, eval e X.env) :: starEach [] X.env := by rfl) (hpl : (backTo pos (starEach [] X.env)).any (·.1) = false := by rfl) (mono : ∀ σ H (Q Q' : List V → Hp → Prop), (∀ vs H1, Q vs H1 → Q' vs H1) → ta σ H Q → ta σ H Q') :
    PMk X (.Call (.Name x p) [e] [] pos) (tOwn1 X.K x z f ta) := by
  obtain ⟨fd, F, hb⟩ := D.ini
  refine pmk_imp (pmk_oex D.own.c.o D.own.ini D.own.tyI F (hr.mono hkj) hb .nil pass0 hg D.hm ha hdb he hpl) fun σ H Q q => ?_
  refine mono σ H _ _ (fun vs H1 ⟨y, ev, q⟩ => ?_) q
  subst ev
  refine ⟨by simp, fun a ha => ⟨a, He.ga X.K x, y, rfl, D.own.c.o, D.own.c.noc, D.nof, upd_same, fun dx hdx hne => ⟨rfl, dx, [(f, y), ("code", .str z)], ?_, upd_same, ?_, ?_⟩⟩⟩
  · rw [upd_ne (Ne.symm hne), upd_same]
  · rwa [upd_ne hne] at hdx
  · have hdx2 : H1 dx = none := by rwa [upd_ne hne] at hdx
    refine q dx _ (fun b u hb => ?_) upd_same
    have b1 : b ≠ dx := ne_of_none hb hdx2
    have b2 : b ≠ a := ne_of_none hb ha
    rw [upd_ne b1, del_ne b2, upd_ne b1, upd_ne b2, upd_ne b1, upd_ne b2]
    exact hb
end FF
/-! Fivefault, part 19: a, *b = t. -/
namespace FF
open PySem PySem.Spec PyProof.Rows L2
theorem tup_tail {prog : Program} {w : World} {A : Around} (hh : A.handled = none) (I ax : Addr) (hne : ax ≠ I) (x : Value) (items : List Value) :
    Walks prog w A I [I, ax] [I] items.length (fun i v => items[i]? = some v) (fun i h => h.IsTupleIter I ax (i + 1) ∧ h.IsTuple ax (x :: items).toArray) :=
  let W := Walks.tuple (prog := prog) (w := w) hh I ax hne (x :: items).toArray
  { sub := W.sub
    frame := fun i h h' st hk => W.frame (i + 1) h h' st hk
    item := fun i s Q E hi st hQ => W.item (i + 1) s Q E (by simpa using hi) st fun v h' tk hP st' hk => hQ v h' tk (by simpa using hP) st' hk
    done := fun s Q E st hQ => W.done s Q E (by simpa using st) hQ
    self := fun i s Q E st hQ => W.self (i + 1) s Q E st hQ }
theorem unpack_star {prog : Program} {w : World} {A : Around} {E : Value → Shared → Prop} {s : Shared} {t : Addr} {x : Value} {items : List Value} {Q : List Value → Shared → Prop} (hh : A.handled = none) (ht : s.heap.IsTuple t (x :: items).toArray) (hz : items.length ≤ sizeLine)
    (hQ : ∀ (h' : Heap) (tk : Nat), (∀ b o, s.heap.get? b = some o → h'.get? b = some o) → Q [x, .ref h'.objs.size] { s with heap := h'.push { cls := .type "list", data := .seq items.toArray }, toks := tk }) :
    wpAny (model prog w) A (unpackItems (.ref t) 2 (some 1)) Q E s := by
  have hlt : t ≠ s.heap.objs.size := by obtain ⟨o, ho, _⟩ := ht; exact Nat.ne_of_lt (Heap.lt_size ho)
  unfold unpackItems
  refine wpAny_bind ?_
  unfold notIterableAtAll
  refine wpAny_bind (wpAny_specialOf ht.typeIs PySem.F.slot_tuple_iter.lookup ?_)
  refine wpAny_pure ?_
  simp only [Bool.false_eq_true, if_false]
  refine wpAny_bind (wpAny_holding (wpAny_pyIter_tuple ht ?_))
  refine wpAny_bind (wpAny_holding (wpAny_draw_tuple hlt 1 0 _ _ ⟨_, Heap.get?_push_size _ rfl, rfl, rfl⟩ (ht.push _) (by simp) fun h₁ hit₁ hs₁ => ?_))
  have e1 : List.take 1 (List.drop 0 (x :: items).toArray.toList) = [x] := by simp
  rw [e1, if_neg (by simp)]
  have ht₁ : h₁.IsTuple t (x :: items).toArray := (ht.push _).extBut hs₁.extBut hlt
  have k1 : ∀ b o, s.heap.get? b = some o → h₁.get? b = some o := fun b o e => hs₁.extBut b o (Nat.ne_of_lt (Heap.lt_size e)) (Heap.get?_push_of_some _ e)
  have hin : s.heap.objs.size < h₁.objs.size := by
    obtain ⟨o, ho, _⟩ := hit₁
    exact Heap.lt_size ho
  have htn : t < h₁.objs.size := by
    obtain ⟨o, ho, _⟩ := ht₁
    exact Heap.lt_size ho
  refine wpAny_bind (wpAny_holding (wpAny_collect_iter (T := "tuple_iterator") (.inr (.inr (.inr rfl))) (Walks.toS (tup_tail (A := A.in1) hh s.heap.objs.size t hlt x items)) (fun i s st => st.1.typeIs) ⟨hit₁, ht₁⟩ (fun b hb => ?_) (by simp) (fun s' acc mv it => ?_) hz))
  · simp only [List.mem_cons, List.not_mem_nil, or_false] at hb
    rcases hb with rfl | rfl
    · exact hin
    · exact htn
  have ea : acc.toList = items := by
    apply List.ext_getElem?
    intro j
    rw [Array.getElem?_toList]
    cases h : acc[j]? with
    | some v => exact (it.2 j v h).symm
    | none =>
      have := Array.getElem?_eq_none_iff.mp h
      rw [it.1] at this
      exact (List.getElem?_eq_none this).symm
  rw [ea, if_neg (by omega)]
  have em : List.take (items.length - (2 - 1 - 1)) items = items := by simp
  have ed : List.drop (items.length - (2 - 1 - 1)) items = [] := by simp
  rw [em, ed]
  obtain ⟨h2, g2, d2, t2, o2⟩ := s'
  obtain ⟨mh, mg, md, mo, mt⟩ := mv
  have mg : g2 = s.gens := mg
  have md : d2 = s.drawn := md
  have mo : o2 = s.os := mo
  subst mg md mo
  refine wpAny_bind (wpAny_newList (wpAny_pure (hQ h2 t2 fun b o e => mh b o (fun hm => ?_) (k1 b o e))) hz)
  rw [List.mem_singleton.mp hm] at e
  exact Nat.lt_irrefl _ (Heap.lt_size e)
/-- a, *b = t -/
theorem pg_star2 {X : Cx} {e1 e2 : Expr} {p3 pos : Pos} {k : Nat} {t : TGs} (hc : X.calm = true) (h : PGs X [e1, e2] t) (hm : (assignEach [e1, .Starred e2 p3] X.env).map (·.2) = (assignEach [e1, e2] X.env).map (·.2) := by rfl)
    (hn : (assignEach [e1, .Starred e2 p3] X.env).length = 2 := by rfl) (hst : (assignEach [e1, .Starred e2 p3] X.env).findIdx? (·.1) = some 1 := by rfl) :
    PG X (.Tuple [e1, .Starred e2 p3] k pos) (fun v σ H Q => ∃ a x0 xs, v = .ref a ∧ SqT X.K H a (x0 :: xs) ∧ ∀ p, H p = none → t [x0, .ref p] σ (upd H p (.lst xs)) Q) := by
  refine ⟨fun pins s σ H v u Q I r hw => ?_⟩
  obtain ⟨a, x0, xs, rfl, hq, hw⟩ := hw
  cases r
  obtain ⟨its, rv, ht, hz⟩ := I.tuple hq
  cases rv with
  | @cons _ u0 _ us r0 rs =>
  have hl : us.length ≤ sizeLine := by
    have := rs.length
    rw [List.length_cons] at hz
    omega
  rw [PyProof.Rows.assign_Tuple]
  refine wpAny_bind (wpAny_standAt ?_)
  unfold unpack
  rw [hn, hst, hm]
  refine wpAny_bind (wpAny_holding (unpack_star (I.ok.hd hc) ht hl fun h' tk kp => ?_))
  have I1 : Inv X pins σ H { s with heap := h', toks := tk } := I.kept kp
  have hf : H h'.objs.size = none := I1.hok.fresh (Nat.le_refl _)
  have I2 : Inv X pins σ (upd H h'.objs.size (.lst xs)) { s with heap := h'.push { cls := .type "list", data := .seq us.toArray }, toks := tk } :=
    I1.laid (t' := tk) (fun b u e => Heap.get?_push_of_some _ e) (Nat.le_refl _) ⟨by rw [rs.length]; exact hl, us, 0, rs, Heap.get?_push_size _ rfl⟩
  exact h.run pins _ σ _ [x0, .ref h'.objs.size] [u0, .ref h'.objs.size] Q I2 (.cons r0 (.cons rfl .nil)) (hw _ hf)
end FF
/-! Fivefault, part 20: methods of own classes, some of which raise; instances whose fields change. -/
namespace FF
open PySem PySem.Spec PyProof.Rows L2
structure MethX (P : Program) (w : World) (K : PySem.W.Frag) (mg : Str → Option Value) (base : Heap) (C m : Str) (k : Nat) (ps : List Str) (sp : Sp) : Prop where
  ex : ∃ fd, FnOk P w K mg base (L2.CX P w) k (He.ma K (He.ga K C) m) fd ps sp ∧ Binds K fd ps []
  cl : Cls K (He.ga K C)
  me : Meth K (He.ga K C) m (He.ma K (He.ga K C) m)
structure MethD (P : Program) (w : World) (K : PySem.W.Frag) (mg : Str → Option Value) (base : Heap) (C m : Str) (k : Nat) (ps : List Str) (sp : Sp) : Prop where
  ex : ∃ fd, FnOk P w K mg base CX0 k (He.ma K (He.ga K C) m) fd ps sp ∧ Binds K fd ps []
  cl : Cls K (He.ga K C)
  me : Meth K (He.ga K C) m (He.ma K (He.ga K C) m)
section
variable {X : Cx} {W : WX} {E : XK} {C m : Str} {k j : Nat} {ps : List Str} {sp : Sp} {o e : Expr} {es : List Expr} {apos pos : Pos} {to : TE} {t : TA} {pl : Sem Bool}
theorem pe_methx (D : MethX X.prog X.w X.K X.mg X.base C m k ps sp) (tk : Takes X W) (hW : ∀ cls d σ' H', E cls d H' → W cls d σ' H') (hr : Room j X.A) (hkj : k ≤ j) (ho : PE X o to) (ha : PA X (e :: es) t)
    (hst : starEach (e :: es) X.env = (false, eval e X.env) :: starEach es X.env := by rfl) (hpl : (backTo pos (starEach es X.env)).any (·.1) = false := by rfl)
    (ht : eval (.Call (.Attribute o m apos) (e :: es) [] pos) X.env = (do
      let ov ← eval o X.env
      standAt apos.atName
      let (f, first) ← holding [ov] (getMethod ov m pl)
      callWith pos f first (backTo pos (starEach (e :: es) X.env)) (backToKw pos (keywordEach [] X.env))) := by rfl) :
    PE X (.Call (.Attribute o m apos) (e :: es) [] pos) (tMeth (He.ga X.K C) m sp [] E to t) := by
  obtain ⟨fd, F, hb⟩ := D.ex
  exact pe_meth ho D.cl D.me F (hr.mono hkj) hb .nil (passes_call tk hW) ha hst hpl ht
theorem pe_methd (D : MethD X.prog X.w X.K X.mg X.base C m k ps sp) (hr : Room j X.A) (hkj : k ≤ j) (ho : PE X o to) (ha : PA X (e :: es) t)
    (hst : starEach (e :: es) X.env = (false, eval e X.env) :: starEach es X.env := by rfl) (hpl : (backTo pos (starEach es X.env)).any (·.1) = false := by rfl)
    (ht : eval (.Call (.Attribute o m apos) (e :: es) [] pos) X.env = (do
      let ov ← eval o X.env
      standAt apos.atName
      let (f, first) ← holding [ov] (getMethod ov m pl)
      callWith pos f first (backTo pos (starEach (e :: es) X.env)) (backToKw pos (keywordEach [] X.env))) := by rfl) :
    PE X (.Call (.Attribute o m apos) (e :: es) [] pos) (tMeth (He.ga X.K C) m sp [] E0 to t) := by
  obtain ⟨fd, F, hb⟩ := D.ex
  exact pe_meth ho D.cl D.me F (hr.mono hkj) hb .nil pass0 ha hst hpl ht
theorem pe_methd0 (D : MethD X.prog X.w X.K X.mg X.base C m k ps sp) (hr : Room j X.A) (hkj : k ≤ j) (ho : PE X o to)
    (ht : eval (.Call (.Attribute o m apos) [] [] pos) X.env = (do
      let ov ← eval o X.env
      standAt apos.atName
      let (f, first) ← holding [ov] (getMethod ov m pl)
      callWith pos f first (backTo pos (starEach [] X.env)) (backToKw pos (keywordEach [] X.env))) := by rfl) :
    PE X (.Call (.Attribute o m apos) [] [] pos) (tMeth (He.ga X.K C) m sp [] E0 to tNil) := by
  obtain ⟨fd, F, hb⟩ := D.ex
  exact pe_meth0 ho D.cl D.me F (hr.mono hkj) hb .nil pass0 ht
end
/-- C(..): the class C with an own __init__ that raises nothing -/
structure MakeD (P : Program) (w : World) (K : PySem.W.Frag) (mg : Str → Option Value) (base : Heap) (C : Str) (k : Nat) (ps : List Str) (sp : Sp) : Prop where
  ex : ∃ fd, FnOk P w K mg base CX0 k (He.ma K (He.ga K C) "__init__") fd ps sp ∧ Binds K fd ps []
  mkr : Mk K (He.ga K C) (He.ma K (He.ga K C) "__init__")
  hm : mg C = some (.ref (He.ga K C))
section
variable {P : Program} {w : World} {K : PySem.W.Frag} {mg : Str → Option Value} {base : Heap}
theorem methx_mk {C m qual : Str} {st : Stmt} {fd : FuncData} {dvs : List V} {kws : List (Str × V)} {N ps : List Str} {k : Nat} {sp : Sp} (F : FunD K m qual (defArgs st) (defBody st) (defScope st) dvs kws (He.ma K (He.ga K C) m) fd) (hb : Binds K fd ps [])
    (cl : Cls K (He.ga K C)) (me : Meth K (He.ga K C) m (He.ma K (He.ga K C) m)) (S : FnScope N ps (defScope st)) (len : ∀ vs H Q E, sp vs H Q E → vs.length = ps.length)
    (body : ∀ (cdv : Value) (A : Around) (outer : List Env) (s : Shared) (H : Hp) (vs : List V) (Q : VK) (E : XK), Room k (A.deeper (envOfC qual (defScope st) s.heap.objs.size (He.ma K (He.ga K C) m) cdv)) → sp vs H Q E →
      (Takes (cxOf (L2.CX P w) P w K mg base N qual (defScope st) (He.ma K (He.ga K C) m) cdv A outer s H E) fun cls d _ H => E cls d H) →
      ∃ t, PSs (cxOf (L2.CX P w) P w K mg base N qual (defScope st) (He.ma K (He.ga K C) m) cdv A outer s H E) (defBody st) t ∧ t { nx := fun _ H' => Q .non H', rt := Q } (start N vs) H) : MethX P w K mg base C m (k + 1) ps sp :=
  ⟨⟨fd, FunD.ok F S len (fun cdv A outer s H vs Q E hr h => body cdv A outer s H vs Q E hr h (takes_of rfl rfl rfl rfl)), hb⟩, cl, me⟩
theorem fnm_mk {C m qual : Str} {st : Stmt} {fd : FuncData} {dvs : List V} {kws : List (Str × V)} {N ps : List Str} {k : Nat} {sp : Sp} (F : FunD K m qual (defArgs st) (defBody st) (defScope st) dvs kws (He.ma K (He.ga K C) m) fd)
    (S : FnScope N ps (defScope st)) (len : ∀ vs H Q E, sp vs H Q E → vs.length = ps.length)
    (body : ∀ (cdv : Value) (A : Around) (outer : List Env) (s : Shared) (H : Hp) (vs : List V) (Q : VK) (E : XK), Room k (A.deeper (envOfC qual (defScope st) s.heap.objs.size (He.ma K (He.ga K C) m) cdv)) → sp vs H Q E →
      ∃ t, PSs (cxOf CX0 P w K mg base N qual (defScope st) (He.ma K (He.ga K C) m) cdv A outer s H E).nox (defBody st) t ∧ t { nx := fun _ H' => Q .non H', rt := Q } (start N vs) H) : FnOk P w K mg base CX0 (k + 1) (He.ma K (He.ga K C) m) fd ps sp :=
  FunD.ok F S len fun cdv A outer s H vs Q E hr h => let ⟨t, a, b⟩ := body cdv A outer s H vs Q E hr h; ⟨t, PSs.nox a, b⟩
theorem methd_mk {C m qual : Str} {st : Stmt} {fd : FuncData} {dvs : List V} {kws : List (Str × V)} {N ps : List Str} {k : Nat} {sp : Sp} (F : FunD K m qual (defArgs st) (defBody st) (defScope st) dvs kws (He.ma K (He.ga K C) m) fd) (hb : Binds K fd ps [])
    (cl : Cls K (He.ga K C)) (me : Meth K (He.ga K C) m (He.ma K (He.ga K C) m)) (S : FnScope N ps (defScope st)) (len : ∀ vs H Q E, sp vs H Q E → vs.length = ps.length)
    (body : ∀ (cdv : Value) (A : Around) (outer : List Env) (s : Shared) (H : Hp) (vs : List V) (Q : VK) (E : XK), Room k (A.deeper (envOfC qual (defScope st) s.heap.objs.size (He.ma K (He.ga K C) m) cdv)) → sp vs H Q E →
      ∃ t, PSs (cxOf CX0 P w K mg base N qual (defScope st) (He.ma K (He.ga K C) m) cdv A outer s H E).nox (defBody st) t ∧ t { nx := fun _ H' => Q .non H', rt := Q } (start N vs) H) : MethD P w K mg base C m (k + 1) ps sp :=
  ⟨⟨fd, fnm_mk F S len body, hb⟩, cl, me⟩
theorem MethX.mono {C m : Str} {j k : Nat} {ps : List Str} {sp : Sp} (D : MethX P w K mg base C m j ps sp) (h : j ≤ k) : MethX P w K mg base C m k ps sp := by
  obtain ⟨fd, F, r⟩ := D.ex
  exact ⟨⟨fd, F.mono h, r⟩, D.cl, D.me⟩
theorem MethD.mono {C m : Str} {j k : Nat} {ps : List Str} {sp : Sp} (D : MethD P w K mg base C m j ps sp) (h : j ≤ k) : MethD P w K mg base C m k ps sp := by
  obtain ⟨fd, F, r⟩ := D.ex
  exact ⟨⟨fd, F.mono h, r⟩, D.cl, D.me⟩
end
/-! ### all but one object stays -/
theorem sb_refl {a : Addr} {H : Hp} : SameB a H H := fun _ _ _ h => h
theorem SameB.tr {a : Addr} {H H1 H2 : Hp} (x : SameB a H H1) (y : SameB a H1 H2) : SameB a H H2 := fun b u n h => y b u n (x b u n h)
theorem sb_of {a : Addr} {H H1 : Hp} (x : Same H H1) : SameB a H H1 := fun b u _ h => x b u h
theorem sb_upd {a : Addr} {H : Hp} {o : HO} : SameB a H (upd H a o) := fun b u n h => by rw [upd_ne n]; exact h
end FF
/-! Fivefault, part 21: {k: v for a in xs for b in ys}. -/
namespace FF
open PySem PySem.Spec PyProof.Rows L2
section
variable {prog : Program} {w : World} {A : Around} {R : Result → Shared → Prop} {s : Shared} {ek ev ga ia gb ib : Expr} {cs ds : List Expr} {scope : Scope} {pos : Pos} {it : Value} {D : Addr} {env : Env}
abbrev dcE (ek ev ga ia gb ib : Expr) (cs ds : List Expr) (scope : Scope) (pos : Pos) : Expr := .DictComp ek ev [⟨ga, ia, cs, 0⟩, ⟨gb, ib, ds, 0⟩] scope pos
abbrev okE (A : Around) (prog : Program) (w : World) (env : Env) (R : Result → Shared → Prop) : Value → Shared → Prop := notedBy (model prog w) A env fun e s' => R (.error e) s'
abbrev testsOf (cs : List Expr) (env : Env) : Sem Bool := forIn cs true fun c r => if r = true then do let ok ← isTrue c env (eval c env); pure (ForInStep.yield ok) else pure (ForInStep.yield r)
theorem dturn_out : compTurn (dcE ek ev ga ia gb ib cs ds scope pos) 0 it (.ref D) env = (do
      standAt ia.pos
      match ← pyNext it with
      | none => pure (.done .next)
      | some v =>
        letOwnedTupleGo ga it v
        assign ga env v
        let mut ok := true
        for c in cs do
          if ok then ok ← isTrue c env (eval c env)
        if ok then
          let x ← eval ib env
          standAt ib.pos
          let x ← foldedSetIterable ib env x
          let _ ← runOwn (.compStart (dcE ek ev ga ia gb ib cs ds scope pos) 1 (← holding [x] (pyIter x)) (.ref D) env) env
        again (.compLoop (dcE ek ev ga ia gb ib cs ds scope pos) 0 it (.ref D) env)) := by rfl
theorem dturn_in : compTurn (dcE ek ev ga ia gb ib cs ds scope pos) 1 it (.ref D) env = (do
      standAt ib.pos
      match ← pyNext it with
      | none => pure (.done .next)
      | some v =>
        letOwnedTupleGo gb it v
        assign gb env v
        let mut ok := true
        for c in ds do
          if ok then ok ← isTrue c env (eval c env)
        if ok then
          (do
            let kv ← eval ek env
            let vv ← holding [kv] (eval ev env)
            standAt { ek.pos with endLine := ev.pos.endLine, endCol := ev.pos.endCol }
            holding [kv, vv] (dictSet D kv vv))
        again (.compLoop (dcE ek ev ga ia gb ib cs ds scope pos) 1 it (.ref D) env)) := by rfl
/-- the loop over the first source -/
theorem dloop_out (hs : ∀ x, foldedSetIterable ib env x = pure x) (J : Nat → Shared → Prop)
    (turn : ∀ n s, J n s → wpAny (model prog w) A (pyNext it) (fun r s₁ => match r with
      | none => R (.ok .next) s₁
      | some v => wpAny (model prog w) A (letOwnedTupleGo ga it v) (fun _ sa => wpAny (model prog w) A (assign ga env v) (fun _ sb => wpAny (model prog w) A (testsOf cs env) (fun ok sc =>
          if ok = true then wpAny (model prog w) A (eval ib env) (fun x sd => wpAny (model prog w) A (pyIter x) (fun i2 se => codeAny (model prog w) A (.compStart (dcE ek ev ga ia gb ib cs ds scope pos) 1 i2 (.ref D) env) (fun r s' => match r with
            | .ok _ => ∃ m, m < n ∧ J m s'
            | .error _ => False) se) (okE A prog w env R) sd) (okE A prog w env R) sc
          else ∃ m, m < n ∧ J m sc) (okE A prog w env R) sb) (okE A prog w env R) sa) (okE A prog w env R) s₁) (okE A prog w env R) s)
    (n : Nat) (h : J n s) : codeAny (model prog w) A (.compLoop (dcE ek ev ga ia gb ib cs ds scope pos) 0 it (.ref D) env) R s := by
  refine codeAny_loop rfl J (fun n s hJ => ?_) n h
  show wpAny _ A ((compTurn (dcE ek ev ga ia gb ib cs ds scope pos) 0 it (.ref D) env).onRaise (fun x => do noteFrame x env; theTreesLotGoes x)) _ _ s
  refine wpAny_noted ?_
  rw [dturn_out]
  refine wpAny_bind (wpAny_standAt (wpAny_bind (wpAny_mono (turn n s hJ) (fun r sa ha => ?_) fun _ _ z => z)))
  match r, ha with
  | none, ha => exact wpAny_pure ha
  | some v, ha =>
    refine wpAny_bind (wpAny_mono ha (fun _ sb hb => wpAny_bind (wpAny_mono hb (fun _ sc hc => wpAny_bind (wpAny_mono hc (fun ok sd hd => ?_) fun _ _ z => z)) fun _ _ z => z)) fun _ _ z => z)
    match ok, hd with
    | false, hd => exact wpAny_pure ⟨rfl, hd⟩
    | true, hd =>
      refine wpAny_bind (wpAny_mono hd (fun x se he => wpAny_bind (wpAny_standAt (wpAny_bind (wpAny_of_eq (hs x) (wpAny_bind (wpAny_holding (wpAny_mono he (fun i2 sf hf => ?_) fun _ _ z => z))))))) fun _ _ z => z)
      refine wpAny_bind (wpAny_runOwn ?_)
      rw [Around.mark_none]
      refine codeAny_mono hf fun r s' hr => ?_
      match r, hr with
      | .ok f, hr =>
        first
          | exact wpAny_pure ⟨rfl, hr⟩
          | exact wpAny_bind (wpAny_pure (wpAny_pure ⟨rfl, hr⟩))
      | .error e, hr => exact hr.elim
/-- the loop over the second -/
theorem dloop_in (J : Nat → Shared → Prop)
    (turn : ∀ n s, J n s → wpAny (model prog w) A (pyNext it) (fun r s₁ => match r with
      | none => R (.ok .next) s₁
      | some v => wpAny (model prog w) A (letOwnedTupleGo gb it v) (fun _ sa => wpAny (model prog w) A (assign gb env v) (fun _ sb => wpAny (model prog w) A (testsOf ds env) (fun ok sc =>
          if ok = true then wpAny (model prog w) A (eval ek env) (fun kv sd => wpAny (model prog w) A (eval ev env) (fun vv se => wpAny (model prog w) A (dictSet D kv vv) (fun _ sf => ∃ m, m < n ∧ J m sf) (okE A prog w env R) se) (okE A prog w env R) sd) (okE A prog w env R) sc
          else ∃ m, m < n ∧ J m sc) (okE A prog w env R) sb) (okE A prog w env R) sa) (okE A prog w env R) s₁) (okE A prog w env R) s)
    (n : Nat) (h : J n s) : codeAny (model prog w) A (.compLoop (dcE ek ev ga ia gb ib cs ds scope pos) 1 it (.ref D) env) R s := by
  refine codeAny_loop rfl J (fun n s hJ => ?_) n h
  show wpAny _ A ((compTurn (dcE ek ev ga ia gb ib cs ds scope pos) 1 it (.ref D) env).onRaise (fun x => do noteFrame x env; theTreesLotGoes x)) _ _ s
  refine wpAny_noted ?_
  rw [dturn_in]
  refine wpAny_bind (wpAny_standAt (wpAny_bind (wpAny_mono (turn n s hJ) (fun r sa ha => ?_) fun _ _ z => z)))
  match r, ha with
  | none, ha => exact wpAny_pure ha
  | some v, ha =>
    refine wpAny_bind (wpAny_mono ha (fun _ sb hb => wpAny_bind (wpAny_mono hb (fun _ sc hc => wpAny_bind (wpAny_mono hc (fun ok sd hd => ?_) fun _ _ z => z)) fun _ _ z => z)) fun _ _ z => z)
    match ok, hd with
    | false, hd => exact wpAny_pure ⟨rfl, hd⟩
    | true, hd =>
      exact wpAny_bind (wpAny_bind (wpAny_mono hd (fun kv se he => wpAny_bind (wpAny_holding (wpAny_mono he (fun vv sf hf => wpAny_bind (wpAny_standAt (wpAny_holding (wpAny_mono hf (fun _ sg hg => wpAny_pure ⟨rfl, hg⟩) fun _ _ z => z)))) fun _ _ z => z))) fun _ _ z => z))
theorem dstart_in (h0 : codeAny (model prog w) A (.compLoop (dcE ek ev ga ia gb ib cs ds scope pos) 1 it (.ref D) env) R s)
    (h : wpAny (model prog w) A (pyIter it) (fun i2 s' => codeAny (model prog w) A (.compLoop (dcE ek ev ga ia gb ib cs ds scope pos) 1 i2 (.ref D) env) R s') (okE A prog w env R) s) :
    codeAny (model prog w) A (.compStart (dcE ek ev ga ia gb ib cs ds scope pos) 1 it (.ref D) env) R s := by
  refine codeAny_of_tree ?_
  show wpAny _ _ ((compStart (dcE ek ev ga ia gb ib cs ds scope pos) 1 it (.ref D) env).onRaise (fun x => do noteFrame x env; standAt theWindowsPlace)) _ _ s
  refine wpAny_notedAt ?_
  unfold compStart
  show wpAny _ _ (ask >>= _) _ _ s
  refine wpAny_bind (wpAny_askSetting (wpAny_ite ?_))
  split
  · first
      | exact wpAny_bind (wpAny_pure (wpAny_pure (And.intro rfl h0)))
      | exact wpAny_pure (And.intro rfl h0)
  · first
      | exact wpAny_bind (wpAny_rule (wpAny_bind (wpAny_standAt (wpAny_bind (wpAny_mono h (fun i2 s' z => wpAny_pure (And.intro rfl z)) fun _ _ x => x)))))
      | (refine wpAny_bind (wpAny_rule ?_); show wpAny _ _ (standAt ib.pos >>= _) _ _ s; exact wpAny_bind (wpAny_standAt (wpAny_bind (wpAny_mono h (fun i2 s' z => wpAny_pure (And.intro rfl z)) fun _ _ x => x))))
end
/-- in every block of the comprehension -/
abbrev InBlk (X : Cx) (scope : Scope) (p : Cx → Prop) : Prop := ∀ (s : Shared) (H : Hp) (C : Addr) (cl : List (Str × Addr)) (fp : List Addr), p (X.blk s H scope (compEnvC scope cl C X.env) fp)
/-- the inner loop of {k: v for a in xs for b in ys} -/
def tDcIn (J : It) (g : TG) (tt : TT) (tk tv : TE) (D : Addr) (vs : List Nat) (σ : L2.St) (H : Hp) (Nx : Hp → Prop) : Prop := ∃ W : Nat → Nat → Hp → Prop, (∃ m, W 0 m H) ∧ ∀ j k H, W j k H →
  (J.stop j H ∧ Nx H) ∨ (J.go j H ∧ ∃ N : Hp → Prop, (∀ H', N H' → ∃ k', k' < k ∧ W (j + 1) k' H') ∧ ∀ x H', J.yld j H x H' → g x (wipe σ vs) H' fun σ3 H5 => wipe σ3 vs = wipe σ vs ∧ tt σ3 H5 fun b H6 =>
    if b = true then tk σ3 H6 fun y H7 => tv σ3 H7 fun z H8 => ∃ kvs key, y = kV key ∧ H8 D = some (.dK kvs) ∧ kvs.length < sizeLine ∧ N (upd H8 D (.dK (putK kvs key z))) else N H6)
def tDc2 (wi : TI) (g : TG) (tt : TT) (wi1 : TI) (g1 : TG) (tt1 : TT) (tk tv : TE) (vs vs1 : List Nat) : TE := fun σ H Q => wi σ H fun J H1 => ∀ D, H1 D = none → ∃ W : Nat → Nat → Hp → Prop, (∃ m, W 0 m (upd H1 D (.dK []))) ∧ ∀ i m H, W i m H →
  (J.stop i H ∧ Q (.ref D) H) ∨ (J.go i H ∧ ∃ Nx : Hp → Prop, (∀ H', Nx H' → ∃ m', m' < m ∧ W (i + 1) m' H') ∧ ∀ x H', J.yld i H x H' → g x (wipe σ vs) H' fun σ2 H2 => wipe σ2 vs = wipe σ vs ∧ tt σ2 H2 fun b H3 =>
    if b = true then wi1 σ2 H3 fun J1 H4 => tDcIn J1 g1 tt1 tk tv D vs1 σ2 H4 Nx else Nx H3)
theorem pe_dc2 {X : Cx} {ek ev ga ia gb ib : Expr} {cs ds : List Expr} {scope : Scope} {own : List (Str × Nat)} {vs1 : List Nat} {pos : Pos} {wi wi1 : TI} {g g1 : TG} {tt tt1 : TT} {tk tv : TE} (calm : X.calm = true) (nd : X.N.Nodup) (pia : PI X ga ia wi) (ok : BlkOk X.N X.env.scope scope own) (sub : ∀ i ∈ vs1, i ∈ own.map (·.2))
    (pga : InBlk X scope fun Y => PG Y ga g) (pta : InBlk X scope fun Y => PTs Y cs tt) (pib : InBlk X scope fun Y => PI Y gb ib wi1) (pgb : InBlk X scope fun Y => PG Y gb g1) (ptb : InBlk X scope fun Y => PTs Y ds tt1) (pek : InBlk X scope fun Y => PE Y ek tk) (pev : InBlk X scope fun Y => PE Y ev tv)
    (fa : ∀ x, foldedSetIterable ia X.env x = pure x := by intro _; rfl) (fb : ∀ env x, foldedSetIterable ib env x = pure x := by intro _ _; rfl) : PE X (dcE ek ev ga ia gb ib cs ds scope pos) (tDc2 wi g tt wi1 g1 tt1 tk tv (own.map (·.2)) vs1) := by
  refine ⟨fun pins s σ H Q I h => ?_⟩
  show wpAny _ X.A (eval (.DictComp ek ev [⟨ga, ia, cs, 0⟩, ⟨gb, ib, ds, 0⟩] scope pos) X.env) _ _ _
  rw [arm_eval_DictComp]
  have cells : ∀ y ∈ scope.names, y.2 = .free → ∃ c, X.env.cells.lookup y.1 = some c := fun y hy e => (ok.free y hy e).elim (fun k => I.ok.has _ (.inl k)) fun k => I.ok.has _ (.inr k)
  refine wpAny_comprehension_free rfl fa (closure_ok cells) ok.kind (fun y hy e => by rw [ok.uniq y hy, e]) (thn (pia.run pins s σ H _ I h) fun xv sa hx => thn hx fun itv sb hb => ?_)
  obtain ⟨it, fp, tn, J, H2, rfl, I2, T, t2, f2, q⟩ := hb
  refine wpAny_newObj_type (newEnv_comp ?_)
  generalize hD : sb.heap.objs.size = D
  have freeD : H2 D = none := I2.hok.fresh (Nat.le_of_eq hD)
  obtain ⟨W, ⟨m0, w0⟩, turn⟩ := q D freeD
  generalize hs3 : ({ sb with heap := sb.heap.push { cls := .type "dict", data := .dict #[] } } : Shared) = s3
  have heap3 : s3.heap = sb.heap.push { cls := .type "dict", data := .dict #[] } := by rw [← hs3]
  have I3 : Inv X pins σ (upd H2 D (.dK [])) s3 := by
    rw [← hs3]
    exact I2.laid (t' := sb.toks) (fun b o e => Heap.get?_push_of_some _ e) (Nat.le_of_eq hD) (by rw [← hD]; exact dk_empty sb.heap I2.big)
  have below : ∀ b ∈ fp, b < sb.heap.objs.size := fun b hb => let ⟨o, e, _⟩ := T.obj _ _ t2 b hb; Heap.lt_size e
  have f3 : ∀ b ∈ fp, FpOk X pins (upd H2 D (.dK [])) b ∧ b < s3.heap.objs.size := fun b hb => by
    refine ⟨⟨?_, (f2 b hb).2⟩, by rw [heap3, Heap.size_push]; exact Nat.lt_succ_of_lt (below b hb)⟩
    rw [upd_ne (by rw [← hD]; exact Nat.ne_of_lt (below b hb))]
    exact (f2 b hb).1
  have t3 : tn 0 s3.heap := T.keep _ _ _ t2 fun b _ o e => by rw [heap3]; exact Heap.get?_push_of_some _ e
  have I4 := block_start I3 ok nd f3
  have off3 : ∀ b ∈ fp, (upd H2 D (.dK [])) b = none := fun b hb => (f3 b hb).1.1
  show codeAny _ _ (.compStart (dcE ek ev ga ia gb ib cs ds scope pos) 0 (.ref it) (.ref D) (compEnvC scope (cellsFrom (s3.heap.objs.size + 1) scope.names (cloFrom X.env.cells scope.names [])) s3.heap.objs.size X.env)) (compPost (model X.prog X.w) X.A X.xe none (EP X pins σ Q) (.ref D) s3.heap.objs.size) { s3 with heap := pushCells (s3.heap.push { cls := .type "dict", data := .dict #[] }) scope.names }
  generalize hcl : cellsFrom (s3.heap.objs.size + 1) scope.names (cloFrom X.env.cells scope.names []) = cl at I4 ⊢
  have rga := pga s3 (upd H2 D (.dK [])) s3.heap.objs.size cl fp
  have rta := pta s3 (upd H2 D (.dK [])) s3.heap.objs.size cl fp
  have rib := pib s3 (upd H2 D (.dK [])) s3.heap.objs.size cl fp
  have rgb := pgb s3 (upd H2 D (.dK [])) s3.heap.objs.size cl fp
  have rtb := ptb s3 (upd H2 D (.dK [])) s3.heap.objs.size cl fp
  have rek := pek s3 (upd H2 D (.dK [])) s3.heap.objs.size cl fp
  have rev := pev s3 (upd H2 D (.dK [])) s3.heap.objs.size cl fp
  have fbe := fb (compEnvC scope cl s3.heap.objs.size X.env)
  generalize hce : compEnvC scope cl s3.heap.objs.size X.env = ce at I4 rga rta rib rgb rtb rek rev fbe ⊢
  have loc : ce.locals = s3.heap.objs.size := by subst hce; rfl
  generalize hH3 : upd H2 D (.dK []) = H3 at I3 I4 rga rta rib rgb rtb rek rev w0 off3 f3
  generalize hs4 : ({ s3 with heap := pushCells (s3.heap.push { cls := .type "dict", data := .dict #[] }) scope.names } : Shared) = s4 at I4 ⊢
  have t4 : tn 0 s4.heap := T.keep _ _ _ t3 fun b _ o e => by rw [← hs4]; exact pushCells_keeps _ _ _ _ (Heap.get?_push_of_some _ e)
  let B := X.blk s3 H3 scope ce fp
  have foot : ∀ {σ' : L2.St} {H' : Hp} {s' : Shared}, Inv B [] σ' H' s' → (∀ b ∈ fp, H' b = none) → ∀ b ∈ fp, FpOk B [] H' b := fun {σ' H' s'} I' hn b hb =>
    ⟨hn b hb, (I'.ok.exf b hb).1, I'.ok.exfs b hb, .inl hb, fun x c e => (I'.ok.exf b hb).2 x c e, fun p hp => absurd (show p ∈ ([] : List (Addr × Obj)) ++ [] from hp) (by simp)⟩
  let Sj : Nat → Shared → Prop := fun n s' => ∃ i H', Inv B [] (wipe σ (own.map (·.2))) H' s' ∧ tn i s'.heap ∧ (∀ b ∈ fp, H' b = none) ∧ W i n H'
  have loop := dloop_out (prog := X.prog) (w := X.w) (A := X.A) (it := .ref it) (D := D) (ek := ek) (ev := ev) (ga := ga) (ia := ia) (gb := gb) (cs := cs) (ds := ds) (scope := scope) (pos := pos) (R := compPost (model X.prog X.w) X.A X.xe none (EP X pins σ Q) (.ref D) s3.heap.objs.size) fbe Sj (fun n s5 hs5 => ?_) m0 (show Sj m0 s4 from ⟨0, H3, I4, t4, off3, w0⟩)
  · exact codeAny_compStart_dict loop (T.self X.A 0 _ _ _ t4 loop)
  obtain ⟨i, H5, I5, t5, n5, w5⟩ := hs5
  rcases turn i n H5 w5 with ⟨stop, qq⟩ | ⟨go, Nx, hNx, step⟩
  · refine thnF (T.done B rfl rfl rfl calm i [] s5 _ H5 (fun _ _ => False) I5 (foot I5 n5) t5 stop) fun r s6 ⟨hr, I6⟩ => ?_
    subst hr
    have I7 : Inv X pins σ H5 s6 := I3.call' (ch := fp) I6.os I6.base I6.hok I6.bare fun b hb => ⟨(f3 b hb).1.2.2.2.1, (f3 b hb).1.2.1, (f3 b hb).1.2.2.2.2.1, (f3 b hb).1.2.2.2.2.2⟩
    have freeC : H5 s3.heap.objs.size = none := loc ▸ (show H5 ce.locals = none from I6.free)
    obtain ⟨m, hn, _⟩ := I6.loc
    have hn : s6.heap.Ns s3.heap.objs.size m := loc ▸ (show s6.heap.Ns ce.locals m from hn)
    obtain ⟨k0, k1, k2, k3, k4, k5⟩ := I3.fpOk (Nat.le_refl _) freeC
    exact ⟨m, hn, fun h'' same => ⟨.ref D, H5, I7.turned (t' := s6.toks) (fun b o hb e => (same.2 b hb).trans e) k0 k1 k3 k4 k5, rfl, qq⟩⟩
  refine thnF (T.item B rfl rfl rfl calm i [] s5 _ H5 (fun _ _ => False) I5 (foot I5 n5) t5 go) fun r s6 ⟨u, hr, h6⟩ => ?_
  subst hr
  refine thnF h6 fun _ s7 ⟨x, H7, I7, r7, y7, t7, n7⟩ => ?_
  refine thnF (rga.run _ s7 _ H7 x u _ (I7.pinned (foot I7 n7) (T.obj _ _ t7)) r7 (step x H7 y7)) fun _ s8 ⟨σ8, H8, I8, hw8, q8⟩ => ?_
  refine thnF (rta.run _ s8 σ8 H8 _ I8 q8) fun b s9 ⟨H9, I9, q9⟩ => ?_
  have turnEnd : ∀ {σ9 : L2.St} {s' : Shared} {H' : Hp}, Inv B ([] ++ pinsAt fp s7.heap) σ9 H' s' → (wipe σ (own.map (·.2))).length = σ9.length → (∀ (j : Nat) v, (wipe σ (own.map (·.2)))[j]? = some (some v) → σ9[j]? = some (some v)) → Nx H' → ∃ m, m < n ∧ Sj m s' := fun {σ9 s' H'} I' hl hk nx => by
    obtain ⟨m', hm, w'⟩ := hNx H' nx
    have stays : ∀ b ∈ fp, ∀ o, s7.heap.get? b = some o → s'.heap.get? b = some o ∧ H' b = none := fun b hb o e =>
      let z := I'.pin (b, o) (List.mem_append_right _ (List.mem_append_right _ (mem_pinsAt hb e)))
      ⟨z.1, z.2.1⟩
    exact ⟨m', hm, i + 1, H', (I'.unpinned (pins := [])).weak hl hk, T.keep _ _ _ t7 fun b hb o e => (stays b hb o e).1, fun b hb => let ⟨o, e, _⟩ := T.obj _ _ t7 b hb; (stays b hb o e).2, w'⟩
  have len8 : (wipe σ (own.map (·.2))).length = σ8.length := by rw [← hw8, wipe_length]
  have keep8 : ∀ (j : Nat) v, (wipe σ (own.map (·.2)))[j]? = some (some v) → σ8[j]? = some (some v) ∧ j ∉ own.map (·.2) := fun j v e => by
    rw [← hw8] at e
    exact wipe_some e
  cases b with
  | false => exact turnEnd I9 len8 (fun j v e => (keep8 j v e).1) (by simpa using q9)
  | true =>
  simp only [if_true] at q9 ⊢
  refine thnF (rib.run _ s9 σ8 H9 _ I9 q9) fun yv s10 hy => thnF hy fun itv s11 h11 => ?_
  obtain ⟨i1, fp1, tn1, J1, H11, rfl, I11, T1, t11, f11, W1, ⟨m1, w1⟩, turn1⟩ := h11
  have foot1 : ∀ {H' : Hp}, (∀ b ∈ fp1, H' b = none) → ∀ b ∈ fp1, FpOk B ([] ++ pinsAt fp s7.heap) H' b := fun hn b hb => ⟨hn b hb, (f11 b hb).2⟩
  let Sk : Nat → Shared → Prop := fun k s' => ∃ j H', Inv B ([] ++ pinsAt fp s7.heap) (wipe σ8 vs1) H' s' ∧ tn1 j s'.heap ∧ (∀ b ∈ fp1, H' b = none) ∧ W1 j k H'
  have loop1 := dloop_in (prog := X.prog) (w := X.w) (A := X.A) (env := ce) (it := .ref i1) (D := D) (ek := ek) (ev := ev) (ga := ga) (ia := ia) (gb := gb) (ib := ib) (cs := cs) (ds := ds) (scope := scope) (pos := pos) (R := fun r s' => match r with
    | .ok _ => ∃ m, m < n ∧ Sj m s'
    | .error _ => False) Sk (fun k s12 hs12 => ?_) m1 (show Sk m1 s11 from ⟨0, H11, I11.weak (wipe_length _ _) (fun j v e => (wipe_some e).1), t11, fun b hb => (f11 b hb).1, w1⟩)
  · exact dstart_in loop1 (T1.self X.A 0 _ _ _ t11 loop1)
  obtain ⟨j, H12, I12, t12, n12, w12⟩ := hs12
  rcases turn1 j k H12 w12 with ⟨stop1, nx1⟩ | ⟨go1, N1, hN1, step1⟩
  · refine thnF (T1.done B rfl rfl rfl calm j _ s12 (wipe σ8 vs1) H12 (fun _ _ => False) I12 (foot1 n12) t12 stop1) fun r s13 ⟨hr, I13⟩ => ?_
    subst hr
    refine turnEnd I13 (len8.trans (wipe_length σ8 vs1).symm) (fun j v e => ?_) nx1
    obtain ⟨e1, e2⟩ := keep8 j v e
    rw [wipe_out fun z => e2 (sub j z)]
    exact e1
  refine thnF (T1.item B rfl rfl rfl calm j _ s12 (wipe σ8 vs1) H12 (fun _ _ => False) I12 (foot1 n12) t12 go1) fun r s13 ⟨u1, hr, h13⟩ => ?_
  subst hr
  refine thnF h13 fun _ s14 ⟨x1, H14, I14, r14, y14, t14, n14⟩ => ?_
  refine thnF (rgb.run _ s14 (wipe σ8 vs1) H14 x1 u1 _ (I14.pinned (foot1 n14) (T1.obj _ _ t14)) r14 (step1 x1 H14 y14)) fun _ s15 ⟨σ15, H15, I15, hw15, q15⟩ => ?_
  refine thnF (rtb.run _ s15 σ15 H15 _ I15 q15) fun b1 s16 ⟨H16, I16, q16⟩ => ?_
  have innerEnd : ∀ {s' : Shared} {H' : Hp}, Inv B (([] ++ pinsAt fp s7.heap) ++ pinsAt fp1 s14.heap) σ15 H' s' → N1 H' → ∃ m, m < k ∧ Sk m s' := fun {s' H'} I' nx => by
    obtain ⟨m', hm, w'⟩ := hN1 H' nx
    have stays : ∀ b ∈ fp1, ∀ o, s14.heap.get? b = some o → s'.heap.get? b = some o ∧ H' b = none := fun b hb o e =>
      let z := I'.pin (b, o) (List.mem_append_right _ (List.mem_append_right _ (mem_pinsAt hb e)))
      ⟨z.1, z.2.1⟩
    exact ⟨m', hm, j + 1, H', I'.unpinned.weak (by rw [← hw15, wipe_length]) (fun j v e => by rw [← hw15] at e; exact (wipe_some e).1), T1.keep _ _ _ t14 fun b hb o e => (stays b hb o e).1, fun b hb => let ⟨o, e, _⟩ := T1.obj _ _ t14 b hb; (stays b hb o e).2, w'⟩
  cases b1 with
  | false => exact innerEnd I16 (by simpa using q16)
  | true =>
  simp only [if_true] at q16 ⊢
  refine thnF (rek.run _ s16 σ15 H16 _ I16 q16) fun yk s17 ⟨kk, H17, I17, r17, q17⟩ => ?_
  refine thnF (rev.run _ s17 σ15 H17 _ I17 q17) fun yv2 s18 ⟨vv, H18, I18, r18, kvs, key, ek2, hD18, hz18, nx⟩ => ?_
  subst ek2
  exact d_dictSet (X := B) I18 hD18 hz18 r17 r18 fun s19 I19 => innerEnd I19 nx
end FF
/-! Fivefault, part 22: sorted(d), a dict with any number of text keys. -/
namespace FF
open PySem PySem.Spec PyProof.Rows L2
def rSortedDA (H0 : Unit) : List V → Hp → VK → Prop := fun xs H Q => ∃ (a : Addr) (kvs : List (Key × V)) (ks : List Str), xs = [.ref a] ∧ H a = some (.dK kvs) ∧ kvs.map (·.1) = ks.map Sum.inr ∧ ∀ ys p, ys.Perm ks → sortedS ys = true → H p = none → Q (.ref p) (upd H p (.lst (ys.map V.str)))
theorem cr_sortedDA {X : Cx} (calm : X.calm = true) : CallR X (.builtin "sorted") (rSortedDA ()) := by
  intro pins s σ H xs us Q I r h
  obtain ⟨a, kvs, ks, rfl, hd, hk, q⟩ := h
  obtain ⟨u, rfl, rx⟩ := vals1 r
  cases rx
  obtain ⟨z, big, vs, rel, dd⟩ := dk_rd I.hok (.inl hd)
  obtain ⟨ep, hat⟩ := dd.dictAt
  have keys : vs.map (·.1) = ks.map Sum.inr := rel.keys.symm.trans hk
  have len : vs.length = ks.length := by simpa using congrArg List.length keys
  have line : vs.length ≤ sizeLine := rel.length ▸ z
  refine Calls.call_function_entry PyProof.Rows.kind_sorted PyProof.Rows.plain_sorted PyProof.Rows.entry_sorted (PyProof.Rows.args_sorted1 _) ?_
  unfold Builtin.«sorted»
  refine wpAny_bind (m := checkCount "sorted" 1 1 _) (wpAny_pure ?_)
  refine wpAny_bind (PySem.W.kdu_collect (A := X.A.in1) (PySem.W.kdl_dict (knd := mixKind X.prog X.w) (kvs := vs) (ep := ep) big) (I.ok.hd calm) hat line fun h' tk acc hkeep hacc => ?_)
  have la : acc.toList.length = ks.length := by rw [Array.length_toList, hacc.1, len]
  have hS : StrsAre acc.toList ks := strs_at la fun j v e => by
    obtain ⟨k, x, e1, e2⟩ := hacc.2 j v (by rw [← Array.getElem?_toList]; exact e)
    have e3 : (ks.map Sum.inr : List Key)[j]? = some k := by
      rw [← keys, List.getElem?_map, e1]
      rfl
    rw [List.getElem?_map] at e3
    match hj : ks[j]?, e3 with
    | some y, e3 =>
      cases Option.some.inj e3
      obtain ⟨t, ev⟩ := Value.isStrOf_shape (x := y) (v := v) e2
      exact ⟨y, t, rfl, ev⟩
  have I1 : Inv X pins σ H { s with heap := h', toks := tk } := I.kept hkeep
  refine wpAny_bind (wpAny_newList ?_ (by rw [la, ← len]; exact line))
  have new : (h'.push (seqObj "list" acc.toList.toArray 0)).get? h'.objs.size = some (seqObj "list" acc.toList.toArray 0) := Heap.get?_push_size _ rfl
  show wpAny _ _ _ _ _ { s with heap := h'.push (seqObj "list" acc.toList.toArray 0), toks := tk }
  refine wpAny_bind (wpAny_holding (wpAny_call_entry PyProof.Rows.slot_list_sort ⟨_, new, rfl⟩ PyProof.Rows.entry_list_sort
    (list_sort_treeKSt strKind_oneLt (s := { s with heap := h'.push (seqObj "list" acc.toList.toArray 0), toks := tk }) new hS.keysOf (fun v1 v2 rest e => keyKind_strs (by rw [← e]; exact hS)) (by rw [la, ← len]; exact line) fun st' hp hs _ => ⟨_, rfl, ?_⟩)
    (PyProof.Rows.args_list_sort _)))
  obtain ⟨ys, g1, g2, g3⟩ := sorted_out_str hS hp hs
  obtain ⟨e', he'⟩ := PyProof.Rows.sortedHeap_at (vs := acc.toList) (out := (arrOf st').map (·.2)) new
  have size : (ys.map V.str).length ≤ sizeLine := by rw [List.length_map, g2.length_eq, ← len]; exact line
  have old : ∀ b o, h'.get? b = some o → (sortedHeap (h'.push (seqObj "list" acc.toList.toArray 0)) h'.objs.size acc.toList ((arrOf st').map (·.2))).get? b = some o := fun b o e => by
    have hb := Heap.lt_size e
    rw [PyProof.Rows.sortedHeap_old (Nat.ne_of_lt hb) (by rw [size_push']; exact Nat.lt_succ_of_lt hb)]
    exact Heap.get?_push_of_some _ e
  exact wpAny_pure ⟨_, rfl, .ref h'.objs.size, upd H h'.objs.size (.lst (ys.map V.str)), I1.laid (t' := tk) old (Nat.le_refl _) ⟨size, ((arrOf st').map (·.2)).toList, e', vals_of_strs g1, by rw [Array.toArray_toList]; exact he'⟩, rfl, q ys _ g2 g3 (I1.hok.fresh (Nat.le_refl _))⟩
end FF
/-! Fivefault, part 23: enumerate over a tuple; what is a list or a tuple, walked. -/
namespace FF
open PySem PySem.Spec PyProof.Rows L2
open Sem (wp)
set_option maxHeartbeats 4000000 in
theorem enumT_new {v : Value} {o : Obj} {p : Heap → Prop} (B : Begins v o p) : Meets (Builtin.«enumerate.__new__» ⟨[.type "enumerate", v], []⟩) (fun _ R s => p s.heap ∧
      R (.ok (.ret (.ref (s.heap.push o).objs.size))) { s with heap := (s.heap.push o).push { cls := .type "enumerate", data := .fields #[.none, .bool false, .ref s.heap.objs.size, rawInt 0, .none, .none] } }) :=
  .of_wp fun prog w A R s h => by
    obtain ⟨hp, g, d, tk, os⟩ := s
    obtain ⟨h1, h⟩ := h
    have hsub := sub_enumerate
    have begin' : ∀ {A' : Around} {E : Value → Shared → Prop} {Q : Value → Shared → Prop}, Q (.ref hp.objs.size) ⟨hp.push o, g, d, tk, os⟩ → wpAny (model prog w) A' (pyIter v) Q E ⟨hp, g, d, tk, os⟩ :=
      fun q => B.iter prog w _ _ ⟨hp, g, d, tk, os⟩ _ h1 q
    wp_walk using begin'
    refine wpAny_stack_any fun st => wpAny_pure ?_
    split
    · rename_i c _ _ _ _ _
      cases (c == Value.type "enumerate") <;> (wp_walk using begin'; exact ⟨_, rfl, h⟩)
    · wp_walk using begin'
      exact ⟨_, rfl, h⟩
section
variable {prog : Program} {w : World} {A : Around} {E : Value → Shared → Prop} {s : Shared}
theorem enumT_call {t : Addr} {items : Array Value} {Q : Value → Shared → Prop} (ht : s.heap.IsTuple t items)
    (h : ∀ h', IsEnum h' (s.heap.objs.size + 1) s.heap.objs.size 0 .none → h'.IsTupleIter s.heap.objs.size t 0 → (∀ b o, s.heap.get? b = some o → h'.get? b = some o) → Q (.ref (s.heap.objs.size + 1)) { s with heap := h' }) :
    wpAny (model prog w) A (call (.type "enumerate") [.ref t]) Q E s := by
  refine callType_new F.called_enumerate (by decide) (F.typeCall_enumerate_1 _) (F.newCall_enumerate_1 _) (fun obj => F.args_object_init_2 obj _) F.entry_enumerate_new (enumT_new (begins_tuple t items)) ⟨ht, ?_⟩
  have two : (s.heap.push { cls := .type "tuple_iterator", data := .fields #[.ref t, .int 0 0] }).objs.size = s.heap.objs.size + 1 := Heap.size_push ..
  show _ ∧ _
  rw [two]
  have he := Heap.get?_push_size (s.heap.push { cls := .type "tuple_iterator", data := .fields #[.ref t, .int 0 0] }) (o := { cls := .type "enumerate", data := .fields #[.none, .bool false, .ref s.heap.objs.size, rawInt 0, .none, .none] }) rfl
  rw [two] at he
  exact ⟨⟨_, he, rfl⟩, h _ he ⟨_, Heap.get?_push_of_some _ (Heap.get?_push_size _ rfl), rfl, rfl⟩ fun b o x => Heap.get?_push_of_some _ (Heap.get?_push_of_some _ x)⟩
end
/-- the tuple at a, each item in a new pair -/
def Itet (K : PySem.W.Frag) (a : Addr) : It :=
  ⟨fun i H => ∃ (xs : List V) (x : V), SqT K H a xs ∧ xs[i]? = some x, fun i H v H' => ∃ T x, v = .ref T ∧ H T = none ∧ H' = upd H T (.tup [.int (i : Nat), x]) ∧ ∀ xs, SqT K H a xs → xs[i]? = some x, fun i H => ∃ xs : List V, SqT K H a xs ∧ xs.length ≤ i⟩
theorem turn_enumT {P : Program} {w : World} {K : PySem.W.Frag} {elts : List Expr} {kk : Nat} {tpos : Pos} (a e it : Addr) :
    Turn P w K (.Tuple elts kk tpos) (Itet K a) [e, it] e (fun i h => (∃ old, IsEnum h e it ((i : Nat) : Int) old) ∧ h.IsTupleIter it a i ∧ e ≠ it) where
  mem := by simp
  obj := fun i h st b hb => by
    obtain ⟨⟨old, he⟩, ⟨o, ho, hc, hd⟩, _⟩ := st
    rcases (show b = e ∨ b = it by simpa using hb) with z | z
    · rw [z]; exact ⟨_, he, fun v q => nomatch q⟩
    · rw [z]; exact ⟨o, ho, fun v q => by rw [hd] at q; cases q⟩
  keep := fun i h h' st k => let ⟨⟨old, he⟩, hi, hne⟩ := st; ⟨⟨old, k e (by simp) _ he⟩, hi.at fun o q => k it (by simp) o q, hne⟩
  item := by
    intro X hP hw hK hc i pins s σ H E I hf st hg
    subst hP hw hK
    obtain ⟨⟨old, he⟩, hit, hne⟩ := st
    obtain ⟨xs, x, hq, hx⟩ := hg
    obtain ⟨its, rv, p, hz⟩ := I.tuple hq
    have hT : s.heap.IsTuple a its.toArray := p
    obtain ⟨u, hu, ru⟩ := rv.get hx
    have hel : e < s.heap.objs.size := Heap.lt_size he
    have hil : it < s.heap.objs.size := by obtain ⟨_, q, _⟩ := hit; exact Heap.lt_size q
    have nei : a ≠ it := fun z => by
      subst z
      obtain ⟨o, ho, hc', _⟩ := hT
      obtain ⟨o', ho', hc2, _⟩ := hit
      rw [ho] at ho'
      cases ho'
      rw [hc'] at hc2
      exact absurd hc2 (by intro z; injection z with z; exact absurd z (by decide))
    have nee : e ≠ a := fun z => by
      subst z
      obtain ⟨o, ho, hc', _⟩ := hT
      have he : s.heap.get? e = some _ := he
      rw [ho] at he
      cases he
      exact absurd hc' (by intro z; injection z with z; exact absurd z (by decide))
    have hlt : i < its.toArray.size := by
      have := (List.getElem?_eq_some_iff.mp hu).1
      simpa using this
    refine wpAny_pyNext_enum_itemD (Draws.tuple (A := X.A.in1) (I.ok.hd hc) it a nei its.toArray) he ⟨hit, hT⟩ hlt hne (by simp [hne, nee]) fun x' h' tk hP' ho hst hT' hsz hk => ?_
    have ex : x' = u := by
      have h1 : its.toArray[i]? = some x' := hP'
      rw [List.getElem?_toArray, hu] at h1
      exact (Option.some.inj h1).symm
    subst ex
    refine ⟨_, rfl, wpAny_letOwnedTupleGo_enum (s := { s with heap := h', toks := tk + 1 }) ho fun h'' he' sb => ?_⟩
    have hT2 : h''.get? s.heap.objs.size = some { cls := .type "tuple", data := .seq #[.int i tk, x'] } := (sb.2 _ (Nat.ne_of_gt hel)).trans hT'
    have new : ObjOk X.prog X.w (upd H s.heap.objs.size (.tup [.int (i : Nat), x])) h'' s.heap.objs.size (.tup [.int (i : Nat), x]) :=
      ⟨by show 2 ≤ sizeLine; decide, [.int i tk, x'], .cons ⟨_, rfl⟩ (.cons ru .nil), ⟨_, hT2, rfl, _, rfl⟩⟩
    have I1 : Inv X pins σ (upd H s.heap.objs.size (.tup [.int (i : Nat), x])) { s with heap := h'', toks := tk + 1 } :=
      I.turnedNew (ch := [e, it]) (fun b ob hb q => (sb.2 b (fun z => hb (by simp [z]))).trans (hk b ob (fun z => hb (by simp [z])) (fun z => hb (by simp [z])) q)) hf (Nat.le_refl _) new
    refine ⟨.ref s.heap.objs.size, _, I1, rfl, ⟨_, x, rfl, I.hok.fresh (Nat.le_refl _), rfl, fun ys hy => by rw [I.tuple_inj hy hq]; exact hx⟩, ⟨⟨x', ?_⟩, hst.1.at fun o q => (sb.2 it (Ne.symm hne)).trans q, hne⟩, fun b hb => ?_⟩
    · rw [show ((i + 1 : Nat) : Int) = (i : Int) + 1 by omega]
      exact he'
    · have hb' : b < s.heap.objs.size := by
        rcases (show b = e ∨ b = it by simpa using hb) with z | z
        · rw [z]; exact hel
        · rw [z]; exact hil
      rw [upd_ne (Nat.ne_of_lt hb')]
      exact (hf b hb).1
  done := by
    intro X hP hw hK hc i pins s σ H E I hf st hg
    subst hP hw hK
    obtain ⟨⟨old, he⟩, hit, hne⟩ := st
    obtain ⟨xs, hq, hx⟩ := hg
    obtain ⟨its, rv, p, hz⟩ := I.tuple hq
    have hT : s.heap.IsTuple a its.toArray := p
    have last : its.toArray[i]? = none := by
      have := rv.length
      rw [List.getElem?_toArray]
      exact List.getElem?_eq_none_iff.mpr (by omega)
    have D : Draws X.prog X.w X.A.in1 it [it, a] i (fun _ _ => True) (fun j h => j = i ∧ h.IsTupleIter it a i ∧ h.IsTuple a its.toArray) :=
      { live := fun _ _ st => let ⟨o, ho, _⟩ := st.2.1; ⟨o, ho⟩
        frame := fun _ _ _ st k => ⟨st.1, st.2.1.at fun o q => k it (by simp) o q, st.2.2.at fun o q => k a (by simp) o q⟩
        item := fun j s Q E hj st _ => absurd st.1 (Nat.ne_of_lt hj)
        done := fun s Q E st hE => wpAny_nextOf_tuple_end (I.ok.hd hc) st.2.1 st.2.2 last hE }
    obtain ⟨f0, f1, f2, f3, f4, f5⟩ := hf it (by simp)
    exact wpAny_pyNext_enum_endD D he ⟨rfl, hit, hT⟩ fun h' eb => ⟨rfl, I.turned (t' := s.toks) (fun b o hb q => eb b o hb q) f0 f1 f3 f4 f5⟩
  self := fun A i s Q E st h => let ⟨⟨_, he⟩, _⟩ := st; wpAny_pyIter_enum he h
/-- enumerate(e), e a list or a tuple -/
def iEnumS (K : PySem.W.Frag) (ta : TA) : TI := fun σ H R => ta σ H fun vs H1 => ∃ a xs, vs = [.ref a] ∧ ((SqL K H1 a xs ∧ R (Ite K a) H1) ∨ (SqT K H1 a xs ∧ R (Itet K a) H1))
theorem pi_enumS (K : PySem.W.Frag) {X : Cx} {e : Expr} {ta : TA} {p pos tpos : Pos} {elts : List Expr} {kk : Nat} (hg : Gl X "enumerate") (hm : X.mg "enumerate" = none) (ha : PA X [e] ta) (hK : X.K = K := by rfl) (hs : starEach [e] X.env = [(false, eval e X.env)] := by rfl) :
    PI X (.Tuple elts kk tpos) (.Call (.Name "enumerate" p) [e] [] pos) (iEnumS K ta) := by
  subst hK
  refine ⟨fun pins s σ H R I h => ?_⟩
  refine Call_ (ld_blt I hg hm boot_enumerate (PyProof.Rows.callWith_type1 (thn (ha.run pos pins s σ H _ I h) fun us s1 ⟨vs, H1, I1, r1, q1⟩ => ?_) hs rfl))
  obtain ⟨a, xs, ex, q⟩ := q1
  subst ex
  cases r1 with
  | cons r rr =>
  cases rr
  cases r
  have foot : ∀ {h' : Heap}, Inv X pins σ H1 { s1 with heap := h' } → ∀ b ∈ [s1.heap.objs.size + 1, s1.heap.objs.size], FpOk X pins H1 b := fun _ b hb => by
    have hle : s1.heap.objs.size ≤ b := by
      rcases (show b = s1.heap.objs.size + 1 ∨ b = s1.heap.objs.size by simpa using hb) with z | z
      · rw [z]; exact Nat.le_succ _
      · rw [z]; exact Nat.le_refl _
    exact I1.fpOk hle (I1.hok.fresh hle)
  rcases q with ⟨hq, q⟩ | ⟨hq, q⟩
  · obtain ⟨its, rv, p', hz⟩ := I1.list hq
    refine call_enumerate_list p'.isList fun h' he hit _ hk => wpAny_pyIter_enum he ?_
    have I2 : Inv X pins σ H1 { s1 with heap := h' } := I1.kept (t' := s1.toks) hk
    exact ⟨s1.heap.objs.size + 1, _, _, _, H1, rfl, I2, turn_enum a (s1.heap.objs.size + 1) s1.heap.objs.size, ⟨⟨.none, he⟩, hit, Nat.succ_ne_self _⟩, foot I2, q⟩
  · obtain ⟨its, rv, p', hz⟩ := I1.tuple hq
    refine enumT_call (show s1.heap.IsTuple a its.toArray from p') fun h' he hit hk => wpAny_pyIter_enum he ?_
    have I2 : Inv X pins σ H1 { s1 with heap := h' } := I1.kept (t' := s1.toks) hk
    exact ⟨s1.heap.objs.size + 1, _, _, _, H1, rfl, I2, turn_enumT a (s1.heap.objs.size + 1) s1.heap.objs.size, ⟨⟨.none, he⟩, hit, Nat.succ_ne_self _⟩, foot I2, q⟩
/-- e, a list or a tuple, walked -/
def iSeq (K : PySem.W.Frag) (tl : TE) : TI := fun σ H R => tl σ H fun v H1 => ∃ a xs, v = .ref a ∧ ((SqL K H1 a xs ∧ R (Itl K a) H1) ∨ (SqT K H1 a xs ∧ R (Itt K a) H1))
theorem pi_seqK (K : PySem.W.Frag) {X : Cx} {tg l : Expr} {tl : TE} (hl : PE X l tl) (hK : X.K = K := by rfl) : PI X tg l (iSeq K tl) := by
  subst hK
  refine ⟨fun pins s σ H R I h => ?_⟩
  refine thn (hl.run pins s σ H _ I h) fun v s1 ⟨x, H1, I1, r1, a, xs, e, q⟩ => ?_
  subst e
  cases r1
  have foot : ∀ b ∈ [s1.heap.objs.size], FpOk X pins H1 b := fun b hb => by
    rw [show b = s1.heap.objs.size by simpa using hb]
    exact I1.fpOk (Nat.le_refl _) (I1.hok.fresh (Nat.le_refl _))
  rcases q with ⟨hq, q⟩ | ⟨hq, q⟩
  · obtain ⟨its, rv, p, hz⟩ := I1.list hq
    exact wpAny_pyIter_list p.isList ⟨s1.heap.objs.size, _, _, _, H1, rfl, I1.kept (t' := s1.toks) fun b o e => Heap.get?_push_of_some _ e, turn_list a _, ⟨_, Heap.get?_push_size _ rfl, rfl, rfl⟩, foot, q⟩
  · obtain ⟨its, rv, p, hz⟩ := I1.tuple hq
    exact wpAny_pyIter_tuple (show s1.heap.IsTuple a its.toArray from p) ⟨s1.heap.objs.size, _, _, _, H1, rfl, I1.kept (t' := s1.toks) fun b o e => Heap.get?_push_of_some _ e, turn_tuple a _, ⟨_, Heap.get?_push_size _ rfl, rfl, rfl⟩, foot, q⟩
end FF
/-! Fivefault, part 24: several except clauses, with and without names. -/
namespace FF
open PySem PySem.Spec PyProof.Rows L2
def wManyB (K : PySem.W.Frag) (Wout : WX) (D : Ends) : List (Value × (Addr → Value → Option Addr → TS)) → WX
  | [] => Wout
  | (c, ts) :: r => fun cls d σ H => ∃ b, PySem.W.exmOne K cls c = some b ∧ (b = true → ∀ a, H a = none → ts a cls d D σ H) ∧ (b = false → wManyB K Wout D r cls d σ H)
/-- the readings of a clause with a name (slot i) -/
abbrev nmd (i : Nat) (ts : Addr → Value → Option Addr → TS) : Addr → Value → Option Addr → TS := fun a cls d D σ H => ts a cls d (asEnds i D) (σ.set i (some (.ref a))) H
inductive HdsB (X : Cx) (n : Str) (i : Nat) : List ExceptHandler → List (Value × (Addr → Value → Option Addr → TS)) → Prop
  | nil : HdsB X n i [] []
  | cons {x : Str} {c : Value} {ts : Addr → Value → Option Addr → TS} {b₀ : Stmt} {suite : List Stmt} {np pos' : Pos} {hds : List ExceptHandler} {l : List (Value × (Addr → Value → Option Addr → TS))} (hc : Names X x c)
      (hsu : ∀ (a : Addr) (oe : Obj) (cls : Value) (d : Option Addr) (pn : List (Addr × Obj)), Zc cls d oe → (∃ vs, oe.data = .fields vs) → PSs (X.suite a ((a, oe) :: pn)) (b₀ :: suite) (ts a cls d)) (r : HdsB X n i hds l) :
      HdsB X n i (.ExceptHandler (some (.Name x np)) (some n) (b₀ :: suite) pos' :: hds) ((c, nmd i ts) :: l)
  | cons0 {x : Str} {c : Value} {ts : Addr → Value → Option Addr → TS} {b₀ : Stmt} {suite : List Stmt} {np pos' : Pos} {hds : List ExceptHandler} {l : List (Value × (Addr → Value → Option Addr → TS))} (hc : Names X x c)
      (hsu : ∀ (a : Addr) (oe : Obj) (cls : Value) (d : Option Addr) (pn : List (Addr × Obj)), Zc cls d oe → (∃ vs, oe.data = .fields vs) → PSs (X.suite a ((a, oe) :: pn)) (b₀ :: suite) (ts a cls d)) (r : HdsB X n i hds l) :
      HdsB X n i (.ExceptHandler (some (.Name x np)) none (b₀ :: suite) pos' :: hds) ((c, ts) :: l)
section
variable {X : Cx} {n : Str} {i : Nat} {body : List Stmt} {h₀ : ExceptHandler} {hds : List ExceptHandler} {l : List (Value × (Addr → Value → Option Addr → TS))} {pos : Pos} {tb : WX → TS} {Wout : WX}
theorem ps_try_manyB (hs : X.stack = X.env :: X.outer) (hf : X.env.frame = some X.env.locals) (hN : X.N.Nodup) (hi : X.N[i]? = some n) (hln : X.env.kindOf n = some .local) (tk : Takes X Wout)
    (hb : ∀ (W : WX) (pn : List (Addr × Obj)) (xe : Value → Shared → Prop), Takes (X.tr pn xe) W → PassesOwn (model X.prog X.w) X.A X.env xe → PSs (X.tr pn xe) body (tb W))
    (hh : HdsB X n i (h₀ :: hds) l) : PS X (.Try body (h₀ :: hds) [] [] pos) (fun D σ H => tb (wManyB X.K Wout D l) D σ H) := by
  refine ⟨fun pins s σ H D I h => ?_⟩
  have ok := I.ok
  have hfr : X.A.frames = some (X.env :: X.outer) := by rw [ok.frames, hs]
  have hloc : Loc X.env.scope n := .inl hln
  refine wpAny_Try_except ?_
  refine wpAny_mono ((hb (wManyB X.K Wout D l) (X.pn ++ pins) (fun e s₁ => wpAny (model X.prog X.w) X.A (noteFrame e X.env) (fun _ s₂ => wpAny (model X.prog X.w) X.A (setFlight e none) (fun _ s₃ =>
    wpAny (model X.prog X.w) X.A (handleBy e X.env (h₀ :: hds)) (SP X pins D) X.xe s₃) X.xe s₂) X.xe s₁) (fun u s' xx => ?_) PassesOwn.looking).run [] s σ H D (I.toTry _) h) (fun f s1 hsp => ?_) (fun e s1 he => he)
  · obtain ⟨a, B, sI, pins', σ', H', cls, d, rfl, J', nb, up, sky, na, os, ag, w⟩ := xx
    have J : Inv X pins σ' H' sI := J'.ofTry ok
    have sky' : Sky B (X.env :: X.outer) a (Zc cls d) X.env.locals s'.heap := by rw [← hs]; exact sky
    show wpAny (model X.prog X.w) X.A (noteFrame (.ref a) X.env) _ _ _
    refine Sky.land Zc.steady hfr hf sky' fun h3 fl3 up3 => ?_
    have J3 : Inv X pins σ' H' { s' with heap := h3 } := J.landed nb fl3.1 (up.trans up3) os ag
    obtain ⟨oe3, vs3, he3, hz3, hd3⟩ := fl3.there
    have notFr : ∀ {h : Heap} {o : Obj} {vs : Array Value}, h.FunFrames B (X.env :: X.outer) → h.get? a = some o → o.data = .fields vs → a ∉ frs (X.env :: X.outer) := fun {h o vs} ff e dd hm => by
      obtain ⟨_, o', e', hnf⟩ := ff.mem hm
      rw [e] at e'; cases e'
      exact hnf _ dd
    have nfr := notFr fl3.2.2.1 he3 hd3
    have nL : a ≠ X.env.locals := fun z => nfr (List.mem_filterMap.mpr ⟨X.env, List.mem_cons_self, by rw [hf, z]⟩)
    have nF : a ∉ X.fs := fun hm => by
      obtain ⟨e, he, q⟩ := List.mem_filterMap.mp hm
      exact nfr (List.mem_filterMap.mpr ⟨e, List.mem_cons_of_mem _ he, q⟩)
    have S3 := J3.suite he3 hd3 na nL nF
    have go : ∀ {hds' : List ExceptHandler} {l' : List (Value × (Addr → Value → Option Addr → TS))}, HdsB X n i hds' l' → wManyB X.K Wout D l' cls d σ' H' →
        wpAny (model X.prog X.w) X.A (handleBy (.ref a) X.env hds') (SP X pins D) X.xe { s' with heap := h3 } := by
      intro hds' l' hk
      induction hk with
      | nil =>
        intro w
        refine wpAny_handleBy_nil ?_
        obtain ⟨k1, k2, k3, oe, vs, T, oT, ts', he, hz, hd, h1, hr⟩ := id fl3
        unfold PySem.passOn
        refine wpAny_bind (wpAny_field he hd h1 ?_)
        rw [if_neg (show ¬ ((Value.ref T == Value.none) = true) from by simp)]
        have fin : wpAny (model X.prog X.w) X.A (setFlight (.ref a) X.env.frame) (fun _ s4 => wpAny (model X.prog X.w) X.A (throw (.ref a) : Sem Flow) (SP X pins D) X.xe s4) X.xe { s' with heap := h3 } := by
          rw [hf]
          refine HandSPX.setFlight_upZ fl3 fun h4 hh4 up4 => wpAny_throw (tk _ _ ?_)
          exact ⟨a, B, sI, pins, σ', H', cls, d, rfl, J, nb, (up.trans up3).trans up4, .inr (.inr (by rw [hs]; exact hh4)), na, os, ag, w⟩
        first
          | exact wpAny_bind (wpAny_pure (wpAny_bind fin))
          | exact wpAny_bind fin
      | @cons x c ts b₀ suite np pos' hds2 l2 hc hsu r ih =>
        intro w
        obtain ⟨b, hb1, hyes, hno⟩ := w
        refine wpAny_handleBy_cons (codeAny_handlers_test ?_) (by intro q; cases q)
        have LT : PySem.W.Looks (model X.prog X.w) h3 (typeOf (.ref a)) cls := fun A Q E s k q => wpAny_typeOf_ref (k _ _ he3) (by rw [hz3.1]; exact q)
        have LM := PySem.W.exm_one (M := model X.prog X.w) (J3.kIn) LT hb1
        have test : ∀ {Q : Value → Shared → Prop} {E : Value → Shared → Prop}, Q c { s' with heap := h3 } → wpAny (model X.prog X.w) (X.A.mark (some (.ref a))) (eval (.Name x np) X.env) Q E { s' with heap := h3 } := fun {Q E} q => by
          obtain ⟨hg, hdbg, hm | ⟨hm, hv, hnn⟩⟩ := hc
          · exact ld_glob (X := X.suite a ((a, oe3) :: (X.pn ++ pins))) S3 hg hm q hdbg
          · exact ld_blt (X := X.suite a ((a, oe3) :: (X.pn ++ pins))) S3 hg hm hv q hnn hdbg
        refine test (LM.here ?_)
        cases b with
        | true =>
          refine codeAny_handlers_suite_as ?_
          refine HandSPX.lands_againZ fl3 fun h4 fl4 up4 => ?_
          have J4 : Inv X pins σ' H' { s' with heap := h4 } := J.landed nb fl4.1 ((up.trans up3).trans up4) os ag
          obtain ⟨oe4, vs4, he4, hz4, hd4⟩ := fl4.there
          have S4 := J4.suite he4 hd4 na nL nF
          refine store_ok (X := X.suite a ((a, oe4) :: (X.pn ++ pins))) (v := .ref a) S4 hN hi hloc rfl (fun s5 S5 => ?_) (.inr hln)
          refine wpAny_mono ((hsu a oe4 cls d (X.pn ++ pins) hz4 ⟨_, hd4⟩).run [] s5 _ H' _ S5 (hyes rfl a na)) (fun f s6 hsp => ?_) (fun _ _ z => False.elim z)
          have end_ : ∀ {σ6 : L2.St} {H6 : Hp} {Q : Shared → Prop}, Inv (X.suite a ((a, oe4) :: (X.pn ++ pins))) [] σ6 H6 s6 → (∀ s7, Inv X pins (σ6.set i none) H6 s7 → Q s7) →
              wpAny (model X.prog X.w) X.A (do bindName X.env n .none; unbindBehindTheSuite X.env n pos') (fun _ s7 => Q s7) X.xe s6 := fun {σ6 H6 Q} S6 hq => gone_ok (S6.unsuite ok) hN hi hln hq
          cases f with
          | next =>
            obtain ⟨σ6, H6, S6, q6⟩ := hsp
            exact end_ S6 fun s7 J7 => ⟨_, _, J7, q6⟩
          | brk =>
            obtain ⟨σ6, H6, S6, q6⟩ := hsp
            exact end_ S6 fun s7 J7 => ⟨_, _, J7, q6⟩
          | cont =>
            obtain ⟨σ6, H6, S6, q6⟩ := hsp
            exact end_ S6 fun s7 J7 => ⟨_, _, J7, q6⟩
          | ret u =>
            obtain ⟨v6, σ6, H6, S6, r6, q6⟩ := hsp
            exact end_ S6 fun s7 J7 => ⟨_, _, _, J7, r6, q6⟩
        | false =>
          show wpAny _ X.A (handleBy (.ref a) X.env hds2) _ _ _
          exact ih (hno rfl)
      | @cons0 x c ts b₀ suite np pos' hds2 l2 hc hsu r ih =>
        intro w
        obtain ⟨b, hb1, hyes, hno⟩ := w
        refine wpAny_handleBy_cons (codeAny_handlers_test ?_) (by intro q; cases q)
        have LT : PySem.W.Looks (model X.prog X.w) h3 (typeOf (.ref a)) cls := fun A Q E s k q => wpAny_typeOf_ref (k _ _ he3) (by rw [hz3.1]; exact q)
        have LM := PySem.W.exm_one (M := model X.prog X.w) (J3.kIn) LT hb1
        have test : ∀ {Q : Value → Shared → Prop} {E : Value → Shared → Prop}, Q c { s' with heap := h3 } → wpAny (model X.prog X.w) (X.A.mark (some (.ref a))) (eval (.Name x np) X.env) Q E { s' with heap := h3 } := fun {Q E} q => by
          obtain ⟨hg, hdbg, hm | ⟨hm, hv, hnn⟩⟩ := hc
          · exact ld_glob (X := X.suite a ((a, oe3) :: (X.pn ++ pins))) S3 hg hm q hdbg
          · exact ld_blt (X := X.suite a ((a, oe3) :: (X.pn ++ pins))) S3 hg hm hv q hnn hdbg
        refine test (LM.here ?_)
        cases b with
        | true =>
          refine codeAny_handlers_suite ?_
          refine HandSPX.lands_againZ fl3 fun h4 fl4 up4 => ?_
          have J4 : Inv X pins σ' H' { s' with heap := h4 } := J.landed nb fl4.1 ((up.trans up3).trans up4) os ag
          obtain ⟨oe4, vs4, he4, hz4, hd4⟩ := fl4.there
          have S4 := J4.suite he4 hd4 na nL nF
          refine wpAny_mono ((hsu a oe4 cls d (X.pn ++ pins) hz4 ⟨_, hd4⟩).run [] _ _ H' _ S4 (hyes rfl a na)) (fun f s6 hsp => ?_) (fun _ _ z => False.elim z)
          cases f with
          | next => let ⟨σ6, H6, S6, q6⟩ := hsp; exact ⟨_, _, S6.unsuite ok, q6⟩
          | brk => let ⟨σ6, H6, S6, q6⟩ := hsp; exact ⟨_, _, S6.unsuite ok, q6⟩
          | cont => let ⟨σ6, H6, S6, q6⟩ := hsp; exact ⟨_, _, S6.unsuite ok, q6⟩
          | ret u => let ⟨v6, σ6, H6, S6, r6, q6⟩ := hsp; exact ⟨_, _, _, S6.unsuite ok, r6, q6⟩
        | false =>
          show wpAny _ X.A (handleBy (.ref a) X.env hds2) _ _ _
          exact ih (hno rfl)
    exact go hh w
  · cases f with
    | next =>
      obtain ⟨σ', H', J', q⟩ := hsp
      exact wpAny_execs_nil ⟨σ', H', J'.ofTry ok, q⟩
    | brk =>
      obtain ⟨σ', H', J', q⟩ := hsp
      exact ⟨σ', H', J'.ofTry ok, q⟩
    | cont =>
      obtain ⟨σ', H', J', q⟩ := hsp
      exact ⟨σ', H', J'.ofTry ok, q⟩
    | ret u =>
      obtain ⟨v, σ', H', J', r, q⟩ := hsp
      exact ⟨v, σ', H', J'.ofTry ok, r, q⟩
end
end FF
/-! Fivefault, part 25: walks over what is a list or a tuple; over the signs of a text. -/
namespace FF
open PySem PySem.Spec PyProof.Rows L2
section
variable {K : PySem.W.Frag} {a : Addr} {xs : List V} {H : Hp}
theorem walkL_same (h : SqL K H a xs) : Walk (Itl K a) xs.length (Same H) (YAt xs) :=
  ⟨fun i H' hi e => ⟨xs, xs[i], up_l e h, by simp [hi]⟩, fun H' e => ⟨xs, up_l e h, Nat.le_refl _⟩, fun i H' x H2 _ e y => ⟨y.1, y.2 xs (up_l e h)⟩⟩
theorem walkT_same (h : SqT K H a xs) : Walk (Itt K a) xs.length (Same H) (YAt xs) :=
  ⟨fun i H' hi e => ⟨xs, xs[i], up_t e h, by simp [hi]⟩, fun H' e => ⟨xs, up_t e h, Nat.le_refl _⟩, fun i H' x H2 _ e y => ⟨y.1, y.2 xs (up_t e h)⟩⟩
abbrev YEn (xs : List V) : Nat → Hp → V → Hp → Prop := YPair (fun i => some (.int (i : Nat))) fun i => xs[i]?
theorem walkE_same (h : SqL K H a xs) : Walk (Ite K a) xs.length (Same H) (YEn xs) :=
  ⟨fun i H' hi e => ⟨xs, xs[i], up_l e h, by simp [hi]⟩, fun H' e => ⟨xs, up_l e h, Nat.le_refl _⟩, fun i H' v H2 _ e ⟨t, x, e1, n, e2, y⟩ => ⟨t, _, x, e1, n, e2, rfl, y xs (up_l e h)⟩⟩
theorem walkET_same (h : SqT K H a xs) : Walk (Itet K a) xs.length (Same H) (YEn xs) :=
  ⟨fun i H' hi e => ⟨xs, xs[i], up_t e h, by simp [hi]⟩, fun H' e => ⟨xs, up_t e h, Nat.le_refl _⟩, fun i H' v H2 _ e ⟨t, x, e1, n, e2, y⟩ => ⟨t, _, x, e1, n, e2, rfl, y xs (up_t e h)⟩⟩
theorem up_s {H' : Hp} (e : Same H H') (h : SqL K H a xs ∨ SqT K H a xs) : SqL K H' a xs ∨ SqT K H' a xs := h.imp (up_l e) (up_t e)
theorem len_s {n : Nat} (h : SqL K H a xs ∨ SqT K H a xs) (e : n = xs.length) : LenV K (.ref a) H n := h.imp (fun h => ⟨xs, h, e⟩) fun h => ⟨xs, h, e⟩
end
/-- [e for x in z]: the i-th item told by the i-th sign -/
theorem lc_strI {te : TE} {vs : List Nat} {j D : Nat} {σ : L2.St} {H1 : Hp} {Qd : Hp → Prop} {z : Str} (f : Nat → V) (hD : H1 D = none) (hz : z.length ≤ sizeLine) (hw : ∀ v, wipe ((wipe σ vs).set j (some v)) vs = wipe σ vs)
    (step : ∀ c H2, c ∈ z.cps.toList → ∀ Q' : VK, (∀ H3, Same H2 H3 → Q' (f c) H3) → te ((wipe σ vs).set j (some (.str ⟨#[c]⟩))) H2 Q')
    (done : ∀ H2, Same H1 H2 → H2 D = some (.lst (z.cps.toList.map f)) → Qd H2) :
    ∃ W : Nat → Nat → Hp → Prop, (∃ m, W 0 m (upd H1 D (.lst []))) ∧ ∀ i m H, W i m H →
      ((Its z).stop i H ∧ Qd H) ∨ ((Its z).go i H ∧ ∃ Nx : Hp → Prop, (∀ H', Nx H' → ∃ m', m' < m ∧ W (i + 1) m' H') ∧ ∀ v H', (Its z).yld i H v H' → gName j v (wipe σ vs) H' fun σ2 H2 => wipe σ2 vs = wipe σ vs ∧ tYes σ2 H2 fun b H3 =>
        if b = true then te σ2 H3 fun y H4 => ∃ acc, H4 D = some (.lst acc) ∧ acc.length < sizeLine ∧ Nx (upd H4 D (.lst (acc ++ [y]))) else Nx H3) := by
  refine ⟨fun i m H => m = z.cps.size - i ∧ i ≤ z.cps.size ∧ Same H1 H ∧ H D = some (.lst ((z.cps.toList.take i).map f)), ⟨_, rfl, Nat.zero_le _, same_new hD _, upd_same⟩, ?_⟩
  rintro i m H ⟨rfl, hi, e, h1⟩
  by_cases hlt : i < z.cps.size
  · refine .inr ⟨hlt, fun H' => i + 1 ≤ z.cps.size ∧ Same H1 H' ∧ H' D = some (.lst ((z.cps.toList.take (i + 1)).map f)), fun H' p' => ⟨z.cps.size - (i + 1), by omega, rfl, p'⟩, fun v H' y => ?_⟩
    obtain ⟨rfl, c, hc, rfl⟩ := y
    refine ⟨hw _, ?_⟩
    show te _ _ _
    have hc2 : z.cps.toList[i]? = some c := by rw [Array.getElem?_toList]; exact hc
    refine step c _ (List.mem_of_getElem? hc2) _ fun H3 e3 => ⟨_, e3 _ _ h1, ?_, hlt, same_at hD (e.trans e3), ?_⟩
    · rw [List.length_map, List.length_take, Array.length_toList]
      exact Nat.lt_of_lt_of_le (by omega) (show z.cps.size ≤ sizeLine from hz)
    · have : z.cps.toList.take (i + 1) = z.cps.toList.take i ++ [c] := by
        rw [List.take_add_one, hc2] <;> rfl
      rw [this, List.map_append, upd_same] <;> rfl
  · have : i = z.cps.size := by omega
    subst this
    rw [show z.cps.size = z.cps.toList.length from rfl, List.take_length] at h1
    exact .inl ⟨Nat.le_refl _, done H e h1⟩
/-- an if by what its test is -/
theorem if_bb {p b : Bool} {A B : Prop} (e : p = b) (h1 : b = true → A) (h2 : b = false → B) : if p = true then A else B := by
  subst e
  exact if_b h1 h2
theorem if_t {A B : Prop} (h : A) : if true = true then A else B := h
end FF
/-! Fivefault, part 26: fors and comprehensions over what is a list or a tuple. -/
namespace FF
open PySem PySem.Spec PyProof.Rows L2
section
variable {K : PySem.W.Frag} {a : Addr} {xs : List V} {g : TG} {tb : TS} {D : Ends} {σ : L2.St} {H : Hp}
abbrev ForR (J : It) (g : TG) (tb : TS) (D : Ends) (σ : L2.St) (H : Hp) : Prop := ∃ W : Nat → Nat → L2.St → Hp → Prop, (∃ m, W 0 m σ H) ∧ ∀ i m σ H, W i m σ H →
      (J.stop i H ∧ D.nx σ H) ∨ (J.go i H ∧ ∃ N : L2.St → Hp → Prop, (∀ σ' H', N σ' H' → ∃ m', m' < m ∧ W (i + 1) m' σ' H') ∧ ∀ x H', J.yld i H x H' → g x σ H' fun σ2 H2 => tb { D with nx := N, ct := N, bk := D.nx } σ2 H2)
theorem for_enumS {H0 : Hp} (h : SqL K H0 a xs ∨ SqT K H0 a xs) (e0 : Same H0 H) (Pv : Nat → L2.St → Hp → Prop) (h0 : Pv 0 σ H) (hG : ∀ i σ H', i ≤ xs.length → Pv i σ H' → Same H0 H')
    (hs : ∀ i x σ H1 t, xs[i]? = some x → Pv i σ H1 → H1 t = none → g (.ref t) σ (upd H1 t (.tup [.int (i : Nat), x])) fun σ2 H2 => tb { D with nx := Pv (i + 1), ct := Pv (i + 1), bk := D.nx } σ2 H2) (hd : ∀ σ H, Pv xs.length σ H → D.nx σ H) :
    ∃ a' xs', [V.ref a] = [.ref a'] ∧ ((SqL K H a' xs' ∧ ForR (Ite K a') g tb D σ H) ∨ (SqT K H a' xs' ∧ ForR (Itet K a') g tb D σ H)) := by
  have key : ∀ J, Walk J xs.length (Same H0) (YEn xs) → ForR J g tb D σ H := fun J wk => for_it wk Pv h0 hG (fun i x σ H1 H2 hi hp ⟨t, x1, y1, e1, n, e2, e3, e4⟩ => by
    cases e3
    subst e1 e2
    exact hs i y1 σ H1 t e4 hp n) hd
  exact ⟨a, xs, rfl, h.imp (fun h => ⟨up_l e0 h, key _ (walkE_same h)⟩) fun h => ⟨up_t e0 h, key _ (walkET_same h)⟩⟩
end
section
variable {K : PySem.W.Frag} {a : Addr} {xs : List V} {g : TG} {te : TE} {vs : List Nat} {σ : L2.St} {H1 : Hp} {Q : Addr → Hp → Prop}
abbrev LcR (J : It) (g : TG) (tt : TT) (te : TE) (vs : List Nat) (σ : L2.St) (H1 : Hp) (D : Addr) (Qd : Hp → Prop) : Prop := ∃ W : Nat → Nat → Hp → Prop, (∃ m, W 0 m (upd H1 D (.lst []))) ∧ ∀ i m H, W i m H →
      (J.stop i H ∧ Qd H) ∨ (J.go i H ∧ ∃ Nx : Hp → Prop, (∀ H', Nx H' → ∃ m', m' < m ∧ W (i + 1) m' H') ∧ ∀ x H', J.yld i H x H' → g x (wipe σ vs) H' fun σ2 H2 => wipe σ2 vs = wipe σ vs ∧ tt σ2 H2 fun b H3 =>
        if b = true then te σ2 H3 fun y H4 => ∃ acc, H4 D = some (.lst acc) ∧ acc.length < sizeLine ∧ Nx (upd H4 D (.lst (acc ++ [y]))) else Nx H3)
/-- [e for target in xs], any target, xs a list or a tuple -/
theorem lc_mapS (R : Nat → V → Hp → Prop) (mono : ∀ i y H H', SameT H H' → R i y H → R i y H') (h : SqL K H1 a xs ∨ SqT K H1 a xs) (hz : xs.length ≤ sizeLine)
    (step : ∀ i x H2, xs[i]? = some x → Same H1 H2 → ∀ Q' : VK, (∀ y H3, Same H2 H3 → R i y H3 → Q' y H3) → g x (wipe σ vs) H2 fun σ2 H3 => wipe σ2 vs = wipe σ vs ∧ te σ2 H3 Q')
    (gm : ∀ x H2 (A B : L2.St → Hp → Prop), (∀ σ H, A σ H → B σ H) → g x (wipe σ vs) H2 A → g x (wipe σ vs) H2 B)
    (done : ∀ H2 D ys, Same H1 H2 → H1 D = none → H2 D = some (.lst ys) → ys.length = xs.length → (∀ (i : Nat) (y : V), ys[i]? = some y → R i y H2) → Q D H2) :
    ∃ a' xs', V.ref a = .ref a' ∧ ((SqL K H1 a' xs' ∧ ∀ D, H1 D = none → LcR (Itl K a') g tYes te vs σ H1 D (Q D)) ∨ (SqT K H1 a' xs' ∧ ∀ D, H1 D = none → LcR (Itt K a') g tYes te vs σ H1 D (Q D))) := by
  have key : ∀ J, Walk J xs.length (Same H1) (YAt xs) → ∀ D, H1 D = none → LcR J g tYes te vs σ H1 D (Q D) := fun J wk D hD =>
    lc_it wk (fun i H => Same H1 H ∧ ∃ ys, H D = some (.lst ys) ∧ ys.length = i ∧ ∀ m y, ys[m]? = some y → R m y H) ⟨same_new hD _, [], upd_same, rfl, fun m y q => by simp at q⟩ (fun i H _ p => p.1)
      (fun i x H H' hi ⟨e, ys, h2, h3, h4⟩ ⟨e1, e2⟩ => by
        subst e1
        refine gm _ _ _ _ (fun σ2 H3 q => ⟨q.1, by unfold tYes; dsimp only; rw [if_pos rfl]; exact q.2⟩) (step i x _ e2 e _ fun y H3 e3 r => ?_)
        have hd := e3 _ _ h2
        have eT : SameT H3 (upd H3 D (.lst (ys ++ [y]))) := (SameT.refl H3).updL hd
        refine ⟨ys, hd, by omega, fun b o q => ?_, ys ++ [y], upd_same, by simp [h3], fun m y' q => ?_⟩
        · rw [upd_ne (ne_of_none q hD)]
          exact e3 _ _ (e _ _ q)
        · by_cases hm : m < ys.length
          · rw [List.getElem?_append_left hm] at q
            exact mono _ _ _ _ ((Same.T e3).trans eT) (h4 m y' q)
          · have : m = ys.length := by
              have := (List.getElem?_eq_some_iff.mp q).1
              simp at this
              omega
            subst this
            rw [List.getElem?_append_right (Nat.le_refl _), Nat.sub_self] at q
            cases q
            rw [h3]
            exact mono _ _ _ _ eT r)
      fun H ⟨e, ys, h1, h2, h3⟩ => done H D ys e hD h1 h2 h3
  exact ⟨a, xs, rfl, h.imp (fun h => ⟨h, key _ (walkL_same h)⟩) fun h => ⟨h, key _ (walkT_same h)⟩⟩
end
end FF
/-! Fivefault, part 27: [x for x in xs if test], the test told by x. -/
namespace FF
open PySem PySem.Spec PyProof.Rows L2
end FF
/-! Fivefault, part 28: [x for l in ls for x in l] over a tuple of lists or tuples; defs with *v called where no exception comes. -/
namespace FF
open PySem PySem.Spec PyProof.Rows L2 StX
section
variable {X : Cx} {x : Str} {k j : Nat} {sp : Sp} {e : Expr} {es : List Expr} {p pos : Pos} {t : TA}
end
section
variable {K : PySem.W.Frag} {a : Addr} {xs : List V} {uss : List (List V)} {vs vs1 : List Nat} {jo ji : Nat} {σ : L2.St} {H1 : Hp} {Q : Addr → Hp → Prop}
end
end FF
/-! Fivefault, part 29: is, where the left side is None or a bool. -/
namespace FF
open PySem PySem.Spec PyProof.Rows L2
end FF
/-! Fivefault, part 30: a, *b = xs (a list at the right); {**d, k: v}. -/
namespace FF
open PySem PySem.Spec PyProof.Rows L2
section
variable {prog : Program} {w : World} {K : Type} [DecidableEq K] {knd : KeyKind prog w K} {A : Around} {E : Value → Shared → Prop} {s : Shared}
theorem dictPut_pairs {d : Addr} {kvs : List (K × Value)} {k : K} {key v : Value} {Q : Unit → Shared → Prop} (hkey : knd.is k key = true) (hm : s.heap.DictOf knd d kvs)
    (hQ : ∀ h', h'.DictOf knd d (stored kvs k v) → Heap.SameBut d s.heap h' → Q () { s with heap := h' })
    (hsz : kvs.length ≤ sizeLine := by size_fits) :
    wpAny (model prog w) A (dictPut d (knd.hash k) key v) Q E s := by
  obtain ⟨o, es, ep, ho, hc, hd, hk, hp, hn⟩ := hm
  have hes : es.size ≤ sizeLine := by have e1 := hp.length; have e2 : es.toList.length = es.size := by simp
                                      omega
  unfold dictPut
  refine wpAny_bind (wpAny_dictFind_of hkey ho hd hk ?_)
  have hidx : (es.findIdx? fun e => knd.is k e.key) = kvs.findIdx? fun kv => decide (kv.1 = k) := by
    rw [← hp.findIdx k]; obtain ⟨l⟩ := es; simp
  cases hi : es.findIdx? fun e => knd.is k e.key with
  | some i =>
    refine wpAny_updateDict ho hd (hQ _ ⟨_, _, ep, Heap.get?_update_self _ ho (Obj.isFreed_of_dict (Obj.data_mapDict hd _)),
      hc.mapDict _, Obj.data_mapDict hd _, hk.modify _ _, ?_, ?_⟩ (Heap.SameBut.update ..))
    · rw [stored, if_pos (any_of_findIdx_some (hidx ▸ hi))]
      have hl : (es.toList.findIdx? fun e => knd.is k e.key) = some i := by rw [← hi]; obtain ⟨l⟩ := es; simp
      have := hp.modify hn hl v
      obtain ⟨l⟩ := es
      simpa using this
    · rw [stored, if_pos (any_of_findIdx_some (hidx ▸ hi)), keys_map_store]; exact hn
  | none =>
    have hnot : k ∉ kvs.map (·.1) := not_mem_of_findIdx_none (hidx ▸ hi)
    have hany : ¬ (kvs.any fun kv => decide (kv.1 = k)) = true := by
      rw [List.any_eq_true]; rintro ⟨kv, hkv, he⟩
      exact hnot (List.mem_map.mpr ⟨kv, hkv, of_decide_eq_true he⟩)
    refine wpAny_updateDictKeys (hz := hes) ho hd (hQ _ ⟨_, _, ep + 1, Heap.get?_update_self _ ho (Obj.isFreed_of_dict (Obj.data_mapDictKeys hd _)),
      hc.mapDictKeys _, Obj.data_mapDictKeys hd _, hk.push hkey _, ?_, ?_⟩ (Heap.SameBut.update ..))
    · rw [stored, if_neg hany]
      have := hp.append hkey (knd.hash k) v
      obtain ⟨l⟩ := es
      simpa using this
    · rw [stored, if_neg hany, List.map_append, List.nodup_append]
      refine ⟨hn, by simp, ?_⟩
      intro a ha b hb
      simp only [List.map_cons, List.map_nil, List.mem_singleton] at hb
      subst hb
      exact fun e => hnot (e ▸ ha)
theorem mergeMapping_pairs {d o : Addr} {kvs more : List (K × Value)} {Q : Unit → Shared → Prop} (hnr : ∀ k a, knd.is k (.ref a) = false) (hdo : d ≠ o) (hoS : (o == sysModules) = false)
    (hd : s.heap.DictOf knd d kvs) (ho : s.heap.DictOf knd o more)
    (hQ : ∀ h', h'.DictOf knd d (merged kvs more) → h'.DictOf knd o more → Heap.SameBut d s.heap h' → Q () { s with heap := h' })
    (hsz : kvs.length + more.length ≤ sizeLine := by size_fits) :
    wpAny (model prog w) A (mergeMapping d (.ref o) false) Q E s := by
  obtain ⟨od, esd, epd, hod, hcd, hdd, hkd, hpd, hnd⟩ := id hd
  obtain ⟨oo, eso, epo, hoo, hco, hdo', hko, hpo, hno⟩ := id ho
  have hlen : more.length = eso.size := by rw [← hpo.length]; simp
  unfold mergeMapping
  refine wpAny_bind (wpAny_isInstance ho.typeIs isSubtype_dict_dict ?_)
  rw [if_pos rfl]
  refine wpAny_bind (wpAny_specialOf ho.typeIs F.slot_dict_iter.lookup (wpAny_bind (wpAny_pure ?_)))
  rw [beq_self_eq_true]
  dsimp only
  rw [if_neg (by rw [hoS]; exact Bool.false_ne_true)]
  refine wpAny_bind (wpAny_dictEntries hod hdd ?_)
  have loop : wpAny (model prog w) A (do
      let l ← dictEntries o
      let epoch ← dictEpoch o
      forIn (List.range l.size) PUnit.unit fun i (_ : PUnit) => (do
          let l' ← dictEntries o
          match l'[i]? with
            | some e => do
              holding [e.key, e.val] (dictPut d e.hash e.key e.val)
              let ep' ← dictEpoch o
              if (ep' != epoch) = true then do
                  (unsupported "dict.changed-during-merge" : Sem PUnit)
                  pure (ForInStep.yield PUnit.unit)
                else pure (ForInStep.yield PUnit.unit)
            | _ => do
              (unsupported "dict.changed-during-merge" : Sem PUnit)
              pure (ForInStep.yield PUnit.unit) : Sem (ForInStep PUnit))
      pure ()) Q E s := by
    refine wpAny_bind (wpAny_dictEntries hoo hdo' ?_)
    refine wpAny_bind (wpAny_dictEpoch hoo hdo' ?_)
    refine wpAny_bind ?_
    refine wpAny_forIn_list _
      (fun rest _ s' => ∃ h' i, s' = { s with heap := h' } ∧ rest = List.range' i (eso.size - i) ∧ i ≤ eso.size ∧ h'.DictOf knd d (merged kvs (more.take i)) ∧ h'.get? o = some oo ∧ Heap.SameBut d s.heap h')
      _ ?_ ?_ _ _ ⟨s.heap, 0, rfl, by simp [List.range_eq_range'], Nat.zero_le _, by simpa [merged] using hd, hoo, Heap.SameBut.refl _ _⟩
    · rintro x rest b s' ⟨h', i, rfl, hr, hi, hd', hoo', hs'⟩
      have hlt : i < eso.size := by
        rcases Nat.lt_or_ge i eso.size with h | h
        · exact h
        · rw [Nat.sub_eq_zero_of_le h] at hr; simp at hr
      obtain ⟨rfl, hrest⟩ : x = i ∧ rest = List.range' (i + 1) (eso.size - (i + 1)) := by
        have e : eso.size - i = (eso.size - (i + 1)) + 1 := by omega
        rw [e, List.range'_succ] at hr
        injection hr with h1 h2
        exact ⟨h1, h2⟩
      refine wpAny_bind (wpAny_dictEntries hoo' hdo' ?_)
      rw [Array.getElem?_eq_getElem hlt]
      obtain ⟨kv, hkv⟩ : ∃ kv, more[x]? = some kv := ⟨more[x]'(by rw [hlen]; exact hlt), List.getElem?_eq_getElem _⟩
      obtain ⟨k, v⟩ := kv
      obtain ⟨hkey, hval⟩ := hpo.get? (e := eso[x]) (by simp [hlt]) hkv
      obtain ⟨k', hkey', hhash⟩ := hko eso[x] (Array.getElem_mem hlt)
      obtain rfl : k' = k := knd.inj _ _ _ hkey' hkey
      show wpAny _ _ (holding [eso[x].key, eso[x].val] (dictPut d eso[x].hash eso[x].key eso[x].val) >>= _) _ _ _
      rw [hhash, hval]
      have hmx : (merged kvs (more.take x)).length ≤ sizeLine := by
        have e1 := merged_length_le kvs (more.take x)
        have e2 : (more.take x).length ≤ more.length := by rw [List.length_take]; omega
        omega
      refine wpAny_bind (wpAny_holding (dictPut_pairs (hsz := hmx) hkey hd' fun h'' hd'' hs'' => ?_))
      have hoo'' : h''.get? o = some oo := (hs''.2 o (Ne.symm hdo)).trans hoo'
      refine wpAny_bind (wpAny_dictEpoch hoo'' hdo' ?_)
      rw [if_neg (by simp)]
      exact wpAny_pure ⟨h'', x + 1, rfl, hrest, hlt, by rw [merged_take_succ kvs more x (k', v) hkv]; exact hd'', hoo'', hs'.trans hs''⟩
    · rintro b s' ⟨h', i, rfl, hr, hi, hd', hoo', hs'⟩
      have hin : i = eso.size := by
        rcases Nat.lt_or_ge i eso.size with h | h
        · have e : eso.size - i = (eso.size - (i + 1)) + 1 := by omega
          rw [e, List.range'_succ] at hr; exact nomatch hr
        · exact Nat.le_antisymm hi h
      refine wpAny_pure (hQ h' ?_ ⟨oo, eso, epo, hoo', hco, hdo', hko, hpo, hno⟩ hs')
      rw [hin, ← hlen, List.take_length] at hd'; exact hd'
  split
  · refine wpAny_bind (wpAny_dictEntries hoo hdo' ?_)
    refine wpAny_bind (PySem.MeetsSeq2.wpAny_forIn_array _ (fun rest _ s' => s' = s ∧ ∀ e ∈ rest, e ∈ eso) _ ?_ ?_ _ _ ⟨rfl, fun e he => Array.mem_toList_iff.mp he⟩)
    · rintro x rest b s' ⟨rfl, hm⟩
      obtain ⟨k, hk, _⟩ := hko x (hm x List.mem_cons_self)
      have nr : ∀ a, x.key ≠ .ref a := fun a e => by
        rw [e, hnr] at hk
        cases hk
      split
      · rename_i a e
        exact absurd e (nr a)
      · exact wpAny_pure ⟨rfl, fun e he => hm e (List.mem_cons_of_mem _ he)⟩
    · rintro b s' ⟨rfl, _⟩
      exact loop
  · exact loop
end
/-- {**d, k: v} -/
def tDStar (td tk tv : TE) : TE := fun σ H Q => ∀ p, H p = none → td σ (upd H p (.dK [])) fun x H1 => ∃ a kvs, x = .ref a ∧ a ≠ p ∧ H1 p = some (.dK []) ∧ H1 a = some (.dK kvs) ∧ kvs.length < sizeLine ∧
  ∀ q, upd H1 p (.dK kvs) q = none → tk σ (upd (upd H1 p (.dK kvs)) q (.dK [])) fun y H2 => tv σ H2 fun z H3 => ∃ k : Key, y = kV k ∧ H3 p = some (.dK kvs) ∧ H3 q = some (.dK []) ∧ Q (.ref p) (upd (upd H3 q (.dK [(k, z)])) p (.dK (putK kvs k z)))
theorem mix_ref {P : Program} {w : World} (k : Key) (a : Addr) : (mixKind P w).is k (.ref a) = false := by
  cases k <;> rfl
theorem pe_dstar {X : Cx} {pos : Pos} {de ke ve : Expr} {td tk tv : TE} (hd : PE X de td) (hk : PE X ke tk) (hv : PE X ve tv) : PE X (.Dict [none, some ke] [de, ve] pos) (tDStar td tk tv) := by
  refine ⟨fun pins s σ H Q I h => ?_⟩
  have hn := I.hok.fresh (Nat.le_refl s.heap.objs.size)
  have I1 := I.laid (a := s.heap.objs.size) (o := .dK []) (h' := s.heap.push { cls := .type "dict", data := .dict #[] }) (t' := s.toks) (fun _ _ q => Heap.get?_push_of_some _ q) (Nat.le_refl _) (dk_empty s.heap I.big)
  rw [arm_eval_Dict]
  refine wpAny_bind (wpAny_standAt ?_)
  show wpAny _ _ (dictDisplay [(none, do let x ← eval de X.env; standAt pos; pure x), (some (eval ke X.env), do let x ← eval ve X.env; standAt pos; pure x)]) _ _ _
  unfold dictDisplay
  dsimp only
  rw [List.forIn_cons]
  dsimp only
  refine wpAny_bind (wpAny_bind (wpAny_bind ?_))
  rw [List.isEmpty_nil, if_pos rfl]
  refine wpAny_pure ?_
  dsimp only
  refine wpAny_bind (wpAny_alloc ?_)
  refine wpAny_bind (wpAny_holding (wpAny_bind (thn (hd.run pins _ σ _ _ I1 (h _ hn)) fun u s1 ⟨x, H1, I2, rx, a, kvs, ex, ap, hp, ha, hl, q1⟩ => wpAny_bind (wpAny_standAt (wpAny_pure ?_)))))
  subst ex
  obtain rfl : u = Value.ref a := rx
  obtain ⟨z0, hd0, vs0, r0, dd0⟩ := dk_of I2.hok hp
  cases r0
  obtain ⟨z1, hd1, vs1, r1, dd1⟩ := dk_of I2.hok ha
  have n1 : (vs1.map (·.1)).Nodup := by
    obtain ⟨_, _, _, _, _, _, _, _, hnd⟩ := dd1
    exact hnd
  have l1 : kvs.length = vs1.length := r1.length
  refine wpAny_bind (wpAny_onRaise (wpAny_tryCatch (wpAny_onRaise (wpAny_holding (mergeMapping_pairs (knd := mixKind X.prog X.w) mix_ref (Ne.symm ap) hd1 dd0 dd1 (fun h' d1 d2 sb => ?_) (by rw [List.length_nil]; omega))))))
  rw [merged_nil_of_nodup vs1 n1] at d1
  have he1 : ∃ q, h'.get? s.heap.objs.size = some q := let ⟨q, _, _, hq, _⟩ := d1; ⟨q, hq⟩
  have I3 : Inv X pins σ (upd H1 s.heap.objs.size (.dK kvs)) { s1 with heap := h' } := d_write (t' := s1.toks) I2 (by rw [hp]; exact True.intro) sb he1 (dk_new z1 hd0 r1 d1)
  refine wpAny_pure (wpAny_pure ?_)
  dsimp only
  rw [if_neg (by simp)]
  have hq0 := I3.hok.fresh (Nat.le_refl h'.objs.size)
  have I4 := I3.laid (a := h'.objs.size) (o := .dK []) (h' := h'.push { cls := .type "dict", data := .dict #[] }) (t' := s1.toks) (fun _ _ q => Heap.get?_push_of_some _ q) (Nat.le_refl _) (dk_empty h' I3.big)
  have hPP : PPs X pos [some ke] [ve] [(tk, tv)] := pps_cons hk hv pps_nil
  let Qp : List (V × V) → Hp → Prop := fun ps H3 => match ps with
    | [(y, z)] => ∃ k : Key, y = kV k ∧ H3 s.heap.objs.size = some (.dK kvs) ∧ H3 h'.objs.size = some (.dK []) ∧ Q (.ref s.heap.objs.size) (upd (upd H3 h'.objs.size (.dK [(k, z)])) s.heap.objs.size (.dK (putK kvs k z)))
    | _ => False
  have hT : tPairs [(tk, tv)] σ (upd (upd H1 s.heap.objs.size (.dK kvs)) h'.objs.size (.dK [])) Qp := q1 _ hq0
  have hpq : h'.objs.size ≠ s.heap.objs.size := fun e => by
    rw [e, upd_same] at hq0
    cases hq0
  refine wpAny_bind (wpAny_bind (wpAny_holding (wpAny_subDict (knd := mixKind X.prog X.w) (by simp) (thn (hPP.run pins _ σ _ Qp I4 hT) fun ws s2 ⟨ps, H2, I5, rel, hps⟩ => ?_))))
  obtain ⟨y, z, rfl, k, rfl, hp2, hq2, q2⟩ : ∃ y z, ps = [(y, z)] ∧ ∃ k : Key, y = kV k ∧ H2 s.heap.objs.size = some (.dK kvs) ∧ H2 h'.objs.size = some (.dK []) ∧ Q (.ref s.heap.objs.size) (upd (upd H2 h'.objs.size (.dK [(k, z)])) s.heap.objs.size (.dK (putK kvs k z))) := by
    match ps, hps with
    | [(y, z)], h => exact ⟨y, z, rfl, h⟩
  obtain ⟨rs, c, rk⟩ := carries_of (P := X.prog) (w := X.w) (kvs := [(k, z)]) rel
  obtain ⟨z2, hd2, vs2, r2, dd2⟩ := dk_of I5.hok hq2
  cases r2
  refine ⟨rs, c, dd2, fun h2 dq sq => ?_⟩
  have rl : rs.length = 1 := rk.length.symm
  have heq : ∃ o, h2.get? h'.objs.size = some o := let ⟨o, _, _, ho, _⟩ := dq; ⟨o, ho⟩
  have I6 : Inv X pins σ (upd H2 h'.objs.size (.dK [(k, z)])) { s2 with heap := h2, toks := s2.toks + ws.length } :=
    d_write (t' := s2.toks + ws.length) I5 (by rw [hq2]; exact True.intro) sq heq (dk_new (by rw [sizeLine_eq]; simp) hd2 (rk.merge .nil) dq)
  have hp3 : (upd H2 h'.objs.size (.dK [(k, z)])) s.heap.objs.size = some (.dK kvs) := by rw [upd_ne (Ne.symm hpq)]; exact hp2
  have hq3 : (upd H2 h'.objs.size (.dK [(k, z)])) h'.objs.size = some (.dK [(k, z)]) := upd_same
  obtain ⟨z3, hd3, vs3, r3, dd3⟩ := dk_of I6.hok hp3
  obtain ⟨z4, hd4, vs4, r4, dd4⟩ := dk_of I6.hok hq3
  have l3 : kvs.length = vs3.length := r3.length
  have l4 : 1 = vs4.length := r4.length
  refine wpAny_bind (wpAny_onRaise (wpAny_holding (mergeMapping_pairs (knd := mixKind X.prog X.w) mix_ref (Ne.symm hpq) hd4 dd3 dd4 (fun h3 d3 d4 sb3 => ?_) (by omega))))
  have he3 : ∃ o, h3.get? s.heap.objs.size = some o := let ⟨o, _, _, ho, _⟩ := d3; ⟨o, ho⟩
  have hz : (putK kvs k z).length ≤ sizeLine := by
    have := length_putK kvs k z
    omega
  have I7 := d_write (t' := s2.toks + ws.length) (ob := .dK (putK kvs k z)) I6 (by rw [hp3]; exact True.intro) sb3 he3 (dk_new hz hd3 (r4.merge r3) d3)
  refine wpAny_pure (wpAny_pure ?_)
  exact ⟨.ref s.heap.objs.size, _, I7, rfl, q2⟩
end FF
/-! Fivefault, part 31: more comprehensions: a test told with the heap; a choice of any target; items that are new objects. -/
namespace FF
open PySem PySem.Spec PyProof.Rows L2
section
variable {K : PySem.W.Frag} {a : Addr} {xs : List V} {g : TG} {tt : TT} {te : TE} {vs : List Nat} {σ : L2.St} {H1 : Hp} {Q : Addr → Hp → Prop}
end
section
variable {K : PySem.W.Frag} {a : Addr} {xs : List V} {te : TE} {vs : List Nat} {σ : L2.St} {H1 : Hp} {D : Addr} {Qd : Hp → Prop} {j : Nat}
end
end FF
/-! Fivefault, part 32: x[i] of a text or a tuple; C() of an own class. -/
namespace FF
open PySem PySem.Spec PyProof.Rows L2
theorem pe_mkd0 {X : Cx} {C : Str} {k j : Nat} {ps : List Str} {sp : Sp} {p pos : Pos} (D : MakeD X.prog X.w X.K X.mg X.base C k ps sp) (hr : Room j X.A) (hkj : k + 1 ≤ j)
    (hg : Gl X C := by rfl) (hdb : (C == ("__debug__" : Str)) = false := by decide) :
    PE X (.Call (.Name C p) [] [] pos) (tMake (He.ga X.K C) sp [] E0 tNil) := by
  obtain ⟨fd, F, hb⟩ := D.ex
  exact pe_make0 D.mkr F (hr.mono hkj) hg D.hm hb .nil pass0 hdb
end FF
/-! Fivefault, part 33: a text times an int. -/
namespace FF
open PySem PySem.Spec PyProof.Rows L2
end FF
/-! Fivefault, part 34: int(t, 2). -/
namespace FF
open PySem PySem.Spec PyProof.Rows L2
namespace Bn
open PySem.NumText PySem.Calls L2.Hx
end Bn
end FF
/-! Fivefault, part 35: t[::-1]. -/
namespace FF
open PySem PySem.Spec PyProof.Rows L2
theorem rev_range (n : Nat) : Builtin.Str.strSliceIndices none none (-1) n = (List.range n).reverse := by
  show sliceRange ((n : Int) - 1) (-1) (-1) = _
  unfold sliceRange
  have e : (if (-1 : Int) > 0 then (if (n : Int) - 1 < -1 then (-1 - ((n : Int) - 1) + (-1) - 1) / (-1) else 0) else (if (n : Int) - 1 > -1 then ((n : Int) - 1 - (-1) - (-1) - 1) / (-(-1)) else 0)) = (n : Int) := by
    rw [if_neg (by decide)]
    by_cases h : (n : Int) - 1 > -1
    · rw [if_pos h, show (-(-1) : Int) = 1 from rfl, Int.ediv_one]
      omega
    · rw [if_neg h]
      omega
  show (List.range (if (-1 : Int) > 0 then _ else _ : Int).toNat).map _ = _
  rw [e, Int.toNat_natCast]
  refine List.ext_getElem (by simp) fun i h1 h2 => ?_
  simp only [List.length_map, List.length_range] at h1
  rw [List.getElem_map, List.getElem_range, List.getElem_reverse, List.getElem_range, List.length_range]
  omega
end FF
/-! Fivefault, part 36: C(..) where __init__ may raise; {k: v for .. in enumerate(xs)}. -/
namespace FF
open PySem PySem.Spec PyProof.Rows L2
/-- C(..): the class C with an own __init__ that may raise -/
structure MakeX (P : Program) (w : World) (K : PySem.W.Frag) (mg : Str → Option Value) (base : Heap) (C : Str) (k : Nat) (ps : List Str) (sp : Sp) : Prop where
  ex : ∃ fd, FnOk P w K mg base (L2.CX P w) k (He.ma K (He.ga K C) "__init__") fd ps sp ∧ Binds K fd ps []
  mkr : Mk K (He.ga K C) (He.ma K (He.ga K C) "__init__")
  hm : mg C = some (.ref (He.ga K C))
section
variable {J : It} {n : Nat} {G : Hp → Prop} {Y : Nat → Hp → V → Hp → Prop}
end
end FF
/-! Fivefault, part 37: len(x), x of an own class with __len__. -/
namespace FF
open PySem PySem.Spec PyProof.Rows L2
theorem special_own {prog : Program} {w : World} {K : PySem.W.Frag} {A : Around} {E : Value → Shared → Prop} {s : Shared} {a C f : Addr} {ox : Obj} {od : Option Obj} {name : Str} {Q : Option Value → Shared → Prop} (X : K.In s.heap) (I : PySem.W.InstAt s.heap a ox C od) (hf : PySem.W.findIn K (.ref C) name = some (some (.ref f)))
    (hb : PySem.W.isFn K (.ref f) = true) (hc : wpAny (model prog w) A (call (.ref f) [.ref a]) (fun v s' => Q (some v) s') E s) : wpAny (model prog w) A (callSpecial? (.ref a) name []) Q E s := by
  unfold callSpecial? specialOf
  refine wpAny_bind (wpAny_bind (I.type.here ((PySem.W.looks_findIn X hf).here ?_)))
  refine wpAny_holding ?_
  refine wpAny_bind ((PySem.W.bind_fn X _ (beq_iff_eq.mp hb)).here ?_)
  exact wpAny_bind (wpAny_mono hc (fun v s' h => wpAny_pure h) fun _ _ z => z)
/-- len(x) by an own __len__ -/
def rLenO (C : Addr) (sp : Sp) (E : XK) : List V → Hp → VK → Prop := fun xs H Q => ∃ a dx fs, xs = [.ref a] ∧ H a = some (.ins C dx fs) ∧ sp [.ref a] H (fun v H' => ∃ k : Nat, v = .int k ∧ k < 1000000000 ∧ Q (.int k) H') E
theorem call_lenO {X : Cx} {CX : CXT} {n : Nat} {C f : Addr} {fd : FuncData} {ps : List Str} {sp : Sp} {E : XK} (me : Meth X.K C "__len__" f) (F : FnOk X.prog X.w X.K X.mg X.base CX n f fd ps sp) (hb : Binds X.K fd ps []) (hx : Passes CX X E) (hr : Room (n + 1) X.A) : CallR X (.builtin "len") (rLenO C sp E) := by
  intro pins s σ H xs us Q I rv h
  obtain ⟨a, dx, fs, rfl, ha, hsp⟩ := h
  obtain ⟨u, rfl, ru⟩ := rv.one
  cases ru
  have sb : Sub X n X.A.in1 := Sub.in1 (⟨hr, rfl⟩ : Sub X (n + 1) X.A)
  obtain ⟨mA, J, _⟩ := ins_get I.hok ha
  obtain ⟨od, J, _⟩ := J.look
  refine PySem.Calls.call_function_entry PySem.kind_len PySem.plain_len PySem.entry_len (PySem.args_len1 _) ?_
  unfold Builtin.«len»
  refine wpAny_bind (m := oneArg "len" _) (wpAny_pure ?_)
  refine wpAny_bind (m := callSpecial? (.ref a) (Str.ofString "__len__")) (special_own I.kIn J me.at_ me.fn ?_)
  have e0 : Env0 X.prog X.w X.K X.mg X.base X.A.in1 X.stack s H := by
    have e := I.env0
    exact ⟨by rw [sb.fr]; exact e.frames, e.mod, e.bs, e.bsz, e.funs, e.frf, e.hok, e.bare⟩
  have hl := F.len _ _ _ _ hsp
  have r2 : Vals [V.ref a] [Value.ref a] := .cons rfl .nil
  refine wpAny_call (codeAny_mono (F.run X.A.in1 X.stack s H ⟨[.ref a], []⟩ [.ref a] [.ref a] _ E sb.room e0 (by
    have := hb s [.ref a] I.kIn (by simpa using hl)
    simpa using this) r2 hsp) fun r s' hq => ?_)
  cases r with
  | error e => exact hx pins σ H s e s' I hq
  | ok fl =>
    cases fl with
    | ret u =>
      obtain ⟨v, H', I', rv', k, rfl, hk, q⟩ := I.after hq
      obtain ⟨t, rfl⟩ := rv'
      refine wpAny_bind (wpAny_holding (wpAny_pure ?_))
      refine wpAny_bind (wpAny_letGo ?_)
      show wpAny _ _ (if ((k : Nat) : Int) < 0 then _ else _) _ _ _
      rw [if_neg (by omega)]
      show wpAny _ _ (if ((k : Nat) : Int) ≥ 2 ^ 63 then _ else _) _ _ _
      rw [if_neg (by omega)]
      exact wpAny_bind (wpAny_mkInt (wpAny_pure ⟨_, rfl, .int k, H', I'.tok _, ⟨_, rfl⟩, q⟩))
    | next => exact False.elim hq
    | brk => exact False.elim hq
    | cont => exact False.elim hq
theorem call_lenD {X : Cx} {C : Str} {k j : Nat} {sp : Sp} (D : MethD X.prog X.w X.K X.mg X.base C "__len__" k ["self"] sp) (hr : Room j X.A) (hkj : k + 1 ≤ j) : CallR X (.builtin "len") (rLenO (He.ga X.K C) sp E0) := by
  obtain ⟨fd, F, hb⟩ := D.ex
  exact call_lenO D.me F hb pass0 (hr.mono hkj)
end FF
/-! Fivefault, part 38: a text times any int, told exactly. -/
namespace FF
open PySem PySem.Spec PyProof.Rows L2
end FF
/-! Fivefault, part 39: t.join(..) within a comprehension. -/
namespace FF
open PySem PySem.Spec PyProof.Rows L2
theorem pe_joinK {X : Cx} {o e : Expr} {to te : TE} {apos pos : Pos} (K : PySem.W.Frag) (ho : PE X o to) (he : PE X e te) (hs : starEach [e] X.env = [(false, eval e X.env)] := by rfl) (hbase : attributeBase o "join" X.env (eval o X.env) = eval o X.env := by rfl) (hline : (apos.endLine == pos.line) = true := by rfl) (hK : X.K = K := by rfl) :
    PE X (.Call (.Attribute o "join" apos) [e] [] pos) (tM1 (fun x xs H Q => ∃ a p, ∃ ys : List Str, x = .str a ∧ xs = [.ref p] ∧ (SqL K H p (ys.map V.str) ∨ SqT K H p (ys.map V.str)) ∧
      (ys.map (·.length)).sum + ys.length * a.length ≤ 16777216 ∧ Q (.str (Txt.join a ys)) H) to te) := by
  subst hK
  exact pe_join ho he hs hbase hline
end FF
/-! Fivefault, part 40: C(..) where __init__ may raise, within a lambda. -/
namespace FF
open PySem PySem.Spec PyProof.Rows L2
end FF
/-! Fivefault, part 41: methods of own classes with *v; methods that raise, within a lambda. -/
namespace FF
open PySem PySem.Spec PyProof.Rows L2 StX
/-- C.m(self, *v) -/
structure MethS (P : Program) (w : World) (K : PySem.W.Frag) (mg : Str → Option Value) (base : Heap) (C m : Str) (k : Nat) (sp : Sp) : Prop where
  ex : FnR P w K mg base (L2.CX P w) k (He.ma K (He.ga K C) m) sp
  cl : Cls K (He.ga K C)
  me : Meth K (He.ga K C) m (He.ma K (He.ga K C) m)
section
variable {X : Cx} {W : WX} {E : XK} {C m : Str} {k j : Nat} {ps : List Str} {sp : Sp} {o e : Expr} {es : List Expr} {apos pos : Pos} {to : TE} {t : TA} {pl : Sem Bool}
theorem pe_methxK (K : PySem.W.Frag) (D : MethX X.prog X.w X.K X.mg X.base C m k ps sp) (tk : Takes X W) (hW : ∀ cls d σ' H', E cls d H' → W cls d σ' H') (hr : Room j X.A) (hkj : k ≤ j) (ho : PE X o to) (ha : PA X (e :: es) t) (hK : X.K = K := by rfl)
    (hst : starEach (e :: es) X.env = (false, eval e X.env) :: starEach es X.env := by rfl) (hpl : (backTo pos (starEach es X.env)).any (·.1) = false := by rfl)
    (ht : eval (.Call (.Attribute o m apos) (e :: es) [] pos) X.env = (do
      let ov ← eval o X.env
      standAt apos.atName
      let (f, first) ← holding [ov] (getMethod ov m pl)
      callWith pos f first (backTo pos (starEach (e :: es) X.env)) (backToKw pos (keywordEach [] X.env))) := by rfl) :
    PE X (.Call (.Attribute o m apos) (e :: es) [] pos) (tMeth (He.ga K C) m sp [] E to t) := by
  subst hK
  exact pe_methx D tk hW hr hkj ho ha hst hpl ht
end
end FF
/-! Fivefault, part 42: the Hook with the defs that stand in records (properties, classmethods, staticmethods). -/
namespace FF
open PySem PySem.Spec PyProof.Rows L2
/-- the def in the record of the class's attribute -/
def gAd (K : PySem.W.Frag) (kind : String) (C m : Str) : Addr := match PySem.W.recIn K (He.ma K (He.ga K C) m) kind with
  | some (.ref g :: _) => g
  | _ => 0
/-- .. its setter -/
def sAd (K : PySem.W.Frag) (C m : Str) : Addr := match PySem.W.recIn K (He.ma K (He.ga K C) m) "property" with
  | some (_ :: .ref g :: _) => g
  | _ => 0
structure GetD where
  kind : String
  cls : Str
  attr : Str
  d : He.DefD
def GetD.ad (K : PySem.W.Frag) (g : GetD) : Addr := if g.kind = "setter" then sAd K g.cls g.attr else gAd K g.kind g.cls g.attr
def fnWa (K : PySem.W.Frag) (a : Addr) : He.FnW := match K.lookup a with
  | some ⟨_, _, .func fd, _⟩ => some (fd.name, fd.qualname, fd.params, fd.body, fd.scope, fd.globals, fd.closure, fd.builtins)
  | _ => none
def GetD.ok (K : PySem.W.Frag) (g : GetD) : Bool := PySem.W.keepIn K (.ref (g.ad K)) && (match K.lookup (g.ad K) with
  | some ⟨_, _, .func fd, _⟩ => PySem.W.codeIn K fd.code g.d.qual && (He.dflB K fd.defaults (g.d.dvs K) && He.kwdB K fd.kwdefaults (g.d.kws K))
  | _ => false)
theorem GetD.funD {K : PySem.W.Frag} {g : GetD} (e : fnWa K (g.ad K) = g.d.val) (c : g.ok K = true) : ∃ fd, FunD K g.d.name g.d.qual g.d.params g.d.body g.d.scope (g.d.dvs K) (g.d.kws K) (g.ad K) fd := by
  obtain ⟨kp, c2⟩ := He.ba c
  unfold fnWa at e
  cases q : K.lookup (g.ad K) with
  | none =>
    rw [q] at c2
    cases c2
  | some o =>
    obtain ⟨oc, od, dt, osl⟩ := o
    rw [q] at c2 e
    cases dt with
    | func fd =>
      obtain ⟨n1, n2, n3, n4, n5, n6, n7, n8, n9, n10, n11, n12, n13, n14, n15⟩ := fd
      have e2 : (some (n1, n2, n3, n4, n5, n6, n7, n15) : He.FnW) = some (g.d.name, g.d.qual, g.d.params, .stmts g.d.body, g.d.scope, mainGlobals, [], builtinsNs) := e
      simp only [Option.some.injEq, Prod.mk.injEq] at e2
      obtain ⟨h1, h2, h3, h4, h5, h6, h7, h8⟩ := e2
      subst h1 h2 h3 h4 h5 h6 h7 h8
      have c3 : (PySem.W.codeIn K n13 g.d.qual && (He.dflB K n8 (g.d.dvs K) && He.kwdB K n9 (g.d.kws K))) = true := c2
      obtain ⟨k1, k2⟩ := He.ba c3
      obtain ⟨k3, k4⟩ := He.ba k2
      exact ⟨_, ⟨oc, od, n8, n9, n10, n11, n12, n13, n14, osl, rfl, q, k1, He.dflB_ok k3, He.kwdB_ok k4⟩, kp⟩
    | _ => cases c2
/-! ### the Hook -/
abbrev AlZ : Type := He.AlX × (Bool × List He.FnW)
structure SaysZ (fa : List He.Fa) (fn : List He.DefD) (fp : List GetD) (tf : List He.Defn) (ex : PySem.W.Frag → Bool) (w : World) (h : Heap) (K : PySem.W.Frag) : Prop where
  x : He.SaysX fa fn [] tf ex w h K
  b : (fp.all fun g => g.ok K) = true
  v : fp.map (fun g => fnWa K (g.ad K)) = fp.map fun g => g.d.val
theorem SaysZ.get {fa : List He.Fa} {fn : List He.DefD} {fp : List GetD} {tf : List He.Defn} {ex : PySem.W.Frag → Bool} {w : World} {h : Heap} {K : PySem.W.Frag} (c : SaysZ fa fn fp tf ex w h K) (i : Nat) {g : GetD} (hg : fp[i]? = some g := by rfl) :
    ∃ fd, FunD K g.d.name g.d.qual g.d.params g.d.body g.d.scope (g.d.dvs K) (g.d.kws K) (g.ad K) fd := by
  have e2 : (fp.map fun g => fnWa K (g.ad K))[i]? = (fp.map fun g => g.d.val)[i]? := by rw [c.v]
  rw [List.getElem?_map, List.getElem?_map, hg] at e2
  exact GetD.funD (Option.some.inj e2) (List.all_eq_true.mp c.b g (List.mem_of_getElem? hg))
def valZ (fn : List He.DefD) (fp : List GetD) (w : World) : AlZ := (He.valX fn [] w, (true, fp.map fun g => g.d.val))
/-! ### a property -/
/-- e.f, a property of the class C, whose getter is the def at level k -/
structure PropD (P : Program) (w : World) (K : PySem.W.Frag) (mg : Str → Option Value) (base : Heap) (C f : Str) (k : Nat) (sp : Sp) : Prop where
  ex : ∃ fd, FnOk P w K mg base CX0 k (gAd K "property" C f) fd ["self"] sp ∧ Binds K fd ["self"] []
  cl : Cls K (He.ga K C)
  pr : PropOf K (He.ga K C) f (He.ma K (He.ga K C) f) (gAd K "property" C f)
end FF
/-! Fivefault, part 43: o.m(k = v, ..). -/
namespace FF
open PySem PySem.Spec PyProof.Rows L2
end FF
/-! Fivefault, part 44: more comprehensions over a list and a range: items that are new objects; those told exactly. -/
namespace FF
open PySem PySem.Spec PyProof.Rows L2
section
variable {K : PySem.W.Frag} {a : Addr} {xs : List V} {tt : TT} {te : TE} {vs : List Nat} {σ : L2.St} {H1 : Hp} {D : Addr} {Qd : Hp → Prop} {j : Nat}
end
end FF
/-! Fivefault, part 45: staticmethods called by their class. -/
namespace FF
open PySem PySem.Spec PyProof.Rows L2
/-- what of the text a staticmethod has -/
structure StatOf (K : PySem.W.Frag) (C : Addr) (m : Str) (p g : Addr) : Prop where
  at_ : PySem.W.findCls K (.ref C) (.type "type") m = some (.get (.builtin "staticmethod.__get__") (.ref p) .none (.ref C))
  rc : ∃ rest, PySem.W.recIn K p "staticmethod" = some (.ref g :: rest)
/-- C.m(..), m a staticmethod of C -/
structure StatX (P : Program) (w : World) (K : PySem.W.Frag) (mg : Str → Option Value) (base : Heap) (C m : Str) (k : Nat) (ps : List Str) (sp : Sp) : Prop where
  ex : ∃ fd, FnOk P w K mg base (L2.CX P w) k (gAd K "staticmethod" C m) fd ps sp ∧ Binds K fd ps []
  kp : PySem.W.keepIn K (.ref (gAd K "staticmethod" C m)) = true
  rd : ClX.CRead K (He.ga K C) (.type "type")
  st : StatOf K (He.ga K C) m (He.ma K (He.ga K C) m) (gAd K "staticmethod" C m)
  hm : mg C = some (.ref (He.ga K C))
section
variable {X : Cx} {W : WX} {E : XK} {C m : Str} {k j : Nat} {ps : List Str} {sp : Sp} {e : Expr} {es : List Expr} {p1 p2 pos : Pos} {t : TA} {pl : Sem Bool}
end
end FF
/-! Fivefault, part 46: {x for x in xs if ..} for any kind of keys; set(t), len of a set of ints. -/
namespace FF
open PySem PySem.Spec PyProof.Rows L2
abbrev emptySet (w : World) : Obj := { cls := .type "set", dict := none, data := .set #[] 0 (.fresh 0 0 (!w.params.followText "set-order")) }
/-- a kind of sets: how one stands in the heap, what is added -/
structure SFam (P : Program) (w : World) where
  κ : Type
  eq : κ → κ → Bool
  ob : Addr → (κ → Bool) → Nat → HO
  val : κ → V
  fresh : ∀ (H : Hp) (h : Heap), ObjOk P w H (h.push (emptySet w)) h.objs.size (ob h.objs.size (fun _ => false) 0)
  add : ∀ (X : Cx) (pins : List (Addr × Obj)) (σ : L2.St) (H : Hp) (s : Shared) (D : Addr) (S : κ → Bool) (n : Nat) (y : κ) (u : Value) (Q : Value → Shared → Prop) (E : Value → Shared → Prop), X.prog = P → X.w = w → Inv X pins σ H s → H D = some (ob D S n) → n + 1 < scanBound → RelV (val y) u →
    (∀ s', Inv X pins σ (upd H D (ob D (fun j => S j || eq j y) (if S y = true then n else n + 1))) s' → Q .none s') → wpAny (model X.prog X.w) X.A (call (.builtin "set.add") [.ref D, u]) Q E s
def SFam.put {P : Program} {w : World} (F : SFam P w) (S : F.κ → Bool) (y : F.κ) : F.κ → Bool := fun j => S j || F.eq j y
/-! ### sets of ints -/
end FF
/-! Fivefault, part 47: methods called in a comprehension's block, where no exception comes (K named). -/
namespace FF
open PySem PySem.Spec PyProof.Rows L2
section
variable {X : Cx} {C m : Str} {k j : Nat} {ps : List Str} {sp : Sp} {o e : Expr} {es : List Expr} {apos pos : Pos} {to : TE} {t : TA} {pl : Sem Bool}
end
/-! a comprehension over a list, any target -/
end FF
/-! Fivefault, part 48: classmethods; cls(..) with cls a local name; a class's constants. -/
namespace FF
open PySem PySem.Spec PyProof.Rows L2
/-- C.m(..), m a classmethod of C -/
structure ClsX (P : Program) (w : World) (K : PySem.W.Frag) (mg : Str → Option Value) (base : Heap) (C m : Str) (k : Nat) (sp : Sp) : Prop where
  ex : FnR P w K mg base (L2.CX P w) k (gAd K "classmethod" C m) sp
  rd : ClX.CRead K (He.ga K C) (.type "type")
  cm : ClX.CMet K (He.ga K C) (.type "type") m (He.ma K (He.ga K C) m) (gAd K "classmethod" C m)
section
variable {X : Cx} {W : WX} {E : XK} {C m : Str} {k j : Nat} {ps : List Str} {sp : Sp} {e : Expr} {es : List Expr} {p1 p2 pos : Pos} {t : TA} {pl : Sem Bool}
end
end FF
/-! Fivefault, part 49: repr(x) by an own __repr__; x == y by an own __eq__; isinstance(x, C). -/
namespace FF
open PySem PySem.Spec PyProof.Rows L2
/-- repr(x) by an own __repr__ -/
def rReprO (C : Addr) (sp : Sp) (E : XK) : List V → Hp → VK → Prop := fun xs H Q => ∃ a dx fs, xs = [.ref a] ∧ H a = some (.ins C dx fs) ∧ sp [.ref a] H (fun v H' => ∃ z : Str, v = .str z ∧ Q (.str z) H') E
theorem call_reprO {X : Cx} {CX : CXT} {n : Nat} {C f : Addr} {fd : FuncData} {ps : List Str} {sp : Sp} {E : XK} (me : Meth X.K C "__repr__" f) (F : FnOk X.prog X.w X.K X.mg X.base CX n f fd ps sp) (hb : Binds X.K fd ps []) (hx : Passes CX X E) (hr : Room (n + 1) X.A) : CallR X (.builtin "repr") (rReprO C sp E) := by
  intro pins s σ H xs us Q I rv h
  obtain ⟨a, dx, fs, rfl, ha, hsp⟩ := h
  obtain ⟨u, rfl, ru⟩ := rv.one
  cases ru
  have sb : Sub X n X.A.in1 := Sub.in1 (⟨hr, rfl⟩ : Sub X (n + 1) X.A)
  obtain ⟨mA, J, _⟩ := ins_get I.hok ha
  obtain ⟨od, J, _⟩ := J.look
  refine PySem.Calls.call_function_entry PySem.F.kind_repr PySem.F.plain_repr PySem.F.entry_repr (PySem.F.args_repr1 _) ?_
  unfold Builtin.«repr»
  refine wpAny_bind (m := oneArg "repr" _) (wpAny_pure ?_)
  refine wpAny_bind (m := cRoomFor _ _) (wpAny_cRoomFor sb.room.units0 ?_)
  refine wpAny_bind (m := specialOf (.ref a) (Str.ofString "__repr__")) (wpAny_bind (J.type.here ((PySem.W.looks_findIn I.kIn me.at_).here ?_)))
  refine wpAny_bind (m := callSpecialIfBound? (.ref a) (Str.ofString "__repr__")) (PySem.W.ifBound_K I.kIn J me.at_ me.fn ?_)
  have e0 : Env0 X.prog X.w X.K X.mg X.base X.A.in1 X.stack s H := by
    have e := I.env0
    exact ⟨by rw [sb.fr]; exact e.frames, e.mod, e.bs, e.bsz, e.funs, e.frf, e.hok, e.bare⟩
  have hl := F.len _ _ _ _ hsp
  have r2 : Vals [V.ref a] [Value.ref a] := .cons rfl .nil
  refine wpAny_call (codeAny_mono (F.run X.A.in1 X.stack s H ⟨[.ref a], []⟩ [.ref a] [.ref a] _ E sb.room e0 (by
    have := hb s [.ref a] I.kIn (by simpa using hl)
    simpa using this) r2 hsp) fun r s' hq => ?_)
  cases r with
  | error e => exact hx pins σ H s e s' I hq
  | ok fl =>
    cases fl with
    | ret u =>
      obtain ⟨v, H', I', rv', z, rfl, q⟩ := I.after hq
      obtain ⟨t, rfl⟩ := rv'
      refine wpAny_bind (wpAny_isInstance (T := "str") (b := true) (typeIs_str _ _ _) isSubtype_str_str ?_)
      exact wpAny_pure ⟨_, rfl, .str z, H', I', ⟨_, rfl⟩, q⟩
    | next => exact False.elim hq
    | brk => exact False.elim hq
    | cont => exact False.elim hq
theorem call_reprD {X : Cx} {C : Str} {k j : Nat} {sp : Sp} (D : MethD X.prog X.w X.K X.mg X.base C "__repr__" k ["self"] sp) (hr : Room j X.A) (hkj : k + 1 ≤ j) : CallR X (.builtin "repr") (rReprO (He.ga X.K C) sp E0) := by
  obtain ⟨fd, F, hb⟩ := D.ex
  exact call_reprO D.me F hb pass0 (hr.mono hkj)
/-! ### isinstance(x, C), C a class of the text -/
structure InsX (K : PySem.W.Frag) (C : Addr) : Prop where
  cl : Cls K C
  ha : PySem.W.findIn K (.ref C) "__class__" = some (some (.builtin "object.__class__"))
  hn : PySem.W.specialIn K (.builtin "object.__class__") "__get__" = some (some (.builtin "getset_descriptor.__get__"))
  htk : PySem.W.takesIn K (.builtin "object.__class__") = some true
  hm : PySem.W.mroIn K C (.type "object") = some true
  me : PySem.W.kitOne K (.ref C) (.ref C) = some true
  nl : PySem.W.kitOne K (.type "list") (.ref C) = some false
  sl : PySem.W.subIn K (.type "list") (.ref C) = some false
theorem InsX.ty {K : PySem.W.Frag} {C a dx : Addr} {H : Hp} {fs : List (Str × V)} (c : InsX K C) (h : H a = some (.ins C dx fs)) : TyX K H (.ref a) (.ref C) := .base (TyOf.ins h c.cl c.ha c.hn c.htk c.hm)
/-! ### == by an own __eq__ -/
/-! ### C.m(k = v, ..), m a classmethod -/
end FF
/-! Fivefault, part 50: sets of texts: {x for x in xs if ..}, set(list of texts), sorted(set of texts). -/
namespace FF
open PySem PySem.Spec PyProof.Rows L2
def keyT (e : Int × Value) : Str := match e.2 with
  | .str z _ => z
  | _ => Str.empty
def GoodT (w : World) (e : Int × Value) : Prop := ∃ z tk, e.2 = Value.str z tk ∧ e.1 = hashStr w z
/-- a set of texts stands at a: its members S, n of them; its table can be walked -/
def SetT (w : World) (h : Heap) (a : Addr) (S : Str → Bool) (n : Nat) : Prop :=
  ∃ o es ep t, h.get? a = some o ∧ o.ExactSet ∧ o.data = .set es ep t ∧ ((∀ e ∈ es.toList, GoodT w e) ∧ (es.toList.map keyT).Nodup ∧ ∀ k, S k = true ↔ k ∈ es.toList.map keyT) ∧
    es.size < scanBound ∧ t.fits es.size = true ∧ es.size = n ∧ Ris t.place.toList ∧ (w.params.followText "set-order" = true ∨ t.led = true)
section
variable {P : Program} {w : World} {h h' : Heap} {a : Addr} {S : Str → Bool} {n : Nat}
theorem SetT.at (R : SetT w h a S n) (k : ∀ o, h.get? a = some o → h'.get? a = some o) : SetT w h' a S n := by
  obtain ⟨o, es, ep, t, ho, r⟩ := R
  exact ⟨o, es, ep, t, k o ho, r⟩
theorem SetT.congr {S' : Str → Bool} (R : SetT w h a S n) (e : ∀ k, S' k = S k) : SetT w h a S' n := (funext e : S' = S) ▸ R
end
section
variable {P : Program} {w : World} {A : Around} {E : Value → Shared → Prop} {s : Shared} {a : Addr} {S : Str → Bool} {n : Nat}
end
end FF
/-! Fivefault, part 51: sets of texts over the layer. -/
namespace FF
open PySem PySem.Spec PyProof.Rows L2
end FF
/-! Fivefault, part 52: set(xs), xs a list of texts. -/
namespace FF
open PySem PySem.Spec PyProof.Rows L2
section
variable {P : Program} {w : World} {A : Around} {E : Value → Shared → Prop} {s : Shared}
end
end FF
/-! Fivefault, part 53: yield from xs, xs a list; max(xs, default = n). -/
namespace FF
open PySem PySem.Spec PyProof.Rows L2
section
variable {prog : Program} {w : World} {A : Around} {E : Value → Shared → Prop} {s : Shared}
end
/-! ### max(xs, default = n), xs a list of ints -/
end FF
/-! Fivefault, part 54: {x for x in xs if ..} over a list, texts. -/
namespace FF
open PySem PySem.Spec PyProof.Rows L2
end FF
/-! Fivefault, part 55: {e for a in xs for b in ys}. -/
namespace FF
open PySem PySem.Spec PyProof.Rows L2
section
variable {prog : Program} {w : World} {A : Around} {R : Result → Shared → Prop} {s : Shared} {el ga ia gb ib : Expr} {cs ds : List Expr} {scope : Scope} {pos : Pos} {it : Value} {D : Addr} {env : Env}
end
end FF
/-! Fivefault, part 56: {z for x in xs for z in f(x)} over lists, texts. -/
namespace FF
open PySem PySem.Spec PyProof.Rows L2
end FF
/-! Fivefault, part 57: x != y by an own __eq__ (no own __ne__). -/
namespace FF
open PySem PySem.Spec PyProof.Rows L2
section
variable {M : Model} {prog : Program} {w : World} {A : Around} {E : Value → Shared → Prop} {s : Shared} {K : PySem.W.Frag} {x y C f : Addr} {ox : Obj} {od : Option Obj}
end
end FF
/-! Fivefault, part 58: comprehensions over the keys of a dict, and with two fors, told by the place. -/
namespace FF
open PySem PySem.Spec PyProof.Rows L2
section
variable {K : PySem.W.Frag} {D d : Addr} {o : Obj} {kvs : List (Key × V)} {te : TE} {vs : List Nat} {j : Nat} {σ : L2.St} {H1 : Hp} {Qd : Hp → Prop}
theorem lc_mapK (R : Nat → V → Hp → Prop) (mono : ∀ i y H H', SameT H H' → R i y H → R i y H') (hD : H1 D = none) (hk : H1 d = some (.frz o (.dK kvs))) (hz : kvs.length ≤ sizeLine)
    (hw : ∀ x, wipe ((wipe σ vs).set j (some x)) vs = wipe σ vs)
    (step : ∀ i k v H2, kvs[i]? = some (k, v) → Same H1 H2 → ∀ Q' : VK, (∀ y H3, Same H2 H3 → R i y H3 → Q' y H3) → te ((wipe σ vs).set j (some (kV k))) H2 Q')
    (done : ∀ H2 ys, Same H1 H2 → H2 D = some (.lst ys) → ys.length = kvs.length → (∀ (i : Nat) (y : V), ys[i]? = some y → R i y H2) → Qd H2) :
    ∃ W : Nat → Nat → Hp → Prop, (∃ m, W 0 m (upd H1 D (.lst []))) ∧ ∀ i m H, W i m H →
      ((Itk d o kvs).stop i H ∧ Qd H) ∨ ((Itk d o kvs).go i H ∧ ∃ Nx : Hp → Prop, (∀ H', Nx H' → ∃ m', m' < m ∧ W (i + 1) m' H') ∧ ∀ x H', (Itk d o kvs).yld i H x H' → gName j x (wipe σ vs) H' fun σ2 H2 => wipe σ2 vs = wipe σ vs ∧ tYes σ2 H2 fun b H3 =>
        if b = true then te σ2 H3 fun y H4 => ∃ acc, H4 D = some (.lst acc) ∧ acc.length < sizeLine ∧ Nx (upd H4 D (.lst (acc ++ [y]))) else Nx H3) :=
  lc_it walk_keys (fun i H => Same H1 H ∧ ∃ ys, H D = some (.lst ys) ∧ ys.length = i ∧ ∀ m y, ys[m]? = some y → R m y H)
    ⟨same_new hD _, [], upd_same, rfl, fun m y q => by simp at q⟩ (fun i H _ p => p.1 _ _ hk)
    (fun i x H H' hi p y => by
      obtain ⟨rfl, k, v, hkv, rfl⟩ := y
      exact ⟨hw _, lc_turn mono hD p (Nat.lt_of_lt_of_le hi hz) (step i k v _ hkv p.1)⟩)
    fun H ⟨e, ys, h1, h2, h3⟩ => done H ys e h1 h2 h3
end
section
variable {K : PySem.W.Frag} {D : Addr} {J : It} {n n1 : Nat} {Po P1 : Nat → V → Prop} {wi1 : TI} {te : TE} {vs vs1 : List Nat} {jo ji : Nat} {σ : L2.St} {H1 : Hp} {Qd : Hp → Prop}
end
theorem pe_fldK {X : Cx} (K : PySem.W.Frag) {e : Expr} {f : Str} {pos : Pos} {ta : TE} (he : PE X e ta) (hb : attributeBase e f X.env (eval e X.env) = eval e X.env) (hK : X.K = K := by rfl) : PE X (.Attribute e f pos) (tFld K ta f) := by
  subst hK
  exact pe_fld he hb
end FF
/-! Fivefault, part 59: dicts whose keys are texts, whole numbers and nested tuples of such: what stands in the model's heap. -/
namespace FF
open PySem PySem.Spec PyProof.Rows L2
open Sem (wp)
mutual
def nkD : PyData → NestedKey
  | .none => .none
  | .bool b => .num (if b = true then 1 else 0)
  | .int i => .num i
  | .str x => .text x
  | .tuple ds => .tup (nkDs ds)
  | .list _ => .none
  | .dict _ => .none
def nkDs : List PyData → List NestedKey
  | [] => []
  | d :: ds => nkD d :: nkDs ds
end
mutual
/-- data that may be a key: no bools, lists, dicts -/
def keyB : PyData → Bool
  | .none => true
  | .bool _ => false
  | .int _ => true
  | .str _ => true
  | .tuple ds => keyBs ds
  | .list _ => false
  | .dict _ => false
def keyBs : List PyData → Bool
  | [] => true
  | d :: ds => keyB d && keyBs ds
end
/-- a row as it is stored: the key, the key's value, the value -/
abbrev NRow := NestedKey × Value × Value
def entN (w : World) (x : NRow) : DictEntry := ⟨x.1.hash w, x.2.1, x.2.2⟩
section
variable {prog : Program} {w : World} {A : Around} {E : Value → Shared → Prop} {s : Shared} {es : Array DictEntry} {xs : List NRow} {k : NestedKey} {key : Value}
theorem ent_at (he : es.toList = xs.map (entN w)) (j : Nat) : es[j]? = (xs[j]?).map (entN w) := by
  rw [← Array.getElem?_toList, he]
  exact List.getElem?_map
theorem ent_size (he : es.toList = xs.map (entN w)) : es.size = xs.length := by
  have := congrArg List.length he
  rwa [Array.length_toList, List.length_map] at this
abbrev plc (w : World) (es : Array DictEntry) (k : NestedKey) : List Nat := placesWithHash es.size (fun i => es[i]?.map (·.hash)) (k.hash w)
theorem plc_of (he : es.toList = xs.map (entN w)) {i : Nat} {x : NRow} (hi : xs[i]? = some x) (e : x.1 = k) : i ∈ plc w es k := by
  unfold plc placesWithHash
  refine List.mem_filter.mpr ⟨List.mem_range.mpr ?_, ?_⟩
  · rw [ent_size he]
    exact (List.getElem?_eq_some_iff.mp hi).1
  · dsimp only
    rw [ent_at he, hi, ← e]
    exact beq_self_eq_true _
/-- what stands behind the places that were looked at: nothing found, or the one -/
def Seen (xs : List NRow) (k : NestedKey) (pre : List Nat) (hit : Option Nat) : Prop :=
  (hit = none ∧ ∀ i ∈ pre, ∀ x, xs[i]? = some x → x.1 ≠ k) ∨ ∃ j x, hit = some j ∧ j ∈ pre ∧ xs[j]? = some x ∧ x.1 = k
theorem Seen.no {pre : List Nat} {hit : Option Nat} (h : Seen xs k pre hit) {i : Nat} {x : NRow} (hi : xs[i]? = some x) (e : x.1 ≠ k) : Seen xs k (pre ++ [i]) hit := by
  rcases h with ⟨h1, h2⟩ | ⟨j, y, h1, h2, h3⟩
  · refine .inl ⟨h1, fun m hm y hy => ?_⟩
    rcases List.mem_append.mp hm with hm | hm
    · exact h2 m hm y hy
    · rw [List.mem_singleton.mp hm, hi] at hy
      cases hy
      exact e
  · exact .inr ⟨j, y, h1, List.mem_append_left _ h2, h3⟩
theorem Seen.end_ (he : es.toList = xs.map (entN w)) {hit : Option Nat} (h : Seen xs k (plc w es k) hit) : (hit = none ∧ ∀ x ∈ xs, x.1 ≠ k) ∨ ∃ j x, hit = some j ∧ xs[j]? = some x ∧ x.1 = k := by
  rcases h with ⟨h1, h2⟩ | ⟨j, y, h1, h2, h3⟩
  · refine .inl ⟨h1, fun x hx e => ?_⟩
    obtain ⟨i, hi⟩ := List.mem_iff_getElem?.mp hx
    exact h2 i (plc_of he hi e) x hi e
  · exact .inr ⟨j, y, h1, h3⟩
end
end FF
/-! Fivefault, part 60: dicts whose keys are nested tuples: read and written. -/
namespace FF
open PySem PySem.Spec PyProof.Rows L2
open Sem (wp)
/-- at d stands the dict of these rows -/
def DictN (w : World) (h : Heap) (d : Addr) (xs : List NRow) : Prop := ∃ (o : Obj) (es : Array DictEntry) (ep : Nat), h.get? d = some o ∧ o.ExactDict ∧ o.data = .dict es ep ∧ es.toList = xs.map (entN w)
theorem DictN.ty {w : World} {s : Shared} {d : Addr} {xs : List NRow} (h : DictN w s.heap d xs) : s.TypeIs (.ref d) "dict" := let ⟨o, _, _, h1, h2, _⟩ := h; ⟨o, h1, h2.1⟩
theorem DictN.new {w : World} (h : Heap) : DictN w (h.push { cls := .type "dict", data := .dict #[] }) h.objs.size [] := ⟨_, #[], 0, Heap.get?_push_size _ rfl, ⟨rfl, rfl, rfl⟩, rfl, rfl⟩
section
variable {prog : Program} {w : World} {A : Around} {E : Value → Shared → Prop} {s : Shared} {xs : List NRow} {k : NestedKey} {key v : Value} {d : Addr}
end

/-! ### in the abstract heap -/
abbrev KRow := V × PyData × V
def kdR (r : KRow) (x : NRow) : Prop := r.2.1 = r.2.1 ∧ x.1 = nkD r.2.1 ∧ RelV r.1 x.2.1 ∧ RelV r.2.2 x.2.2
/-- the dict at a, its rows (key, what the key is, value) in the order of insertion -/
def kdO (w : World) (a : Addr) (rows : List KRow) : HO := .ext fun h => rows.length ≤ sizeLine ∧ (a == sysModules) = false ∧ ∃ xs : List NRow, Paired kdR rows xs ∧ DictN w h a xs
def KeyOk (K : PySem.W.Frag) (H : Hp) (y : V) (d : PyData) : Prop := Tp K H y d ∧ keyB d = true ∧ (nkD d).depth ≤ 8
structure KD (K : PySem.W.Frag) (w : World) (H : Hp) (a : Addr) (rows : List KRow) : Prop where
  obj : Rd H a (kdO w a rows)
  keys : ∀ r ∈ rows, KeyOk K H r.1 r.2.1
  nod : (rows.map fun r => nkD r.2.1).Nodup
def kGet (kvs : List (PyData × V)) (d : PyData) : Option V := (kvs.find? fun r => decide (nkD r.1 = nkD d)).map (·.2)
def kPut (rows : List KRow) (y : V) (d : PyData) (v : V) : List KRow := if (kGet (rows.map Prod.snd) d).isSome = true then rows.map (fun r => if nkD r.2.1 = nkD d then (r.1, r.2.1, v) else r) else rows ++ [(y, d, v)]
theorem KeyOk.up {K : PySem.W.Frag} {H H' : Hp} {y : V} {d : PyData} (h : KeyOk K H y d) (e : SameT H H') : KeyOk K H' y d := ⟨h.1.up e, h.2⟩
theorem KD.up {K : PySem.W.Frag} {w : World} {H H' : Hp} {a : Addr} {rows : List KRow} (h : KD K w H a rows) (e : Same H H') : KD K w H' a rows := ⟨same_rd e h.obj, fun r hr => (h.keys r hr).up (Same.T e), h.nod⟩
theorem kPut_keys (rows : List KRow) (y : V) (d : PyData) (v : V) : (kPut rows y d v).map (fun r => (r.1, r.2.1)) = if (kGet (rows.map Prod.snd) d).isSome = true then rows.map (fun r => (r.1, r.2.1)) else rows.map (fun r => (r.1, r.2.1)) ++ [(y, d)] := by
  unfold kPut
  split
  · rw [List.map_map]
    refine List.map_congr_left fun r _ => ?_
    dsimp only [Function.comp]
    split <;> rfl
  · rw [List.map_append] <;> rfl
theorem kGet_none_iff {kvs : List (PyData × V)} {d : PyData} : kGet kvs d = none ↔ ∀ r ∈ kvs, nkD r.1 ≠ nkD d := by
  unfold kGet
  rw [Option.map_eq_none_iff, List.find?_eq_none]
  refine forall_congr' fun r => forall_congr' fun _ => ?_
  rw [decide_eq_true_eq]
theorem KD.put_keys {K : PySem.W.Frag} {w : World} {H H' : Hp} {a : Addr} {rows : List KRow} {y v : V} {d : PyData} (h : KD K w H a rows) (hk : KeyOk K H y d) (e : SameT H H') : (∀ r ∈ kPut rows y d v, KeyOk K H' r.1 r.2.1) ∧ ((kPut rows y d v).map fun r => nkD r.2.1).Nodup := by
  have kk := kPut_keys rows y d v
  constructor
  · intro r hr
    have hm : (r.1, r.2.1) ∈ (kPut rows y d v).map fun r => (r.1, r.2.1) := List.mem_map_of_mem (f := fun r : KRow => (r.1, r.2.1)) hr
    rw [kk] at hm
    have old : (r.1, r.2.1) ∈ rows.map (fun r => (r.1, r.2.1)) → KeyOk K H' r.1 r.2.1 := fun hm => by
      obtain ⟨r', hr', er⟩ := List.mem_map.mp hm
      have e1 : r'.1 = r.1 := congrArg (fun p : V × PyData => p.1) er
      have e2 : r'.2.1 = r.2.1 := congrArg (fun p : V × PyData => p.2) er
      rw [← e1, ← e2]
      exact (h.keys r' hr').up e
    split at hm
    · exact old hm
    · rcases List.mem_append.mp hm with hm | hm
      · exact old hm
      · rw [List.mem_singleton] at hm
        have h1 : r.1 = y := congrArg Prod.fst hm
        have h2 : r.2.1 = d := congrArg Prod.snd hm
        rw [h1, h2]
        exact hk.up e
  · have e1 : (kPut rows y d v).map (fun r => nkD r.2.1) = ((kPut rows y d v).map fun r => (r.1, r.2.1)).map fun p => nkD p.2 := by rw [List.map_map] <;> rfl
    have e2 : rows.map (fun r => nkD r.2.1) = (rows.map fun r => (r.1, r.2.1)).map fun p => nkD p.2 := by rw [List.map_map] <;> rfl
    have nod := h.nod
    rw [e2] at nod
    rw [e1, kk]
    split
    · exact nod
    · next hs =>
      rw [List.map_append, List.nodup_append]
      refine ⟨nod, by simp, fun x hx z hz => ?_⟩
      have hz : z = nkD d := by simpa using hz
      subst hz
      rw [← e2] at hx
      obtain ⟨r, hr, rfl⟩ := List.mem_map.mp hx
      have hg : kGet (rows.map Prod.snd) d = none := by
        cases q : kGet (rows.map Prod.snd) d with
        | none => rfl
        | some _ => rw [q] at hs; exact absurd rfl hs
      exact kGet_none_iff.mp hg r.2 (List.mem_map_of_mem hr)
section
variable {X : Cx} {pins : List (Addr × Obj)} {σ : L2.St} {H : Hp} {s : Shared}
variable {a : Addr} {rows : List KRow} {y v : V} {d : PyData} {u r : Value} {A : Around} {E : Value → Shared → Prop}
theorem KD.put (D : KD X.K X.w H a rows) (hw : H a = some (kdO X.w a rows)) (hk : KeyOk X.K H y d) : KD X.K X.w (upd H a (kdO X.w a (kPut rows y d v))) a (kPut rows y d v) := by
  have e : SameT H (upd H a (kdO X.w a (kPut rows y d v))) := (SameT.refl H).upd fun xs z => by rw [hw] at z; cases z
  obtain ⟨h1, h2⟩ := D.put_keys (v := v) hk e
  exact ⟨.inl upd_same, h1, h2⟩
end
theorem KD.new {K : PySem.W.Frag} {w : World} {H : Hp} {p : Addr} : KD K w (upd H p (kdO w p [])) p [] := ⟨.inl upd_same, (fun r hr => nomatch hr), List.nodup_nil⟩
end FF
/-! Fivefault, part 61: rules for dicts whose keys are nested tuples; the dict comprehension. -/
namespace FF
open PySem PySem.Spec PyProof.Rows L2
section
variable {X : Cx} {pins : List (Addr × Obj)} {σ : L2.St} {H : Hp} {s : Shared} {o i e value : Expr} {pos pos' : Pos} {td ty tv : TE} {a : Addr} {rows : List KRow}
end
section
variable {prog : Program} {w : World} {A : Around} {R : Result → Shared → Prop} {s : Shared} {ek ev ga ia : Expr} {cs : List Expr} {scope : Scope} {pos : Pos} {it : Value} {D : Addr} {env : Env}
end
end FF
/-! Fivefault, part 62: walks over lists while other things change (the guard is the list itself). -/
namespace FF
open PySem PySem.Spec PyProof.Rows L2
section
variable {K : PySem.W.Frag} {a : Addr} {xs : List V} {g : TG} {tb : TS} {D : Ends} {σ : L2.St} {H : Hp}
end
end FF
/-! Comprehensions with a test that the items' data decide. -/
namespace FF
open PySem PySem.Spec PyProof.Rows L2
section
variable {K : PySem.W.Frag} {a D : Addr} {xs : List V} {ds : List PyData} {g : TG} {tt : TT} {te : TE} {vs : List Nat} {j : Nat} {σ : L2.St} {H1 : Hp} {Qd : Hp → Prop}
theorem lc_filtD (f : PyData → Bool) (hD : H1 D = none) (hs : SqL K H1 a xs) (hv : TpAll K H1 xs ds) (hz : xs.length ≤ sizeLine)
    (hw : ∀ x, wipe ((wipe σ vs).set j (some x)) vs = wipe σ vs)
    (test : ∀ (i : Nat) (x : V) (d : PyData) (H2 : Hp), xs[i]? = some x → ds[i]? = some d → Tp K H2 x d → Same H1 H2 → ∀ Qb : Bool → Hp → Prop, (∀ H3, Same H2 H3 → Qb (f d) H3) → tt ((wipe σ vs).set j (some x)) H2 Qb)
    (elt : ∀ x H2 (Q' : VK), Q' x H2 → te ((wipe σ vs).set j (some x)) H2 Q')
    (done : ∀ H2 ys, Same H1 H2 → H2 D = some (.lst ys) → TpAll K H2 ys (ds.filter f) → Qd H2) :
    ∃ W : Nat → Nat → Hp → Prop, (∃ m, W 0 m (upd H1 D (.lst []))) ∧ ∀ i m H, W i m H →
      ((Itl K a).stop i H ∧ Qd H) ∨ ((Itl K a).go i H ∧ ∃ Nx : Hp → Prop, (∀ H', Nx H' → ∃ m', m' < m ∧ W (i + 1) m' H') ∧ ∀ x H', (Itl K a).yld i H x H' → gName j x (wipe σ vs) H' fun σ2 H2 => wipe σ2 vs = wipe σ vs ∧ tt σ2 H2 fun b H3 =>
        if b = true then te σ2 H3 fun y H4 => ∃ acc, H4 D = some (.lst acc) ∧ acc.length < sizeLine ∧ Nx (upd H4 D (.lst (acc ++ [y]))) else Nx H3) := by
  have hl := hv.len
  refine lc_list (fun i H => Same H1 H ∧ ∃ ys, H D = some (.lst ys) ∧ ys.length ≤ i ∧ TpAll K H ys ((ds.take i).filter f)) ⟨same_new hD _, [], upd_same, Nat.le_refl _, .nil⟩ (fun i H _ p => up_l p.1 hs) (fun i x H hx ⟨e, ys, h1, h2, h3⟩ => ?_) fun H ⟨e, ys, h1, _, h3⟩ => ?_
  · obtain ⟨d, hd, hxd⟩ := hv.get hx
    have hxH := hxd.up (Same.T e)
    have hlt := (List.getElem?_eq_some_iff.mp hx).1
    refine ⟨hw x, test i x d H hx hd hxH e _ fun H3 e3 => ?_⟩
    have et : ds.take (i + 1) = ds.take i ++ [d] := by rw [List.take_add_one, hd] <;> rfl
    refine if_b (fun hf => ?_) (fun hf => ?_)
    · refine elt x H3 _ ⟨ys, e3 _ _ h1, Nat.lt_of_lt_of_le (by omega) hz, same_at hD (e.trans e3), ys ++ [x], upd_same, ?_, ?_⟩
      · rw [List.length_append]
        show ys.length + 1 ≤ i + 1
        omega
      · have eT : SameT H (upd H3 D (.lst (ys ++ [x]))) := (Same.T e3).updL (e3 _ _ h1)
        rw [et, List.filter_append, List.filter_cons_of_pos hf]
        exact (h3.up eT).app (.cons (hxH.up eT) .nil)
    · refine ⟨e.trans e3, ys, e3 _ _ h1, by omega, ?_⟩
      rw [et, List.filter_append, List.filter_cons_of_neg (by rw [hf]; decide)]
      show TpAll K H3 ys ((ds.take i).filter f ++ [])
      rw [List.append_nil]
      exact h3.up (Same.T e3)
  · rw [hl, List.take_length] at h3
    exact done H ys e h1 h3
end
end FF
/-! Fivefault, part 63: sorted over pairs of whole numbers. -/
namespace FF
open PySem PySem.Spec PyProof.Rows L2
end FF
/-! Fivefault, part 64: dict(list of pairs) whose keys are nested tuples. -/
namespace FF
open PySem PySem.Spec PyProof.Rows L2
open Sem (wp)
section
variable {prog : Program} {w : World} {A : Around} {E : Value → Shared → Prop}
end
section
variable {X : Cx}
end
end FF
/-! Fivefault, part 65: for target in d, keys nested (the dict is locked). -/
namespace FF
open PySem PySem.Spec PyProof.Rows L2
open Sem (wp)
section
variable {X : Cx} {pins : List (Addr × Obj)} {σ : L2.St} {H : Hp} {s : Shared} {d : Addr} {o : Obj} {rows : List KRow}
end
section
variable {P : Program} {w : World} {K : PySem.W.Frag} {tg : Expr} {d : Addr} {o : Obj} {es : Array DictEntry} {ep : Nat}
end
section
variable {w : World} {d : Addr} {o : Obj} {rows : List KRow} {g : TG} {tb : TS} {D : Ends} {σ : L2.St} {H : Hp}
end
section
variable {prog : Program} {w : World} {A : Around} {E : Value → Shared → Prop} {s : Shared}
end
end FF
/-! Fivefault, part 66: xs[::-1], xs a list. -/
namespace FF
open PySem PySem.Spec PyProof.Rows L2
theorem rev_pickV {α : Type} (l : List α) : ((List.range l.length).reverse).filterMap (fun i => l[i]?) = l.reverse := by
  rw [List.filterMap_reverse]
  congr 1
  induction l with
  | nil => rfl
  | cons c r ih =>
    rw [List.length_cons, List.range_succ_eq_map, List.filterMap_cons_some (by rfl), List.filterMap_map]
    congr 1
theorem vals_rev : ∀ {xs : List V} {us : List Value}, Vals xs us → Vals xs.reverse us.reverse
  | _, _, .nil => .nil
  | _, _, .cons a r => by
    rw [List.reverse_cons, List.reverse_cons]
    exact (vals_rev r).append (.cons a .nil)
end FF
/-! Fivefault, part 67: a comprehension's list known as a list while its items are told. -/
namespace FF
open PySem PySem.Spec PyProof.Rows L2
section
variable {K : PySem.W.Frag} {a D : Addr} {xs : List V} {te : TE} {vs : List Nat} {j : Nat} {σ : L2.St} {H1 : Hp} {Qd : Hp → Prop}
end
end FF
/-! Fivefault, part 68: a generator's body with for and if, run into a list or up to its first item. -/
namespace FF
open PySem PySem.Spec PyProof.Rows L2 GenW
/-- who runs the generator -/
inductive Md
  | ls (S : Addr)
  | fs
def Md.pins (M : Md) (ys : List V) (P : List (Addr × Obj)) : Prop := match M with
  | .ls S => ∃ (acc : Array Value) (c : Nat), Vals ys acc.toList ∧ P = [(S, lstObj acc c)]
  | .fs => ys = [] ∧ P = []
/-- the first item -/
def FstY (X : Cx) (Yd : V → Hp → Prop) : Protocol := fun _ _ v s _ => ∃ x ip σ H, RelV x v ∧ Inv X ip σ H s ∧ Yd x H
def Md.proto (X : Cx) (Yd : V → Hp → Prop) : Md → Protocol
  | .ls S => GY X S
  | .fs => FstY X Yd
def MI (X : Cx) (M : Md) (ip : List (Addr × Obj)) (ys : List V) (σ : L2.St) (H : Hp) (s : Shared) : Prop := ∃ P, M.pins ys P ∧ Inv X (P ++ ip) σ H s
structure MC (X : Cx) (M : Md) (ip : List (Addr × Obj)) (A : Around) (c : Code) (fs : List Frame) (gd : Bool → Bool) : Prop where
  own : ∀ S, M = .ls S → (∀ p ∈ X.pn, p.1 ≠ S) ∧ (∀ p ∈ ip, p.1 ≠ S) ∧ Apart X S
  around : A.over c fs = X.A
  split : splitAtGen fs = none
  guard : fs.any Frame.guarded = false
  gd : gd false = false
/-- what is wanted behind a statement; yd: of the first item, if it alone is wanted -/
structure GE where
  nx : List V → L2.St → Hp → Prop
  rt : List V → VK
  bk : List V → L2.St → Hp → Prop := fun _ _ _ => False
  ct : List V → L2.St → Hp → Prop := fun _ _ _ => False
  yd : V → Hp → Prop := fun _ _ => True
abbrev TM := GE → List V → L2.St → Hp → Prop
def GE.at (D : GE) (ys : List V) : Ends := { nx := D.nx ys, rt := D.rt ys, bk := D.bk ys, ct := D.ct ys }
def MSP (X : Cx) (M : Md) (ip : List (Addr × Obj)) (D : GE) (ys : List V) (f : Flow) (s : Shared) : Prop :=
  match f with
  | .next => ∃ σ H, MI X M ip ys σ H s ∧ D.nx ys σ H
  | .brk => ∃ σ H, MI X M ip ys σ H s ∧ D.bk ys σ H
  | .cont => ∃ σ H, MI X M ip ys σ H s ∧ D.ct ys σ H
  | .ret u => ∃ v σ H, MI X M ip ys σ H s ∧ RelV v u ∧ D.rt ys v H
structure MK (X : Cx) (M : Md) (ip : List (Addr × Obj)) (A : Around) (R : GenEnd) (c : Code) (fs : List Frame) (K : Flow → Sem PySem.Fin) (J : Value → Sem PySem.Fin) (D : GE) : Prop where
  ok : ∀ (n : Nat) (ys : List V) (s₀ s : Shared) (f : Flow), n + ys.length = sizeLine → MSP X M ip D ys f s → Seg (model X.prog X.w) A R (M.proto X D.yd) n s₀ c (K f) fs s
  exc : ∀ (n : Nat) (s₀ : Shared) (e : Value) (s : Shared), X.xe e s → Seg (model X.prog X.w) A R (M.proto X D.yd) n s₀ c (J e) fs s
structure MS (X : Cx) (st : Stmt) (t : TM) : Prop where
  run : ∀ (M : Md) (A : Around) (ip : List (Addr × Obj)) (R : GenEnd) (n : Nat) (ys : List V) (s₀ : Shared) (c : Code) (fs : List Frame) (K : Flow → Sem PySem.Fin) (J : Value → Sem PySem.Fin) (gd : Bool → Bool) (lv : List Value → List Value) (s : Shared) (σ : L2.St) (H : Hp) (D : GE),
    MC X M ip A c fs gd → n + ys.length = sizeLine → MK X M ip A R c fs K J D → MI X M ip ys σ H s → t D ys σ H →
    Seg (model X.prog X.w) A R (M.proto X D.yd) n s₀ c ((exec st X.env).wrap K J gd lv) fs s
structure MSs (X : Cx) (sts : List Stmt) (t : TM) : Prop where
  run : ∀ (M : Md) (A : Around) (ip : List (Addr × Obj)) (R : GenEnd) (n : Nat) (ys : List V) (s₀ : Shared) (c : Code) (fs : List Frame) (K : Flow → Sem PySem.Fin) (J : Value → Sem PySem.Fin) (gd : Bool → Bool) (lv : List Value → List Value) (s : Shared) (σ : L2.St) (H : Hp) (D : GE),
    MC X M ip A c fs gd → n + ys.length = sizeLine → MK X M ip A R c fs K J D → MI X M ip ys σ H s → t D ys σ H →
    Seg (model X.prog X.w) A R (M.proto X D.yd) n s₀ c ((execs sts X.env).wrap K J gd lv) fs s
section
variable {X : Cx} {st : Stmt} {rest : List Stmt}
/-! ### yield -/
/-! ### if -/
/-! ### for -/
/-- what for does behind a turn -/
def turnEnd (tg : Expr) (it : Value) (body : List Stmt) (env : Env) (f : Flow) : Sem PySem.Fin := match f with
  | .next | .cont => again (.forLoop tg it body [] env)
  | .brk => pure (.done .next)
  | .ret u => pure (.done (.ret u))
end
end FF
/-! Fivefault, part 69: list(g(..)) and the first item of g(..), g a generator def with for and if. -/
namespace FF
open PySem PySem.Spec PyProof.Rows L2 GenW
/-- the promise of a generator def of which the first item alone is taken: what is wanted at the end, of the first item, of an exception -/
abbrev SpF := List V → Hp → (Hp → Prop) → (V → Hp → Prop) → XK → Prop
def FEnd (P : Program) (w : World) (outer : List Env) (H : Hp) (s : Shared) (a : Addr) (g : Nat) (Qe : Hp → Prop) (E : XK) : GenEnd := fun _ _ r s1 =>
  ((r = .ok (.ret .none) ∨ r = .ok .next) ∧ ∃ H', s1.os = s.os ∧ AllBare s1.gens ∧ Un (frs outer) [] H H' s.heap s1.heap ∧ HOk P w H' s1.heap ∧ Qe H') ∨
  ∃ e, r = .error e ∧ (CX P w outer H s E e s1 ∧ s1.heap.IsGen a g)
def FItem (P : Program) (w : World) (outer : List Env) (H : Hp) (s : Shared) (Yd : V → Hp → Prop) : Protocol := fun _ _ v s1 _ =>
  ∃ x H', RelV x v ∧ s1.os = s.os ∧ AllBare s1.gens ∧ Un (frs outer) [] H H' s.heap s1.heap ∧ HOk P w H' s1.heap ∧ Yd x H'
def FMade (P : Program) (w : World) (k : Nat) (outer : List Env) (H : Hp) (s : Shared) (Qe : Hp → Prop) (Yd : V → Hp → Prop) (E : XK) (u : Value) (s' : Shared) : Prop :=
  ∃ (a : Addr) (g : Nat) (c : Code), u = .ref a ∧ s'.heap.IsGen a g ∧ s'.gens[g]? = some (.fresh c) ∧ s'.os = s.os ∧ AllBare s'.gens ∧ s'.heap.NoLimit ∧ (∀ b o, s.heap.get? b = some o → s'.heap.get? b = some o) ∧
    ∀ (A : Around) (s2 : Shared), Room k A → A.frames = some outer → (∀ b o, s'.heap.get? b = some o → s2.heap.get? b = some o) → s2.os = s.os → AllBare s2.gens →
      Seg (model P w) A (FEnd P w outer H s a g Qe E) (FItem P w outer H s Yd) sizeLine s2 c ((model P w).den c) [] s2
structure GFst (P : Program) (w : World) (K : PySem.W.Frag) (mg : Str → Option Value) (base : Heap) (k : Nat) (f : Addr) (fd : FuncData) (ps : List Str) (sp : SpF) : Prop where
  len : ∀ vs H Qe Yd E, sp vs H Qe Yd E → vs.length = ps.length
  run : ∀ (A : Around) (outer : List Env) (s : Shared) (H : Hp) (args : Args) (us : List Value) (vs : List V) (Qe : Hp → Prop) (Yd : V → Hp → Prop) (E : XK), Room k A → Env0 P w K mg base A outer s H → BindsTo s fd args (ps.zip us) → Vals vs us → sp vs H Qe Yd E →
    codeAny (model P w) A (.call (.ref f) args) (fun r s' => match r with
      | .ok (.ret u) => FMade P w k outer H s Qe Yd E u s'
      | _ => False) s
/-! ### the first item taken -/
structure PFst (X : Cx) (k : Nat) (e : Expr) (tg : L2.St → Hp → (Hp → Prop) → (V → Hp → Prop) → Prop) (E : XK) : Prop where
  run : ∀ (pins : List (Addr × Obj)) (s : Shared) (σ : L2.St) (H : Hp) (Qe : Hp → Prop) (Yd : V → Hp → Prop), Inv X pins σ H s → tg σ H Qe Yd → wpAny (model X.prog X.w) X.A (eval e X.env)
    (fun u s' => ∃ H1 sc, Inv X pins σ H1 sc ∧ FMade X.prog X.w k X.stack H1 sc Qe Yd E u s') X.xe s
end FF
/-! Fivefault, part 70: for x in g(..): return .. (the first item alone is taken). -/
namespace FF
open PySem PySem.Spec PyProof.Rows L2 GenW
end FF
/-! Fivefault, part 71: for inside a generator's body, by a walk. -/
namespace FF
open PySem PySem.Spec PyProof.Rows L2 GenW
/-- a generator def, of which the first item alone is taken -/
structure DefF (P : Program) (w : World) (K : PySem.W.Frag) (mg : Str → Option Value) (base : Heap) (x : Str) (k : Nat) (ps : List Str) (sp : SpF) : Prop where
  ex : ∃ (f : Addr) (fd : FuncData), GFst P w K mg base k f fd ps sp ∧ mg x = some (.ref f) ∧ PySem.W.keepIn K (.ref f) = true ∧ Binds K fd ps []
end FF
/-! Fivefault, part 72: exceptions that are no StopIteration. -/
namespace FF
open PySem PySem.Spec PyProof.Rows L2 GenW
end FF
/-! Fivefault, part 73: match: literals, names, alternatives, sequences over a tuple. -/
namespace FF
open PySem PySem.Spec PyProof.Rows L2
abbrev TP := V → L2.St → Hp → (Option (List V) → Hp → Prop) → Prop
abbrev TPs := List V → L2.St → Hp → (Option (List V) → Hp → Prop) → Prop
/-- what a pattern's match leaves: nothing bound, or the values of its names -/
def MP (X : Cx) (pins : List (Addr × Obj)) (σ : L2.St) (ns : List Str) (Q : Option (List V) → Hp → Prop) (r : Option (List (Str × Value))) (s' : Shared) : Prop := match r with
  | none => ∃ H', Inv X pins σ H' s' ∧ Q none H'
  | some bs => ∃ vs H', Inv X pins σ H' s' ∧ bs.map (·.1) = ns ∧ Vals vs (bs.map (·.2)) ∧ Q (some vs) H'
structure PPat (X : Cx) (p : Pattern) (ns : List Str) (t : TP) : Prop where
  run : ∀ (pins : List (Addr × Obj)) (s : Shared) (σ : L2.St) (H : Hp) (v : V) (u : Value) (Q : Option (List V) → Hp → Prop), Inv X pins σ H s → RelV v u → t v σ H Q →
    wpAny (model X.prog X.w) X.A (matchPattern p X.env u) (MP X pins σ ns Q) X.xe s
structure PPats (X : Cx) (ps : List Pattern) (ns : List Str) (t : TPs) : Prop where
  run : ∀ (pins : List (Addr × Obj)) (s : Shared) (σ : L2.St) (H : Hp) (vs : List V) (us : List Value) (Q : Option (List V) → Hp → Prop), Inv X pins σ H s → Vals vs us → t vs σ H Q →
    wpAny (model X.prog X.w) X.A (matchEach ps X.env us) (MP X pins σ ns Q) X.xe s
section
variable {X : Cx} {pos : Pos}
/-- names and their slots -/
inductive Bnd (X : Cx) : List Str → List Nat → Prop
  | nil : Bnd X [] []
  | cons {x : Str} {i : Nat} {ns : List Str} {is : List Nat} : X.N[i]? = some x → Loc X.env.scope x → (X.fn x = true ∨ X.env.scope.names.lookup x = some .local) → Bnd X ns is → Bnd X (x :: ns) (i :: is)
/-- the cases -/
structure PMs (X : Cx) (cs : List MatchCase) (t : V → TS) : Prop where
  run : ∀ (pins : List (Addr × Obj)) (s : Shared) (σ : L2.St) (H : Hp) (v : V) (u : Value) (first : Bool) (D : Ends), Inv X pins σ H s → RelV v u → t v D σ H → wpAny (model X.prog X.w) X.A (matchCases cs X.env u first) (SP X pins D) X.xe s
end
end FF
/-! Fivefault, part 74: an item of a list or a tuple. -/
namespace FF
open PySem PySem.Spec PyProof.Rows L2
end FF
/-! Fivefault, part 75: {e for .. in xs if ..} over a list or a tuple, texts. -/
namespace FF
open PySem PySem.Spec PyProof.Rows L2
end FF
/-! Fivefault, part 76: a law's def at its only call, from outside, where no repr is under way; repr of data. -/
namespace FF
open PySem PySem.Spec PyProof.Rows L2
/-- what a function does at the call from outside -/
structure FnTop (P : Program) (w : World) (K : PySem.W.Frag) (mg : Str → Option Value) (base : Heap) (CX : CXT) (f : Addr) (fd : FuncData) (ps : List Str) (sp : Sp) : Prop where
  run : ∀ (s : Shared) (H : Hp) (args : Args) (us : List Value) (vs : List V) (Q : VK) (E : XK), Env0 P w K mg base callerA [] s H → BindsTo s fd args (ps.zip us) → Vals vs us → sp vs H Q E →
    codeAny (model P w) callerA (.call (.ref f) args) (CR CX [] P w H s Q E) s
end FF
/-! Fivefault, part 77: sorted(d), d a dict with whole numbers as keys. -/
namespace FF
open PySem PySem.Spec PyProof.Rows L2
end FF
/-! Fivefault, part 78: sorted(xs), whole numbers, any number of them. -/
namespace FF
open PySem PySem.Spec PyProof.Rows L2
end FF
/-! Fivefault, part 79: isinstance of dicts, too; != of dicts and of lists of different lengths; [e for x in z], z a text, told by the place. -/
namespace FF
open PySem PySem.Spec PyProof.Rows L2
def dictD : PyData := .dict []
def listD : PyData := .list []
def rIsC (K : PySem.W.Frag) (T : String) (f : PyData → Bool) : List V → Hp → VK → Prop := fun xs H Q => rIsD K T f xs H Q ∨ (∃ (a : Addr) (kvs : List (Key × V)), xs = [.ref a, .ty T] ∧ H a = some (.dK kvs) ∧ Q (.bl (f dictD)) H) ∨ ∃ (a : Addr) (ys : List V), xs = [.ref a, .ty T] ∧ H a = some (.lst ys) ∧ Q (.bl (f listD)) H
theorem call_isC_ {X : Cx} {T : String} {f : PyData → Bool} (hk : ∀ d, kitB (tyN d) T = some (f d)) : CallR X (.builtin "isinstance") (rIsC X.K T f) := by
  intro pins s σ H xs us Q I r h
  rcases h with h | ⟨a, kvs, rfl, ha, q⟩ | ⟨a, ys, rfl, ha, q⟩
  · exact call_isD hk pins s σ H xs us Q I r h
  · exact call_isi pins s σ H _ us Q I r ⟨.ref a, .ty T, _, _, _, rfl, .ty T, .base (.dK ha), kit_ty (hk dictD), q⟩
  · exact call_isi pins s σ H _ us Q I r ⟨.ref a, .ty T, _, _, _, rfl, .ty T, .base (.lst ha), kit_ty (hk listD), q⟩
theorem call_isC {X : Cx} (K : PySem.W.Frag) {T : String} {f : PyData → Bool} (hk : ∀ d, kitB (tyN d) T = some (f d)) (h : X.K = K := by rfl) : CallR X (.builtin "isinstance") (rIsC K T f) := by subst h; exact call_isC_ hk
section
variable {te : TE} {vs : List Nat} {j D : Nat} {σ : L2.St} {H1 : Hp} {Qd : Hp → Prop}
end
end FF
/-! Fivefault, part 80: g(e, .., k = v), g a generator def; a def by two promises. -/
namespace FF
open PySem PySem.Spec PyProof.Rows L2
section
variable {X : Cx} {k n : Nat} {f : Addr} {fd : FuncData} {ps ks : List Str} {sp : SpG} {E : XK} {x : Str} {p pos : Pos} {e : Expr} {es : List Expr} {t : TA} {kws : List Keyword} {tk : TA} {g : List Value → List Value → List Value} {gV : List V → List V → List V}
end
end FF
/-! Fivefault, part 81: the Hook that walks the heap with a set of bits (less memory). -/
namespace FF
open PySem PySem.Spec PyProof.Rows L2
/-- the addresses of a list that are not in the set m yet (ahead of acc), and the set with them -/
def freshA : List Addr → Nat → List Addr → List Addr × Nat
  | [], m, acc => (acc, m)
  | a :: as, m, acc => match Nat.beq (Nat.land (Nat.shiftRight m a) 1) 1 with
    | true => freshA as m acc
    | false => freshA as (Nat.lor m (Nat.shiftLeft 1 a)) (a :: acc)
def refsA (g : Addr → Option Obj) (as : List Addr) : List Addr := as.flatMap fun a => match g a with
  | some o => He.refsD o
  | none => []
/-- what is reached in n rounds; f: the last round's, m: the set of all so far -/
def reachA (g : Addr → Option Obj) : Nat → List Addr × Nat → List Addr
  | 0, p => p.1
  | n + 1, p => p.1 ++ reachA g n (freshA (refsA g p.1) p.2 [])
def asB (g : Addr → Option Obj) (n : Nat) : List Addr := reachA g n ([mainGlobals, PySem.cStatics], Nat.lor (Nat.shiftLeft 1 mainGlobals) (Nat.shiftLeft 1 PySem.cStatics))
def obsW (n : Nat) (fa : List He.Fa) (fn : List He.DefD) (fp : List GetD) (tf : List He.Defn) (ex : PySem.W.Frag → Bool) (g : Addr → Option Obj) : AlZ :=
  (fun K => ((He.obsT fa fn [] K, ex K && He.tabsB g tf K), (fp.all fun q => q.ok K, fp.map fun q => fnWa K (q.ad K)))) (He.frT g (asB g n))
theorem saysW_of {n : Nat} {fa : List He.Fa} {fn : List He.DefD} {fp : List GetD} {tf : List He.Defn} {ex : PySem.W.Frag → Bool} {w : World} {h : Heap} (e : obsW n fa fn fp tf ex h.get? = valZ fn fp w) : SaysZ fa fn fp tf ex w h (He.frT h.get? (asB h.get? n)) := by
  have e1 : ((He.obsT fa fn [] (He.frT h.get? (asB h.get? n)), ex (He.frT h.get? (asB h.get? n)) && He.tabsB h.get? tf (He.frT h.get? (asB h.get? n))) : He.AlX) = He.valX fn [] w := congrArg (fun z : AlZ => z.1) e
  exact ⟨saysY_of e1, congrArg (fun z : AlZ => z.2.1) e, congrArg (fun z : AlZ => z.2.2) e⟩
end FF
/-! Fivefault, part 82: x[i:] of a text or a tuple, for over it; while c and (x := e) is not None. -/
-- imports HandS.Flow
namespace FF
open PySem PySem.Spec PyProof.Rows L2
section

end
end FF
/-! Fivefault, part 83: dict(zip(xs, ys)), xs a list of texts. -/
namespace FF
open PySem PySem.Spec PyProof.Rows L2
end FF
/-! Fivefault, part 84: a dict of texts at the top: the run by two cases, a Hook that tells the dict, in and [] of it. -/
namespace FF
open PySem PySem.Spec PyProof.Rows L2
/-- a world with one answer written in -/
def setF (w : World) (b : Bool) : World := { w with params := { w.params with followText := fun t => match decide (t = "special-get-raises") with | true => b | false => w.params.followText t } }
theorem setF_eq (w : World) : setF w (w.params.followText "special-get-raises") = w := by
  obtain ⟨d, p⟩ := w
  have e : (fun t => match decide (t = "special-get-raises") with | true => p.followText "special-get-raises" | false => p.followText t) = p.followText := funext fun t => by
    cases h : decide (t = "special-get-raises") with
    | true => rw [of_decide_eq_true h]
    | false => rfl
  show World.mk d { p with followText := _ } = World.mk d p
  rw [e]
/-! ### a written dict of ints with text keys -/
structure KTab (K : PySem.W.Frag) (w : World) (d : Addr) (kvs : List (Str × Int)) : Prop where
  kd : ∃ es n, KDict K w d es n
  yes : ∀ q ∈ kvs, ∃ u, PySem.W.nsIn K d q.1 = some (some u) ∧ RelV (.int q.2) u
  no : ∀ z, (∀ q ∈ kvs, q.1 ≠ z) → PySem.W.nsIn K d z = some none
theorem dicW_at {K : PySem.W.Frag} {P : Params} {a : Addr} {ks : List Str} (h : He.dicW K a = some (He.keysIn P ks)) : ∃ es n, K.lookup a = some ⟨.type "dict", none, .dict es n, #[]⟩ ∧ es.toList.map He.keyOf = He.keysIn P ks := by
  unfold He.dicW at h
  cases q : K.lookup a with
  | none =>
    rw [q] at h
    cases h
  | some o =>
    obtain ⟨oc, od, dt, osl⟩ := o
    rw [q] at h
    cases oc with
    | type c =>
      cases od with
      | none =>
        cases dt with
        | dict es n =>
          have h1 : (match decide (c = "dict") && (osl.isEmpty && !(a == sysModules)) with
            | true => some (es.toList.map He.keyOf)
            | false => none) = some (He.keysIn P ks) := h
          cases z : decide (c = "dict") && (osl.isEmpty && !(a == sysModules)) with
          | false =>
            rw [z] at h1
            cases h1
          | true =>
            rw [z] at h1
            obtain ⟨z1, z2⟩ := He.ba z
            obtain ⟨z3, _⟩ := He.ba z2
            have e1 : c = "dict" := of_decide_eq_true z1
            have e2 : osl = #[] := Array.isEmpty_iff.mp z3
            subst e1 e2
            exact ⟨es, n, rfl, Option.some.inj h1⟩
        | _ => cases h
      | some b => cases dt <;> cases h
    | _ => cases od <;> cases dt <;> cases h
theorem keys_lit {P : Params} : ∀ {l : List DictEntry} {ks : List Str}, l.map He.keyOf = He.keysIn P ks → ∀ e ∈ l, ∃ k ∈ ks, ∃ t, e.key = .str k t
  | [], _, _, _, he => by cases he
  | e :: r, [], h, _, _ => by cases h
  | e :: r, k :: ks, h, e', he => by
    have h1 : He.keyOf e :: r.map He.keyOf = some (k, PyData.keyHash P k) :: He.keysIn P ks := h
    injection h1 with h2 h3
    rcases List.mem_cons.mp he with rfl | he
    · unfold He.keyOf at h2
      split at h2
      · rename_i x t q
        have h4 := Option.some.inj h2
        obtain ⟨h5, _⟩ := Prod.mk.inj h4
        exact ⟨k, List.mem_cons_self, t, by rw [q, h5]⟩
      · cases h2
    · obtain ⟨k', hk, t, e⟩ := keys_lit h3 e' he
      exact ⟨k', List.mem_cons_of_mem _ hk, t, e⟩
theorem ktab_of {K : PySem.W.Frag} {w : World} {d : Addr} {kvs : List (Str × Int)} (h : He.dicW K d = some (He.keysIn w.params (kvs.map Prod.fst))) (hv : He.valsB K d (kvs.map fun q => (q.1, He.Dv.int q.2)) = true) : KTab K w d kvs := by
  refine ⟨He.dicW_ok h, fun q hq => ?_, fun z hz => ?_⟩
  · exact He.valsB_ok hv (List.mem_map.mpr ⟨q, hq, rfl⟩)
  · obtain ⟨es, n, hl, hk⟩ := dicW_at h
    have lit := keys_lit hk
    unfold PySem.W.nsIn
    rw [hl]
    have h1 : es.toList.find? (·.key.isStr z) = none := List.find?_eq_none.mpr fun e he hs => by
      obtain ⟨k, hkm, t, ek⟩ := lit e he
      obtain ⟨q, hq, rfl⟩ := List.mem_map.mp hkm
      rw [ek] at hs
      exact hz q hq (by simpa [Value.isStr] using hs)
    have h2 : (es.toList.any (·.refKey)) = false := List.any_eq_false.mpr fun e he hs => by
      obtain ⟨k, hkm, t, ek⟩ := lit e he
      rw [show e.refKey = false by unfold DictEntry.refKey; rw [ek]] at hs
      cases hs
    dsimp only
    rw [h1, h2] <;> rfl
def tabHas (kvs : List (Str × Int)) (z : Str) : Bool := kvs.any fun q => decide (q.1 = z)
def rTabNot (d : Addr) (kvs : List (Str × Int)) : R2 := fun x y H Q => ∃ z : Str, x = .str z ∧ y = .ref d ∧ Q (.bl (!tabHas kvs z)) H
def rTabIx (d : Addr) (kvs : List (Str × Int)) : R2 := fun x y H Q => ∃ q ∈ kvs, x = .ref d ∧ y = .str q.1 ∧ Q (.int q.2) H
theorem op_tabNot {X : Cx} {d : Addr} {kvs : List (Str × Int)} (T : KTab X.K X.w d kvs) : OpR X (compareOp .NotIn) (rTabNot d kvs) := by
  intro pins s σ H x y v u Q I rx ry h
  obtain ⟨z, rfl, rfl, q⟩ := h
  obtain ⟨es, n, D⟩ := T.kd
  by_cases hz : ∃ q ∈ kvs, q.1 = z
  · obtain ⟨p, hp, rfl⟩ := hz
    obtain ⟨u0, e, _⟩ := T.yes p hp
    have hh : tabHas kvs p.1 = true := List.any_eq_true.mpr ⟨p, hp, decide_eq_true rfl⟩
    rw [hh] at q
    exact op_notIn_kd D pins s σ H _ _ v u Q I rx ry ⟨_, _, rfl, rfl, e, q⟩
  · have e := T.no z fun p hp e => hz ⟨p, hp, e⟩
    have hh : tabHas kvs z = false := List.any_eq_false.mpr fun p hp h => hz ⟨p, hp, of_decide_eq_true h⟩
    rw [hh] at q
    exact op_notIn_kd D pins s σ H _ _ v u Q I rx ry ⟨_, _, rfl, rfl, e, q⟩
theorem ix_tab {X : Cx} {d : Addr} {kvs : List (Str × Int)} (T : KTab X.K X.w d kvs) : IxR X (rTabIx d kvs) := by
  intro value slice pins s σ H x y v u Q I rx ry h hs
  obtain ⟨p, hp, rfl, rfl, q⟩ := h
  obtain ⟨es, n, D⟩ := T.kd
  obtain ⟨u0, e, r⟩ := T.yes p hp
  cases rx
  obtain ⟨t, rfl⟩ := ry
  refine tail_any (kd_type D I) PySem.F.slot_dict_getitem.lookup ?_ hs
  exact wpAny_getItem_of (PySem.strKind_is X.prog X.w p.1 t) (PySem.W.mapOf_K (prog := X.prog) I.kIn D.at_ D.lit) (PySem.W.find_K D.at_ e) ⟨.int p.2, H, I.tok _, r, q⟩
/-! ### the Hook -/
abbrev KT : Type := Str × List (Str × Int)
abbrev AlV : Type := AlZ × List (Option (List (Option (Str × Int))))
structure SaysV (fa : List He.Fa) (fn : List He.DefD) (fp : List GetD) (ts : List KT) (tf : List He.Defn) (ex : PySem.W.Frag → Bool) (w : World) (h : Heap) (K : PySem.W.Frag) : Prop where
  z : SaysZ fa fn fp tf ex w h K
  d : ts.map (fun t => He.dicW K (He.ga K t.1)) = ts.map fun t => some (He.keysIn w.params (t.2.map Prod.fst))
theorem SaysV.tab {fa : List He.Fa} {fn : List He.DefD} {fp : List GetD} {ts : List KT} {tf : List He.Defn} {ex : PySem.W.Frag → Bool} {w : World} {h : Heap} {K : PySem.W.Frag} (c : SaysV fa fn fp ts tf ex w h K) (i : Nat) {t : KT} (hv : He.valsB K (He.ga K t.1) (t.2.map fun q => (q.1, He.Dv.int q.2)) = true) (hi : ts[i]? = some t := by rfl) : KTab K w (He.ga K t.1) t.2 := by
  have e2 : (ts.map fun t => He.dicW K (He.ga K t.1))[i]? = (ts.map fun t => some (He.keysIn w.params (t.2.map Prod.fst)))[i]? := by rw [c.d]
  rw [List.getElem?_map, List.getElem?_map, hi] at e2
  exact ktab_of (Option.some.inj e2) hv
def obsV (n : Nat) (fa : List He.Fa) (fn : List He.DefD) (fp : List GetD) (ts : List KT) (tf : List He.Defn) (ex : PySem.W.Frag → Bool) (g : Addr → Option Obj) : AlV :=
  (fun K => (((He.obsT fa fn [] K, ex K && He.tabsB g tf K), (fp.all fun q => q.ok K, fp.map fun q => fnWa K (q.ad K))), ts.map fun t => He.dicW K (He.ga K t.1))) (He.frT g (asB g n))
def valVV (fn : List He.DefD) (fp : List GetD) (ts : List KT) (w : World) : AlV := (valZ fn fp w, ts.map fun t => some (He.keysIn w.params (t.2.map Prod.fst)))
theorem saysV_of {n : Nat} {fa : List He.Fa} {fn : List He.DefD} {fp : List GetD} {ts : List KT} {tf : List He.Defn} {ex : PySem.W.Frag → Bool} {w : World} {h : Heap} (e : obsV n fa fn fp ts tf ex h.get? = valVV fn fp ts w) : SaysV fa fn fp ts tf ex w h (He.frT h.get? (asB h.get? n)) :=
  ⟨saysW_of (congrArg (fun z : AlV => z.1) e), congrArg (fun z : AlV => z.2) e⟩
def hookV (n : Nat) (fa : List He.Fa) (fn : List He.DefD) (fp : List GetD) (ts : List KT) (tf : List He.Defn) (ex : PySem.W.Frag → Bool) : PySem.W.Hook where
  α := AlV
  obs := fun s => obsV n fa fn fp ts tf ex s.heap.get?
  val := fun w => valVV fn fp ts w
  says := fun w h => ∃ K : PySem.W.Frag, K.In h ∧ SaysV fa fn fp ts tf ex w h K
  of := fun _ _ e => ⟨_, He.frT_in, saysV_of e⟩
  keeps := fun _ _ _ ⟨K, hK, c⟩ k => ⟨K, PySem.W.Frag.In.keeps hK k, ⟨⟨⟨c.z.x.t, c.z.x.more, c.z.x.hd, c.z.x.out, fun p hp => k _ _ (c.z.x.empty p hp)⟩, c.z.b, c.z.v⟩, c.d⟩⟩
theorem obsV_eq {n : Nat} {fa : List He.Fa} {fn : List He.DefD} {fp : List GetD} {ts : List KT} {tf : List He.Defn} {ex : PySem.W.Frag → Bool} {g : Addr → Option Obj} {s : Shared} (h : ∀ a, g a = s.heap.get? a) : obsV n fa fn fp ts tf ex g = (hookV n fa fn fp ts tf ex).obs s := by
  have e : g = s.heap.get? := funext h
  rw [e] <;> rfl
end FF
-- imports KE.KSuperObj
-- imports HandS.More
/-! Fivefault, part 85: a method that begins with super().__init__(..). -/
namespace FF
open PySem PySem.Spec PyProof.Rows L2
/-- the frame of a def with one cell: its class -/
abbrev sEnv (qual : Str) (scope : Scope) (L f : Addr) (cd : Value) (cc : Addr) : Env := PySem.W.envX qual scope L f cd [("__class__", cc)]
/-- names of such a def: its own are local, __class__ is free, super is global -/
structure SupScope (N P : List Str) (sc : Scope) : Prop where
  kind : sc.kind = .function
  co : sc.isCoroutine = false
  gen : sc.isGenerator = false
  nd : N.Nodup
  pre : N.take P.length = P
  par : ∀ x ∈ P, sc.names.lookup x = some .local
  nocell : ∀ y ∈ sc.names, y.2 ≠ .cell
  free : ∀ y ∈ sc.names, y.2 = .free → y.1 = "__class__"
  sup : sc.names.lookup ("super" : Str) = some .globalImplicit
  cls : sc.names.lookup ("__class__" : Str) = some .free
/-- such a def as it stands behind the top -/
structure FunS (P : Program) (K : PySem.W.Frag) (x qual : Str) (params : Arguments) (body : List Stmt) (scope : Scope) (f cc D : Addr) (fd : FuncData) : Prop where
  ex : ∃ (oc : Value) (od : Option Addr) (kV doc pm : Value) (an : Option Addr) (cda : Addr) (ct : Value) (osl : Array (Option Value)) (ccl : Value) (cdd : Option Addr) (vs : Array Value) (ccs : Array (Option Value)) (file : Str) (tf : Tok),
    fd = PySem.W.fnX x qual params body scope [("__class__", cc)] .none kV doc pm an (.ref cda) ct ∧ K.lookup f = some ⟨oc, od, .func fd, osl⟩ ∧ PySem.W.codeIn K (.ref cda) qual = true ∧
    K.lookup cda = some ⟨ccl, cdd, .fields vs, ccs⟩ ∧ vs[2]? = some (.str file tf) ∧ ((P.main.file : Str) == file) = true
  cell : ∃ (cl : Value) (cld : Option Addr) (csl : Array (Option Value)), K.lookup cc = some ⟨cl, cld, .cell (some (.ref D)), csl⟩
/-- the context of its body -/
def cxS (CX : CXT) (P : Program) (w : World) (K : PySem.W.Frag) (mg : Str → Option Value) (base : Heap) (N : List Str) (qual : Str) (scope : Scope) (f : Addr) (cd : Value) (cc : Addr) (A : Around) (outer : List Env) (s : Shared) (H : Hp) (E : XK) : Cx where
  prog := P
  w := w
  K := K
  mg := mg
  base := base
  A := A.deeper (sEnv qual scope s.heap.objs.size f cd cc)
  N := N
  s_0 := s
  H_0 := H
  env := sEnv qual scope s.heap.objs.size f cd cc
  outer := outer
  stack := sEnv qual scope s.heap.objs.size f cd cc :: outer
  ex := []
  calm := true
  fn := fun x => x != "__class__"
  pn := []
  xe := fun e s' => wpAny (model P w) (A.deeper (sEnv qual scope s.heap.objs.size f cd cc)) (leaving (sEnv qual scope s.heap.objs.size f cd cc) e) (fun _ s'' => CX outer H s E e s'') (fun e' s'' => CX outer H s E e' s'') s'
theorem one_cell {x : Str} {cc c : Addr} (h : ([("__class__", cc)] : List (Str × Addr)).lookup x = some c) : x = "__class__" ∧ c = cc := by
  rw [List.lookup_cons] at h
  by_cases e : (x == ("__class__" : Str)) = true
  · rw [e] at h
    cases h
    exact ⟨beq_iff_eq.mp e, rfl⟩
  · rw [Bool.eq_false_iff.mpr e] at h
    cases h
theorem lookup_nodup {x : Str} {u : Value} : ∀ {l : List (Str × Value)}, (l.map Prod.fst).Nodup → (x, u) ∈ l → l.lookup x = some u
  | [], _, h => nomatch h
  | (y, v) :: r, hn, h => by
    rw [List.lookup_cons]
    rw [List.map_cons] at hn
    have h1 := List.nodup_cons.mp hn
    rcases List.mem_cons.mp h with e | h2
    · cases e
      rw [beq_self_eq_true]
    · have hne : (x == y) = false := by
        rw [beq_eq_false_iff_ne]
        rintro rfl
        exact h1.1 (List.mem_map.mpr ⟨(x, u), h2, rfl⟩)
      rw [hne]
      exact lookup_nodup h1.2 h2
theorem zip_rev {ps : List Str} {us : List Value} {i : Nat} {x : Str} {u : Value} (hn : ps.Nodup) (hl : us.length = ps.length) (hp : ps[i]? = some x) (hu : us[i]? = some u) : (ps.zip us).reverse.lookup x = some u := by
  refine lookup_nodup ?_ ?_
  · rw [List.map_reverse, (List.reverse_perm _).nodup_iff, show (ps.zip us).map Prod.fst = ps from by rw [List.map_fst_zip (by omega)]]
    exact hn
  · rw [List.mem_reverse]
    exact List.mem_iff_getElem?.mpr ⟨i, by rw [List.getElem?_zip_eq_some]; exact ⟨hp, hu⟩⟩
section
variable {CX : CXT} {P : Program} {w : World} {K : PySem.W.Frag} {mg : Str → Option Value} {base : Heap} {N ps : List Str} {x qual : Str} {params : Arguments} {body : List Stmt} {scope : Scope} {f cc D : Addr} {fd : FuncData} {cd : Value} {A : Around} {outer : List Env} {s : Shared} {H : Hp} {E : XK} {us : List Value} {vs : List V}
theorem inv_startS (S : SupScope N ps scope) {cl : Value} {cld : Option Addr} {csl : Array (Option Value)} (hc : K.lookup cc = some ⟨cl, cld, .cell (some (.ref D)), csl⟩) (hd : A.handled = none) (e0 : Env0 P w K mg base A outer s H) (hl : vs.length = ps.length) (r : Vals vs us)
    {h₁ : Heap} {tk : Nat} (hns : h₁.Ns s.heap.objs.size fun y => (ps.zip us).reverse.lookup y) (kp : ∀ b o, s.heap.get? b = some o → h₁.get? b = some o) :
    Inv (cxS CX P w K mg base N qual scope f cd cc A outer s H E) [] (start N vs) H { s with heap := h₁, toks := tk } := by
  have hpl : ps.length ≤ N.length := by have := congrArg List.length S.pre; rw [List.length_take] at this; omega
  have noA : ∀ b : Addr, b ∉ (cxS CX P w K mg base N qual scope f cd cc A outer s H E).ex := fun b z => absurd (show b ∈ ([] : List Addr) from z) (by simp)
  have hb : base.get? cc = some ⟨cl, cld, .cell (some (.ref D)), csl⟩ := e0.mod.kin _ _ hc
  have hul : us.length = ps.length := by rw [← r.length]; exact hl
  have ndP : ps.Nodup := by rw [← S.pre]; exact S.nd.sublist (List.take_sublist _ _)
  refine ⟨⟨e0.mod, S.kind, rfl, rfl, Nat.le_refl _, fun y z c h1 h2 => ?_, fun y hy => ?_, fun y c h1 h2 => ?_, fun _ => hd, Around.frames_deeper e0.frames, .inr ⟨rfl, rfl⟩, fun b z => absurd z (noA b), e0.bs, e0.bsz, fun b _ _ => noA b, fun b z => absurd z (noA b), e0.funs, e0.frf⟩,
    rfl, e0.bare, Un.kept kp, ⟨_, hns, fun i y v h1 h2 h3 => ?_⟩, fun y c h => ?_, e0.hok.fresh (Nat.le_refl _), fun y c h => ?_, fun p hp => absurd (show p ∈ ([] : List (Addr × Obj)) ++ [] from hp) (by simp), e0.hok.kept kp, ?_⟩
  · rw [(one_cell h1).1, (one_cell h2).1]
  · have hy : scope.names.lookup y = some .cell ∨ scope.names.lookup y = some .free := hy
    rcases hy with hy | hy
    · exact absurd rfl (S.nocell _ (PySem.mem_of_lookup hy))
    · have := S.free _ (PySem.mem_of_lookup hy) rfl
      refine ⟨cc, ?_⟩
      show ([("__class__", cc)] : List (Str × Addr)).lookup y = some cc
      rw [show y = "__class__" from this] <;> rfl
  · have h1 : (y != ("__class__" : Str)) = true := h1
    rw [(one_cell h2).1] at h1
    cases h1
  · have hi : i < vs.length := by
      unfold L2.start at h2
      by_cases hi : i < vs.length
      · exact hi
      · rw [List.getElem?_append_right (by simpa using hi)] at h2
        rw [List.getElem?_replicate] at h2
        split at h2 <;> cases h2
    have ha : vs[i]? = some v := by
      unfold L2.start at h2
      rw [List.getElem?_append_left (by simpa using hi), List.getElem?_map] at h2
      cases e : vs[i]? with
      | none => rw [e] at h2; cases h2
      | some a => rw [e] at h2; cases h2; rfl
    obtain ⟨u, hu, rv⟩ := r.get ha
    have hp : ps[i]? = some y := by
      rw [← S.pre, List.getElem?_take_of_lt (by omega)]; exact h1
    exact ⟨u, rv, .inl ⟨S.par y (List.mem_of_getElem? hp), zip_rev ndP hul hp hu⟩⟩
  · exact ⟨_, _, kp _ _ (e0.bs _ _ (by rw [(one_cell h).2]; exact hb)).1, rfl⟩
  · rw [(one_cell h).2]
    exact (e0.bs _ _ hb).2
  · unfold L2.start
    show _ = N.length
    rw [List.length_append, List.length_map, List.length_replicate]
    omega
end
/-- what the class and its base tell; f2: the base's __init__ -/
structure SupOf (P : Program) (K : PySem.W.Frag) (mg : Str → Option Value) (D f2 : Addr) : Prop where
  cls : ∃ cdD, PySem.W.clsIn K D = some cdD
  sub : PySem.W.mroIn K D (.ref D) = some true
  sup : PySem.W.ks_superIn K D D "__init__" = some (some (.ref f2))
  fn : PySem.W.fnIn K f2 = true
  ty : PySem.W.typeIn K (.ref f2) = some (.type "function")
  st : PySem.W.nsIn K PySem.cStatics "thirdparty.any" = some none
  no : mg "super" = none
  top : (P.main.scope.names.lookup ("super" : Str)).isSome = false
section
variable {CX : CXT} {P : Program} {w : World} {K : PySem.W.Frag} {mg : Str → Option Value} {base : Heap} {N ps ps2 : List Str} {x qual : Str} {params : Arguments} {scope : Scope} {f cc D f2 : Addr} {fd fd2 : FuncData} {k : Nat} {sp sp2 : Sp} {e : Expr} {es : List Expr} {rest : List Stmt} {p0 p1 p2 p3 p4 : Pos} {ar : Arg}
theorem FunS.ok (F : FunS P K x qual params (.Expr (.Call (.Attribute (.Call (.Name "super" p0) [] [] p1) "__init__" p2) (e :: es) [] p3) p4 :: rest) scope f cc D fd) (S : SupScope N ps scope) (U : SupOf P K mg D f2)
    (har : (params.posonlyargs ++ params.args).head? = some ar) (har0 : ps[0]? = some ar.arg) (F2 : FnOk P w K mg base CX k f2 fd2 ps2 sp2) (hb2 : Binds K fd2 ps2 [])
    (hst : ∀ env : Env, starEach (e :: es) env = (false, eval e env) :: starEach es env) (hpl : ∀ env : Env, (backTo p3 (starEach es env)).any (·.1) = false)
    {pl : Env → Sem Bool} (hev : ∀ env : Env, eval (.Call (.Attribute (.Call (.Name "super" p0) [] [] p1) "__init__" p2) (e :: es) [] p3) env = (do
      let ov ← attributeBase (.Call (.Name "super" p0) [] [] p1) "__init__" env (eval (.Call (.Name "super" p0) [] [] p1) env)
      standAt p2.atName
      let (f, first) ← holding [ov] (getMethod ov "__init__" (pl env))
      callWith p3 f first (backTo p3 (starEach (e :: es) env)) []))
    (len : ∀ vs H Q E, sp vs H Q E → vs.length = ps.length)
    (hbody : ∀ (cdv : Value) (A : Around) (outer : List Env) (s : Shared) (H : Hp) (vs : List V) (Q : VK) (E : XK), Room k (A.deeper (sEnv qual scope s.heap.objs.size f cdv cc)) → sp vs H Q E →
      ∃ (a dx : Addr) (fs : List (Str × V)) (E2 : XK) (ta : TA) (t : TS), vs[0]? = some (.ref a) ∧ H a = some (.ins D dx fs) ∧ Passes CX (cxS CX P w K mg base N qual scope f cdv cc A outer s H E) E2 ∧
        PA (cxS CX P w K mg base N qual scope f cdv cc A outer s H E) (e :: es) ta ∧ PSs (cxS CX P w K mg base N qual scope f cdv cc A outer s H E) rest t ∧
        ta (L2.start N vs) H fun us H1 => sp2 (.ref a :: us) H1 (fun _ H2 => t { nx := fun _ H' => Q .non H', rt := Q } (L2.start N vs) H2) E2) : FnOk P w K mg base CX (k + 1) f fd ps sp := by
  refine ⟨len, fun A outer s H args us vs Q E hr e0 hb r hsp => ?_⟩
  have hl := len _ _ _ _ hsp
  have KX : K.In s.heap := e0.mod.kin.keeps fun b o e => (e0.bs b o e).1
  have lim : s.heap.NoLimit := e0.mod.nolimit.keeps fun b o e => (e0.bs b o e).1
  obtain ⟨oc, od, kV, doc, pm, an, cda, ct, osl, ccl, cdd, vs2, ccs, file, tf, rfl, lk, hcd, hcode, hvs, hfile⟩ := F.ex
  obtain ⟨cl, cld, csl, hcell⟩ := F.cell
  obtain ⟨cdD, hcdD⟩ := U.cls
  have hul : us.length = ps.length := by rw [← r.length]; exact hl
  refine PySem.ks_codeAny_call_defAt (binds := ps.zip us) hr.depth (KX _ _ lk) rfl lim (PySem.W.codeRec_of KX hcd) rfl hb S.nocell (fun y hy => S.par y.1 (List.of_mem_zip hy).1) (fun h₀ hns kp => ?_) S.co S.gen S.kind
  obtain ⟨a, dx, fs, E2, ta, t, hv0, hia, hx, hta, ht, hq⟩ := hbody (.ref cda) A outer s H vs Q E (hr.deeper _) hsp
  have I0 : Inv (cxS CX P w K mg base N qual scope f (.ref cda) cc A outer s H E) [] (L2.start N vs) H { s with heap := h₀, toks := s.toks + (ps.zip us).length } := inv_startS S hcell hr.hd e0 hl r hns kp
  have K0 : K.In h₀ := I0.kIn
  refine PySem.ks_wpAt_mono (Q := SP (cxS CX P w K mg base N qual scope f (.ref cda) cc A outer s H E) [] { nx := fun _ H' => Q .non H', rt := Q }) (E := (cxS CX P w K mg base N qual scope f (.ref cda) cc A outer s H E).xe) ?_ (fun fl s' hs => ?_) (fun _ _ h => h)
  rotate_left
  · have fin : ∀ {σ' : L2.St} {H' : Hp} {v : V} {u : Value}, Inv (cxS CX P w K mg base N qual scope f (.ref cda) cc A outer s H E) [] σ' H' s' → RelV v u → Q v H' → CE outer P w H s Q u s' :=
      fun {σ' H' v u} J rv q => ⟨v, H', J.os, J.bare, J.base, J.hok, rv, q⟩
    cases fl with
    | ret u =>
      obtain ⟨v, σ', H', J, rv, q⟩ := hs
      exact fin J rv q
    | next =>
      obtain ⟨σ', H', J, q⟩ := hs
      exact fin (v := V.non) (u := Value.none) J rfl q
    | brk =>
      obtain ⟨_, _, _, q⟩ := hs
      exact False.elim q
    | cont =>
      obtain ⟨_, _, _, q⟩ := hs
      exact False.elim q
  have hint : interactive (sEnv qual scope s.heap.objs.size f (.ref cda) cc) = false := by
    show (scope.kind == .module && _) = false
    rw [S.kind] <;> rfl
  refine PySem.ks_wpAt_execs_cons (PySem.ks_wpAt_Expr_any (PySem.ks_wpAt_MethodCall (PySem.ks_wpAt_super_base S.sup S.cls (by decide) rfl (K0 _ _ lk) rfl har rfl (K0 _ _ hcode) rfl hvs hfile U.top ?_) (hev _)) (hi := hint))
  obtain ⟨mb, b1, b2⟩ := I0.mod.blt
  refine PySem.W.ks_loadName_global S.kind S.sup (Calls.loadGlobal_builtin (I0.mod.glob.keeps I0.bk) U.no (b1.keeps I0.bk) ((b2 "super" (by decide)).trans (show bootBuiltins "super" = some (.type "super") by rfl)) ⟨rfl, ?_⟩)
  refine wpAny_loadName_free S.kind S.cls rfl ⟨_, K0 _ _ hcell, rfl⟩ ?_
  obtain ⟨m, hn, hlk⟩ := I0.loc
  have hp0 : (ps.length : Nat) ≠ 0 := fun z => by
    rw [List.length_eq_zero_iff.mp z] at har0
    cases har0
  have hN0 : N[0]? = some ar.arg := by
    rw [← S.pre, List.getElem?_take_of_lt (by omega)] at har0
    exact har0
  have hs0 : (L2.start N vs)[0]? = some (some (V.ref a)) := by
    unfold L2.start
    rw [List.getElem?_append_left (by rw [List.length_map]; omega), List.getElem?_map, hv0] <;> rfl
  have hloc := S.par _ (List.mem_of_getElem? har0)
  obtain ⟨u, rv, look⟩ := hlk 0 ar.arg (.ref a) hN0 hs0 (.inl hloc)
  obtain rfl : u = Value.ref a := rv
  have hm : m ar.arg = some (.ref a) := by
    rcases look with ⟨_, hm⟩ | ⟨hk, _⟩
    · exact hm
    · have hk : scope.names.lookup ar.arg = some .cell ∨ scope.names.lookup ar.arg = some .free := hk
      rw [hloc] at hk
      rcases hk with hk | hk <;> cases hk
  refine wpAny_loadName_local S.kind hloc hn hm ?_
  obtain ⟨oD, hD1, hD2⟩ : ∃ oD, h₀.get? D = some oD ∧ oD.data = .cls cdD := by
    unfold PySem.W.clsIn at hcdD
    split at hcdD
    · rename_i c d cd' sl ho
      cases hcdD
      exact ⟨_, K0 _ _ ho, rfl⟩
    · cases hcdD
  refine PySem.ks_wpAny_isType_cls hD1 hD2 ⟨rfl, ?_⟩
  obtain ⟨mA, O, _, _, _, _⟩ := ins_get I0.hok hia
  obtain ⟨odA, J, _⟩ := O.look
  refine PySem.ks_wpAny_call_super hD1 hD2 J.at_ J.cls (fun c e => ?_) (PySem.W.looks_mroIn K0 U.sub) (fun h' e1 kp1 => ?_)
  · have := J.no
    unfold PySem.W.notCls at this
    rw [e] at this
    exact Bool.noConfusion this
  have I1 := I0.kept (t' := s.toks + (ps.zip us).length) kp1
  have K1 : K.In h' := I1.kIn
  obtain ⟨of2, hof, hofc⟩ : ∃ of2, h'.get? f2 = some of2 ∧ of2.cls = .type "function" := by
    have ht' : (K.lookup f2).map (·.cls) = some (.type "function") := U.ty
    cases z : K.lookup f2 with
    | none => rw [z] at ht'; cases ht'
    | some o2 => rw [z] at ht'; exact ⟨o2, K1 _ _ z, Option.some.inj ht'⟩
  have hal : PySem.W.alongIn K "__init__" ((cdD.mro.dropWhile (· != .ref D)).drop 1) = some (some (.ref f2)) := by
    have := U.sup
    unfold PySem.W.ks_superIn at this
    rw [hcdD] at this
    exact this
  refine PySem.ks_wpAny_getMethod_super (l₀ := cdD.mro) e1 (PySem.W.looks_opaque K1 U.st) (fun A Q E s k q => wpAny_bind ((PySem.W.looks_clsIn K1 hcdD) A _ E s k (wpAny_pure q))) rfl K1 hal hof hofc (PySem.W.ks_ne K0 J hcdD) (by decide) ?_
  have I2 := (I1.kept (h' := h'.push (PySem.W.methodObj (.ref f2) (.ref a))) (t' := s.toks + (ps.zip us).length + 1) fun b u z => Heap.get?_push_of_some _ z)
  have I2p : Inv (cxS CX P w K mg base N qual scope f (.ref cda) cc A outer s H E) [(h'.objs.size, PySem.W.methodObj (.ref f2) (.ref a))] (L2.start N vs) H { s with heap := h'.push (PySem.W.methodObj (.ref f2) (.ref a)), toks := s.toks + (ps.zip us).length + 1 } := by
    refine I2.pins_of fun p hp => ?_
    rw [List.mem_singleton.mp hp]
    refine ⟨Heap.get?_push_size _ rfl, I1.hok.fresh (Nat.le_refl _), fun z => absurd I1.lt (by rw [← z]; exact Nat.lt_irrefl _), I1.nofs (Nat.le_refl _), fun v z => by cases z⟩
  dsimp only
  rw [hst]
  refine PySem.W.callWith_of (P := PySem.W.MethP K h'.objs.size f2 (.ref a)) (by show ((false || (backTo p3 (starEach es _)).any (·.1)) || false) = false; rw [hpl]; rfl) (PySem.W.keeps_M U.fn) (Calls.evalArgs_plain ?_)
  have hrun := hta.run p3 _ _ _ _ _ I2p hq
  rw [hst] at hrun
  refine thn hrun fun us3 s3 ⟨vs3, H3, I3, r3, q3⟩ => ⟨⟨(I3.pin _ (List.mem_append_right _ List.mem_cons_self)).1, I3.kIn⟩, ?_⟩
  have r4 : Vals (V.ref a :: vs3) (Value.ref a :: us3) := .cons rfl r3
  have hlen2 : (Value.ref a :: us3 ++ []).length = ps2.length := by
    rw [List.append_nil, ← r4.length]
    exact F2.len _ _ _ _ q3
  have hbt := hb2 s3 (Value.ref a :: us3) I3.kIn hlen2
  rw [List.append_nil] at hbt
  refine wpAny_call (codeAny_mono (PySem.W.method_call (I3.pin _ (List.mem_append_right _ List.mem_cons_self)).1 (F2.run _ _ s3 H3 ⟨Value.ref a :: us3, []⟩ (Value.ref a :: us3) (V.ref a :: vs3) _ E2 (hr.deeper _) I3.env0 hbt r4 q3)) fun r s' hq' => ?_)
  cases r with
  | error e => exact hx _ _ _ _ e s' I3 hq'
  | ok fl =>
    cases fl with
    | ret u =>
      obtain ⟨v, H4, I4, rv4, q4⟩ := I3.after hq'
      exact _root_.PySem.wpAt_of_wpAny (ht.run [] s' _ H4 _ (I4.pins_of fun p hp => absurd hp (by simp)) q4)
    | next => exact False.elim hq'
    | brk => exact False.elim hq'
    | cont => exact False.elim hq'
end
end FF
namespace FF
open PySem PySem.Spec PyProof.Rows L2
/-- every parameter is given -/
theorem FunS.binds {P : Program} {K : PySem.W.Frag} {x qual : Str} {params : Arguments} {body : List Stmt} {scope : Scope} {f cc D : Addr} {fd : FuncData} {ps : List Str} (F : FunS P K x qual params body scope f cc D fd)
    (h : ∀ (kV doc pm : Value) (an : Option Addr) (cdv ct : Value) (us : List Value), us.length = ps.length → bindArgs (PySem.W.fnX x qual params body scope [("__class__", cc)] .none kV doc pm an cdv ct) ⟨us, []⟩ = pure (ps.zip us)) : Binds K fd ps [] := by
  obtain ⟨oc, od, kV, doc, pm, an, cda, ct, osl, ccl, cdd, vs, ccs, file, tf, rfl, _⟩ := F.ex
  exact Binds.all fun us hl => h kV doc pm an _ ct us hl
/-! ### the Hook: defs with their class's cell -/
structure SupD where
  cls : Str
  m : Str
  qual : Str
  params : Arguments
  body : List Stmt
  scope : Scope
abbrev FnS : Type := Option (Str × Str × Arguments × FuncBody × Scope × Addr × List Str × Value × Addr)
def SupD.ad (K : PySem.W.Frag) (d : SupD) : Addr := He.ma K (He.ga K d.cls) d.m
def fnSa (K : PySem.W.Frag) (a : Addr) : FnS := match K.lookup a with
  | some ⟨_, _, .func fd, _⟩ => some (fd.name, fd.qualname, fd.params, fd.body, fd.scope, fd.globals, fd.closure.map Prod.fst, fd.defaults, fd.builtins)
  | _ => none
def SupD.val (d : SupD) : FnS := some (d.m, d.qual, d.params, .stmts d.body, d.scope, mainGlobals, ["__class__"], .none, builtinsNs)
def ccOf (K : PySem.W.Frag) (a : Addr) : Addr := match K.lookup a with
  | some ⟨_, _, .func fd, _⟩ => (match fd.closure with
    | [q] => q.2
    | _ => 0)
  | _ => 0
def cellB (K : PySem.W.Frag) (c D : Addr) : Bool := match K.lookup c with
  | some ⟨_, _, .cell (some (.ref a)), _⟩ => Nat.beq a D
  | _ => false
def fileB (K : PySem.W.Frag) (file : Str) (cd : Value) : Bool := match cd with
  | .ref a => (match K.lookup a with
    | some ⟨_, _, .fields vs, _⟩ => (match (vs[2]? : Option Value) with
      | some (Value.str z _) => file == z
      | _ => false)
    | _ => false)
  | _ => false
def SupD.ok (file : Str) (K : PySem.W.Frag) (d : SupD) : Bool := (match K.lookup (d.ad K) with
  | some ⟨_, _, .func fd, _⟩ => PySem.W.codeIn K fd.code d.qual && fileB K file fd.code
  | _ => false) && cellB K (ccOf K (d.ad K)) (He.ga K d.cls)
theorem cellB_ok {K : PySem.W.Frag} {c D : Addr} (h : cellB K c D = true) : ∃ (cl : Value) (cld : Option Addr) (csl : Array (Option Value)), K.lookup c = some ⟨cl, cld, .cell (some (.ref D)), csl⟩ := by
  unfold cellB at h
  split at h
  · rename_i cl cld a csl e
    rw [show a = D from Nat.eq_of_beq_eq_true h] at e
    exact ⟨cl, cld, csl, e⟩
  · cases h
theorem fileB_ok {K : PySem.W.Frag} {file : Str} {cd : Value} (h : fileB K file cd = true) : ∃ (cda : Addr) (ccl : Value) (cdd : Option Addr) (vs : Array Value) (ccs : Array (Option Value)) (z : Str) (tf : Tok), cd = .ref cda ∧ K.lookup cda = some ⟨ccl, cdd, .fields vs, ccs⟩ ∧ vs[2]? = some (.str z tf) ∧ (file == z) = true := by
  unfold fileB at h
  split at h
  · rename_i a
    split at h
    · rename_i ccl cdd vs ccs e
      split at h
      · rename_i z tf e2
        exact ⟨a, ccl, cdd, vs, ccs, z, tf, rfl, e, e2, h⟩
      · cases h
    · cases h
  · cases h
theorem SupD.funS {P : Program} {K : PySem.W.Frag} {d : SupD} (e : fnSa K (d.ad K) = d.val) (c : d.ok P.main.file K = true) : ∃ fd, FunS P K d.m d.qual d.params d.body d.scope (d.ad K) (ccOf K (d.ad K)) (He.ga K d.cls) fd := by
  obtain ⟨c1, c2⟩ := He.ba c
  have hc := cellB_ok c2
  unfold fnSa at e
  cases q : K.lookup (d.ad K) with
  | none =>
    rw [q] at c1
    cases c1
  | some o =>
    obtain ⟨oc, od, dt, osl⟩ := o
    rw [q] at c1 e
    cases dt with
    | func fd =>
      have ecc : ccOf K (d.ad K) = (match fd.closure with
        | [q] => q.2
        | _ => 0) := by
        unfold ccOf
        rw [q]
      obtain ⟨n1, n2, n3, n4, n5, n6, n7, n8, n9, n10, n11, n12, n13, n14, n15⟩ := fd
      have e2 : (some (n1, n2, n3, n4, n5, n6, n7.map Prod.fst, n8, n15) : FnS) = some (d.m, d.qual, d.params, FuncBody.stmts d.body, d.scope, mainGlobals, (["__class__"] : List Str), Value.none, builtinsNs) := e
      simp only [Option.some.injEq, Prod.mk.injEq] at e2
      obtain ⟨h1, h2, h3, h4, h5, h6, h7, h8d, h8⟩ := e2
      have h9 : n7 = ([("__class__", ccOf K (d.ad K))] : List (Str × Addr)) := by
        match n7, h7, ecc with
        | [(a, b)], h7, ecc =>
          have h10 : a = "__class__" := by
            have : [a] = (["__class__"] : List Str) := h7
            exact (List.cons.inj this).1
          rw [h10, show ccOf K (d.ad K) = b from ecc]
        | [], h7, _ => exact absurd (congrArg List.length h7) (by simp)
        | _ :: _ :: _, h7, _ => exact absurd (congrArg List.length h7) (by simp)
      subst h1 h2 h3 h4 h5 h6 h8d h8
      obtain ⟨k1, k2⟩ := He.ba (show (PySem.W.codeIn K n13 d.qual && fileB K P.main.file n13) = true from c1)
      obtain ⟨cda, ccl, cdd, vs, ccs, z, tf, rfl, f1, f2, f3⟩ := fileB_ok k2
      refine ⟨_, ⟨oc, od, n9, n10, n11, n12, cda, n14, osl, ccl, cdd, vs, ccs, z, tf, rfl, ?_, k1, f1, f2, f3⟩, hc⟩
      rw [q, h9]
    | _ => cases c1
structure SaysS (P : Program) (fa : List He.Fa) (fn : List He.DefD) (fp : List GetD) (ts : List KT) (ss : List SupD) (tf : List He.Defn) (ex : PySem.W.Frag → Bool) (w : World) (h : Heap) (K : PySem.W.Frag) : Prop where
  v : SaysV fa fn fp ts tf ex w h K
  sb : (ss.all fun d => d.ok P.main.file K) = true
  sv : ss.map (fun d => fnSa K (d.ad K)) = ss.map SupD.val
theorem SaysS.get {P : Program} {fa : List He.Fa} {fn : List He.DefD} {fp : List GetD} {ts : List KT} {ss : List SupD} {tf : List He.Defn} {ex : PySem.W.Frag → Bool} {w : World} {h : Heap} {K : PySem.W.Frag} (c : SaysS P fa fn fp ts ss tf ex w h K) (i : Nat) {d : SupD} (hd : ss[i]? = some d := by rfl) :
    ∃ fd, FunS P K d.m d.qual d.params d.body d.scope (d.ad K) (ccOf K (d.ad K)) (He.ga K d.cls) fd := by
  have e2 : (ss.map fun d => fnSa K (d.ad K))[i]? = (ss.map SupD.val)[i]? := by rw [c.sv]
  rw [List.getElem?_map, List.getElem?_map, hd] at e2
  exact SupD.funS (Option.some.inj e2) (List.all_eq_true.mp c.sb d (List.mem_of_getElem? hd))
end FF
/-! Fivefault, part 86: a property of an object whose class is one of several. -/
namespace FF
open PySem PySem.Spec PyProof.Rows L2
/-- a def called with its defaults dvs behind the written arguments -/
structure DefA (P : Program) (w : World) (K : PySem.W.Frag) (mg : Str → Option Value) (base : Heap) (x : Str) (k : Nat) (ps : List Str) (sp : Sp) (dvs : List V) : Prop where
  ex : ∃ (f : Addr) (fd : FuncData) (ds : List Value), FnOk P w K mg base CX0 k f fd ps sp ∧ mg x = some (.ref f) ∧ PySem.W.keepIn K (.ref f) = true ∧ Binds K fd ps ds ∧ Vals dvs ds
end FF
/-! Fivefault, part 87: [x for l in ls for x in l] over any walk. -/
namespace FF
open PySem PySem.Spec PyProof.Rows L2 StX
section
variable {K : PySem.W.Frag} {xs : List V} {uss : List (List V)} {vs vs1 : List Nat} {jo ji : Nat} {σ : L2.St} {H1 : Hp} {Q : Addr → Hp → Prop}
end
end FF
/-! Fivefault, part 88: [e for x in xs for y in g(x)] of truth values, told by data. -/
namespace FF
open PySem PySem.Spec PyProof.Rows L2 StX
section
variable {K : PySem.W.Frag} {xs : List V} {ds : List PyData} {vs vs1 : List Nat} {jo ji : Nat} {σ : L2.St} {H1 : Hp} {Q : Addr → Hp → Prop} {J : It} {wi : TI} {E : TE}
end
end FF
/-! Fivefault, part 89: a new dict is locked and stays so (its keys are walked); a property within a comprehension. -/
namespace FF
open PySem PySem.Spec PyProof.Rows L2
end FF
/-! Fivefault, part 90: str(x) by an own __str__; ==, != of objects whose class is one of several. -/
-- imports KE.KCallOwn
namespace FF
open PySem PySem.Spec PyProof.Rows L2
/-- x != y by own __eq__, the class one of several -/
structure EqL (P : Program) (w : World) (K : PySem.W.Frag) (mg : Str → Option Value) (base : Heap) (k : Nat) (L : List (Str × Sp)) : Prop where
  eq : ∀ q ∈ L, MethD P w K mg base q.1 "__eq__" k ["self", "other"] q.2
  ne : ∀ q ∈ L, PySem.W.findIn K (.ref (He.ga K q.1)) "__ne__" = some (some (.builtin "object.__ne__"))
  ins : ∀ q ∈ L, InsX K (He.ga K q.1)
end FF
/-! Fivefault, part 91: one of two readings of an expression; repr of a dict of truth values. -/
namespace FF
open PySem PySem.Spec PyProof.Rows L2
end FF
/-! Fivefault, part 92: == of data, tuples and dicts nested. -/
-- imports KE.KEqNest
-- imports HandS.WordsDict
-- imports HandS.Finally
namespace FF
open PySem PySem.Spec PyProof.Rows L2
/-- x == y answers b: data, and tuples and dicts that hold such -/
inductive EqX (K : PySem.W.Frag) (H : Hp) : Nat → V → V → Bool → Prop
  | data {n : Nat} {x y : V} {d e : PyData} : d.depth ≤ n → Dp K H x d → Dp K H y e → SeqAt.shaped d = true → SeqAt.shaped e = true → EqX K H n x y (PyData.eqv d e)
  | same {n : Nat} {a : Addr} : EqX K H n (.ref a) (.ref a) true
  | tup {n : Nat} {a b : Addr} {xs ys : List V} {f : Nat → Bool} : a ≠ b → SqT K H a xs → SqT K H b ys → (∀ j x y, xs[j]? = some x → ys[j]? = some y → EqX K H n x y (f j)) → EqX K H (n + 1) (.ref a) (.ref b) ((List.range (min xs.length ys.length)).all f && xs.length == ys.length)
  | dict {n : Nat} {a b : Addr} {ks ls : List (Key × V)} {f : Key → Bool} : a ≠ b → H a = some (.dK ks) → H b = some (.dK ls) → (∀ k x y, (k, x) ∈ ks → valV ls k = some y → EqX K H n x y (f k)) → EqX K H (n + 1) (.ref a) (.ref b) (ks.length == ls.length && ks.all fun p => (valV ls p.1).isSome && f p.1)
section
variable {X : Cx} {pins : List (Addr × Obj)} {σ : L2.St} {H : Hp} {s : Shared}
end
end FF
/-! Fivefault, part 93: the run's equation in pieces (less memory in each). -/
namespace FF
section
open PySem PySem.W PySem.Calls PyProof.Rows HandSHeadRun
/-- one thing that is looked at -/
def RunO (r : OpenRow) {α : Type} (o : SharedT → α) (v : α) (M : Nat) (w : World) : Prop :=
  ∀ os : OsState, (endF (stepQ (denQ tabQ) r.prog w) M r.prog w os).map o = some v
theorem RunO.at_ {r : OpenRow} {α : Type} {o : SharedT → α} {v : α} {M : Nat} {w : World} (h : RunO r o v M w) {os : OsState} {s : SharedT} (e : endF (stepQ (denQ tabQ) r.prog w) M r.prog w os = some s) : o s = v := by
  have k := h os
  rw [e] at k
  exact Option.some.inj k
end
open PySem PySem.Spec PyProof.Rows L2
end FF
/-! Fivefault, part 94: methods of an object whose class is one of several. -/
namespace FF
open PySem PySem.Spec PyProof.Rows L2
def MethLX (P : Program) (w : World) (K : PySem.W.Frag) (mg : Str → Option Value) (base : Heap) (m : Str) (k : Nat) (ps : List Str) (L : List (Str × Sp)) : Prop := ∀ q ∈ L, MethX P w K mg base q.1 m k ps q.2
section
variable {X : Cx} {W : WX} {E : XK} {m : Str} {k j : Nat} {ps : List Str} {L : List (Str × Sp)} {o e : Expr} {es : List Expr} {apos pos : Pos} {to : TE} {t : TA} {pl : Sem Bool}
end
/-! by keywords -/
structure MethLK (P : Program) (w : World) (K : PySem.W.Frag) (mg : Str → Option Value) (base : Heap) (m : Str) (k : Nat) (ps ks : List Str) (g : List Value → List Value → List Value) (gV : List V → List V → List V) (L : List (Str × Sp)) : Prop where
  x : MethLX P w K mg base m k ps L
  kb : ∀ q ∈ L, ∃ fd, FnOk P w K mg base (L2.CX P w) k (He.ma K (He.ga K q.1) m) fd ps q.2 ∧ KBn K fd ps 1 ks g gV
end FF
/-! Fivefault, part 95: == of lists that hold lists, tuples and dicts; x == y by an own __eq__, y of a built-in type. -/
namespace FF
open PySem PySem.Spec PyProof.Rows L2
theorem mro_str (C : Addr) : (PySem.fastBuiltinMro "str").map (·.contains (Value.ref C)) = some false := rfl
theorem mro_tuple (C : Addr) : (PySem.fastBuiltinMro "tuple").map (·.contains (Value.ref C)) = some false := rfl
theorem mro_list (C : Addr) : (PySem.fastBuiltinMro "list").map (·.contains (Value.ref C)) = some false := rfl
theorem mro_dict (C : Addr) : (PySem.fastBuiltinMro "dict").map (·.contains (Value.ref C)) = some false := rfl
/-- a value of one of the built-in types str, list, tuple, dict -/
inductive BtV (H : Hp) : V → String → Prop
  | str (z : Str) : BtV H (.str z) "str"
  | lst {b : Addr} {ys : List V} : H b = some (.lst ys) → BtV H (.ref b) "list"
  | tup {b : Addr} {ys : List V} : H b = some (.tup ys) → BtV H (.ref b) "tuple"
  | dic {b : Addr} {ks : List (Key × V)} : H b = some (.dK ks) → BtV H (.ref b) "dict"
theorem BtV.mro {H : Hp} {y : V} {T : String} (h : BtV H y T) (C : Addr) : (PySem.fastBuiltinMro T).map (·.contains (Value.ref C)) = some false := by
  cases h with
  | str z => exact mro_str C
  | lst h => exact mro_list C
  | tup h => exact mro_tuple C
  | dic h => exact mro_dict C
theorem BtV.ty {K : PySem.W.Frag} {H : Hp} {y : V} {T : String} (h : BtV H y T) : TyX K H y (.type T) := by
  cases h with
  | str z => exact .base (.str z)
  | lst h => exact .base (.lst h)
  | tup h => exact .base (.tup h)
  | dic h => exact .base (.dK h)
theorem BtV.looks {X : Cx} {pins : List (Addr × Obj)} {σ : L2.St} {H : Hp} {s : Shared} {y : V} {T : String} {v : Value} (I : Inv X pins σ H s) (h : BtV H y T) (r : RelV y v) : PySem.W.Looks (model X.prog X.w) s.heap (typeOf v) (.type T) := by
  cases h with
  | str z =>
    obtain ⟨t, rfl⟩ := r
    exact PySem.W.Looks.of_pure (by rfl)
  | @lst b ys h =>
    cases (show v = Value.ref b from r)
    obtain ⟨_, _, n', _, h1⟩ := (show ObjOk X.prog X.w H s.heap b (.lst ys) from I.hok b _ h)
    exact (PySem.W.Looks.ld h1).andThen .now
  | @tup b ys h =>
    cases (show v = Value.ref b from r)
    obtain ⟨_, _, _, ob, h1, hc, _⟩ := (show ObjOk X.prog X.w H s.heap b (.tup ys) from I.hok b _ h)
    exact (PySem.W.Looks.ld h1).andThen (by show PySem.W.Looks _ _ (pure ob.cls) _; rw [hc]; exact .now)
  | @dic b ks h =>
    cases (show v = Value.ref b from r)
    obtain ⟨_, _, _, _, ob, _, _, h1, hc, _⟩ := (show ObjOk X.prog X.w H s.heap b (.dK ks) from I.hok b _ h)
    exact (PySem.W.Looks.ld h1).andThen (by show PySem.W.Looks _ _ (pure ob.cls) _; rw [hc.1]; exact .now)
end FF
/-! Fivefault, part 96: t[::-1], t a tuple. -/
namespace FF
open PySem PySem.Spec PyProof.Rows L2
section
variable {prog : Program} {w : World} {A : Around} {E : Value → Shared → Prop} {s : Shared}
end
end FF
-- imports KE.KExcInit
/-! Fivefault, part 97: own exceptions over other builtin exceptions than ValueError. -/
namespace FF
open PySem PySem.Spec PyProof.Rows L2
/-- a builtin exception: its name, its __new__, its __init__, its order of classes -/
structure BsF where
  B : String
  nw : String
  ini : String
  tl : List Value
structure BsOk (b : BsF) : Prop where
  ex : PySem.ExcBaseFacts b.B b.nw b.ini b.tl
  st : StoreFacts b.B b.tl "object.__setattr__" "object"
def lkB : BsF := ⟨"LookupError", "LookupError.__new__", "LookupError.__init__", [.type "LookupError", .type "Exception", .type "BaseException", .type "object"]⟩
def ixB : BsF := ⟨"IndexError", "IndexError.__new__", "IndexError.__init__", [.type "IndexError", .type "LookupError", .type "Exception", .type "BaseException", .type "object"]⟩
theorem lkB_ok : BsOk lkB := ⟨PySem.F.excBase_LookupError, PySem.F.store_LookupError⟩
theorem ixB_ok : BsOk ixB := ⟨PySem.F.excBase_IndexError, PySem.F.store_IndexError⟩
/-- own classes, then the base's order -/
def refsG (tl : List Value) : List Value → Bool
  | .ref _ :: r => refsG tl r
  | l => l == tl
theorem refsG_cases {tl : List Value} : ∀ l : List Value, refsG tl l = true → (∃ c r, l = .ref c :: r ∧ refsG tl r = true) ∨ l = tl := fun l e => by
  unfold refsG at e
  split at e
  · exact .inl ⟨_, _, rfl, e⟩
  · exact .inr (beq_iff_eq.mp e)
theorem refsG_pass {b : BsF} (hb : BsOk b) (self : Value) : ∀ l : List Value, refsG b.tl l = true → refuseLoop self "__setattr__" l = pure ()
  | [], e => by
    rcases refsG_cases _ e with ⟨c, r', q, h⟩ | q
    · cases q
    · rw [q]; exact hb.st.passes self
  | a :: r, e => by
    rcases refsG_cases _ e with ⟨c, r', q, h⟩ | q
    · obtain ⟨rfl, rfl⟩ := List.cons.inj q
      rw [refuseLoop_ref]; exact refsG_pass hb self _ h
    · rw [q]; exact hb.st.passes self
theorem refsG_contains {tl : List Value} (X : String) : ∀ l : List Value, refsG tl l = true → l.contains (.type X) = tl.contains (.type X)
  | [], e => by
    rcases refsG_cases _ e with ⟨c, r', q, h⟩ | q
    · cases q
    · rw [q]
  | a :: r, e => by
    rcases refsG_cases _ e with ⟨c, r', q, h⟩ | q
    · obtain ⟨rfl, rfl⟩ := List.cons.inj q
      rw [List.contains_cons, refsG_contains X _ h]; rfl
    · rw [q]
theorem refsG_ne {b : BsF} (hb : BsOk b) {l : List Value} (e : refsG b.tl l = true) : l.isEmpty = false := by
  have h := (refsG_contains "object" l e).trans hb.st.hasOwner
  cases l with
  | nil => cases h
  | cons _ _ => rfl
section
open Builtin Builtin.ObjectAttr PySem.HandSPX PySem.W PySem.Calls
variable {prog : Program} {w : World} {A : Around} {E : Value → Shared → Prop} {R : Result → Shared → Prop} {hp : Heap} {g : Array GenState} {d : Drawn} {t : Nat} {os : OsState} {b : BsF}
/-- the first field of an exception -/
theorem osa_newG (hB : BsOk b) {K : W.Frag} {name : Str} {tk : Tok} {v : Value} {x C : Addr} {fv : Array Value} {cd : ClassData}
    (X : K.In hp) (hx : hp.get? x = some { cls := .ref C, data := .fields fv }) (hcd : W.clsIn K C = some cd) (hm : refsG b.tl cd.mro = true) (hh : cd.hasDict = true) (ha : W.findIn K (.ref C) name = some none)
    (hq : ∀ h' tk' dx, (∀ b o, b ≠ x → hp.get? b = some o → h'.get? b = some o) → hp.objs.size ≤ dx → dx ≠ x → h'.get? x = some { cls := .ref C, dict := some dx, data := .fields fv } →
      h'.Ns1 dx (fun y => if y = name then some v else none) → R (.ok (.ret .none)) ⟨h', g, d, tk', os⟩) :
    codeAny (model prog w) A (.call (.builtin "object.__setattr__") ⟨[.ref x, .str name tk, v], []⟩) R ⟨hp, g, d, t, os⟩ := by
  have I : W.InstAt hp x { cls := .ref C, data := .fields fv } C none := ⟨hx, rfl, rfl, trivial⟩
  have SF := F.store_object
  have ne := refsG_ne hB hm
  have hob : cd.mro.contains (.type "object") = true := (refsG_contains "object" _ hm).trans hB.st.hasOwner
  have hxs : x ≠ hp.objs.size := Nat.ne_of_lt (Heap.lt_size hx)
  have sub : W.Looks (model prog w) hp (isInstance (.ref x) (.type "object")) true := I.type.andThen (W.looks_mroIn X (by unfold W.mroIn; rw [hcd, Option.bind_some, if_neg (by rw [ne]; decide), hob]))
  refine codeAny_call_builtin SF.slot.plain SF.entry (@W.check_slot (model prog w) _ _ ⟨hp, g, d, t, os⟩ "object.__setattr__" "object" "__setattr__" (.ref x) [.str name tk, v] [] _ SF.kind SF.split sub (SF.args (.ref x) (.str name tk) v) ?_)
  have hmr : W.Looks (model prog w) hp (mroOf (.ref C)) cd.mro := (W.looks_clsIn X hcd).andThen .now
  have L3 : W.Looks (model prog w) hp (storeTaker? none) none := .now
  have hcls : W.Looks (model prog w) hp (classData C) cd := W.looks_clsIn X hcd
  rw [W.osa_eq, refuse_eq]
  refine wpAny_bind (wpAny_bind (I.type.at (wpAny_bind (hmr.at ?_))))
  rw [refsG_pass hB _ _ hm]
  refine wpAny_pure (wpAny_bind (I.type.at (wpAny_bind ((W.looks_findIn X ha).at (wpAny_bind (L3.at ?_))))))
  show wpAny _ _ (storeInOwnDict (.ref x) (.ref C) (.str name tk) name v false) _ _ _
  obtain ⟨nm, bs, mro, ns, qn, hd, sn, sb, ab, col, del⟩ := cd
  dsimp only at hh
  subst hh
  unfold storeInOwnDict ownDictForStores
  repeat (first | with_reducible refine store_in_new ?_ ?_ | with_reducible refine wpAny_loadPart_at hx ?_ | with_reducible refine hcls.at ?_ | wp_step)
  · exact ⟨_, #[], _, (Heap.get?_update_ne _ _ _ _ hxs.symm).trans (Heap.get?_push_at rfl rfl), rfl, fun e he => absurd he (by simp), fun _ => rfl⟩
  · intro h' tk' hn' hs
    have hx₁ : (hp.push { cls := .type "dict", data := .dict #[] }).get? x = some { cls := .ref C, data := .fields fv } := Heap.get?_push_of_some _ hx
    refine hq h' tk' hp.objs.size (fun b o hb ho => ?_) (Nat.le_refl _) hxs.symm ?_ hn'
    · exact (hs.2 b (Nat.ne_of_lt (Heap.lt_size ho))).trans ((Heap.get?_update_ne _ _ _ _ hb).trans (Heap.get?_push_of_some _ ho))
    · exact (hs.2 x hxs).trans (Heap.get?_update_self _ hx₁ rfl)
/-- a further one -/
theorem osa_oldG (hB : BsOk b) {K : W.Frag} {name : Str} {tk : Tok} {v : Value} {x C dx : Addr} {fv : Array Value} {cd : ClassData} {m0 : Str → Option Value} {nl : List Str}
    (X : K.In hp) (hx : hp.get? x = some { cls := .ref C, dict := some dx, data := .fields fv }) (hns : hp.Ns1 dx m0) (hw : Within m0 nl) (hz : nl.length ≤ 1000) (hcd : W.clsIn K C = some cd) (hm : refsG b.tl cd.mro = true) (hh : cd.hasDict = true)
    (ha : W.findIn K (.ref C) name = some none)
    (hq : ∀ h' tk', (∀ b o, b ≠ dx → hp.get? b = some o → h'.get? b = some o) → h'.Ns1 dx (fun y => if y = name then some v else m0 y) → R (.ok (.ret .none)) ⟨h', g, d, tk', os⟩) :
    codeAny (model prog w) A (.call (.builtin "object.__setattr__") ⟨[.ref x, .str name tk, v], []⟩) R ⟨hp, g, d, t, os⟩ := by
  obtain ⟨oD, esD, epD, hoD, hdD, _⟩ := hns.count hw
  have I : W.InstAt hp x { cls := .ref C, dict := some dx, data := .fields fv } C (some oD) := ⟨hx, rfl, rfl, hoD⟩
  have SF := F.store_object
  have ne := refsG_ne hB hm
  have hob : cd.mro.contains (.type "object") = true := (refsG_contains "object" _ hm).trans hB.st.hasOwner
  have sub : W.Looks (model prog w) hp (isInstance (.ref x) (.type "object")) true := I.type.andThen (W.looks_mroIn X (by unfold W.mroIn; rw [hcd, Option.bind_some, if_neg (by rw [ne]; decide), hob]))
  refine codeAny_call_builtin SF.slot.plain SF.entry (@W.check_slot (model prog w) _ _ ⟨hp, g, d, t, os⟩ "object.__setattr__" "object" "__setattr__" (.ref x) [.str name tk, v] [] _ SF.kind SF.split sub (SF.args (.ref x) (.str name tk) v) ?_)
  have hmr : W.Looks (model prog w) hp (mroOf (.ref C)) cd.mro := (W.looks_clsIn X hcd).andThen .now
  have L3 : W.Looks (model prog w) hp (storeTaker? none) none := .now
  have hcls : W.Looks (model prog w) hp (classData C) cd := W.looks_clsIn X hcd
  rw [W.osa_eq, refuse_eq]
  refine wpAny_bind (wpAny_bind (I.type.at (wpAny_bind (hmr.at ?_))))
  rw [refsG_pass hB _ _ hm]
  refine wpAny_pure (wpAny_bind (I.type.at (wpAny_bind ((W.looks_findIn X ha).at (wpAny_bind (L3.at ?_))))))
  show wpAny _ _ (storeInOwnDict (.ref x) (.ref C) (.str name tk) name v false) _ _ _
  obtain ⟨nm, bs, mro, ns, qn, hd, sn, sb, ab, col, del⟩ := cd
  dsimp only at hh
  subst hh
  unfold storeInOwnDict ownDictForStores
  repeat (first | with_reducible refine PySem.OEX.store_in_old hns hw hz ?_ | with_reducible refine wpAny_loadPart_at hx ?_ | with_reducible refine hcls.at ?_ | wp_step)
  intro h' tk' hn' hs
  exact hq h' tk' (fun b o hb ho => (hs.2 b hb).trans ho) hn'
end
/-- what the written part says of an own class over the base b -/
structure OexG (b : BsF) (K : PySem.W.Frag) (C : Addr) : Prop where
  ok : BsOk b
  cls : ∃ nm q N bs bm sn sub ab col dd k0 k1 k2 k3 k5, K.lookup C = some (excClassObj nm q C N bs bm true sn sub ab col dd k0 k1 k2 k3 k5 b.nw) ∧ refsG b.tl bm = true
  sa : PySem.W.findIn K (.ref C) "__setattr__" = some (some (.builtin "object.__setattr__"))
  exC : PySem.W.subIn K (.ref C) (.type "BaseException") = some true
  tyC : PySem.W.typeIn K (.ref C) = some (.type "type")
  kC : PySem.W.keepIn K (.ref C) = true
end FF
/-! Fivefault, part 98: own exceptions over any base: made, stored into, raised. -/
namespace FF
open PySem PySem.Spec PyProof.Rows L2
section
variable {X : Cx} {pins : List (Addr × Obj)} {σ : L2.St} {H : Hp} {s : Shared} {a C dx : Addr} {f : Str} {y : V} {u : Value} {fs : List (Str × V)} {Q : Unit → Shared → Prop} {E : Value → Shared → Prop} {A : Around} {b : BsF}
/-- self.f = y, the first one -/
theorem ost_newG (T : OexG b X.K C) (I : Inv X pins σ H s) (e : H a = some (exo a C none)) (hno : PySem.W.findIn X.K (.ref C) f = some none) (ry : RelV y u)
    (h : ∀ dx s', H dx = none → dx ≠ a → Inv X pins σ (upd (upd H dx (exd dx [(f, y)])) a (exo a C (some dx))) s' → Q () s') : wpAny (model X.prog X.w) A (setAttr (.ref a) f u) Q E s := by
  obtain ⟨nm, q, N, bs, bm, sn, sub, ab, col, dd, k0, k1, k2, k3, k5, hC, hbm⟩ := T.cls
  have hcl : PySem.W.clsIn X.K C = some { name := nm, bases := bs, mro := .ref C :: bm, ns := N, qualname := q, hasDict := true, slotNames := sn, subclasses := sub, abstract := ab, collection := col, hasDel := false } := by unfold PySem.W.clsIn; rw [hC] <;> rfl
  obtain ⟨t1, ho⟩ := exo_at I.hok e
  obtain ⟨hp, g, d, t, os⟩ := s
  refine PySem.W.set_plain I.kIn (ox := { cls := .ref C, dict := none, data := .fields #[.ref t1, .none, .none, .none, .bool false, .none] }) (od := none) ⟨ho, rfl, rfl, trivial⟩ T.sa ?_
  refine osa_newG T.ok I.kIn ho hcl (show refsG b.tl (.ref C :: bm) = true from hbm) rfl hno (fun h' tk' dx k dn dne hx hn => ?_)
  have hnd : H dx = none := I.hok.fresh dn
  have nd : ∀ {c : Addr} {o : Obj}, hp.get? c = some o → c ≠ dx := fun {c o} q => Nat.ne_of_lt (Nat.lt_of_lt_of_le (Heap.lt_size q) dn)
  have na : ∀ {c : Addr}, H c = none → c ≠ a := fun {c} n z => by
    rw [z, e] at n
    cases n
  have Un1 : Un X.fs [] H (upd (upd H dx (exd dx [(f, y)])) a (exo a C (some dx))) hp h' := {
    keep := fun c o q n _ _ => k c o (na n) q
    slot := fun c o q n _ _ => ⟨o.slots, k c o (na n) q⟩
    free := fun c o q n _ => by rw [upd_ne (na n), upd_ne (nd q)]; exact n
    there := fun c o q _ => by
      by_cases hb : c = a
      · exact ⟨_, by rw [hb]; exact hx⟩
      · exact ⟨o, k c o hb q⟩
    tups := fun c xs q => by rw [upd_ne (at_ne e q exo_tup), upd_ne (ne_of_none q hnd)]; exact q
    frzs := fun c o v q => by rw [upd_ne (at_ne e q exo_frz), upd_ne (ne_of_none q hnd)]; exact q
    tbls := fun c ps q => ⟨#[], by rw [upd_ne (at_ne e q exo_tbl), upd_ne (ne_of_none q hnd), q]; simp⟩ }
  refine h dx _ hnd dne (I.un (t' := tk') Un1 fun c o q => ?_)
  by_cases hb : c = a
  · subst hb
    rw [upd_same] at q
    cases q
    exact exo_ok hx
  · rw [upd_ne hb] at q
    by_cases hd : c = dx
    · subst hd
      rw [upd_same] at q
      cases q
      exact exd_ok hn (relO_put (fs := []) ry fun g => True.intro)
    · rw [upd_ne hd] at q
      exact (I.hok c o q).stay (fun c' v hc z => k c' v (by
          rcases hc with hc | hc
          · rw [hc]
            exact hb
          · exact at_ne e hc exo_own) z)
        (fun c' hc => by rw [upd_ne (at_ne e hc exo_own), upd_ne (ne_of_none hc hnd)]; exact hc) (fun c' xs hc => by rw [upd_ne (at_ne e hc exo_tup), upd_ne (ne_of_none hc hnd)]; exact hc)
/-- self.f = y, a further one -/
theorem ost_oldG (T : OexG b X.K C) (I : Inv X pins σ H s) (e : H a = some (exo a C (some dx))) (ed : H dx = some (exd dx fs)) (hl : fs.length ≤ 900) (hno : PySem.W.findIn X.K (.ref C) f = some none) (ry : RelV y u)
    (h : ∀ s', Inv X pins σ (upd H dx (exd dx ((f, y) :: fs))) s' → Q () s') : wpAny (model X.prog X.w) A (setAttr (.ref a) f u) Q E s := by
  obtain ⟨nm, q, N, bs, bm, sn, sub, ab, col, dd, k0, k1, k2, k3, k5, hC, hbm⟩ := T.cls
  have hcl : PySem.W.clsIn X.K C = some { name := nm, bases := bs, mro := .ref C :: bm, ns := N, qualname := q, hasDict := true, slotNames := sn, subclasses := sub, abstract := ab, collection := col, hasDel := false } := by unfold PySem.W.clsIn; rw [hC] <;> rfl
  obtain ⟨t1, ho⟩ := exo_at I.hok e
  obtain ⟨mA, hns, rel⟩ := exd_at I.hok ed
  have hw := within_of rel
  obtain ⟨hp, g, d, t, os⟩ := s
  obtain ⟨oD, _, _, hoD, _, _⟩ := hns.count hw
  refine PySem.W.set_plain I.kIn (ox := { cls := .ref C, dict := some dx, data := .fields #[.ref t1, .none, .none, .none, .bool false, .none] }) (od := some oD) ⟨ho, rfl, rfl, hoD⟩ T.sa ?_
  refine osa_oldG T.ok I.kIn ho hns hw (by rw [List.length_map]; omega) hcl (show refsG b.tl (.ref C :: bm) = true from hbm) rfl hno (fun h' tk' k hn => ?_)
  have hd : ∃ o, h'.get? dx = some o := by
    obtain ⟨o, _, _, e', _⟩ := hn
    exact ⟨o, e'⟩
  exact h _ (I.write (t' := tk') (x := dx) (e := dx) (o := exd dx ((f, y) :: fs)) (by rw [ed]; exact True.intro) (.inl rfl) k hd (exd_ok hn (relO_put ry rel)))
/-- B.__init__(self, ..): nothing of it is told -/
theorem oinitG {us : List Value} {Q : Value → Shared → Prop} (T : OexG b X.K C) (I : Inv X pins σ H s) (e : H a = some (exo a C none)) (hl : us.length ≤ sizeLine) (h : ∀ s', Inv X pins σ H s' → Q .none s') :
    wpAny (model X.prog X.w) A (call (.builtin b.ini) (.ref a :: us)) Q E s := by
  obtain ⟨nm, q, N, bs, bm, sn, sub, ab, col, dd, k0, k1, k2, k3, k5, hC, hbm⟩ := T.cls
  obtain ⟨t1, ho⟩ := exo_at I.hok e
  obtain ⟨hp, g, d, t, os⟩ := s
  refine wpAny_call (PySem.HandSPX.init_base T.ok.ex (fun Y => refsG_contains Y bm hbm) (I.kIn _ _ hC) ho hl fun h' t2 k hx => ?_)
  have J := I.write (t' := t) (x := a) (e := a) (o := exo a C none) (by rw [e]; exact True.intro) (.inl rfl) k ⟨_, hx⟩ (exo_ok hx)
  have eu : upd H a (exo a C none) = H := by
    funext c
    by_cases hb : c = a
    · rw [hb, upd_same, e]
    · rw [upd_ne hb]
  rw [eu] at J
  exact h _ J
end
/-- B.__init__(self, ..) -/
def tBeI (b : BsF) (K : PySem.W.Frag) (ta : TA) : TE := fun σ H Q => ta σ H fun vs H1 => ∃ (a C : Addr) (ws : List V), vs = .ref a :: ws ∧ ws.length ≤ 1000 ∧ OexG b K C ∧ H1 a = some (exo a C none) ∧ Q .non H1
/-- self.f = e -/
def tOstG (b : BsF) (K : PySem.W.Frag) (f : Str) (to te : TE) : TS := fun D σ H => te σ H fun y H1 => to σ H1 fun x H2 => ∃ a C : Addr, x = .ref a ∧ OexG b K C ∧ PySem.W.findIn K (.ref C) f = some none ∧
  ((H2 a = some (exo a C none) ∧ ∀ dx, H2 dx = none → dx ≠ a → D.nx σ (upd (upd H2 dx (exd dx [(f, y)])) a (exo a C (some dx)))) ∨
    ∃ (dx : Addr) (fs : List (Str × V)), H2 a = some (exo a C (some dx)) ∧ H2 dx = some (exd dx fs) ∧ fs.length ≤ 900 ∧ D.nx σ (upd H2 dx (exd dx ((f, y) :: fs))))
section
variable {X : Cx} {o e : Expr} {es : List Expr} {to te : TE} {ta : TA} {f : Str} {p p' p1 p2 pos : Pos}
theorem typ_Lk : typeOf (.type "LookupError") = pure (.type "type") := by kernel_rfl
theorem pe_lkinit {pl : Sem Bool} (hg : Gl X "LookupError") (hm : X.mg "LookupError" = none) (vV : PySem.W.findCls X.K (.type "LookupError") (.type "type") "__init__" = some (.val (.builtin "LookupError.__init__"))) (ha : PA X (e :: es) ta)
    (hc : eval (.Call (.Attribute (.Name "LookupError" p1) "__init__" p2) (e :: es) [] pos) X.env = (do
      let ov ← eval (.Name "LookupError" p1) X.env
      standAt p2.atName
      let (f, first) ← holding [ov] (getMethod ov "__init__" pl)
      callWith pos f first (backTo pos (starEach (e :: es) X.env)) (backToKw pos (keywordEach [] X.env))) := by rfl)
    (he : starEach (e :: es) X.env = (false, eval e X.env) :: starEach es X.env := by rfl) (hpl : (backTo pos (starEach es X.env)).any (·.1) = false := by rfl) :
    PE X (.Call (.Attribute (.Name "LookupError" p1) "__init__" p2) (e :: es) [] pos) (tBeI lkB X.K ta) := by
  refine ⟨fun pins s σ H Q I h => ?_⟩
  refine PySem.W.methodCall_KW (ld_blt I hg hm PyProof.Rows.Boot.«LookupError» ?_ (by decide) (by decide)) hc
  obtain ⟨m, fr⟩ := I.fr
  refine PySem.W.method_type fr I.ok.mod.kin typ_Lk (by decide +kernel) vV (by decide +kernel) ?_
  show wpAny _ _ (callWith pos (Value.builtin "LookupError.__init__") [] (backTo pos (starEach (e :: es) X.env)) []) _ _ _
  refine PyProof.Rows.callWith_method1 (thn (ha.run pos pins _ σ H _ (I.tok _) h) fun us s1 ⟨vs, H1, I1, r1, a, C, ws, ev, hl, T, ea, q⟩ => ?_) he hpl
  subst ev
  cases r1 with
  | @cons _ u0 _ ur ra rw' =>
    obtain rfl : u0 = Value.ref a := ra
    have hlen : ur.length ≤ sizeLine := by
      rw [← Paired.length rw', sizeLine_eq]
      omega
    exact oinitG T I1 ea hlen fun s' J => ⟨.non, H1, J, rfl, q⟩
theorem ps_ostG (b : BsF) (ho : PE X o to) (he : PE X e te) (hs : swapsWith e (some (.Attribute o f p')) pos.line X.env = pure false := by rfl) : PS X (.Assign [.Attribute o f p'] e pos) (tOstG b X.K f to te) := by
  refine ⟨fun pins s σ H D I h => ?_⟩
  refine plainObj_wpAny_Assign_Attribute (thn (he.run pins s σ H _ I h) fun v s1 ⟨y, H1, I1, r1, q1⟩ => thn (ho.run pins s1 σ H1 _ I1 q1) fun u s2 ⟨x, H2, I2, r2, a, C, ex, T, hno, q⟩ => ?_) hs
  subst ex
  obtain rfl : u = Value.ref a := r2
  rcases q with ⟨ea, q⟩ | ⟨dx, fs, ea, ed, hl, q⟩
  · exact ost_newG T I2 ea hno r1 fun dx s' n ne J => ⟨σ, _, J, q dx n ne⟩
  · exact ost_oldG T I2 ea ed hl hno r1 fun s' J => ⟨σ, _, J, q⟩
/-- C(e, ..), an own exception class over b -/
theorem pmk_oexG {b : BsF} {CX : CXT} {x : Str} {C fI : Addr} {k : Nat} {fd : FuncData} {ps : List Str} {sp : Sp} {ds : List Value} {dvs : List V} (T : OexG b X.K C) (iC : PySem.W.findIn X.K (.ref C) "__init__" = some (some (.ref fI))) (tI : PySem.W.typeIn X.K (.ref fI) = some (.type "function"))
    (F1 : FnOk X.prog X.w X.K X.mg X.base CX k fI fd ps sp) (hr : Room (k + 1) X.A) (hb : Binds X.K fd ps ds) (hd : Vals dvs ds) (hx : Passes CX X (fun _ _ _ => False)) (hg : Gl X x) (hm : X.mg x = some (.ref C)) (ha : PA X (e :: es) ta)
    (hdb : (x == ("__debug__" : Str)) = false := by decide) (he : starEach (e :: es) X.env = (false, eval e X.env) :: starEach es X.env := by rfl) (hpl : (backTo pos (starEach es X.env)).any (·.1) = false := by rfl) :
    PMk X (.Call (.Name x p) (e :: es) [] pos) (tMkO C sp dvs ta) := by
  intro pins s σ H Q I h
  obtain ⟨nm, q, N, bs, bm, sn, sub, ab, col, dd, k0, k1, k2, k3, k5, hC, hbm⟩ := T.cls
  refine wpAny_Call_Name_kw (ld_glob I hg hm ?_ hdb)
  refine PySem.W.callWith_K (h₀ := X.base) I.ok.mod.kin T.kC (thn (ha.run pos pins s σ H _ I h) fun us s1 ⟨vs, H1, I1, r1, hz, q1⟩ => ⟨I1.kIn, ?_⟩) he hpl
  show wpAny _ _ (call (.ref C) us) _ _ _
  obtain ⟨hp, g, dr, tk, os⟩ := s1
  have hsz : hp.objs.size ≤ hp.objs.size + 1 := Nat.le_succ _
  have hn : H1 (hp.objs.size + 1) = none := I1.hok.fresh hsz
  have hq := q1 (hp.objs.size + 1) hn
  have kk : ∀ c o, hp.get? c = some o → ((hp.push (PySem.W.kdv_tup us)).push (PySem.HandSPX.excO C hp.objs.size)).get? c = some o := fun c o e => Heap.get?_push_of_some _ (Heap.get?_push_of_some _ e)
  have hget : ((hp.push (PySem.W.kdv_tup us)).push (PySem.HandSPX.excO C hp.objs.size)).get? (hp.objs.size + 1) = some (PySem.HandSPX.excO C hp.objs.size) := by heap_get
  have I2 : Inv X pins σ (upd H1 (hp.objs.size + 1) (exo (hp.objs.size + 1) C none)) ⟨(hp.push (PySem.W.kdv_tup us)).push (PySem.HandSPX.excO C hp.objs.size), g, dr, tk, os⟩ :=
    I1.laid (t' := tk) (a := hp.objs.size + 1) (o := exo (hp.objs.size + 1) C none) (h' := (hp.push (PySem.W.kdv_tup us)).push (PySem.HandSPX.excO C hp.objs.size)) kk hsz (exo_ok hget)
  have r2 : Vals (V.ref (hp.objs.size + 1) :: (vs ++ dvs)) (Value.ref (hp.objs.size + 1) :: (us ++ ds)) := .cons rfl (r1.append hd)
  have hl : (Value.ref (hp.objs.size + 1) :: us ++ ds).length = ps.length := by
    have e := r2.length
    rw [F1.len _ _ _ _ hq] at e
    exact e.symm
  have hus : us.length ≤ sizeLine := by
    rw [← Paired.length r1, sizeLine_eq]
    omega
  refine wpAny_call (PySem.HandSPX.call_own T.ok.ex (fun Y => refsG_contains Y bm hbm) (I1.kIn _ _ hC) (PySem.W.looks_findIn I1.kIn iC) (fun self => PySem.W.bind_fn I1.kIn self tI) hus
    (codeAny_mono (F1.run _ X.stack _ _ ⟨Value.ref (hp.objs.size + 1) :: us, []⟩ (Value.ref (hp.objs.size + 1) :: (us ++ ds)) _ _ (fun _ _ _ => False) (hr.make C us []) (I2.env0.make C us []) (hb _ (Value.ref (hp.objs.size + 1) :: us) I2.kIn hl) r2 hq) fun r s' hq' => ?_))
  cases r with
  | error er => exact hx pins σ _ _ er s' I2 hq'
  | ok fl =>
    cases fl with
    | ret u =>
      obtain ⟨v, H2, os2, bare2, un2, hok2, rv, ev, d, fs, ea, ed, hd1, q2⟩ := hq'
      subst ev
      obtain ⟨h2, g2, d2, t2, os'⟩ := s'
      exact ⟨rv, mk_end (raises_own T.exC T.tyC) I1 hsz kk un2 hok2 os2 bare2 ea ed hd1 q2⟩
    | next => exact False.elim hq'
    | brk => exact False.elim hq'
    | cont => exact False.elim hq'
end
/-! ### told by Bools -/
def oexGB (b : BsF) (K : PySem.W.Frag) (C : Addr) : Bool := match K.lookup C with
  | some ⟨.type "type", _, .cls cd, sl⟩ => (match cd.mro, sl.toList with
    | .ref C' :: bm, [_, _, _, _, some (.builtin n), _] => C' == C && n == b.nw && !cd.hasDel && cd.hasDict && refsG b.tl bm
    | _, _ => false)
  | _ => false
theorem oexGB_ok {b : BsF} {K : PySem.W.Frag} {C : Addr} (q : oexGB b K C = true) : ∃ nm q N bs bm sn sub ab col dd k0 k1 k2 k3 k5, K.lookup C = some (excClassObj nm q C N bs bm true sn sub ab col dd k0 k1 k2 k3 k5 b.nw) ∧ refsG b.tl bm = true := by
  unfold oexGB at q
  split at q
  · rename_i dd cd sl ho
    split at q
    · rename_i C' bm k0 k1 k2 k3 n k5 hm hs
      simp only [Bool.and_eq_true, beq_iff_eq, Bool.not_eq_true'] at q
      obtain ⟨⟨⟨⟨rfl, rfl⟩, hdel⟩, hdict⟩, ht⟩ := q
      obtain ⟨nm, bs, mro, ns, qn, hd, sn, sub, ab, col, del⟩ := cd
      dsimp only at hm hdel hdict
      subst hm hdel hdict
      have hsl : sl = #[k0, k1, k2, k3, some (.builtin b.nw), k5] := by
        obtain ⟨l⟩ := sl
        simp only at hs
        rw [hs]
      subst hsl
      exact ⟨nm, qn, ns, bs, bm, sn, sub, ab, col, dd, k0, k1, k2, k3, k5, ho, ht⟩
    · cases q
  · cases q
/-- an own class C of exceptions over b: raised, caught, its code read -/
structure OwnG (b : BsF) (K : PySem.W.Frag) (C : Addr) : Prop where
  o : OexG b K C
  xf : XfC K C
  noc : PySem.W.findIn K (.ref C) "code" = some none
def ownGB (b : BsF) (K : PySem.W.Frag) (C : Addr) : Bool := oexGB b K C && (He.eqO (PySem.W.findIn K (.ref C) "__setattr__") (some (some (.builtin "object.__setattr__"))) && (decide (PySem.W.subIn K (.ref C) (.type "BaseException") = some true) && (decide (PySem.W.typeIn K (.ref C) = some (.type "type")) &&
  (PySem.W.keepIn K (.ref C) && (xfB K C && He.eqO (PySem.W.findIn K (.ref C) "code") (some none))))))
theorem ownGB_ok {b : BsF} (hb : BsOk b) {K : PySem.W.Frag} {C : Addr} (h : ownGB b K C = true) : OwnG b K C := by
  obtain ⟨h1, h⟩ := He.ba h
  obtain ⟨h2, h⟩ := He.ba h
  obtain ⟨h3, h⟩ := He.ba h
  obtain ⟨h4, h⟩ := He.ba h
  obtain ⟨h5, h⟩ := He.ba h
  obtain ⟨h6, h7⟩ := He.ba h
  exact ⟨⟨hb, oexGB_ok h1, He.eqO_ok h2, of_decide_eq_true h3, of_decide_eq_true h4, h5⟩, xfB_ok h6, He.eqO_ok h7⟩
/-- the class x: an own class over b whose own __init__ is a def -/
structure OwnXG (b : BsF) (K : PySem.W.Frag) (x : Str) : Prop where
  c : OwnG b K (He.ga K x)
  ini : PySem.W.findIn K (.ref (He.ga K x)) "__init__" = some (some (.ref (He.ma K (He.ga K x) "__init__")))
  tyI : PySem.W.typeIn K (.ref (He.ma K (He.ga K x) "__init__")) = some (.type "function")
def ownXGB (b : BsF) (K : PySem.W.Frag) (x : Str) : Bool := ownGB b K (He.ga K x) && (He.eqO (PySem.W.findIn K (.ref (He.ga K x)) "__init__") (some (some (.ref (He.ma K (He.ga K x) "__init__")))) && decide (PySem.W.typeIn K (.ref (He.ma K (He.ga K x) "__init__")) = some (.type "function")))
theorem ownXGB_ok {b : BsF} (hb : BsOk b) {K : PySem.W.Frag} {x : Str} (h : ownXGB b K x = true) : OwnXG b K x := by
  obtain ⟨h1, h⟩ := He.ba h
  obtain ⟨h2, h3⟩ := He.ba h
  exact ⟨ownGB_ok hb h1, He.eqO_ok h2, of_decide_eq_true h3⟩
/-! ### the __init__s -/
/-- y.__init__(self, code) of a class over b -/
def spFG (b : BsF) (K : PySem.W.Frag) : Sp := fun vs H Q _ => ∃ (a C : Addr) (z : V), vs = [.ref a, z] ∧ OexG b K C ∧ PySem.W.findIn K (.ref C) "code" = some none ∧ H a = some (exo a C none) ∧
  ∀ dx, H dx = none → dx ≠ a → Q .non (upd (upd H dx (exd dx [("code", z)])) a (exo a C (some dx)))
def spIniG (b : BsF) (K : PySem.W.Frag) (z : Str) : Sp := fun vs H Q _ => ∃ (a C : Addr), vs = [.ref a] ∧ OexG b K C ∧ PySem.W.findIn K (.ref C) "code" = some none ∧ H a = some (exo a C none) ∧
  ∀ dx, H dx = none → dx ≠ a → Q .non (upd (upd H dx (exd dx [("code", .str z)])) a (exo a C (some dx)))
def spIniG1 (b : BsF) (K : PySem.W.Frag) (z f : Str) : Sp := fun vs H Q _ => ∃ (a C : Addr) (y : V), vs = [.ref a, y] ∧ OexG b K C ∧ PySem.W.findIn K (.ref C) "code" = some none ∧ PySem.W.findIn K (.ref C) f = some none ∧ H a = some (exo a C none) ∧
  ∀ dx, H dx = none → dx ≠ a → Q .non (upd (upd (upd H dx (exd dx [("code", .str z)])) a (exo a C (some dx))) dx (exd dx [(f, y), ("code", .str z)]))
structure RaiseG (P : Program) (w : World) (K : PySem.W.Frag) (mg : Str → Option Value) (base : Heap) (b : BsF) (x : Str) (k : Nat) (z : Str) : Prop where
  own : OwnXG b K x
  hm : mg x = some (.ref (He.ga K x))
  ini : ∃ fd, FnOk P w K mg base CX0 k (He.ma K (He.ga K x) "__init__") fd ["self"] (spIniG b K z) ∧ Binds K fd ["self"] []
structure RaiseG1 (P : Program) (w : World) (K : PySem.W.Frag) (mg : Str → Option Value) (base : Heap) (b : BsF) (x : Str) (k : Nat) (z f : Str) : Prop where
  own : OwnXG b K x
  nof : PySem.W.findIn K (.ref (He.ga K x)) f = some none
  hm : mg x = some (.ref (He.ga K x))
  ini : ∃ fd, FnOk P w K mg base CX0 k (He.ma K (He.ga K x) "__init__") fd ["self", f] (spIniG1 b K z f) ∧ Binds K fd ["self", f] []
theorem pmk_raiseG1 {b : BsF} {X : Cx} {x z f : Str} {k j : Nat} {e : Expr} {p pos : Pos} {ta : TA} (D : RaiseG1 X.prog X.w X.K X.mg X.base b x k z f) (hr : Room j X.A) (hkj : k + 1 ≤ j) (ha : PA X [e] ta) (hg : Gl X x := by rfl) (hdb : (x == ("__debug__" : Str)) = false := by decide)
    (he : starEach [e] X.env = (false, eval e X.env) :: starEach [] X.env := by rfl) (hpl : (backTo pos (starEach [] X.env)).any (·.1) = false := by rfl) (mono : ∀ σ H (Q Q' : List V → Hp → Prop), (∀ vs H1, Q vs H1 → Q' vs H1) → ta σ H Q → ta σ H Q') :
    PMk X (.Call (.Name x p) [e] [] pos) (tOwn1 X.K x z f ta) := by
  obtain ⟨fd, F, hb⟩ := D.ini
  refine pmk_imp (pmk_oexG D.own.c.o D.own.ini D.own.tyI F (hr.mono hkj) hb .nil pass0 hg D.hm ha hdb he hpl) fun σ H Q q => ?_
  refine mono σ H _ _ (fun vs H1 ⟨y, ev, q⟩ => ?_) q
  subst ev
  refine ⟨by simp, fun a ha => ⟨a, He.ga X.K x, y, rfl, D.own.c.o, D.own.c.noc, D.nof, upd_same, fun dx hdx hne => ⟨rfl, dx, [(f, y), ("code", .str z)], ?_, upd_same, ?_, ?_⟩⟩⟩
  · rw [upd_ne (Ne.symm hne), upd_same]
  · rwa [upd_ne hne] at hdx
  · have hdx2 : H1 dx = none := by rwa [upd_ne hne] at hdx
    refine q dx _ (fun c u hb => ?_) upd_same
    have b1 : c ≠ dx := ne_of_none hb hdx2
    have b2 : c ≠ a := ne_of_none hb ha
    rw [upd_ne b1, del_ne b2, upd_ne b1, upd_ne b2, upd_ne b1, upd_ne b2]
    exact hb
/-- x.__init__ read from the class x -/
structure FeG (K : PySem.W.Frag) (x : Str) : Prop where
  rd : ClX.CRead K (He.ga K x) (.type "type")
  at_ : PySem.W.findCls K (.ref (He.ga K x)) (.type "type") "__init__" = some (.val (.ref (He.ma K (He.ga K x) "__init__")))
  kp : PySem.W.keepIn K (.ref (He.ma K (He.ga K x) "__init__")) = true
def feGB (K : PySem.W.Frag) (x : Str) : Bool := PySem.W.readsIn K (He.ga K x) (.type "type") && (He.eqO (PySem.W.specialIn K (.ref (He.ga K x)) "__getattribute__") (some (some (.builtin "type.__getattribute__"))) && (fcl (PySem.W.findCls K (.ref (He.ga K x)) (.type "type") "__init__") (.ref (He.ma K (He.ga K x) "__init__")) &&
  PySem.W.keepIn K (.ref (He.ma K (He.ga K x) "__init__"))))
theorem feGB_ok {K : PySem.W.Frag} {x : Str} (h : feGB K x = true) : FeG K x := by
  obtain ⟨h1, h⟩ := He.ba h
  obtain ⟨h2, h⟩ := He.ba h
  obtain ⟨h3, h4⟩ := He.ba h
  exact ⟨⟨h1, He.eqO_ok h2⟩, fcl_ok h3, h4⟩
/-- B.__init__, B a builtin exception -/
def bInitB (K : PySem.W.Frag) (B ini : String) : Bool := fcl (PySem.W.findCls K (.type B) (.type "type") "__init__") (.builtin ini)
theorem bInitB_ok {K : PySem.W.Frag} {B ini : String} (h : bInitB K B ini = true) : PySem.W.findCls K (.type B) (.type "type") "__init__" = some (.val (.builtin ini)) := fcl_ok h
end FF
/-! Fivefault, part 99: an expression whose evaluation reads or changes a hidden list: opened ahead of it, hidden behind it. -/
namespace FF
open PySem PySem.Spec PyProof.Rows L2
/-- the list at a, hidden: its items are these -/
abbrev isL (l : List V) : List V → Prop := fun xs => xs = l
def tOpenE (te : TE) : TE := fun σ H Q => ∃ (a : Addr) (l : List V), H a = some (hid (isL l) a) ∧ te σ (upd H a (.lst l)) fun v H' => ∃ l', H' a = some (.lst l') ∧ Q v (upd H' a (hid (isL l') a))
theorem pe_opened {X : Cx} {e : Expr} {te : TE} (h : PE X e te) : PE X e (tOpenE te) := by
  refine ⟨fun pins s σ H Q I hw => ?_⟩
  obtain ⟨a, l, ha, hw⟩ := hw
  obtain ⟨xs, rfl, I1⟩ := inv_open ha I
  refine thn (h.run pins s σ _ _ I1 hw) fun v s1 ⟨v', H', I2, r, l', h', q⟩ => ?_
  exact ⟨_, _, inv_shut (good := isL l') h' rfl I2, r, q⟩
/-- a walk that has no turn -/
theorem for_none {J : It} {g : TG} {tb : TS} {D : Ends} {σ : L2.St} {H : Hp} (hs : J.stop 0 H) (hd : D.nx σ H) :
    ∃ W : Nat → Nat → L2.St → Hp → Prop, (∃ m, W 0 m σ H) ∧ ∀ i m σ H, W i m σ H →
      (J.stop i H ∧ D.nx σ H) ∨ (J.go i H ∧ ∃ N : L2.St → Hp → Prop, (∀ σ' H', N σ' H' → ∃ m', m' < m ∧ W (i + 1) m' σ' H') ∧ ∀ x H', J.yld i H x H' → g x σ H' fun σ2 H2 => tb { D with nx := N, ct := N, bk := D.nx } σ2 H2) :=
  ⟨fun i _ σ' H' => i = 0 ∧ σ' = σ ∧ H' = H, ⟨0, rfl, rfl, rfl⟩, fun i m σ' H' ⟨a, b, c⟩ => by
    subst a b c
    exact .inl ⟨hs, hd⟩⟩
end FF
/-! Fivefault, part 100: rules of calls within a block, with the fragment named. -/
namespace FF
open PySem PySem.Spec PyProof.Rows L2
/-- f(*xs) within a comprehension's block -/
theorem pa_starK {X : Cx} (K : PySem.W.Frag) {e : Expr} {es : List Expr} {te : TE} {t : TA} {p : Pos} (he : PE X e te) (hr : PA X es t) (hs : starEach (.Starred e p :: es) X.env = (true, eval e X.env) :: starEach es X.env := by rfl) (h : X.K = K := by rfl) : PA X (.Starred e p :: es) (StX.tStar K te t) := by
  subst h
  exact StX.pa_star he hr hs
theorem op_catTK (K : PySem.W.Frag) {X : Cx} (h : X.K = K := by rfl) : OpR X (binaryOp .Add) (rCatT K) := by
  subst h
  exact op_catT
end FF
/-! Fivefault, part 101: xs[::s], s 1 or -1. -/
namespace FF
open PySem PySem.Spec PyProof.Rows L2
def tRev2 (K : PySem.W.Frag) (te : TE) (ts : TO) : TE := fun σ H Q => te σ H fun x H1 => ts σ H1 fun o H2 => ∃ a xs, x = .ref a ∧ SqL K H2 a xs ∧ (o = some 1 ∨ o = some (-1)) ∧ ∀ ys p, H2 p = none → (ys = xs ∨ ys = xs.reverse) → Q (.ref p) (upd H2 p (.lst ys))
theorem pe_rev2 {X : Cx} {e st : Expr} {te : TE} {ts : TO} {p2 pos : Pos} (K : PySem.W.Frag) (he : PE X e te) (hs : PO X (some st) ts) (hK : X.K = K := by rfl) : PE X (.Subscript e (.Slice none none (some st) p2) pos) (tRev2 K te ts) := by
  subst hK
  refine ⟨fun pins s σ H Q I h => ?_⟩
  refine Subscript_ (thn (he.run pins s σ H _ I h) fun v s1 ⟨x, H1, I1, r1, q1⟩ => ?_)
  refine wpAny_Slice ?_
  rw [evalPart_none]
  refine wpAny_pure ?_
  refine wpAny_pure ?_
  refine thn (hs.run pins s1 σ H1 _ I1 q1) fun vs s2 ⟨o, H2, I2, po, a, xs, hz, hl, ho, q2⟩ => ?_
  subst hz
  cases r1
  rcases ho with ho | ho
  · subst ho
    cases po with
    | int i u =>
    have I4 : Inv X pins σ H2 { s2 with heap := s2.heap.push { cls := .type "slice", data := .fields #[.none, .none, .int 1 u] } } := I2.kept (t' := s2.toks) fun b ob q => Heap.get?_push_of_some _ q
    have hn : Heap.IsSliceOf (s2.heap.push { cls := .type "slice", data := .fields #[.none, .none, .int 1 u] }) s2.heap.objs.size .none .none (.int 1 u) := Heap.IsSliceOf.new ..
    obtain ⟨its, r, ht, hzl⟩ := I4.list hl
    have hlen := r.length
    have hg : wpAny (model X.prog X.w) X.A (getItem (.ref a) (.ref s2.heap.objs.size)) (EP X pins σ Q) X.xe { s2 with heap := s2.heap.push { cls := .type "slice", data := .fields #[.none, .none, .int 1 u] } } := by
      refine wpAny_getItem_list_slice (lo := none) (hi := none) (st := some 1) ht.isList hn .none .none (.int 1 u) (by decide) ?_ (by rw [List.size_toArray] <;> omega)
      have e : slicePick its.toArray none none (some 1) = its.toArray := by
        show slicePick its.toArray none none none = _
        rw [slicePick_cut]
        simp [HT.sIx_none]
      rw [e]
      refine ⟨.ref _, _, I4.laid (t' := s2.toks) (o := .lst xs) (fun b ob q => Heap.get?_push_of_some _ q) (Nat.le_refl _) ?_, rfl, q2 _ _ (I4.hok.fresh (Nat.le_refl _)) (.inl rfl)⟩
      exact ⟨hzl, _, 0, r, Heap.get?_push_size _ rfl⟩
    show wpAny (model X.prog X.w) X.A (subscriptTail e (.Slice none none (some st) p2) (.ref a) (.ref s2.heap.objs.size)) (EP X pins σ Q) X.xe _
    exact tail_any (ops := [.ref a, .ref s2.heap.objs.size]) ht.isList.typeIs slot_list_getitem.lookup hg (by with_unfolding_all rfl)
  · subst ho
    cases po with
    | int i u =>
    have I4 : Inv X pins σ H2 { s2 with heap := s2.heap.push { cls := .type "slice", data := .fields #[.none, .none, .int (-1) u] } } := I2.kept (t' := s2.toks) fun b ob q => Heap.get?_push_of_some _ q
    have hn : Heap.IsSliceOf (s2.heap.push { cls := .type "slice", data := .fields #[.none, .none, .int (-1) u] }) s2.heap.objs.size .none .none (.int (-1) u) := Heap.IsSliceOf.new ..
    obtain ⟨its, r, ht, hzl⟩ := I4.list hl
    have hlen := r.length
    have hg : wpAny (model X.prog X.w) X.A (getItem (.ref a) (.ref s2.heap.objs.size)) (EP X pins σ Q) X.xe { s2 with heap := s2.heap.push { cls := .type "slice", data := .fields #[.none, .none, .int (-1) u] } } := by
      refine wpAny_getItem_list_slice (lo := none) (hi := none) (st := some (-1)) ht.isList hn .none .none (.int (-1) u) (by decide) ?_ (by rw [List.size_toArray] <;> omega)
      have e : slicePick its.toArray none none (some (-1)) = its.reverse.toArray := by
        unfold slicePick
        show ((Builtin.Str.strSliceIndices none none (-1) its.toArray.size).filterMap _).toArray = _
        rw [rev_range, List.size_toArray]
        congr 1
        rw [← rev_pickV its]
        congr 1
        funext i
        exact List.getElem?_toArray
      rw [e]
      refine ⟨.ref _, _, I4.laid (t' := s2.toks) (o := .lst xs.reverse) (fun b ob q => Heap.get?_push_of_some _ q) (Nat.le_refl _) ?_, rfl, q2 _ _ (I4.hok.fresh (Nat.le_refl _)) (.inr rfl)⟩
      exact ⟨by rw [List.length_reverse]; exact hzl, _, 0, vals_rev r, Heap.get?_push_size _ rfl⟩
    show wpAny (model X.prog X.w) X.A (subscriptTail e (.Slice none none (some st) p2) (.ref a) (.ref s2.heap.objs.size)) (EP X pins σ Q) X.xe _
    exact tail_any (ops := [.ref a, .ref s2.heap.objs.size]) ht.isList.typeIs slot_list_getitem.lookup hg (by with_unfolding_all rfl)
end FF
namespace FF
open PySem PySem.Spec PyProof.Rows L2
def top (i : Nat) : Stmt := PySem.Challenge.pw_fivefault_k50_capacities_of_a_store.main.body.getD i (.Pass ⟨0, 0, 0, 0⟩)
def clsSt (s : Stmt) (i : Nat) : Stmt := match s with
  | .ClassDef _ _ _ b .. => b.getD i (.Pass ⟨0, 0, 0, 0⟩)
  | _ => .Pass ⟨0, 0, 0, 0⟩
abbrev s_wall : Stmt := top 0
abbrev s_is_letter : Stmt := top 21
theorem sc_is_letter : FnScope ["value"] ["value"] (defScope s_is_letter) := ⟨rfl, rfl, rfl, by decide +kernel, rfl, by decide +kernel, by decide +kernel⟩
abbrev s_measured : Stmt := top 22
theorem sc_measured : FnScope ["value", "max_depth", "sizes", "part"] ["value", "max_depth"] (defScope s_measured) := ⟨rfl, rfl, rfl, by decide +kernel, rfl, by decide +kernel, by decide +kernel⟩
abbrev s_is_term : Stmt := top 23
theorem sc_is_term : FnScope ["value", "max_depth", "max_size"] ["value", "max_depth", "max_size"] (defScope s_is_term) := ⟨rfl, rfl, rfl, by decide +kernel, rfl, by decide +kernel, by decide +kernel⟩
abbrev s_need_term : Stmt := top 24
theorem sc_need_term : FnScope ["value"] ["value"] (defScope s_need_term) := ⟨rfl, rfl, rfl, by decide +kernel, rfl, by decide +kernel, by decide +kernel⟩
abbrev s_parts_of : Stmt := top 25
theorem sc_parts_of : FnScope ["term"] ["term"] (defScope s_parts_of) := ⟨rfl, rfl, rfl, by decide +kernel, rfl, by decide +kernel, by decide +kernel⟩
abbrev s_walked : Stmt := top 26
theorem sc_walked : FnScope ["term", "found", "part"] ["term"] (defScope s_walked) := ⟨rfl, rfl, rfl, by decide +kernel, rfl, by decide +kernel, by decide +kernel⟩
abbrev s_is_name : Stmt := top 30
theorem sc_is_name : FnScope ["text", "sign"] ["text"] (defScope s_is_name) := ⟨rfl, rfl, rfl, by decide +kernel, rfl, by decide +kernel, by decide +kernel⟩
abbrev s_text_of : Stmt := top 31
theorem sc_text_of : FnScope ["term", "operator", "parts", "texts", "part"] ["term"] (defScope s_text_of) := ⟨rfl, rfl, rfl, by decide +kernel, rfl, by decide +kernel, by decide +kernel⟩
abbrev s_is_goal : Stmt := top 32
theorem sc_is_goal : FnScope ["value"] ["value"] (defScope s_is_goal) := ⟨rfl, rfl, rfl, by decide +kernel, rfl, by decide +kernel, by decide +kernel⟩
abbrev s_is_rule : Stmt := top 33
theorem sc_is_rule : FnScope ["value"] ["value"] (defScope s_is_rule) := ⟨rfl, rfl, rfl, by decide +kernel, rfl, by decide +kernel, by decide +kernel⟩
abbrev s_words_of : Stmt := top 37
theorem sc_words_of : FnScope ["pairs", "by_text", "left", "right", "word", "text"] ["pairs"] (defScope s_words_of) := ⟨rfl, rfl, rfl, by decide +kernel, rfl, by decide +kernel, by decide +kernel⟩
abbrev s_pairs_in : Stmt := top 38
theorem sc_pairs_in : FnScope ["rules", "goal", "name", "left", "right"] ["rules", "goal"] (defScope s_pairs_in) := ⟨rfl, rfl, rfl, by decide +kernel, rfl, by decide +kernel, by decide +kernel⟩
abbrev s_need_list : Stmt := top 39
theorem sc_need_list : FnScope ["rules", "names", "index", "rule"] ["rules"] (defScope s_need_list) := ⟨rfl, rfl, rfl, by decide +kernel, rfl, by decide +kernel, by decide +kernel⟩
abbrev s_checked_words : Stmt := top 40
theorem sc_checked_words : FnScope ["rules", "goal", "words"] ["rules", "goal"] (defScope s_checked_words) := ⟨rfl, rfl, rfl, by decide +kernel, rfl, by decide +kernel, by decide +kernel⟩
abbrev s_check_rules : Stmt := top 41
theorem sc_check_rules : FnScope ["rules", "goal"] ["rules", "goal"] (defScope s_check_rules) := ⟨rfl, rfl, rfl, by decide +kernel, rfl, by decide +kernel, by decide +kernel⟩
abbrev s_names_in : Stmt := top 45
theorem sc_names_in : FnScope ["scene", "rule"] ["scene"] (defScope s_names_in) := ⟨rfl, rfl, rfl, by decide +kernel, rfl, by decide +kernel, by decide +kernel⟩
abbrev s_need_terms : Stmt := top 46
theorem sc_need_terms : FnScope ["left", "right"] ["left", "right"] (defScope s_need_terms) := ⟨rfl, rfl, rfl, by decide +kernel, rfl, by decide +kernel, by decide +kernel⟩
abbrev s_checked : Stmt := top 47
theorem sc_checked : FnScope ["scene", "rules", "questions", "name"] ["scene"] (defScope s_checked) := ⟨rfl, rfl, rfl, by decide +kernel, rfl, by decide +kernel, by decide +kernel⟩
abbrev s_with_rule : Stmt := top 48
theorem sc_with_rule : FnScope ["scene", "command", "limit", "word", "name", "left", "right"] ["scene", "command", "limit"] (defScope s_with_rule) := ⟨rfl, rfl, rfl, by decide +kernel, rfl, by decide +kernel, by decide +kernel⟩
abbrev s_with_other_rule : Stmt := top 49
theorem sc_with_other_rule : FnScope ["scene", "command", "word", "name", "left", "right", "rules", "rule"] ["scene", "command"] (defScope s_with_other_rule) := ⟨rfl, rfl, rfl, by decide +kernel, rfl, by decide +kernel, by decide +kernel⟩
abbrev s_without_rule : Stmt := top 50
theorem sc_without_rule : FnScope ["scene", "name", "rule"] ["scene", "name"] (defScope s_without_rule) := ⟨rfl, rfl, rfl, by decide +kernel, rfl, by decide +kernel, by decide +kernel⟩
abbrev s_with_question : Stmt := top 51
theorem sc_with_question : FnScope ["scene", "command", "word", "name", "left", "right"] ["scene", "command"] (defScope s_with_question) := ⟨rfl, rfl, rfl, by decide +kernel, rfl, by decide +kernel, by decide +kernel⟩
abbrev s_without_question : Stmt := top 52
theorem sc_without_question : FnScope ["scene", "name", "one", "goal"] ["scene", "name"] (defScope s_without_question) := ⟨rfl, rfl, rfl, by decide +kernel, rfl, by decide +kernel, by decide +kernel⟩
abbrev s_after : Stmt := top 53
theorem sc_after : FnScope ["scene", "command", "limit", "word"] ["scene", "command", "limit"] (defScope s_after) := ⟨rfl, rfl, rfl, by decide +kernel, rfl, by decide +kernel, by decide +kernel⟩
abbrev s_law_source : Stmt := top 56
theorem sc_law_source : FnScope ["_law_script"] ["_law_script"] (defScope s_law_source) := ⟨rfl, rfl, rfl, by decide +kernel, rfl, by decide +kernel, by decide +kernel⟩
abbrev s_law_take : Stmt := top 57
theorem sc_law_take : FnScope ["_law_source_here", "_law_many", "_law_cell", "_law_digit", "_law_mixed_here"] ["_law_source_here", "_law_many"] (defScope s_law_take) := ⟨rfl, rfl, rfl, by decide +kernel, rfl, by decide +kernel, by decide +kernel⟩
abbrev s_law_pick : Stmt := top 58
theorem sc_law_pick : FnScope ["_law_source_here", "_law_row"] ["_law_source_here", "_law_row"] (defScope s_law_pick) := ⟨rfl, rfl, rfl, by decide +kernel, rfl, by decide +kernel, by decide +kernel⟩
abbrev s_law_mixed : Stmt := top 59
theorem sc_law_mixed : FnScope ["_law_source_here", "_law_row", "_law_found", "_law_one"] ["_law_source_here", "_law_row"] (defScope s_law_mixed) := ⟨rfl, rfl, rfl, by decide +kernel, rfl, by decide +kernel, by decide +kernel⟩
abbrev s_law_same : Stmt := top 60
theorem sc_law_same : FnScope ["_law_found", "_law_due", "_law_key", "_law_one", "_law_other"] ["_law_found", "_law_due"] (defScope s_law_same) := ⟨rfl, rfl, rfl, by decide +kernel, rfl, by decide +kernel, by decide +kernel⟩
abbrev s_law_parts : Stmt := top 61
theorem sc_law_parts : FnScope ["_law_word"] ["_law_word"] (defScope s_law_parts) := ⟨rfl, rfl, rfl, by decide +kernel, rfl, by decide +kernel, by decide +kernel⟩
abbrev s_law_text : Stmt := top 62
theorem sc_law_text : FnScope ["_law_word", "_law_texts", "_law_one"] ["_law_word"] (defScope s_law_text) := ⟨rfl, rfl, rfl, by decide +kernel, rfl, by decide +kernel, by decide +kernel⟩
abbrev s_law_walk : Stmt := top 63
theorem sc_law_walk : FnScope ["_law_word", "_law_found", "_law_one"] ["_law_word"] (defScope s_law_walk) := ⟨rfl, rfl, rfl, by decide +kernel, rfl, by decide +kernel, by decide +kernel⟩
abbrev s_law_by_text : Stmt := top 64
theorem sc_law_by_text : FnScope ["_law_row", "_law_texts", "_law_one", "_law_text_here"] ["_law_row"] (defScope s_law_by_text) := ⟨rfl, rfl, rfl, by decide +kernel, rfl, by decide +kernel, by decide +kernel⟩
abbrev s_law_words : Stmt := top 65
theorem sc_law_words : FnScope ["_law_pairs", "_law_found", "_law_left", "_law_right"] ["_law_pairs"] (defScope s_law_words) := ⟨rfl, rfl, rfl, by decide +kernel, rfl, by decide +kernel, by decide +kernel⟩
abbrev s_law_names : Stmt := top 66
theorem sc_law_names : FnScope ["_law_source_here", "_law_many", "_law_mletters", "_law_msize", "_law_at", "_law_first", "_law_step", "_law_found", "_law_k", "_law_signs"] ["_law_source_here", "_law_many"] (defScope s_law_names) := ⟨rfl, rfl, rfl, by decide +kernel, rfl, by decide +kernel, by decide +kernel⟩
abbrev s_law_measure : Stmt := top 67
theorem sc_law_measure : FnScope ["_law_word", "_law_deep", "_law_sizes", "_law_one"] ["_law_word", "_law_deep"] (defScope s_law_measure) := ⟨rfl, rfl, rfl, by decide +kernel, rfl, by decide +kernel, by decide +kernel⟩
abbrev s_law_fits : Stmt := top 68
theorem sc_law_fits : FnScope ["_law_word"] ["_law_word"] (defScope s_law_fits) := ⟨rfl, rfl, rfl, by decide +kernel, rfl, by decide +kernel, by decide +kernel⟩
abbrev s_law_is_name : Stmt := top 69
theorem sc_law_is_name : FnScope ["_law_text_here", "_law_one"] ["_law_text_here"] (defScope s_law_is_name) := ⟨rfl, rfl, rfl, by decide +kernel, rfl, by decide +kernel, by decide +kernel⟩
abbrev s_law_next : Stmt := top 70
theorem sc_law_next : FnScope ["_law_state", "_law_command", "_law_premises", "_law_asked", "_law_word", "_law_name", "_law_one"] ["_law_state", "_law_command"] (defScope s_law_next) := ⟨rfl, rfl, rfl, by decide +kernel, rfl, by decide +kernel, by decide +kernel⟩
abbrev s_law_terms_due : Stmt := top 71
theorem sc_law_terms_due : FnScope ["_law_state", "_law_premises", "_law_asked", "_law_pairs", "_law_one", "_law_many", "_law_name"] ["_law_state"] (defScope s_law_terms_due) := ⟨rfl, rfl, rfl, by decide +kernel, rfl, by decide +kernel, by decide +kernel⟩
abbrev s_law_refusal : Stmt := top 72
theorem sc_law_refusal : FnScope ["_law_state", "_law_command", "_law_most", "_law_premises", "_law_asked", "_law_sizes", "_law_word", "_law_name", "_law_taken", "_law_one"] ["_law_state", "_law_command", "_law_most"] (defScope s_law_refusal) := ⟨rfl, rfl, rfl, by decide +kernel, rfl, by decide +kernel, by decide +kernel⟩
abbrev s_law_refused_with : Stmt := top 73
theorem sc_law_refused_with : FnScope ["_law_ask", "_law_told", "e"] ["_law_ask"] (defScope s_law_refused_with) := ⟨rfl, rfl, rfl, by decide +kernel, rfl, by decide +kernel, by decide +kernel⟩
abbrev s_law_wide : Stmt := top 74
theorem sc_law_wide : FnScope ["_law_at", "_law_some", "_law_one", "_law_two", "_law_more"] ["_law_at"] (defScope s_law_wide) := ⟨rfl, rfl, rfl, by decide +kernel, rfl, by decide +kernel, by decide +kernel⟩
abbrev s_law_store_so : Stmt := top 75
theorem sc_law_store_so : FnScope ["_law_place", "_law_state", "_law_premises", "_law_asked", "_law_due", "_law_name", "_law_text_here"] ["_law_place", "_law_state"] (defScope s_law_store_so) := ⟨rfl, rfl, rfl, by decide +kernel, rfl, by decide +kernel, by decide +kernel⟩
abbrev s_law : Stmt := top 76
theorem sc_law : FnScope ["_law_script", "_law_source_here", "_law_place", "_law_state", "_law_names_here", "_law_small", "_law_commands", "_law_name", "_law_two", "_law_late", "_law_whole", "_law_command", "_law_due", "_law_start"] ["_law_script"] (defScope s_law) := ⟨rfl, rfl, rfl, by decide +kernel, rfl, by decide +kernel, by decide +kernel⟩
abbrev s_Store___init__ : Stmt := clsSt (top 54) 0
theorem sc_Store___init__ : FnScope ["self"] ["self"] (defScope s_Store___init__) := ⟨rfl, rfl, rfl, by decide +kernel, rfl, by decide +kernel, by decide +kernel⟩
abbrev s_Store_show : Stmt := clsSt (top 54) 1
theorem sc_Store_show : FnScope ["self", "scene", "rules", "questions", "kept", "name", "found"] ["self", "scene"] (defScope s_Store_show) := ⟨rfl, rfl, rfl, by decide +kernel, rfl, by decide +kernel, by decide +kernel⟩
abbrev s_Store_advance : Stmt := clsSt (top 54) 2
theorem sc_Store_advance : FnScope ["self", "scene"] ["self", "scene"] (defScope s_Store_advance) := ⟨rfl, rfl, rfl, by decide +kernel, rfl, by decide +kernel, by decide +kernel⟩
abbrev s_Store_do : Stmt := clsSt (top 54) 3
theorem sc_Store_do : FnScope ["self", "command"] ["self", "command"] (defScope s_Store_do) := ⟨rfl, rfl, rfl, by decide +kernel, rfl, by decide +kernel, by decide +kernel⟩
abbrev s_Store_rules : Stmt := clsSt (top 54) 8
theorem sc_Store_rules : FnScope ["self"] ["self"] (defScope s_Store_rules) := ⟨rfl, rfl, rfl, by decide +kernel, rfl, by decide +kernel, by decide +kernel⟩
abbrev s_Store_questions : Stmt := clsSt (top 54) 10
theorem sc_Store_questions : FnScope ["self", "name"] ["self"] (defScope s_Store_questions) := ⟨rfl, rfl, rfl, by decide +kernel, rfl, by decide +kernel, by decide +kernel⟩
abbrev s_Store___len__ : Stmt := clsSt (top 54) 22
theorem sc_Store___len__ : FnScope ["self"] ["self"] (defScope s_Store___len__) := ⟨rfl, rfl, rfl, by decide +kernel, rfl, by decide +kernel, by decide +kernel⟩
abbrev s_Store___repr__ : Stmt := clsSt (top 54) 23
theorem sc_Store___repr__ : FnScope ["self"] ["self"] (defScope s_Store___repr__) := ⟨rfl, rfl, rfl, by decide +kernel, rfl, by decide +kernel, by decide +kernel⟩
abbrev s_FaultError_init : Stmt := clsSt (top 2) 0
theorem sc_FaultError_init : FnScope ["self", "code"] ["self", "code"] (defScope s_FaultError_init) := ⟨rfl, rfl, rfl, by decide +kernel, rfl, by decide +kernel, by decide +kernel⟩
abbrev s_Missing_init : Stmt := clsSt (top 3) 0
theorem sc_Missing_init : FnScope ["self", "code"] ["self", "code"] (defScope s_Missing_init) := ⟨rfl, rfl, rfl, by decide +kernel, rfl, by decide +kernel, by decide +kernel⟩
abbrev s_InvalidTerm_init : Stmt := clsSt (top 4) 0
theorem sc_InvalidTerm_init : FnScope ["self"] ["self"] (defScope s_InvalidTerm_init) := ⟨rfl, rfl, rfl, by decide +kernel, rfl, by decide +kernel, by decide +kernel⟩
abbrev s_InvalidName_init : Stmt := clsSt (top 5) 0
theorem sc_InvalidName_init : FnScope ["self", "name"] ["self", "name"] (defScope s_InvalidName_init) := ⟨rfl, rfl, rfl, by decide +kernel, rfl, by decide +kernel, by decide +kernel⟩
abbrev s_InvalidRules_init : Stmt := clsSt (top 6) 0
theorem sc_InvalidRules_init : FnScope ["self", "index"] ["self", "index"] (defScope s_InvalidRules_init) := ⟨rfl, rfl, rfl, by decide +kernel, rfl, by decide +kernel, by decide +kernel⟩
abbrev s_InvalidGoal_init : Stmt := clsSt (top 7) 0
theorem sc_InvalidGoal_init : FnScope ["self"] ["self"] (defScope s_InvalidGoal_init) := ⟨rfl, rfl, rfl, by decide +kernel, rfl, by decide +kernel, by decide +kernel⟩
abbrev s_TooManyTerms_init : Stmt := clsSt (top 8) 0
theorem sc_TooManyTerms_init : FnScope ["self", "count"] ["self", "count"] (defScope s_TooManyTerms_init) := ⟨rfl, rfl, rfl, by decide +kernel, rfl, by decide +kernel, by decide +kernel⟩
abbrev s_NameInUse_init : Stmt := clsSt (top 9) 0
theorem sc_NameInUse_init : FnScope ["self", "name"] ["self", "name"] (defScope s_NameInUse_init) := ⟨rfl, rfl, rfl, by decide +kernel, rfl, by decide +kernel, by decide +kernel⟩
abbrev s_CapacityReached_init : Stmt := clsSt (top 10) 0
theorem sc_CapacityReached_init : FnScope ["self", "limit"] ["self", "limit"] (defScope s_CapacityReached_init) := ⟨rfl, rfl, rfl, by decide +kernel, rfl, by decide +kernel, by decide +kernel⟩
abbrev s_InvalidCommand_init : Stmt := clsSt (top 12) 0
theorem sc_InvalidCommand_init : FnScope ["self", "word"] ["self", "word"] (defScope s_InvalidCommand_init) := ⟨rfl, rfl, rfl, by decide +kernel, rfl, by decide +kernel, by decide +kernel⟩
abbrev s_UnknownRule_init : Stmt := clsSt (top 13) 0
theorem sc_UnknownRule_init : FnScope ["self", "name"] ["self", "name"] (defScope s_UnknownRule_init) := ⟨rfl, rfl, rfl, by decide +kernel, rfl, by decide +kernel, by decide +kernel⟩
abbrev s_UnknownQuestion_init : Stmt := clsSt (top 14) 0
theorem sc_UnknownQuestion_init : FnScope ["self", "name"] ["self", "name"] (defScope s_UnknownQuestion_init) := ⟨rfl, rfl, rfl, by decide +kernel, rfl, by decide +kernel, by decide +kernel⟩
abbrev s_NothingLeft_init : Stmt := clsSt (top 15) 0
def kt_LENGTHS : List (Str × Int) := [("add", 4), ("put", 4), ("drop", 2), ("ask", 4), ("forget", 2)]
structure Top (K : PySem.W.Frag) (mg : Str → Option Value) : Prop where
  b_IndexError : mg "IndexError" = none
  b_LookupError : mg "LookupError" = none
  b_ValueError : mg "ValueError" = none
  b_all : mg "all" = none
  b_bool : mg "bool" = none
  b_dict : mg "dict" = none
  b_enumerate : mg "enumerate" = none
  b_int : mg "int" = none
  b_isinstance : mg "isinstance" = none
  b_len : mg "len" = none
  b_list : mg "list" = none
  b_property : mg "property" = none
  b_range : mg "range" = none
  b_repr : mg "repr" = none
  b_sorted : mg "sorted" = none
  b_str : mg "str" = none
  b_sum : mg "sum" = none
  b_tuple : mg "tuple" = none
  b_zip : mg "zip" = none
  g_LETTERS : ∃ t, mg "LETTERS" = some (.str "abcdefgh" t)
  g_OPERATORS : mg "OPERATORS" = some (.ref (He.ga K "OPERATORS"))
  t_OPERATORS : ∀ H, SqT K H (He.ga K "OPERATORS") [.str "&", .str "|"]
  g_MAX_DEPTH : ∃ t, mg "MAX_DEPTH" = some (.int 5 t)
  g_MAX_SIZE : ∃ t, mg "MAX_SIZE" = some (.int 24 t)
  g_SMALL_LETTERS : ∃ t, mg "SMALL_LETTERS" = some (.str "abcdefghijklmnopqrstuvwxyz" t)
  g_MAX_NAME : ∃ t, mg "MAX_NAME" = some (.int 6 t)
  g_MAX_RULES : ∃ t, mg "MAX_RULES" = some (.int 12 t)
  g_MAX_TERMS : ∃ t, mg "MAX_TERMS" = some (.int 24 t)
  g_MAX_QUESTIONS : ∃ t, mg "MAX_QUESTIONS" = some (.int 8 t)
  g_LENGTHS : mg "LENGTHS" = some (.ref (He.ga K "LENGTHS"))
  c_FaultError : mg "FaultError" = some (.ref (He.ga K "FaultError"))
  c_Missing : mg "Missing" = some (.ref (He.ga K "Missing"))
  c_InvalidTerm : mg "InvalidTerm" = some (.ref (He.ga K "InvalidTerm"))
  c_InvalidName : mg "InvalidName" = some (.ref (He.ga K "InvalidName"))
  c_InvalidRules : mg "InvalidRules" = some (.ref (He.ga K "InvalidRules"))
  c_InvalidGoal : mg "InvalidGoal" = some (.ref (He.ga K "InvalidGoal"))
  c_TooManyTerms : mg "TooManyTerms" = some (.ref (He.ga K "TooManyTerms"))
  c_NameInUse : mg "NameInUse" = some (.ref (He.ga K "NameInUse"))
  c_CapacityReached : mg "CapacityReached" = some (.ref (He.ga K "CapacityReached"))
  c_InvalidLimit : mg "InvalidLimit" = some (.ref (He.ga K "InvalidLimit"))
  c_InvalidCommand : mg "InvalidCommand" = some (.ref (He.ga K "InvalidCommand"))
  c_UnknownRule : mg "UnknownRule" = some (.ref (He.ga K "UnknownRule"))
  c_UnknownQuestion : mg "UnknownQuestion" = some (.ref (He.ga K "UnknownQuestion"))
  c_NothingLeft : mg "NothingLeft" = some (.ref (He.ga K "NothingLeft"))
  c_Store : mg "Store" = some (.ref (He.ga K "Store"))
  x_InvalidTerm : OwnX K "InvalidTerm" "FaultError"
  x_InvalidName : OwnX K "InvalidName" "FaultError"
  x_InvalidRules : OwnX K "InvalidRules" "FaultError"
  x_InvalidGoal : OwnX K "InvalidGoal" "FaultError"
  x_TooManyTerms : OwnX K "TooManyTerms" "FaultError"
  x_NameInUse : OwnX K "NameInUse" "FaultError"
  x_CapacityReached : OwnX K "CapacityReached" "FaultError"
  x_InvalidCommand : OwnX K "InvalidCommand" "FaultError"
  x_Missing : OwnXG lkB K "Missing"
  x_UnknownRule : OwnXG lkB K "UnknownRule"
  x_UnknownQuestion : OwnXG lkB K "UnknownQuestion"
  x_NothingLeft : OwnXG ixB K "NothingLeft"
  r_Missing : FeG K "Missing"
  bi_LookupError : PySem.W.findCls K (.type "LookupError") (.type "type") "__init__" = some (.val (.builtin "LookupError.__init__"))
  bi_IndexError : PySem.W.findCls K (.type "IndexError") (.type "type") "__init__" = some (.val (.builtin "IndexError.__init__"))
  n_InvalidRules_index : PySem.W.findIn K (.ref (He.ga K "InvalidRules")) "index" = some none
  n_TooManyTerms_count : PySem.W.findIn K (.ref (He.ga K "TooManyTerms")) "count" = some none
  n_InvalidName_name : PySem.W.findIn K (.ref (He.ga K "InvalidName")) "name" = some none
  n_NameInUse_name : PySem.W.findIn K (.ref (He.ga K "NameInUse")) "name" = some none
  n_CapacityReached_limit : PySem.W.findIn K (.ref (He.ga K "CapacityReached")) "limit" = some none
  n_InvalidCommand_word : PySem.W.findIn K (.ref (He.ga K "InvalidCommand")) "word" = some none
  n_UnknownRule_name : PySem.W.findIn K (.ref (He.ga K "UnknownRule")) "name" = some none
  n_UnknownQuestion_name : PySem.W.findIn K (.ref (He.ga K "UnknownQuestion")) "name" = some none
  n_Store_scene : PySem.W.findIn K (.ref (He.ga K "Store")) "scene" = some none
  n_Store_undo_scenes : PySem.W.findIn K (.ref (He.ga K "Store")) "undo_scenes" = some none
  n_Store_redo_scenes : PySem.W.findIn K (.ref (He.ga K "Store")) "redo_scenes" = some none
  n_Store_answers : PySem.W.findIn K (.ref (He.ga K "Store")) "answers" = some none
  n_Store_computed : PySem.W.findIn K (.ref (He.ga K "Store")) "computed" = some none
  n_Store_most : PySem.W.findIn K (.ref (He.ga K "Store")) "most" = some none
  e_InvalidRules : PySem.W.exmOne K (.ref (He.ga K "InvalidRules")) (.ref (He.ga K "InvalidRules")) = some true
  e_InvalidGoal : PySem.W.exmOne K (.ref (He.ga K "InvalidGoal")) (.ref (He.ga K "InvalidGoal")) = some true
  e_TooManyTerms : PySem.W.exmOne K (.ref (He.ga K "TooManyTerms")) (.ref (He.ga K "TooManyTerms")) = some true
  e_InvalidCommand_InvalidCommand : PySem.W.exmOne K (.ref (He.ga K "InvalidCommand")) (.ref (He.ga K "InvalidCommand")) = some true
  e_InvalidName_InvalidCommand : PySem.W.exmOne K (.ref (He.ga K "InvalidName")) (.ref (He.ga K "InvalidCommand")) = some false
  e_InvalidName_InvalidName : PySem.W.exmOne K (.ref (He.ga K "InvalidName")) (.ref (He.ga K "InvalidName")) = some true
  e_NameInUse_InvalidCommand : PySem.W.exmOne K (.ref (He.ga K "NameInUse")) (.ref (He.ga K "InvalidCommand")) = some false
  e_NameInUse_InvalidName : PySem.W.exmOne K (.ref (He.ga K "NameInUse")) (.ref (He.ga K "InvalidName")) = some false
  e_NameInUse_NameInUse : PySem.W.exmOne K (.ref (He.ga K "NameInUse")) (.ref (He.ga K "NameInUse")) = some true
  e_UnknownRule_InvalidCommand : PySem.W.exmOne K (.ref (He.ga K "UnknownRule")) (.ref (He.ga K "InvalidCommand")) = some false
  e_UnknownRule_InvalidName : PySem.W.exmOne K (.ref (He.ga K "UnknownRule")) (.ref (He.ga K "InvalidName")) = some false
  e_UnknownRule_NameInUse : PySem.W.exmOne K (.ref (He.ga K "UnknownRule")) (.ref (He.ga K "NameInUse")) = some false
  e_UnknownRule_UnknownRule : PySem.W.exmOne K (.ref (He.ga K "UnknownRule")) (.ref (He.ga K "UnknownRule")) = some true
  e_UnknownQuestion_InvalidCommand : PySem.W.exmOne K (.ref (He.ga K "UnknownQuestion")) (.ref (He.ga K "InvalidCommand")) = some false
  e_UnknownQuestion_InvalidName : PySem.W.exmOne K (.ref (He.ga K "UnknownQuestion")) (.ref (He.ga K "InvalidName")) = some false
  e_UnknownQuestion_NameInUse : PySem.W.exmOne K (.ref (He.ga K "UnknownQuestion")) (.ref (He.ga K "NameInUse")) = some false
  e_UnknownQuestion_UnknownRule : PySem.W.exmOne K (.ref (He.ga K "UnknownQuestion")) (.ref (He.ga K "UnknownRule")) = some false
  e_UnknownQuestion_UnknownQuestion : PySem.W.exmOne K (.ref (He.ga K "UnknownQuestion")) (.ref (He.ga K "UnknownQuestion")) = some true
  e_InvalidTerm_InvalidCommand : PySem.W.exmOne K (.ref (He.ga K "InvalidTerm")) (.ref (He.ga K "InvalidCommand")) = some false
  e_InvalidTerm_InvalidName : PySem.W.exmOne K (.ref (He.ga K "InvalidTerm")) (.ref (He.ga K "InvalidName")) = some false
  e_InvalidTerm_NameInUse : PySem.W.exmOne K (.ref (He.ga K "InvalidTerm")) (.ref (He.ga K "NameInUse")) = some false
  e_InvalidTerm_UnknownRule : PySem.W.exmOne K (.ref (He.ga K "InvalidTerm")) (.ref (He.ga K "UnknownRule")) = some false
  e_InvalidTerm_UnknownQuestion : PySem.W.exmOne K (.ref (He.ga K "InvalidTerm")) (.ref (He.ga K "UnknownQuestion")) = some false
  e_InvalidTerm_InvalidTerm : PySem.W.exmOne K (.ref (He.ga K "InvalidTerm")) (.ref (He.ga K "InvalidTerm")) = some true
  e_CapacityReached_InvalidCommand : PySem.W.exmOne K (.ref (He.ga K "CapacityReached")) (.ref (He.ga K "InvalidCommand")) = some false
  e_CapacityReached_InvalidName : PySem.W.exmOne K (.ref (He.ga K "CapacityReached")) (.ref (He.ga K "InvalidName")) = some false
  e_CapacityReached_NameInUse : PySem.W.exmOne K (.ref (He.ga K "CapacityReached")) (.ref (He.ga K "NameInUse")) = some false
  e_CapacityReached_UnknownRule : PySem.W.exmOne K (.ref (He.ga K "CapacityReached")) (.ref (He.ga K "UnknownRule")) = some false
  e_CapacityReached_UnknownQuestion : PySem.W.exmOne K (.ref (He.ga K "CapacityReached")) (.ref (He.ga K "UnknownQuestion")) = some false
  e_CapacityReached_InvalidTerm : PySem.W.exmOne K (.ref (He.ga K "CapacityReached")) (.ref (He.ga K "InvalidTerm")) = some false
  e_CapacityReached_CapacityReached : PySem.W.exmOne K (.ref (He.ga K "CapacityReached")) (.ref (He.ga K "CapacityReached")) = some true
  e_TooManyTerms_InvalidCommand : PySem.W.exmOne K (.ref (He.ga K "TooManyTerms")) (.ref (He.ga K "InvalidCommand")) = some false
  e_TooManyTerms_InvalidName : PySem.W.exmOne K (.ref (He.ga K "TooManyTerms")) (.ref (He.ga K "InvalidName")) = some false
  e_TooManyTerms_NameInUse : PySem.W.exmOne K (.ref (He.ga K "TooManyTerms")) (.ref (He.ga K "NameInUse")) = some false
  e_TooManyTerms_UnknownRule : PySem.W.exmOne K (.ref (He.ga K "TooManyTerms")) (.ref (He.ga K "UnknownRule")) = some false
  e_TooManyTerms_UnknownQuestion : PySem.W.exmOne K (.ref (He.ga K "TooManyTerms")) (.ref (He.ga K "UnknownQuestion")) = some false
  e_TooManyTerms_InvalidTerm : PySem.W.exmOne K (.ref (He.ga K "TooManyTerms")) (.ref (He.ga K "InvalidTerm")) = some false
  e_TooManyTerms_CapacityReached : PySem.W.exmOne K (.ref (He.ga K "TooManyTerms")) (.ref (He.ga K "CapacityReached")) = some false
  e_TooManyTerms_TooManyTerms : PySem.W.exmOne K (.ref (He.ga K "TooManyTerms")) (.ref (He.ga K "TooManyTerms")) = some true
  e_NothingLeft_InvalidCommand : PySem.W.exmOne K (.ref (He.ga K "NothingLeft")) (.ref (He.ga K "InvalidCommand")) = some false
  e_NothingLeft_InvalidName : PySem.W.exmOne K (.ref (He.ga K "NothingLeft")) (.ref (He.ga K "InvalidName")) = some false
  e_NothingLeft_NameInUse : PySem.W.exmOne K (.ref (He.ga K "NothingLeft")) (.ref (He.ga K "NameInUse")) = some false
  e_NothingLeft_UnknownRule : PySem.W.exmOne K (.ref (He.ga K "NothingLeft")) (.ref (He.ga K "UnknownRule")) = some false
  e_NothingLeft_UnknownQuestion : PySem.W.exmOne K (.ref (He.ga K "NothingLeft")) (.ref (He.ga K "UnknownQuestion")) = some false
  e_NothingLeft_InvalidTerm : PySem.W.exmOne K (.ref (He.ga K "NothingLeft")) (.ref (He.ga K "InvalidTerm")) = some false
  e_NothingLeft_CapacityReached : PySem.W.exmOne K (.ref (He.ga K "NothingLeft")) (.ref (He.ga K "CapacityReached")) = some false
  e_NothingLeft_TooManyTerms : PySem.W.exmOne K (.ref (He.ga K "NothingLeft")) (.ref (He.ga K "TooManyTerms")) = some false
  e_NothingLeft_NothingLeft : PySem.W.exmOne K (.ref (He.ga K "NothingLeft")) (.ref (He.ga K "NothingLeft")) = some true
  k_Store : Cls K (He.ga K "Store")
  mk_Store : Mk K (He.ga K "Store") (He.ma K (He.ga K "Store") "__init__")
  m_Store_show : Meth K (He.ga K "Store") "show" (He.ma K (He.ga K "Store") "show")
  m_Store_advance : Meth K (He.ga K "Store") "advance" (He.ma K (He.ga K "Store") "advance")
  m_Store_do : Meth K (He.ga K "Store") "do" (He.ma K (He.ga K "Store") "do")
  m_Store_rules : Meth K (He.ga K "Store") "rules" (He.ma K (He.ga K "Store") "rules")
  m_Store_questions : Meth K (He.ga K "Store") "questions" (He.ma K (He.ga K "Store") "questions")
  m_Store___len__ : Meth K (He.ga K "Store") "__len__" (He.ma K (He.ga K "Store") "__len__")
  m_Store___repr__ : Meth K (He.ga K "Store") "__repr__" (He.ma K (He.ga K "Store") "__repr__")
  ns_InvalidRules : PySem.W.subIn K (.ref (He.ga K "InvalidRules")) (.type "StopIteration") = some false
  ns_InvalidGoal : PySem.W.subIn K (.ref (He.ga K "InvalidGoal")) (.type "StopIteration") = some false
  ns_TooManyTerms : PySem.W.subIn K (.ref (He.ga K "TooManyTerms")) (.type "StopIteration") = some false
  fe : FeC K "FaultError"
end FF

namespace FF
open PySem PySem.Spec PyProof.Rows L2
def d_wall : He.DefD := ⟨("_wall", none), "_wall", "_wall", defArgs s_wall, defBody s_wall, defScope s_wall, [], []⟩
def d_is_letter : He.DefD := ⟨("is_letter", none), "is_letter", "is_letter", defArgs s_is_letter, defBody s_is_letter, defScope s_is_letter, [], []⟩
def d_measured : He.DefD := ⟨("measured", none), "measured", "measured", defArgs s_measured, defBody s_measured, defScope s_measured, [], []⟩
def d_is_term : He.DefD := ⟨("is_term", none), "is_term", "is_term", defArgs s_is_term, defBody s_is_term, defScope s_is_term, [], [("max_depth", .int 5), ("max_size", .int 24)]⟩
def d_need_term : He.DefD := ⟨("need_term", none), "need_term", "need_term", defArgs s_need_term, defBody s_need_term, defScope s_need_term, [], []⟩
def d_parts_of : He.DefD := ⟨("parts_of", none), "parts_of", "parts_of", defArgs s_parts_of, defBody s_parts_of, defScope s_parts_of, [], []⟩
def d_walked : He.DefD := ⟨("walked", none), "walked", "walked", defArgs s_walked, defBody s_walked, defScope s_walked, [], []⟩
def d_is_name : He.DefD := ⟨("is_name", none), "is_name", "is_name", defArgs s_is_name, defBody s_is_name, defScope s_is_name, [], []⟩
def d_text_of : He.DefD := ⟨("text_of", none), "text_of", "text_of", defArgs s_text_of, defBody s_text_of, defScope s_text_of, [], []⟩
def d_is_goal : He.DefD := ⟨("is_goal", none), "is_goal", "is_goal", defArgs s_is_goal, defBody s_is_goal, defScope s_is_goal, [], []⟩
def d_is_rule : He.DefD := ⟨("is_rule", none), "is_rule", "is_rule", defArgs s_is_rule, defBody s_is_rule, defScope s_is_rule, [], []⟩
def d_words_of : He.DefD := ⟨("words_of", none), "words_of", "words_of", defArgs s_words_of, defBody s_words_of, defScope s_words_of, [], []⟩
def d_pairs_in : He.DefD := ⟨("pairs_in", none), "pairs_in", "pairs_in", defArgs s_pairs_in, defBody s_pairs_in, defScope s_pairs_in, [], []⟩
def d_need_list : He.DefD := ⟨("need_list", none), "need_list", "need_list", defArgs s_need_list, defBody s_need_list, defScope s_need_list, [], []⟩
def d_checked_words : He.DefD := ⟨("checked_words", none), "checked_words", "checked_words", defArgs s_checked_words, defBody s_checked_words, defScope s_checked_words, [], []⟩
def d_check_rules : He.DefD := ⟨("check_rules", none), "check_rules", "check_rules", defArgs s_check_rules, defBody s_check_rules, defScope s_check_rules, [.non], []⟩
def d_names_in : He.DefD := ⟨("names_in", none), "names_in", "names_in", defArgs s_names_in, defBody s_names_in, defScope s_names_in, [], []⟩
def d_need_terms : He.DefD := ⟨("need_terms", none), "need_terms", "need_terms", defArgs s_need_terms, defBody s_need_terms, defScope s_need_terms, [], []⟩
def d_checked : He.DefD := ⟨("checked", none), "checked", "checked", defArgs s_checked, defBody s_checked, defScope s_checked, [], []⟩
def d_with_rule : He.DefD := ⟨("with_rule", none), "with_rule", "with_rule", defArgs s_with_rule, defBody s_with_rule, defScope s_with_rule, [], []⟩
def d_with_other_rule : He.DefD := ⟨("with_other_rule", none), "with_other_rule", "with_other_rule", defArgs s_with_other_rule, defBody s_with_other_rule, defScope s_with_other_rule, [], []⟩
def d_without_rule : He.DefD := ⟨("without_rule", none), "without_rule", "without_rule", defArgs s_without_rule, defBody s_without_rule, defScope s_without_rule, [], []⟩
def d_with_question : He.DefD := ⟨("with_question", none), "with_question", "with_question", defArgs s_with_question, defBody s_with_question, defScope s_with_question, [], []⟩
def d_without_question : He.DefD := ⟨("without_question", none), "without_question", "without_question", defArgs s_without_question, defBody s_without_question, defScope s_without_question, [], []⟩
def d_after : He.DefD := ⟨("after", none), "after", "after", defArgs s_after, defBody s_after, defScope s_after, [], []⟩
def d_law_source : He.DefD := ⟨("_law_source", none), "_law_source", "_law_source", defArgs s_law_source, defBody s_law_source, defScope s_law_source, [], []⟩
def d_law_take : He.DefD := ⟨("_law_take", none), "_law_take", "_law_take", defArgs s_law_take, defBody s_law_take, defScope s_law_take, [], []⟩
def d_law_pick : He.DefD := ⟨("_law_pick", none), "_law_pick", "_law_pick", defArgs s_law_pick, defBody s_law_pick, defScope s_law_pick, [], []⟩
def d_law_mixed : He.DefD := ⟨("_law_mixed", none), "_law_mixed", "_law_mixed", defArgs s_law_mixed, defBody s_law_mixed, defScope s_law_mixed, [], []⟩
def d_law_same : He.DefD := ⟨("_law_same", none), "_law_same", "_law_same", defArgs s_law_same, defBody s_law_same, defScope s_law_same, [], []⟩
def d_law_parts : He.DefD := ⟨("_law_parts", none), "_law_parts", "_law_parts", defArgs s_law_parts, defBody s_law_parts, defScope s_law_parts, [], []⟩
def d_law_text : He.DefD := ⟨("_law_text", none), "_law_text", "_law_text", defArgs s_law_text, defBody s_law_text, defScope s_law_text, [], []⟩
def d_law_walk : He.DefD := ⟨("_law_walk", none), "_law_walk", "_law_walk", defArgs s_law_walk, defBody s_law_walk, defScope s_law_walk, [], []⟩
def d_law_by_text : He.DefD := ⟨("_law_by_text", none), "_law_by_text", "_law_by_text", defArgs s_law_by_text, defBody s_law_by_text, defScope s_law_by_text, [], []⟩
def d_law_words : He.DefD := ⟨("_law_words", none), "_law_words", "_law_words", defArgs s_law_words, defBody s_law_words, defScope s_law_words, [], []⟩
def d_law_names : He.DefD := ⟨("_law_names", none), "_law_names", "_law_names", defArgs s_law_names, defBody s_law_names, defScope s_law_names, [], []⟩
def d_law_measure : He.DefD := ⟨("_law_measure", none), "_law_measure", "_law_measure", defArgs s_law_measure, defBody s_law_measure, defScope s_law_measure, [], []⟩
def d_law_fits : He.DefD := ⟨("_law_fits", none), "_law_fits", "_law_fits", defArgs s_law_fits, defBody s_law_fits, defScope s_law_fits, [], []⟩
def d_law_is_name : He.DefD := ⟨("_law_is_name", none), "_law_is_name", "_law_is_name", defArgs s_law_is_name, defBody s_law_is_name, defScope s_law_is_name, [], []⟩
def d_law_next : He.DefD := ⟨("_law_next", none), "_law_next", "_law_next", defArgs s_law_next, defBody s_law_next, defScope s_law_next, [], []⟩
def d_law_terms_due : He.DefD := ⟨("_law_terms_due", none), "_law_terms_due", "_law_terms_due", defArgs s_law_terms_due, defBody s_law_terms_due, defScope s_law_terms_due, [], []⟩
def d_law_refusal : He.DefD := ⟨("_law_refusal", none), "_law_refusal", "_law_refusal", defArgs s_law_refusal, defBody s_law_refusal, defScope s_law_refusal, [], []⟩
def d_law_refused_with : He.DefD := ⟨("_law_refused_with", none), "_law_refused_with", "_law_refused_with", defArgs s_law_refused_with, defBody s_law_refused_with, defScope s_law_refused_with, [], []⟩
def d_law_wide : He.DefD := ⟨("_law_wide", none), "_law_wide", "_law_wide", defArgs s_law_wide, defBody s_law_wide, defScope s_law_wide, [], []⟩
def d_law_store_so : He.DefD := ⟨("_law_store_so", none), "_law_store_so", "_law_store_so", defArgs s_law_store_so, defBody s_law_store_so, defScope s_law_store_so, [], []⟩
def d_law : He.DefD := ⟨("law", none), "law", "law", defArgs s_law, defBody s_law, defScope s_law, [], []⟩
def d_FaultError_init : He.DefD := ⟨("FaultError", some "__init__"), "__init__", "FaultError.__init__", defArgs s_FaultError_init, defBody s_FaultError_init, defScope s_FaultError_init, [], []⟩
def d_Missing_init : He.DefD := ⟨("Missing", some "__init__"), "__init__", "Missing.__init__", defArgs s_Missing_init, defBody s_Missing_init, defScope s_Missing_init, [], []⟩
def d_InvalidTerm_init : He.DefD := ⟨("InvalidTerm", some "__init__"), "__init__", "InvalidTerm.__init__", defArgs s_InvalidTerm_init, defBody s_InvalidTerm_init, defScope s_InvalidTerm_init, [], []⟩
def d_InvalidName_init : He.DefD := ⟨("InvalidName", some "__init__"), "__init__", "InvalidName.__init__", defArgs s_InvalidName_init, defBody s_InvalidName_init, defScope s_InvalidName_init, [], []⟩
def d_InvalidRules_init : He.DefD := ⟨("InvalidRules", some "__init__"), "__init__", "InvalidRules.__init__", defArgs s_InvalidRules_init, defBody s_InvalidRules_init, defScope s_InvalidRules_init, [], []⟩
def d_InvalidGoal_init : He.DefD := ⟨("InvalidGoal", some "__init__"), "__init__", "InvalidGoal.__init__", defArgs s_InvalidGoal_init, defBody s_InvalidGoal_init, defScope s_InvalidGoal_init, [], []⟩
def d_TooManyTerms_init : He.DefD := ⟨("TooManyTerms", some "__init__"), "__init__", "TooManyTerms.__init__", defArgs s_TooManyTerms_init, defBody s_TooManyTerms_init, defScope s_TooManyTerms_init, [], []⟩
def d_NameInUse_init : He.DefD := ⟨("NameInUse", some "__init__"), "__init__", "NameInUse.__init__", defArgs s_NameInUse_init, defBody s_NameInUse_init, defScope s_NameInUse_init, [], []⟩
def d_CapacityReached_init : He.DefD := ⟨("CapacityReached", some "__init__"), "__init__", "CapacityReached.__init__", defArgs s_CapacityReached_init, defBody s_CapacityReached_init, defScope s_CapacityReached_init, [], []⟩
def d_InvalidCommand_init : He.DefD := ⟨("InvalidCommand", some "__init__"), "__init__", "InvalidCommand.__init__", defArgs s_InvalidCommand_init, defBody s_InvalidCommand_init, defScope s_InvalidCommand_init, [], []⟩
def d_UnknownRule_init : He.DefD := ⟨("UnknownRule", some "__init__"), "__init__", "UnknownRule.__init__", defArgs s_UnknownRule_init, defBody s_UnknownRule_init, defScope s_UnknownRule_init, [], []⟩
def d_UnknownQuestion_init : He.DefD := ⟨("UnknownQuestion", some "__init__"), "__init__", "UnknownQuestion.__init__", defArgs s_UnknownQuestion_init, defBody s_UnknownQuestion_init, defScope s_UnknownQuestion_init, [], []⟩
def d_NothingLeft_init : He.DefD := ⟨("NothingLeft", some "__init__"), "__init__", "NothingLeft.__init__", defArgs s_NothingLeft_init, defBody s_NothingLeft_init, defScope s_NothingLeft_init, [], []⟩
def d_Store___init__ : He.DefD := ⟨("Store", some "__init__"), "__init__", "Store.__init__", defArgs s_Store___init__, defBody s_Store___init__, defScope s_Store___init__, [], []⟩
def d_Store_show : He.DefD := ⟨("Store", some "show"), "show", "Store.show", defArgs s_Store_show, defBody s_Store_show, defScope s_Store_show, [], []⟩
def d_Store_advance : He.DefD := ⟨("Store", some "advance"), "advance", "Store.advance", defArgs s_Store_advance, defBody s_Store_advance, defScope s_Store_advance, [], []⟩
def d_Store_do : He.DefD := ⟨("Store", some "do"), "do", "Store.do", defArgs s_Store_do, defBody s_Store_do, defScope s_Store_do, [], []⟩
def d_Store_rules : He.DefD := ⟨("Store", some "rules"), "rules", "Store.rules", defArgs s_Store_rules, defBody s_Store_rules, defScope s_Store_rules, [], []⟩
def d_Store_questions : He.DefD := ⟨("Store", some "questions"), "questions", "Store.questions", defArgs s_Store_questions, defBody s_Store_questions, defScope s_Store_questions, [], []⟩
def d_Store___len__ : He.DefD := ⟨("Store", some "__len__"), "__len__", "Store.__len__", defArgs s_Store___len__, defBody s_Store___len__, defScope s_Store___len__, [], []⟩
def d_Store___repr__ : He.DefD := ⟨("Store", some "__repr__"), "__repr__", "Store.__repr__", defArgs s_Store___repr__, defBody s_Store___repr__, defScope s_Store___repr__, [], []⟩
def fn : List He.DefD := [d_wall, d_is_letter, d_measured, d_is_term, d_need_term, d_parts_of, d_walked, d_is_name, d_text_of, d_is_goal, d_is_rule, d_words_of, d_pairs_in, d_need_list, d_checked_words, d_check_rules, d_names_in, d_need_terms, d_checked, d_with_rule, d_with_other_rule, d_without_rule, d_with_question, d_without_question, d_after, d_law_source, d_law_take, d_law_pick, d_law_mixed, d_law_same, d_law_parts, d_law_text, d_law_walk, d_law_by_text, d_law_words, d_law_names, d_law_measure, d_law_fits, d_law_is_name, d_law_next, d_law_terms_due, d_law_refusal, d_law_refused_with, d_law_wide, d_law_store_so, d_law, d_FaultError_init, d_Missing_init, d_InvalidTerm_init, d_InvalidName_init, d_InvalidRules_init, d_InvalidGoal_init, d_TooManyTerms_init, d_NameInUse_init, d_CapacityReached_init, d_InvalidCommand_init, d_UnknownRule_init, d_UnknownQuestion_init, d_NothingLeft_init, d_Store___init__, d_Store_show, d_Store_advance, d_Store_do, d_Store_rules, d_Store_questions, d_Store___len__, d_Store___repr__]
def fa : List He.Fa := [.free "IndexError", .free "LookupError", .free "ValueError", .free "all", .free "bool", .free "dict", .free "enumerate", .free "int", .free "isinstance", .free "len", .free "list", .free "property", .free "range", .free "repr", .free "sorted", .free "str", .free "sum", .free "tuple", .free "zip", .str "LETTERS" "abcdefgh", .glo "OPERATORS", .int "MAX_DEPTH" 5, .int "MAX_SIZE" 24, .str "SMALL_LETTERS" "abcdefghijklmnopqrstuvwxyz", .int "MAX_NAME" 6, .int "MAX_RULES" 12, .int "MAX_TERMS" 24, .int "MAX_QUESTIONS" 8, .glo "LENGTHS", .glo "FaultError", .glo "Missing", .glo "InvalidTerm", .glo "InvalidName", .glo "InvalidRules", .glo "InvalidGoal", .glo "TooManyTerms", .glo "NameInUse", .glo "CapacityReached", .glo "InvalidLimit", .glo "InvalidCommand", .glo "UnknownRule", .glo "UnknownQuestion", .glo "NothingLeft", .glo "Store", .noat "InvalidRules" "index", .noat "TooManyTerms" "count", .noat "InvalidName" "name", .noat "NameInUse" "name", .noat "CapacityReached" "limit", .noat "InvalidCommand" "word", .noat "UnknownRule" "name", .noat "UnknownQuestion" "name", .noat "Store" "scene", .noat "Store" "undo_scenes", .noat "Store" "redo_scenes", .noat "Store" "answers", .noat "Store" "computed", .noat "Store" "most", .exm "InvalidRules" "InvalidRules" true, .exm "InvalidGoal" "InvalidGoal" true, .exm "TooManyTerms" "TooManyTerms" true, .exm "InvalidCommand" "InvalidCommand" true, .exm "InvalidName" "InvalidCommand" false, .exm "InvalidName" "InvalidName" true, .exm "NameInUse" "InvalidCommand" false, .exm "NameInUse" "InvalidName" false, .exm "NameInUse" "NameInUse" true, .exm "UnknownRule" "InvalidCommand" false, .exm "UnknownRule" "InvalidName" false, .exm "UnknownRule" "NameInUse" false, .exm "UnknownRule" "UnknownRule" true, .exm "UnknownQuestion" "InvalidCommand" false, .exm "UnknownQuestion" "InvalidName" false, .exm "UnknownQuestion" "NameInUse" false, .exm "UnknownQuestion" "UnknownRule" false, .exm "UnknownQuestion" "UnknownQuestion" true, .exm "InvalidTerm" "InvalidCommand" false, .exm "InvalidTerm" "InvalidName" false, .exm "InvalidTerm" "NameInUse" false, .exm "InvalidTerm" "UnknownRule" false, .exm "InvalidTerm" "UnknownQuestion" false, .exm "InvalidTerm" "InvalidTerm" true, .exm "CapacityReached" "InvalidCommand" false, .exm "CapacityReached" "InvalidName" false, .exm "CapacityReached" "NameInUse" false, .exm "CapacityReached" "UnknownRule" false, .exm "CapacityReached" "UnknownQuestion" false, .exm "CapacityReached" "InvalidTerm" false, .exm "CapacityReached" "CapacityReached" true, .exm "TooManyTerms" "InvalidCommand" false, .exm "TooManyTerms" "InvalidName" false, .exm "TooManyTerms" "NameInUse" false, .exm "TooManyTerms" "UnknownRule" false, .exm "TooManyTerms" "UnknownQuestion" false, .exm "TooManyTerms" "InvalidTerm" false, .exm "TooManyTerms" "CapacityReached" false, .exm "TooManyTerms" "TooManyTerms" true, .exm "NothingLeft" "InvalidCommand" false, .exm "NothingLeft" "InvalidName" false, .exm "NothingLeft" "NameInUse" false, .exm "NothingLeft" "UnknownRule" false, .exm "NothingLeft" "UnknownQuestion" false, .exm "NothingLeft" "InvalidTerm" false, .exm "NothingLeft" "CapacityReached" false, .exm "NothingLeft" "TooManyTerms" false, .exm "NothingLeft" "NothingLeft" true, .cls "Store", .mkr "Store", .meth "Store" "show", .meth "Store" "advance", .meth "Store" "do", .meth "Store" "rules", .meth "Store" "questions", .meth "Store" "__len__", .meth "Store" "__repr__", .glo "_wall", .glo "is_letter", .glo "measured", .glo "is_term", .glo "need_term", .glo "parts_of", .glo "walked", .glo "is_name", .glo "text_of", .glo "is_goal", .glo "is_rule", .glo "words_of", .glo "pairs_in", .glo "need_list", .glo "checked_words", .glo "check_rules", .glo "names_in", .glo "need_terms", .glo "checked", .glo "with_rule", .glo "with_other_rule", .glo "without_rule", .glo "with_question", .glo "without_question", .glo "after", .glo "_law_source", .glo "_law_take", .glo "_law_pick", .glo "_law_mixed", .glo "_law_same", .glo "_law_parts", .glo "_law_text", .glo "_law_walk", .glo "_law_by_text", .glo "_law_words", .glo "_law_names", .glo "_law_measure", .glo "_law_fits", .glo "_law_is_name", .glo "_law_next", .glo "_law_terms_due", .glo "_law_refusal", .glo "_law_refused_with", .glo "_law_wide", .glo "_law_store_so", .glo "law"]
def ex (K : PySem.W.Frag) : Bool := He.tupB K "OPERATORS" [.str "&", .str "|"] && He.valsB K (He.ga K "LENGTHS") ((kt_LENGTHS).map fun q => (q.1, He.Dv.int q.2)) && ownXB K "InvalidTerm" "FaultError" && ownXB K "InvalidName" "FaultError" && ownXB K "InvalidRules" "FaultError" && ownXB K "InvalidGoal" "FaultError" && ownXB K "TooManyTerms" "FaultError" && ownXB K "NameInUse" "FaultError" && ownXB K "CapacityReached" "FaultError" && ownXB K "InvalidCommand" "FaultError" && ownXGB lkB K "Missing" && ownXGB lkB K "UnknownRule" && ownXGB lkB K "UnknownQuestion" && ownXGB ixB K "NothingLeft" && feGB K "Missing" && bInitB K "LookupError" "LookupError.__init__" && bInitB K "IndexError" "IndexError.__init__" && decide (PySem.W.subIn K (.ref (He.ga K "InvalidRules")) (.type "StopIteration") = some false) && decide (PySem.W.subIn K (.ref (He.ga K "InvalidGoal")) (.type "StopIteration") = some false) && decide (PySem.W.subIn K (.ref (He.ga K "TooManyTerms")) (.type "StopIteration") = some false) && feCB K "FaultError"
theorem top_of {K : PySem.W.Frag} {h : Heap} {mg : Str → Option Value} (X : K.In h) (G : h.Ns mainGlobals mg) (c : He.SaysD fa fn K) (e : ex K = true) : Top K mg where
  b_IndexError := He.free_ok X G (c.fact 0 (f := .free "IndexError") rfl)
  b_LookupError := He.free_ok X G (c.fact 1 (f := .free "LookupError") rfl)
  b_ValueError := He.free_ok X G (c.fact 2 (f := .free "ValueError") rfl)
  b_all := He.free_ok X G (c.fact 3 (f := .free "all") rfl)
  b_bool := He.free_ok X G (c.fact 4 (f := .free "bool") rfl)
  b_dict := He.free_ok X G (c.fact 5 (f := .free "dict") rfl)
  b_enumerate := He.free_ok X G (c.fact 6 (f := .free "enumerate") rfl)
  b_int := He.free_ok X G (c.fact 7 (f := .free "int") rfl)
  b_isinstance := He.free_ok X G (c.fact 8 (f := .free "isinstance") rfl)
  b_len := He.free_ok X G (c.fact 9 (f := .free "len") rfl)
  b_list := He.free_ok X G (c.fact 10 (f := .free "list") rfl)
  b_property := He.free_ok X G (c.fact 11 (f := .free "property") rfl)
  b_range := He.free_ok X G (c.fact 12 (f := .free "range") rfl)
  b_repr := He.free_ok X G (c.fact 13 (f := .free "repr") rfl)
  b_sorted := He.free_ok X G (c.fact 14 (f := .free "sorted") rfl)
  b_str := He.free_ok X G (c.fact 15 (f := .free "str") rfl)
  b_sum := He.free_ok X G (c.fact 16 (f := .free "sum") rfl)
  b_tuple := He.free_ok X G (c.fact 17 (f := .free "tuple") rfl)
  b_zip := He.free_ok X G (c.fact 18 (f := .free "zip") rfl)
  g_LETTERS := He.str_ok X G (c.fact 19 (f := .str "LETTERS" "abcdefgh") rfl)
  g_OPERATORS := He.glo_ok X G (c.fact 20 (f := .glo "OPERATORS") rfl)
  t_OPERATORS := fun H => He.tupB_ok (vs := [.str "&", .str "|"]) (by simp only [ex, Bool.and_eq_true] at e; simp only [e]) H
  g_MAX_DEPTH := He.int_ok X G (c.fact 21 (f := .int "MAX_DEPTH" 5) rfl)
  g_MAX_SIZE := He.int_ok X G (c.fact 22 (f := .int "MAX_SIZE" 24) rfl)
  g_SMALL_LETTERS := He.str_ok X G (c.fact 23 (f := .str "SMALL_LETTERS" "abcdefghijklmnopqrstuvwxyz") rfl)
  g_MAX_NAME := He.int_ok X G (c.fact 24 (f := .int "MAX_NAME" 6) rfl)
  g_MAX_RULES := He.int_ok X G (c.fact 25 (f := .int "MAX_RULES" 12) rfl)
  g_MAX_TERMS := He.int_ok X G (c.fact 26 (f := .int "MAX_TERMS" 24) rfl)
  g_MAX_QUESTIONS := He.int_ok X G (c.fact 27 (f := .int "MAX_QUESTIONS" 8) rfl)
  g_LENGTHS := He.glo_ok X G (c.fact 28 (f := .glo "LENGTHS") rfl)
  c_FaultError := He.glo_ok X G (c.fact 29 (f := .glo "FaultError") rfl)
  c_Missing := He.glo_ok X G (c.fact 30 (f := .glo "Missing") rfl)
  c_InvalidTerm := He.glo_ok X G (c.fact 31 (f := .glo "InvalidTerm") rfl)
  c_InvalidName := He.glo_ok X G (c.fact 32 (f := .glo "InvalidName") rfl)
  c_InvalidRules := He.glo_ok X G (c.fact 33 (f := .glo "InvalidRules") rfl)
  c_InvalidGoal := He.glo_ok X G (c.fact 34 (f := .glo "InvalidGoal") rfl)
  c_TooManyTerms := He.glo_ok X G (c.fact 35 (f := .glo "TooManyTerms") rfl)
  c_NameInUse := He.glo_ok X G (c.fact 36 (f := .glo "NameInUse") rfl)
  c_CapacityReached := He.glo_ok X G (c.fact 37 (f := .glo "CapacityReached") rfl)
  c_InvalidLimit := He.glo_ok X G (c.fact 38 (f := .glo "InvalidLimit") rfl)
  c_InvalidCommand := He.glo_ok X G (c.fact 39 (f := .glo "InvalidCommand") rfl)
  c_UnknownRule := He.glo_ok X G (c.fact 40 (f := .glo "UnknownRule") rfl)
  c_UnknownQuestion := He.glo_ok X G (c.fact 41 (f := .glo "UnknownQuestion") rfl)
  c_NothingLeft := He.glo_ok X G (c.fact 42 (f := .glo "NothingLeft") rfl)
  c_Store := He.glo_ok X G (c.fact 43 (f := .glo "Store") rfl)
  x_InvalidTerm := ownXB_ok (by simp only [ex, Bool.and_eq_true] at e; simp only [e])
  x_InvalidName := ownXB_ok (by simp only [ex, Bool.and_eq_true] at e; simp only [e])
  x_InvalidRules := ownXB_ok (by simp only [ex, Bool.and_eq_true] at e; simp only [e])
  x_InvalidGoal := ownXB_ok (by simp only [ex, Bool.and_eq_true] at e; simp only [e])
  x_TooManyTerms := ownXB_ok (by simp only [ex, Bool.and_eq_true] at e; simp only [e])
  x_NameInUse := ownXB_ok (by simp only [ex, Bool.and_eq_true] at e; simp only [e])
  x_CapacityReached := ownXB_ok (by simp only [ex, Bool.and_eq_true] at e; simp only [e])
  x_InvalidCommand := ownXB_ok (by simp only [ex, Bool.and_eq_true] at e; simp only [e])
  x_Missing := ownXGB_ok lkB_ok (by simp only [ex, Bool.and_eq_true] at e; simp only [e])
  x_UnknownRule := ownXGB_ok lkB_ok (by simp only [ex, Bool.and_eq_true] at e; simp only [e])
  x_UnknownQuestion := ownXGB_ok lkB_ok (by simp only [ex, Bool.and_eq_true] at e; simp only [e])
  x_NothingLeft := ownXGB_ok ixB_ok (by simp only [ex, Bool.and_eq_true] at e; simp only [e])
  r_Missing := feGB_ok (by simp only [ex, Bool.and_eq_true] at e; simp only [e])
  bi_LookupError := bInitB_ok (by simp only [ex, Bool.and_eq_true] at e; simp only [e])
  bi_IndexError := bInitB_ok (by simp only [ex, Bool.and_eq_true] at e; simp only [e])
  n_InvalidRules_index := He.noat_ok (c.fact 44 (f := .noat "InvalidRules" "index") rfl)
  n_TooManyTerms_count := He.noat_ok (c.fact 45 (f := .noat "TooManyTerms" "count") rfl)
  n_InvalidName_name := He.noat_ok (c.fact 46 (f := .noat "InvalidName" "name") rfl)
  n_NameInUse_name := He.noat_ok (c.fact 47 (f := .noat "NameInUse" "name") rfl)
  n_CapacityReached_limit := He.noat_ok (c.fact 48 (f := .noat "CapacityReached" "limit") rfl)
  n_InvalidCommand_word := He.noat_ok (c.fact 49 (f := .noat "InvalidCommand" "word") rfl)
  n_UnknownRule_name := He.noat_ok (c.fact 50 (f := .noat "UnknownRule" "name") rfl)
  n_UnknownQuestion_name := He.noat_ok (c.fact 51 (f := .noat "UnknownQuestion" "name") rfl)
  n_Store_scene := He.noat_ok (c.fact 52 (f := .noat "Store" "scene") rfl)
  n_Store_undo_scenes := He.noat_ok (c.fact 53 (f := .noat "Store" "undo_scenes") rfl)
  n_Store_redo_scenes := He.noat_ok (c.fact 54 (f := .noat "Store" "redo_scenes") rfl)
  n_Store_answers := He.noat_ok (c.fact 55 (f := .noat "Store" "answers") rfl)
  n_Store_computed := He.noat_ok (c.fact 56 (f := .noat "Store" "computed") rfl)
  n_Store_most := He.noat_ok (c.fact 57 (f := .noat "Store" "most") rfl)
  e_InvalidRules := He.exm_ok (c.fact 58 (f := .exm "InvalidRules" "InvalidRules" true) rfl)
  e_InvalidGoal := He.exm_ok (c.fact 59 (f := .exm "InvalidGoal" "InvalidGoal" true) rfl)
  e_TooManyTerms := He.exm_ok (c.fact 60 (f := .exm "TooManyTerms" "TooManyTerms" true) rfl)
  e_InvalidCommand_InvalidCommand := He.exm_ok (c.fact 61 (f := .exm "InvalidCommand" "InvalidCommand" true) rfl)
  e_InvalidName_InvalidCommand := He.exm_ok (c.fact 62 (f := .exm "InvalidName" "InvalidCommand" false) rfl)
  e_InvalidName_InvalidName := He.exm_ok (c.fact 63 (f := .exm "InvalidName" "InvalidName" true) rfl)
  e_NameInUse_InvalidCommand := He.exm_ok (c.fact 64 (f := .exm "NameInUse" "InvalidCommand" false) rfl)
  e_NameInUse_InvalidName := He.exm_ok (c.fact 65 (f := .exm "NameInUse" "InvalidName" false) rfl)
  e_NameInUse_NameInUse := He.exm_ok (c.fact 66 (f := .exm "NameInUse" "NameInUse" true) rfl)
  e_UnknownRule_InvalidCommand := He.exm_ok (c.fact 67 (f := .exm "UnknownRule" "InvalidCommand" false) rfl)
  e_UnknownRule_InvalidName := He.exm_ok (c.fact 68 (f := .exm "UnknownRule" "InvalidName" false) rfl)
  e_UnknownRule_NameInUse := He.exm_ok (c.fact 69 (f := .exm "UnknownRule" "NameInUse" false) rfl)
  e_UnknownRule_UnknownRule := He.exm_ok (c.fact 70 (f := .exm "UnknownRule" "UnknownRule" true) rfl)
  e_UnknownQuestion_InvalidCommand := He.exm_ok (c.fact 71 (f := .exm "UnknownQuestion" "InvalidCommand" false) rfl)
  e_UnknownQuestion_InvalidName := He.exm_ok (c.fact 72 (f := .exm "UnknownQuestion" "InvalidName" false) rfl)
  e_UnknownQuestion_NameInUse := He.exm_ok (c.fact 73 (f := .exm "UnknownQuestion" "NameInUse" false) rfl)
  e_UnknownQuestion_UnknownRule := He.exm_ok (c.fact 74 (f := .exm "UnknownQuestion" "UnknownRule" false) rfl)
  e_UnknownQuestion_UnknownQuestion := He.exm_ok (c.fact 75 (f := .exm "UnknownQuestion" "UnknownQuestion" true) rfl)
  e_InvalidTerm_InvalidCommand := He.exm_ok (c.fact 76 (f := .exm "InvalidTerm" "InvalidCommand" false) rfl)
  e_InvalidTerm_InvalidName := He.exm_ok (c.fact 77 (f := .exm "InvalidTerm" "InvalidName" false) rfl)
  e_InvalidTerm_NameInUse := He.exm_ok (c.fact 78 (f := .exm "InvalidTerm" "NameInUse" false) rfl)
  e_InvalidTerm_UnknownRule := He.exm_ok (c.fact 79 (f := .exm "InvalidTerm" "UnknownRule" false) rfl)
  e_InvalidTerm_UnknownQuestion := He.exm_ok (c.fact 80 (f := .exm "InvalidTerm" "UnknownQuestion" false) rfl)
  e_InvalidTerm_InvalidTerm := He.exm_ok (c.fact 81 (f := .exm "InvalidTerm" "InvalidTerm" true) rfl)
  e_CapacityReached_InvalidCommand := He.exm_ok (c.fact 82 (f := .exm "CapacityReached" "InvalidCommand" false) rfl)
  e_CapacityReached_InvalidName := He.exm_ok (c.fact 83 (f := .exm "CapacityReached" "InvalidName" false) rfl)
  e_CapacityReached_NameInUse := He.exm_ok (c.fact 84 (f := .exm "CapacityReached" "NameInUse" false) rfl)
  e_CapacityReached_UnknownRule := He.exm_ok (c.fact 85 (f := .exm "CapacityReached" "UnknownRule" false) rfl)
  e_CapacityReached_UnknownQuestion := He.exm_ok (c.fact 86 (f := .exm "CapacityReached" "UnknownQuestion" false) rfl)
  e_CapacityReached_InvalidTerm := He.exm_ok (c.fact 87 (f := .exm "CapacityReached" "InvalidTerm" false) rfl)
  e_CapacityReached_CapacityReached := He.exm_ok (c.fact 88 (f := .exm "CapacityReached" "CapacityReached" true) rfl)
  e_TooManyTerms_InvalidCommand := He.exm_ok (c.fact 89 (f := .exm "TooManyTerms" "InvalidCommand" false) rfl)
  e_TooManyTerms_InvalidName := He.exm_ok (c.fact 90 (f := .exm "TooManyTerms" "InvalidName" false) rfl)
  e_TooManyTerms_NameInUse := He.exm_ok (c.fact 91 (f := .exm "TooManyTerms" "NameInUse" false) rfl)
  e_TooManyTerms_UnknownRule := He.exm_ok (c.fact 92 (f := .exm "TooManyTerms" "UnknownRule" false) rfl)
  e_TooManyTerms_UnknownQuestion := He.exm_ok (c.fact 93 (f := .exm "TooManyTerms" "UnknownQuestion" false) rfl)
  e_TooManyTerms_InvalidTerm := He.exm_ok (c.fact 94 (f := .exm "TooManyTerms" "InvalidTerm" false) rfl)
  e_TooManyTerms_CapacityReached := He.exm_ok (c.fact 95 (f := .exm "TooManyTerms" "CapacityReached" false) rfl)
  e_TooManyTerms_TooManyTerms := He.exm_ok (c.fact 96 (f := .exm "TooManyTerms" "TooManyTerms" true) rfl)
  e_NothingLeft_InvalidCommand := He.exm_ok (c.fact 97 (f := .exm "NothingLeft" "InvalidCommand" false) rfl)
  e_NothingLeft_InvalidName := He.exm_ok (c.fact 98 (f := .exm "NothingLeft" "InvalidName" false) rfl)
  e_NothingLeft_NameInUse := He.exm_ok (c.fact 99 (f := .exm "NothingLeft" "NameInUse" false) rfl)
  e_NothingLeft_UnknownRule := He.exm_ok (c.fact 100 (f := .exm "NothingLeft" "UnknownRule" false) rfl)
  e_NothingLeft_UnknownQuestion := He.exm_ok (c.fact 101 (f := .exm "NothingLeft" "UnknownQuestion" false) rfl)
  e_NothingLeft_InvalidTerm := He.exm_ok (c.fact 102 (f := .exm "NothingLeft" "InvalidTerm" false) rfl)
  e_NothingLeft_CapacityReached := He.exm_ok (c.fact 103 (f := .exm "NothingLeft" "CapacityReached" false) rfl)
  e_NothingLeft_TooManyTerms := He.exm_ok (c.fact 104 (f := .exm "NothingLeft" "TooManyTerms" false) rfl)
  e_NothingLeft_NothingLeft := He.exm_ok (c.fact 105 (f := .exm "NothingLeft" "NothingLeft" true) rfl)
  k_Store := He.cls_ok (c.fact 106 (f := .cls "Store") rfl)
  mk_Store := He.mkr_ok (c.fact 107 (f := .mkr "Store") rfl)
  m_Store_show := He.meth_ok (c.fact 108 (f := .meth "Store" "show") rfl)
  m_Store_advance := He.meth_ok (c.fact 109 (f := .meth "Store" "advance") rfl)
  m_Store_do := He.meth_ok (c.fact 110 (f := .meth "Store" "do") rfl)
  m_Store_rules := He.meth_ok (c.fact 111 (f := .meth "Store" "rules") rfl)
  m_Store_questions := He.meth_ok (c.fact 112 (f := .meth "Store" "questions") rfl)
  m_Store___len__ := He.meth_ok (c.fact 113 (f := .meth "Store" "__len__") rfl)
  m_Store___repr__ := He.meth_ok (c.fact 114 (f := .meth "Store" "__repr__") rfl)
  ns_InvalidRules := of_decide_eq_true (by simp only [ex, Bool.and_eq_true] at e; simp only [e])
  ns_InvalidGoal := of_decide_eq_true (by simp only [ex, Bool.and_eq_true] at e; simp only [e])
  ns_TooManyTerms := of_decide_eq_true (by simp only [ex, Bool.and_eq_true] at e; simp only [e])
  fe := feCB_ok (by simp only [ex, Bool.and_eq_true] at e; simp only [e])
def loose : List PySem.Str := [("_wall" : PySem.Str), ("FaultError" : PySem.Str), ("Missing" : PySem.Str), ("InvalidTerm" : PySem.Str), ("InvalidName" : PySem.Str), ("InvalidRules" : PySem.Str), ("InvalidGoal" : PySem.Str), ("TooManyTerms" : PySem.Str), ("NameInUse" : PySem.Str), ("CapacityReached" : PySem.Str), ("InvalidLimit" : PySem.Str), ("InvalidCommand" : PySem.Str), ("UnknownRule" : PySem.Str), ("UnknownQuestion" : PySem.Str), ("NothingLeft" : PySem.Str), ("LETTERS" : PySem.Str), ("OPERATORS" : PySem.Str), ("MAX_DEPTH" : PySem.Str), ("MAX_SIZE" : PySem.Str), ("is_letter" : PySem.Str), ("measured" : PySem.Str), ("is_term" : PySem.Str), ("need_term" : PySem.Str), ("parts_of" : PySem.Str), ("walked" : PySem.Str), ("SMALL_LETTERS" : PySem.Str), ("MAX_NAME" : PySem.Str), ("is_name" : PySem.Str), ("text_of" : PySem.Str), ("is_goal" : PySem.Str), ("is_rule" : PySem.Str), ("MAX_RULES" : PySem.Str), ("MAX_TERMS" : PySem.Str), ("words_of" : PySem.Str), ("pairs_in" : PySem.Str), ("need_list" : PySem.Str), ("checked_words" : PySem.Str), ("check_rules" : PySem.Str), ("MAX_QUESTIONS" : PySem.Str), ("LENGTHS" : PySem.Str), ("names_in" : PySem.Str), ("need_terms" : PySem.Str), ("checked" : PySem.Str), ("with_rule" : PySem.Str), ("with_other_rule" : PySem.Str), ("without_rule" : PySem.Str), ("with_question" : PySem.Str), ("without_question" : PySem.Str), ("after" : PySem.Str), ("Store" : PySem.Str), ("_law_source" : PySem.Str), ("_law_take" : PySem.Str), ("_law_pick" : PySem.Str), ("_law_mixed" : PySem.Str), ("_law_same" : PySem.Str), ("_law_parts" : PySem.Str), ("_law_text" : PySem.Str), ("_law_walk" : PySem.Str), ("_law_by_text" : PySem.Str), ("_law_words" : PySem.Str), ("_law_names" : PySem.Str), ("_law_measure" : PySem.Str), ("_law_fits" : PySem.Str), ("_law_is_name" : PySem.Str), ("_law_next" : PySem.Str), ("_law_terms_due" : PySem.Str), ("_law_refusal" : PySem.Str), ("_law_refused_with" : PySem.Str), ("_law_wide" : PySem.Str), ("_law_store_so" : PySem.Str)]
def fp : List GetD := []
def kts : List KT := [("LENGTHS", kt_LENGTHS)]
abbrev R : PySem.W.OpenRow := PySem.W.OpenLaw.row PySem.Challenge.rw_fivefault_k50_capacities_of_a_store
abbrev hk : PySem.W.Hook := hookV 5 fa fn fp kts [("law", none)] ex
def ob (s : PySem.W.SharedT) : AlV := obsV 5 fa fn fp kts [("law", none)] ex (HandSHeadRun.getT s)
theorem ob_eq (s : PySem.W.SharedT) : ob s = hk.obs s.abs := obsV_eq (HandSHeadRun.getT_eq s)
theorem run_true (w : World) : HandSHeadRun.RunEq R (PySem.W.view R.prog [76]) hk ob 20000 loose (setF w true) := by
  intro os
  kernel_rfl
theorem run_false (w : World) : HandSHeadRun.RunEq R (PySem.W.view R.prog [76]) hk ob 20000 loose (setF w false) := by
  intro os
  kernel_rfl
theorem run (w : World) : HandSHeadRun.RunEq R (PySem.W.view R.prog [76]) hk ob 20000 loose w := by
  have key : ∀ b, HandSHeadRun.RunEq R (PySem.W.view R.prog [76]) hk ob 20000 loose (setF w b) := fun b => by
    cases b with
    | true => exact run_true w
    | false => exact run_false w
  have h := key (w.params.followText "special-get-raises")
  rw [setF_eq] at h
  exact h
end FF
namespace FF
open PySem PySem.Spec PyProof.Rows L2
/-! ### the draws' source -/
def srcGood (c : Addr) (xs : List V) : Prop := ∃ pos big seed cnt : Int, xs = [.ref c, .int pos, .int big, .int seed, .int cnt] ∧ 0 ≤ pos ∧ 0 ≤ seed ∧ seed < 2147483629
/-- at s stands a source of draws -/
def Src (H : Hp) (s : Addr) : Prop := ∃ (c : Addr) (ns : List Int), H s = some (hid (srcGood c) s) ∧ H c = some (.lst (ns.map V.int))
theorem Src.up {H H' : Hp} {s : Addr} (e : Same H H') (h : Src H s) : Src H' s := by
  obtain ⟨c, ns, h1, h2⟩ := h
  exact ⟨c, ns, e _ _ h1, e _ _ h2⟩
def spTakeL : Sp := fun vs H Q _ => ∃ (s c : Addr) (many : Int) (xs : List V) (ns : List Int), vs = [.ref s, .int many] ∧ 0 < many ∧ many < 1073741824 ∧ H s = some (.lst xs) ∧ srcGood c xs ∧ H c = some (.lst (ns.map V.int)) ∧ c ≠ s ∧
  ∀ n ys, 0 ≤ n → n < many → srcGood c ys → Q (.int n) (upd H s (.lst ys))
/-- a draw: some number below many; nothing is seen to change -/
def spTake : Sp := fun vs H Q _ => ∃ (s : Addr) (many : Int), vs = [.ref s, .int many] ∧ 0 < many ∧ many < 1073741824 ∧ Src H s ∧ ∀ n, 0 ≤ n → n < many → Q (.int n) H
section
variable {P : Program} {w : World} {K : PySem.W.Frag} {mg : Str → Option Value} {base : Heap}
theorem ok_take {f : Addr} {fd : FuncData} (F : FunD K "_law_take" "_law_take" (defArgs s_law_take) (defBody s_law_take) (defScope s_law_take) [] [] f fd) (hm : mg "_law_take" = some (.ref f)) (T : Top K mg) : Def P w K mg base "_law_take" 1 ["_law_source_here", "_law_many"] spTakeL := by
  refine def_mk F hm (F.bindsN fun _ _ _ _ _ _ us hl => match us, hl with | [_, _], _ => rfl) sc_law_take (fun vs H Q E h => ?_) (fun cdv A outer s H vs Q E hr h => ?_)
  · obtain ⟨s, c, many, xs, ns, rfl, _⟩ := h
    rfl
  obtain ⟨s, c, many, xs, ns, rfl, m0, m1, hs, ⟨pos, big, seed, cnt, rfl, p0, s0, s1⟩, hc, ncs, q⟩ := h
  refine ⟨_, (C8.pss_cut (ps_if (PW.pt (pw_and (pt_cmpR op_eq (pe_ix (ix_listK K) (pv 0) pe_int (fun _ _ => rfl)) pe_int (nomark _)) (pw_and1 (pt_cmpR op_lt (pe_ix (ix_listK K) (pv 0) pe_int (fun _ _ => rfl)) (pe_callB (call_lenK K) (by rfl) T.b_len (by decide +kernel) (pa_cons (pe_ix (ix_listK K) (pv 0) pe_int (fun _ _ => rfl)) pa_nil)) (nomark _)))))
  (pss_cons (ps_set (i := 2) sc_law_take.nd rfl (Or.inl rfl) (pe_ix (ix_listK K) (pe_ix (ix_listK K) (pv 0) pe_int (fun _ _ => rfl)) (pe_ix (ix_listK K) (pv 0) pe_int (fun _ _ => rfl)) (fun _ _ => rfl)))
  (pss_cons (ps_asg (pe_op op_add (pe_ix (ix_listK K) (pv 0) pe_int (fun _ _ => rfl)) pe_int) (pg_sub (pv 0) pe_int set_list))
  (pss_one (ps_if (pt_cmpR op_ge (pv 2) (pe_op op_pow pe_int pe_int) (nomark _))
  (pss_one (ps_asg (pv 2) (pg_sub (pv 0) pe_int set_list)))
  (pss_one (ps_asg (pe_op op_mod (pe_callTy call_int1 (by rfl) T.b_int (by decide +kernel) (pa_cons (pe_op op_add (pe_op op_add (pe_op op_mul (pe_ix (ix_listK K) (pv 0) pe_int (fun _ _ => rfl)) pe_int) (pe_op op_mul (pe_op op_mod (pe_callTy call_int1 (by rfl) T.b_int (by decide +kernel) (pa_cons (pv 2) pa_nil)) pe_int) pe_int)) pe_int) pa_nil)) pe_int) (pg_sub (pv 0) pe_int set_list)))))))
  pss_nil)
  (pss_cons (ps_if (pt_cmpR op_gt (pe_ix (ix_listK K) (pv 0) pe_int (fun _ _ => rfl)) pe_int (nomark _))
  (pss_cons (ps_set (i := 3) sc_law_take.nd rfl (Or.inl rfl) (pe_op op_mod (pe_callTy call_int1 (by rfl) T.b_int (by decide +kernel) (pa_cons (pe_ix (ix_listK K) (pv 0) pe_int (fun _ _ => rfl)) pa_nil)) (pv 1)))
  (pss_cons (ps_asg (pe_op op_fdiv (pe_ix (ix_listK K) (pv 0) pe_int (fun _ _ => rfl)) (pv 1)) (pg_sub (pv 0) pe_int set_list))
  (pss_one (ps_ret (pv 3)))))
  pss_nil)
  (pss_cons (ps_asg (pe_op op_add (pe_ix (ix_listK K) (pv 0) pe_int (fun _ _ => rfl)) pe_int) (pg_sub (pv 0) pe_int set_list))
  (pss_cons (ps_set (i := 4) sc_law_take.nd rfl (Or.inl rfl) (pe_op op_add (pe_op op_mod (pe_callTy call_int1 (by rfl) T.b_int (by decide +kernel) (pa_cons (pe_op op_mul (pe_ix (ix_listK K) (pv 0) pe_int (fun _ _ => rfl)) (pe_ix (ix_listK K) (pv 0) pe_int (fun _ _ => rfl))) pa_nil)) pe_int) (pe_op op_mul pe_int (pe_ix (ix_listK K) (pv 0) pe_int (fun _ _ => rfl)))))
  (pss_cons (ps_asg (pe_op op_mod (pe_callTy call_int1 (by rfl) T.b_int (by decide +kernel) (pa_cons (pe_op op_add (pe_op op_add (pe_op op_mul (pv 4) pe_int) (pe_ix (ix_listK K) (pv 0) pe_int (fun _ _ => rfl))) pe_int) pa_nil)) pe_int) (pg_sub (pv 0) pe_int set_list))
  (pss_one (ps_ret (pe_op op_mod (pe_callTy call_int1 (by rfl) T.b_int (by decide +kernel) (pa_cons (pe_op op_add (pe_op op_fdiv (pe_ix (ix_listK K) (pv 0) pe_int (fun _ _ => rfl)) pe_int) (pe_op op_mul (pe_op op_mod (pe_callTy call_int1 (by rfl) T.b_int (by decide +kernel) (pa_cons (pe_ix (ix_listK K) (pv 0) pe_int (fun _ _ => rfl)) pa_nil)) pe_int) pe_int)) pa_nil)) (pv 1))))))))), ?_⟩
  refine ⟨fun σ' H' => ∃ (ys : List V) (oc : Option V), σ' = [some (.ref s), some (.int many), oc, none, none] ∧ H' = upd H s (.lst ys) ∧ srcGood c ys, ?_, ?_⟩
  · have skip : ∃ (ys : List V) (oc : Option V), ([some (.ref s), some (.int many), none, none, none] : L2.St) = [some (.ref s), some (.int many), oc, none, none] ∧ H = upd H s (.lst ys) ∧ srcGood c ys :=
      ⟨_, none, rfl, by
        funext b
        unfold upd
        split
        · next e => rw [e, hs]
        · rfl, pos, big, seed, cnt, rfl, p0, s0, s1⟩
    refine ⟨_, rfl, s, _, _, _, rfl, rfl, SqL.of hs, rfl, rfl, _, rfl, ?_⟩
    refine if_int (fun h1 => ?_) (fun h1 => skip)
    refine ⟨_, rfl, s, _, _, _, rfl, rfl, SqL.of hs, rfl, _, rfl, s, _, _, _, rfl, rfl, SqL.of hs, rfl, _, ns.length, rfl, .inl ⟨_, SqL.of hc, (List.length_map _).symm⟩, _, _, rfl, rfl, _, rfl, ?_⟩
    refine if_dec (fun h2 => ?_) (fun h2 => skip)
    have hp : pos.toNat < ns.length := by omega
    have hat : atI (ns.map V.int) pos = some (.int ns[pos.toNat]) := by
      have e : ((pos.toNat : Nat) : Int) = pos := by omega
      have h : atI (ns.map V.int) ((pos.toNat : Nat) : Int) = some (.int ns[pos.toNat]) := atI_nat (by rw [List.getElem?_map, List.getElem?_eq_getElem hp] <;> rfl)
      rw [e] at h
      exact h
    refine ⟨_, rfl, s, _, _, _, rfl, rfl, SqL.of hs, rfl, _, rfl, s, _, _, _, rfl, rfl, SqL.of hs, rfl, c, _, _, _, rfl, rfl, SqL.of hc, hat, ?_⟩
    refine ⟨_, rfl, s, _, _, _, rfl, rfl, SqL.of hs, rfl, _, _, rfl, rfl, _, rfl, s, _, _, 1, rfl, rfl, hs, rfl, ?_⟩
    refine ⟨_, rfl, _, _, rfl, rfl, ⟨by decide, by decide, by decide⟩, _, _, rfl, rfl, _, rfl, ?_⟩
    refine if_dec (fun h3 => ?_) (fun h3 => ?_)
    · refine ⟨_, rfl, _, rfl, s, _, _, 2, rfl, rfl, upd_same, rfl, ?_⟩
      rw [upd_upd]
      exact ⟨_, _, rfl, rfl, pos + 1, _, seed, cnt, rfl, by omega, s0, s1⟩
    · refine ⟨_, rfl, s, _, _, _, rfl, rfl, SqL.of upd_same, rfl, _, _, rfl, rfl, .inr ⟨by decide, by decide⟩, ?_⟩
      refine ⟨_, rfl, .inl ⟨_, rfl, _, _, rfl, rfl, (by show (0 : Int) < _; decide), _, _, rfl, rfl, .inr ⟨by decide, by decide⟩, _, _, rfl, rfl, _, _, rfl, rfl, .inl ⟨_, rfl, _, _, rfl, rfl, (by show (0 : Int) < _; decide), _, rfl, s, _, _, 3, rfl, rfl, upd_same, rfl, ?_⟩⟩⟩
      rw [upd_upd]
      exact ⟨_, _, rfl, rfl, pos + 1, _, _, cnt, rfl, by omega, Int.emod_nonneg _ (by decide), Int.emod_lt_of_pos _ (by decide)⟩
  · rintro _ _ ⟨_, oc, rfl, rfl, pos, big, seed, cnt, rfl, p0, s0, s1⟩
    refine ⟨_, rfl, s, _, _, _, rfl, rfl, SqL.of upd_same, rfl, _, _, rfl, rfl, _, rfl, ?_⟩
    refine if_dec (fun h1 => ?_) (fun h1 => ?_)
    · refine ⟨_, rfl, s, _, _, _, rfl, rfl, SqL.of upd_same, rfl, .inl ⟨_, rfl, _, rfl, _, _, rfl, rfl, m0, ?_⟩⟩
      refine ⟨_, rfl, s, _, _, _, rfl, rfl, SqL.of upd_same, rfl, _, rfl, _, _, rfl, rfl, ⟨m0, m1⟩, _, rfl, s, _, _, 2, rfl, rfl, upd_same, rfl, _, rfl, ?_⟩
      rw [upd_upd]
      exact q _ _ (Int.emod_nonneg _ (by omega)) (Int.emod_lt_of_pos _ m0) ⟨pos, _, seed, cnt, rfl, p0, s0, s1⟩
    · refine ⟨_, rfl, s, _, _, _, rfl, rfl, SqL.of upd_same, rfl, _, _, rfl, rfl, _, rfl, s, _, _, 4, rfl, rfl, upd_same, rfl, ?_⟩
      rw [upd_upd]
      refine ⟨_, rfl, s, _, _, _, rfl, rfl, SqL.of upd_same, rfl, _, rfl, s, _, _, _, rfl, rfl, SqL.of upd_same, rfl, _, _, rfl, rfl, .inl ⟨by omega, by omega⟩, .inl ⟨_, rfl, _, _, rfl, rfl, (by show (0 : Int) < _; decide), _, rfl, s, _, _, _, rfl, rfl, SqL.of upd_same, rfl, _, _, rfl, rfl, .inl ⟨by decide, by decide⟩, _, _, rfl, rfl, ?_⟩⟩
      refine ⟨_, rfl, _, _, rfl, rfl, .inr ⟨by decide, by decide⟩, _, rfl, s, _, _, _, rfl, rfl, SqL.of upd_same, rfl, _, _, rfl, rfl, _, _, rfl, rfl, .inl ⟨_, rfl, _, _, rfl, rfl, (by show (0 : Int) < _; decide), _, rfl, s, _, _, 3, rfl, rfl, upd_same, rfl, ?_⟩⟩
      rw [upd_upd]
      refine ⟨_, rfl, s, _, _, _, rfl, rfl, SqL.of upd_same, rfl, _, _, rfl, rfl, ⟨by decide, by decide⟩, _, rfl, s, _, _, _, rfl, rfl, SqL.of upd_same, rfl, .inl ⟨_, rfl, _, _, rfl, rfl, (by show (0 : Int) < _; decide), _, _, rfl, rfl, .inr ⟨by decide, by decide⟩, _, _, rfl, rfl, .inl ⟨_, rfl, _, rfl, _, _, rfl, rfl, m0, ?_⟩⟩⟩
      exact q _ _ (Int.emod_nonneg _ (by omega)) (Int.emod_lt_of_pos _ m0) ⟨pos, _, _, _, rfl, p0, Int.emod_nonneg _ (by decide), Int.emod_lt_of_pos _ (by decide)⟩
theorem take_hid (D : Def P w K mg base "_law_take" 1 ["_law_source_here", "_law_many"] spTakeL) : Def P w K mg base "_law_take" 1 ["_law_source_here", "_law_many"] spTake := by
  refine D.open_ (fun vs H Q E h => ?_) (fun vs H Q E h => ?_)
  · obtain ⟨s, many, rfl, _⟩ := h
    rfl
  · obtain ⟨s, many, rfl, m0, m1, ⟨c, ns, hs, hc⟩, q⟩ := h
    have ncs : c ≠ s := by
      intro e
      rw [e, hs] at hc
      cases hc
    refine ⟨s, srcGood c, hs, fun xs hg => ⟨s, c, many, xs, ns, rfl, m0, m1, upd_same, hg, by rw [upd_ne ncs]; exact hc, ncs, fun n ys n0 n1 hy => ⟨ys, upd_same, hy, ?_⟩⟩⟩
    rw [upd_upd, upd_back hs]
    exact q n n0 n1
end
end FF
namespace FF
open PySem PySem.Spec PyProof.Rows L2
theorem cutV_map {α : Type} {f : α → V} {l : List α} {lo hi : Option Int} : ∃ m : List α, cutV (l.map f) lo hi = m.map f ∧ m.length ≤ l.length := by
  refine ⟨(l.drop (HT.sIx l.length 0 lo)).take (HT.sIx l.length l.length hi - HT.sIx l.length 0 lo), ?_, ?_⟩
  · unfold cutV
    rw [List.length_map, List.map_take, List.map_drop]
  · rw [List.length_take, List.length_drop]
    omega
def spSourceL (K : PySem.W.Frag) : Sp := fun vs H Q _ => ∃ (a : Addr) (ns : List Int), vs = [.ref a] ∧ SqL K H a (ns.map V.int) ∧
  ∀ (r c : Addr) (ms : List Int) H', H r = none → Same H H' → H' r = some (.lst [.ref c, .int 0, .int 0, .int 3818, .int 0]) → H' c = some (.lst (ms.map V.int)) → r ≠ c → Q (.ref r) H'
def spSource (K : PySem.W.Frag) : Sp := fun vs H Q _ => ∃ (a : Addr) (ns : List Int), vs = [.ref a] ∧ SqL K H a (ns.map V.int) ∧ ∀ (r : Addr) H', Same H H' → Src H' r → Q (.ref r) H'
def spPick (K : PySem.W.Frag) : Sp := fun vs H Q _ => ∃ (s r : Addr) (xs : List V), vs = [.ref s, .ref r] ∧ Src H s ∧ SqL K H r xs ∧ xs ≠ [] ∧ xs.length ≤ 20000 ∧ ∀ v, v ∈ xs → Q v H
def spMixed (K : PySem.W.Frag) : Sp := fun vs H Q _ => ∃ (s r : Addr) (xs : List V), vs = [.ref s, .ref r] ∧ Src H s ∧ SqL K H r xs ∧ xs.length ≤ 20000 ∧
  ∀ (p : Addr) H' ys, H p = none → Same H H' → H' p = some (.lst ys) → ys.Perm xs → Q (.ref p) H'
section
variable {P : Program} {w : World} {K : PySem.W.Frag} {mg : Str → Option Value} {base : Heap}
theorem ok_source {f : Addr} {fd : FuncData} (F : FunD K "_law_source" "_law_source" (defArgs s_law_source) (defBody s_law_source) (defScope s_law_source) [] [] f fd) (hm : mg "_law_source" = some (.ref f)) (T : Top K mg) : Def P w K mg base "_law_source" 1 ["_law_script"] (spSource K) := by
  have D : Def P w K mg base "_law_source" 1 ["_law_script"] (spSourceL K) := by
    refine def_mk F hm (F.bindsN fun _ _ _ _ _ _ us hl => match us, hl with | [_], _ => rfl) sc_law_source (fun vs H Q E h => ?_) (fun cdv A outer s H vs Q E hr h => ?_)
    · obtain ⟨a, ns, rfl, _⟩ := h
      rfl
    obtain ⟨a, ns, rfl, hS, q⟩ := h
    refine ⟨_, (pss_one (ps_ret (pe_lst (pa_cons (pe_callTy (call_list_ofK K) (by rfl) T.b_list (by decide +kernel) (pa_cons (pe_slice (sl_listK K) (pv 0) po_none (po_some pe_int)) pa_nil)) (pa_cons pe_int (pa_cons pe_int (pa_cons pe_int (pa_cons pe_int pa_nil)))))))), ?_⟩
    refine ⟨_, rfl, 63, rfl, a, _, rfl, hS, fun p hp => ⟨p, _, rfl, .inl (SqL.of upd_same), fun l hl => ⟨(by show 5 ≤ sizeLine; decide), fun r hr0 => ?_⟩⟩⟩
    obtain ⟨ms, hms, _⟩ := cutV_map (f := V.int) (l := ns) (lo := none) (hi := some 63)
    rw [hms] at hl hr0 ⊢
    have e1 := same_new hp (.lst (ms.map V.int))
    have e2 := same_new hl (.lst (ms.map V.int))
    have e3 := same_new hr0 (.lst [.ref l, .int 0, .int 0, .int 3818, .int 0])
    have nrl : r ≠ l := fun z => by rw [z, upd_same] at hr0; cases hr0
    exact q r l ms _ ((e1.trans e2).free hr0) ((e1.trans e2).trans e3) upd_same (by rw [upd_ne nrl.symm]; exact upd_same) nrl
  refine D.shut_ (fun vs H Q E h => ?_) (fun vs H Q E h => ?_)
  · obtain ⟨a, ns, rfl, _⟩ := h
    rfl
  · obtain ⟨a, ns, rfl, hS, q⟩ := h
    refine ⟨a, ns, rfl, hS, fun r c ms H' hr0 e hr1 hc nrc => ⟨r, srcGood c, _, hr0, hr1, ⟨0, 0, 3818, 0, rfl, by omega, by omega, by omega⟩, ?_⟩⟩
    refine q r _ (fun b o h => ?_) ⟨c, ms, upd_same, by rw [upd_ne nrc.symm]; exact hc⟩
    rw [upd_ne (ne_of_none h hr0)]
    exact e _ _ h
theorem ok_pick {f : Addr} {fd : FuncData} (F : FunD K "_law_pick" "_law_pick" (defArgs s_law_pick) (defBody s_law_pick) (defScope s_law_pick) [] [] f fd) (hm : mg "_law_pick" = some (.ref f)) (T : Top K mg)
    (D_law_take : Def P w K mg base "_law_take" 1 ["_law_source_here", "_law_many"] spTake) : Def P w K mg base "_law_pick" 2 ["_law_source_here", "_law_row"] (spPick K) := by
  refine def_mk F hm (F.bindsN fun _ _ _ _ _ _ us hl => match us, hl with | [_, _], _ => rfl) sc_law_pick (fun vs H Q E h => ?_) (fun cdv A outer s H vs Q E hr h => ?_)
  · obtain ⟨s, r, xs, rfl, _⟩ := h
    rfl
  obtain ⟨s, r, xs, rfl, hs, hx, hn, hz, q⟩ := h
  have hl : 0 < xs.length := List.length_pos_iff.mpr hn
  refine ⟨_, (pss_one (ps_ret (pe_ix (ix_listK K) (pv 1) (pe_def D_law_take hr (by first | decide | omega) (pa_cons (pv 0) (pa_cons (pe_callB (call_lenK K) (by rfl) T.b_len (by decide +kernel) (pa_cons (pv 1) pa_nil)) pa_nil))) (fun _ _ => rfl)))), ?_⟩
  refine ⟨_, rfl, _, rfl, _, rfl, _, xs.length, rfl, .inl ⟨_, hx, rfl⟩, s, _, rfl, by omega, by omega, hs, fun k k0 k1 => ?_⟩
  have hk : k.toNat < xs.length := by omega
  have hat : atI xs k = some xs[k.toNat] := by
    have e : ((k.toNat : Nat) : Int) = k := by omega
    have h : atI xs ((k.toNat : Nat) : Int) = some xs[k.toNat] := atI_nat (List.getElem?_eq_getElem hk)
    rw [e] at h
    exact h
  exact ⟨r, xs, k, _, rfl, rfl, hx, hat, q _ (List.getElem_mem hk)⟩
theorem ok_mixed {f : Addr} {fd : FuncData} (F : FunD K "_law_mixed" "_law_mixed" (defArgs s_law_mixed) (defBody s_law_mixed) (defScope s_law_mixed) [] [] f fd) (hm : mg "_law_mixed" = some (.ref f)) (T : Top K mg)
    (D_law_take : Def P w K mg base "_law_take" 1 ["_law_source_here", "_law_many"] spTake) : Def P w K mg base "_law_mixed" 2 ["_law_source_here", "_law_row"] (spMixed K) := by
  refine def_mk F hm (F.bindsN fun _ _ _ _ _ _ us hl => match us, hl with | [_, _], _ => rfl) sc_law_mixed (fun vs H Q E h => ?_) (fun cdv A outer s H vs Q E hr h => ?_)
  · obtain ⟨s, r, xs, rfl, _⟩ := h
    rfl
  obtain ⟨s, r, xs, rfl, hs, hx, hz, q⟩ := h
  refine ⟨_, (pss_cons (ps_set (i := 2) sc_law_mixed.nd rfl (Or.inl rfl) (pe_lst pa_nil))
  (pss_cons (ps_for PassesOwn.never rfl (pi_listK K (pv 1)) (pg_name (i := 3) sc_law_mixed.nd rfl (Or.inl rfl) (.inl rfl))
  (pss_one (ps_expr (pe_bmK K PySem.F.plainAttrs_list PySem.F.slot_list_insert PySem.F.type_list_insert mt_insert (pv 2) (pa_cons (pe_def D_law_take hr (by first | decide | omega) (pa_cons (pv 0) (pa_cons (pe_op op_add (pe_callB (call_lenK K) (by rfl) T.b_len (by decide +kernel) (pa_cons (pv 2) pa_nil)) pe_int) pa_nil))) (pa_cons (pv 3) pa_nil))))))
  (pss_one (ps_ret (pv 2))))), ?_⟩
  refine ⟨by decide, fun p hp => ?_⟩
  have e1 := same_new hp (.lst [])
  refine ⟨_, rfl, r, rfl, ⟨_, up_l e1 hx⟩, for_list (K := K) (a := r) (xs := xs) (fun i σ H' => ∃ (ys : List V) (o : Option V), σ = [some (.ref s), some (.ref r), some (.ref p), o] ∧ Same H H' ∧ H' p = some (.lst ys) ∧ ys.Perm (xs.take i))
    ⟨[], none, rfl, e1, upd_same, by rw [List.take_zero]⟩ (fun i σ H' _ ⟨_, _, _, e, _⟩ => up_l e hx) ?_ ?_⟩
  · rintro i x σ H' hi ⟨ys, o, rfl, e, hp1, hperm⟩
    have hi2 := (List.getElem?_eq_some_iff.mp hi).1
    have hyl : ys.length = i := by
      rw [hperm.length_eq, List.length_take]
      omega
    refine ⟨_, rfl, .inl ⟨rfl, _, SqL.of hp1⟩, _, rfl, _, rfl, _, ys.length, rfl, .inl ⟨_, SqL.of hp1, rfl⟩, _, _, rfl, rfl, s, _, rfl, by omega, by omega, hs.up e, fun k k0 k1 => ?_⟩
    refine ⟨_, rfl, p, ys, k, x, rfl, rfl, hp1, lt_line (by omega), k0, by omega, ?_⟩
    refine ⟨_, _, rfl, fun b o2 h => ?_, upd_same, ?_⟩
    · rw [upd_ne (ne_of_none h hp)]
      exact e _ _ h
    · rw [List.take_succ, hi]
      have h1 : (ys.take k.toNat ++ [x] ++ ys.drop k.toNat).Perm (x :: ys) := by
        rw [List.append_assoc]
        refine List.perm_middle.trans ?_
        show (x :: (ys.take k.toNat ++ ys.drop k.toNat)).Perm _
        rw [List.take_append_drop]
      refine h1.trans ?_
      refine (List.Perm.cons x hperm).trans ?_
      exact (List.perm_append_singleton x (xs.take i)).symm
  · rintro σ H' ⟨ys, o, rfl, e, hp1, hperm⟩
    rw [List.take_length] at hperm
    exact ⟨_, rfl, q p H' ys hp e hp1 hperm⟩
end
end FF
namespace FF
open PySem PySem.Spec PyProof.Rows L2
/-! ### drawn terms -/
/-- a drawn term: n operators deep at most -/
def Drawn : Nat → PyData → Prop
  | 0, d => isLet d = true
  | n + 1, d => isLet d = true ∨ ∃ o ps, d = .tuple (o :: ps) ∧ isOp o = true ∧ 2 ≤ ps.length ∧ ps.length ≤ 8 ∧ ∀ p, p ∈ ps → Drawn n p
theorem let_shape {d : PyData} (h : isLet d = true) : ∃ c, d = .str ⟨#[c]⟩ ∧ c ∈ lettersS.cps.toList := by
  cases d with
  | str z =>
    obtain ⟨⟨l⟩⟩ := z
    match l, h with
    | [c], h => exact ⟨c, rfl, of_decide_eq_true h⟩
  | _ => cases h
theorem lettersS_val : lettersS.cps.toList = [97, 98, 99, 100, 101, 102, 103, 104] := by decide +kernel
theorem let_nice {d : PyData} (h : isLet d = true) : nice d = true := by
  obtain ⟨c, rfl, hc⟩ := let_shape h
  rw [lettersS_val] at hc
  simp only [nice, Bool.and_eq_true, decide_eq_true_eq]
  refine ⟨by show 1 ≤ 20000; decide, ?_⟩
  show (#[c].all fun x => decide (x < 0x110000)) = true
  have : c < 0x110000 := by
    simp only [List.mem_cons, List.not_mem_nil, or_false] at hc
    omega
  simp [this]
theorem let_depth {d : PyData} (h : isLet d = true) : d.depth = 0 := by
  obtain ⟨c, rfl, hc⟩ := let_shape h
  rw [PyData.depth]
theorem op_shape {d : PyData} (h : isOp d = true) : d = .str ("&" : Str) ∨ d = .str ("|" : Str) := by
  cases d with
  | str z =>
    have h2 : (decide (z = ("&" : Str)) || decide (z = ("|" : Str))) = true := h
    rw [Bool.or_eq_true, decide_eq_true_eq, decide_eq_true_eq] at h2
    rcases h2 with e | e
    · exact .inl (by rw [e])
    · exact .inr (by rw [e])
  | _ => cases h
theorem op_nice {d : PyData} (h : isOp d = true) : Nice 0 d := by
  rcases op_shape h with rfl | rfl
  · exact ⟨by decide +kernel, by rw [PyData.depth]; exact Nat.le_refl _⟩
  · exact ⟨by decide +kernel, by rw [PyData.depth]; exact Nat.le_refl _⟩
theorem drawn_nice : ∀ {n : Nat} {d : PyData}, Drawn n d → Nice n d
  | 0, d, h => ⟨let_nice h, Nat.le_of_eq (let_depth h)⟩
  | n + 1, d, h => by
    rcases h with h | ⟨o, ps, rfl, ho, h2, h4, hp⟩
    · exact ⟨let_nice h, by rw [let_depth h]; omega⟩
    · refine Nice.tuple (by simp; omega) fun p hm => ?_
      rcases List.mem_cons.mp hm with e | hm
      · rw [e]
        exact (op_nice ho).mono (Nat.zero_le _)
      · exact drawn_nice (hp p hm)
theorem drawn_mono : ∀ {m n : Nat} {d : PyData}, Drawn m d → m ≤ n → Drawn n d
  | 0, 0, _, h, _ => h
  | 0, _ + 1, _, h, _ => .inl h
  | m + 1, n + 1, _, h, hm => by
    rcases h with h | ⟨o, ps, e, ho, h2, h4, hp⟩
    · exact .inl h
    · exact .inr ⟨o, ps, e, ho, h2, h4, fun p hm2 => drawn_mono (hp p hm2) (by omega)⟩
section
variable {P : Program} {w : World} {K : PySem.W.Frag} {mg : Str → Option Value} {base : Heap}
end
end FF
namespace FF
open PySem PySem.Spec PyProof.Rows L2
end FF
namespace FF
open PySem PySem.Spec PyProof.Rows L2
theorem tpa_snoc {K : PySem.W.Frag} {H : Hp} {v : V} {d : PyData} (h : Tp K H v d) : ∀ {vs : List V} {ds : List PyData}, TpAll K H vs ds → TpAll K H (vs ++ [v]) (ds ++ [d])
  | _, _, .nil => .cons h .nil
  | _, _, .cons x r => .cons x (tpa_snoc h r)
section
variable {P : Program} {w : World} {K : PySem.W.Frag} {mg : Str → Option Value} {base : Heap}
end
end FF
namespace FF
open PySem PySem.Spec PyProof.Rows L2
section
variable {P : Program} {w : World} {K : PySem.W.Frag} {mg : Str → Option Value} {base : Heap}
theorem fn_fe {f : Addr} {fd : FuncData} (F : FunD K "__init__" "FaultError.__init__" (defArgs s_FaultError_init) (defBody s_FaultError_init) (defScope s_FaultError_init) [] [] f fd) (T : Top K mg) : FnOk P w K mg base CX0 1 f fd ["self", "code"] (spFE K) := by
  refine FunD.ok F sc_FaultError_init (fun vs H Q E h => ?_) (fun cdv A outer s0 H vs Q E hr h => ?_)
  · obtain ⟨a, C, z, rfl, _⟩ := h
    rfl
  obtain ⟨a, C, z, rfl, hC, hno, ha, q⟩ := h
  refine ⟨_, PSs.nox (pss_cons (ps_expr (pe_veinit (by rfl) T.b_ValueError T.fe.ve (pa_cons (pv 0) (pa_cons (pv 1) pa_nil)))) (pss_one (ps_ost (pv 0) (pv 1)))), ?_⟩
  refine ⟨_, rfl, _, rfl, a, C, [z], rfl, (show 1 ≤ 1000 by decide), hC, ha, ?_⟩
  exact ⟨_, rfl, _, rfl, a, C, rfl, hC, hno, .inl ⟨ha, fun dx hdx hne => q dx hdx hne⟩⟩
theorem fn_InvalidTerm {f : Addr} {fd fdg : FuncData} (F : FunD K "__init__" "InvalidTerm.__init__" (defArgs s_InvalidTerm_init) (defBody s_InvalidTerm_init) (defScope s_InvalidTerm_init) [] [] f fd) (T : Top K mg)
    (FE : FnOk P w K mg base CX0 1 (He.ma K (He.ga K "FaultError") "__init__") fdg ["self", "code"] (spFE K)) (hb : Binds K fdg ["self", "code"] []) : FnOk P w K mg base CX0 2 f fd ["self"] (spIni K "InvalidTerm") := by
  refine FunD.ok F sc_InvalidTerm_init (fun vs H Q E h => ?_) (fun cdv A outer s0 H vs Q E hr h => ?_)
  · obtain ⟨a, C, rfl, _⟩ := h
    rfl
  obtain ⟨a, C, rfl, hC, hno, ha, q⟩ := h
  refine ⟨_, PSs.nox (pss_one (ps_expr (pe_clsfn (by rfl) T.c_FaultError T.fe.rd ⟨T.fe.at_, rfl⟩ FE hr T.fe.kp hb pass0 (pa_cons (pv 0) (pa_cons pe_str pa_nil))))), ?_⟩
  exact ⟨_, rfl, a, C, _, rfl, hC, hno, ha, q⟩
theorem fn_InvalidName {f : Addr} {fd fdg : FuncData} (F : FunD K "__init__" "InvalidName.__init__" (defArgs s_InvalidName_init) (defBody s_InvalidName_init) (defScope s_InvalidName_init) [] [] f fd) (T : Top K mg)
    (FE : FnOk P w K mg base CX0 1 (He.ma K (He.ga K "FaultError") "__init__") fdg ["self", "code"] (spFE K)) (hb : Binds K fdg ["self", "code"] []) : FnOk P w K mg base CX0 2 f fd ["self", "name"] (spIni1 K "InvalidName" "name") := by
  refine FunD.ok F sc_InvalidName_init (fun vs H Q E h => ?_) (fun cdv A outer s0 H vs Q E hr h => ?_)
  · obtain ⟨a, C, y, rfl, _⟩ := h
    rfl
  obtain ⟨a, C, y, rfl, hC, hno, hnf, ha, q⟩ := h
  refine ⟨_, PSs.nox (pss_cons (ps_expr (pe_clsfn (by rfl) T.c_FaultError T.fe.rd ⟨T.fe.at_, rfl⟩ FE hr T.fe.kp hb pass0 (pa_cons (pv 0) (pa_cons pe_str pa_nil)))) (pss_one (ps_ost (pv 0) (pv 1)))), ?_⟩
  refine ⟨_, rfl, a, C, _, rfl, hC, hno, ha, fun dx hdx hne => ?_⟩
  exact ⟨_, rfl, _, rfl, a, C, rfl, hC, hnf, .inr ⟨dx, [("code", .str "InvalidName")], upd_same, by rw [upd_ne hne, upd_same], (show 1 ≤ 900 by decide), q dx hdx hne⟩⟩
theorem fn_InvalidRules {f : Addr} {fd fdg : FuncData} (F : FunD K "__init__" "InvalidRules.__init__" (defArgs s_InvalidRules_init) (defBody s_InvalidRules_init) (defScope s_InvalidRules_init) [] [] f fd) (T : Top K mg)
    (FE : FnOk P w K mg base CX0 1 (He.ma K (He.ga K "FaultError") "__init__") fdg ["self", "code"] (spFE K)) (hb : Binds K fdg ["self", "code"] []) : FnOk P w K mg base CX0 2 f fd ["self", "index"] (spIni1 K "InvalidRules" "index") := by
  refine FunD.ok F sc_InvalidRules_init (fun vs H Q E h => ?_) (fun cdv A outer s0 H vs Q E hr h => ?_)
  · obtain ⟨a, C, y, rfl, _⟩ := h
    rfl
  obtain ⟨a, C, y, rfl, hC, hno, hnf, ha, q⟩ := h
  refine ⟨_, PSs.nox (pss_cons (ps_expr (pe_clsfn (by rfl) T.c_FaultError T.fe.rd ⟨T.fe.at_, rfl⟩ FE hr T.fe.kp hb pass0 (pa_cons (pv 0) (pa_cons pe_str pa_nil)))) (pss_one (ps_ost (pv 0) (pv 1)))), ?_⟩
  refine ⟨_, rfl, a, C, _, rfl, hC, hno, ha, fun dx hdx hne => ?_⟩
  exact ⟨_, rfl, _, rfl, a, C, rfl, hC, hnf, .inr ⟨dx, [("code", .str "InvalidRules")], upd_same, by rw [upd_ne hne, upd_same], (show 1 ≤ 900 by decide), q dx hdx hne⟩⟩
theorem fn_InvalidGoal {f : Addr} {fd fdg : FuncData} (F : FunD K "__init__" "InvalidGoal.__init__" (defArgs s_InvalidGoal_init) (defBody s_InvalidGoal_init) (defScope s_InvalidGoal_init) [] [] f fd) (T : Top K mg)
    (FE : FnOk P w K mg base CX0 1 (He.ma K (He.ga K "FaultError") "__init__") fdg ["self", "code"] (spFE K)) (hb : Binds K fdg ["self", "code"] []) : FnOk P w K mg base CX0 2 f fd ["self"] (spIni K "InvalidGoal") := by
  refine FunD.ok F sc_InvalidGoal_init (fun vs H Q E h => ?_) (fun cdv A outer s0 H vs Q E hr h => ?_)
  · obtain ⟨a, C, rfl, _⟩ := h
    rfl
  obtain ⟨a, C, rfl, hC, hno, ha, q⟩ := h
  refine ⟨_, PSs.nox (pss_one (ps_expr (pe_clsfn (by rfl) T.c_FaultError T.fe.rd ⟨T.fe.at_, rfl⟩ FE hr T.fe.kp hb pass0 (pa_cons (pv 0) (pa_cons pe_str pa_nil))))), ?_⟩
  exact ⟨_, rfl, a, C, _, rfl, hC, hno, ha, q⟩
theorem fn_TooManyTerms {f : Addr} {fd fdg : FuncData} (F : FunD K "__init__" "TooManyTerms.__init__" (defArgs s_TooManyTerms_init) (defBody s_TooManyTerms_init) (defScope s_TooManyTerms_init) [] [] f fd) (T : Top K mg)
    (FE : FnOk P w K mg base CX0 1 (He.ma K (He.ga K "FaultError") "__init__") fdg ["self", "code"] (spFE K)) (hb : Binds K fdg ["self", "code"] []) : FnOk P w K mg base CX0 2 f fd ["self", "count"] (spIni1 K "TooManyTerms" "count") := by
  refine FunD.ok F sc_TooManyTerms_init (fun vs H Q E h => ?_) (fun cdv A outer s0 H vs Q E hr h => ?_)
  · obtain ⟨a, C, y, rfl, _⟩ := h
    rfl
  obtain ⟨a, C, y, rfl, hC, hno, hnf, ha, q⟩ := h
  refine ⟨_, PSs.nox (pss_cons (ps_expr (pe_clsfn (by rfl) T.c_FaultError T.fe.rd ⟨T.fe.at_, rfl⟩ FE hr T.fe.kp hb pass0 (pa_cons (pv 0) (pa_cons pe_str pa_nil)))) (pss_one (ps_ost (pv 0) (pv 1)))), ?_⟩
  refine ⟨_, rfl, a, C, _, rfl, hC, hno, ha, fun dx hdx hne => ?_⟩
  exact ⟨_, rfl, _, rfl, a, C, rfl, hC, hnf, .inr ⟨dx, [("code", .str "TooManyTerms")], upd_same, by rw [upd_ne hne, upd_same], (show 1 ≤ 900 by decide), q dx hdx hne⟩⟩
theorem fn_NameInUse {f : Addr} {fd fdg : FuncData} (F : FunD K "__init__" "NameInUse.__init__" (defArgs s_NameInUse_init) (defBody s_NameInUse_init) (defScope s_NameInUse_init) [] [] f fd) (T : Top K mg)
    (FE : FnOk P w K mg base CX0 1 (He.ma K (He.ga K "FaultError") "__init__") fdg ["self", "code"] (spFE K)) (hb : Binds K fdg ["self", "code"] []) : FnOk P w K mg base CX0 2 f fd ["self", "name"] (spIni1 K "NameInUse" "name") := by
  refine FunD.ok F sc_NameInUse_init (fun vs H Q E h => ?_) (fun cdv A outer s0 H vs Q E hr h => ?_)
  · obtain ⟨a, C, y, rfl, _⟩ := h
    rfl
  obtain ⟨a, C, y, rfl, hC, hno, hnf, ha, q⟩ := h
  refine ⟨_, PSs.nox (pss_cons (ps_expr (pe_clsfn (by rfl) T.c_FaultError T.fe.rd ⟨T.fe.at_, rfl⟩ FE hr T.fe.kp hb pass0 (pa_cons (pv 0) (pa_cons pe_str pa_nil)))) (pss_one (ps_ost (pv 0) (pv 1)))), ?_⟩
  refine ⟨_, rfl, a, C, _, rfl, hC, hno, ha, fun dx hdx hne => ?_⟩
  exact ⟨_, rfl, _, rfl, a, C, rfl, hC, hnf, .inr ⟨dx, [("code", .str "NameInUse")], upd_same, by rw [upd_ne hne, upd_same], (show 1 ≤ 900 by decide), q dx hdx hne⟩⟩
theorem fn_CapacityReached {f : Addr} {fd fdg : FuncData} (F : FunD K "__init__" "CapacityReached.__init__" (defArgs s_CapacityReached_init) (defBody s_CapacityReached_init) (defScope s_CapacityReached_init) [] [] f fd) (T : Top K mg)
    (FE : FnOk P w K mg base CX0 1 (He.ma K (He.ga K "FaultError") "__init__") fdg ["self", "code"] (spFE K)) (hb : Binds K fdg ["self", "code"] []) : FnOk P w K mg base CX0 2 f fd ["self", "limit"] (spIni1 K "CapacityReached" "limit") := by
  refine FunD.ok F sc_CapacityReached_init (fun vs H Q E h => ?_) (fun cdv A outer s0 H vs Q E hr h => ?_)
  · obtain ⟨a, C, y, rfl, _⟩ := h
    rfl
  obtain ⟨a, C, y, rfl, hC, hno, hnf, ha, q⟩ := h
  refine ⟨_, PSs.nox (pss_cons (ps_expr (pe_clsfn (by rfl) T.c_FaultError T.fe.rd ⟨T.fe.at_, rfl⟩ FE hr T.fe.kp hb pass0 (pa_cons (pv 0) (pa_cons pe_str pa_nil)))) (pss_one (ps_ost (pv 0) (pv 1)))), ?_⟩
  refine ⟨_, rfl, a, C, _, rfl, hC, hno, ha, fun dx hdx hne => ?_⟩
  exact ⟨_, rfl, _, rfl, a, C, rfl, hC, hnf, .inr ⟨dx, [("code", .str "CapacityReached")], upd_same, by rw [upd_ne hne, upd_same], (show 1 ≤ 900 by decide), q dx hdx hne⟩⟩
theorem fn_InvalidCommand {f : Addr} {fd fdg : FuncData} (F : FunD K "__init__" "InvalidCommand.__init__" (defArgs s_InvalidCommand_init) (defBody s_InvalidCommand_init) (defScope s_InvalidCommand_init) [] [] f fd) (T : Top K mg)
    (FE : FnOk P w K mg base CX0 1 (He.ma K (He.ga K "FaultError") "__init__") fdg ["self", "code"] (spFE K)) (hb : Binds K fdg ["self", "code"] []) : FnOk P w K mg base CX0 2 f fd ["self", "word"] (spIni1 K "InvalidCommand" "word") := by
  refine FunD.ok F sc_InvalidCommand_init (fun vs H Q E h => ?_) (fun cdv A outer s0 H vs Q E hr h => ?_)
  · obtain ⟨a, C, y, rfl, _⟩ := h
    rfl
  obtain ⟨a, C, y, rfl, hC, hno, hnf, ha, q⟩ := h
  refine ⟨_, PSs.nox (pss_cons (ps_expr (pe_clsfn (by rfl) T.c_FaultError T.fe.rd ⟨T.fe.at_, rfl⟩ FE hr T.fe.kp hb pass0 (pa_cons (pv 0) (pa_cons pe_str pa_nil)))) (pss_one (ps_ost (pv 0) (pv 1)))), ?_⟩
  refine ⟨_, rfl, a, C, _, rfl, hC, hno, ha, fun dx hdx hne => ?_⟩
  exact ⟨_, rfl, _, rfl, a, C, rfl, hC, hnf, .inr ⟨dx, [("code", .str "InvalidCommand")], upd_same, by rw [upd_ne hne, upd_same], (show 1 ≤ 900 by decide), q dx hdx hne⟩⟩
end
end FF
/-! own exceptions over LookupError and IndexError: their __init__s -/
namespace FF
open PySem PySem.Spec PyProof.Rows L2
section
variable {P : Program} {w : World} {K : PySem.W.Frag} {mg : Str → Option Value} {base : Heap}
theorem fn_Missing {f : Addr} {fd : FuncData} (F : FunD K "__init__" "Missing.__init__" (defArgs s_Missing_init) (defBody s_Missing_init) (defScope s_Missing_init) [] [] f fd) (T : Top K mg) : FnOk P w K mg base CX0 1 f fd ["self", "code"] (spFG lkB K) := by
  refine FunD.ok F sc_Missing_init (fun vs H Q E h => ?_) (fun cdv A outer s0 H vs Q E hr h => ?_)
  · obtain ⟨a, C, z, rfl, _⟩ := h
    rfl
  obtain ⟨a, C, z, rfl, hC, hno, ha, q⟩ := h
  refine ⟨_, PSs.nox (pss_cons (ps_expr (pe_lkinit (by rfl) T.b_LookupError T.bi_LookupError (pa_cons (pv 0) (pa_cons (pv 1) pa_nil)))) (pss_one (ps_ostG lkB (pv 0) (pv 1)))), ?_⟩
  refine ⟨_, rfl, _, rfl, a, C, [z], rfl, (show 1 ≤ 1000 by decide), hC, ha, ?_⟩
  exact ⟨_, rfl, _, rfl, a, C, rfl, hC, hno, .inl ⟨ha, fun dx hdx hne => q dx hdx hne⟩⟩
theorem fn_UnknownRule {f : Addr} {fd fdg : FuncData} (F : FunD K "__init__" "UnknownRule.__init__" (defArgs s_UnknownRule_init) (defBody s_UnknownRule_init) (defScope s_UnknownRule_init) [] [] f fd) (T : Top K mg)
    (FE : FnOk P w K mg base CX0 1 (He.ma K (He.ga K "Missing") "__init__") fdg ["self", "code"] (spFG lkB K)) (hb : Binds K fdg ["self", "code"] []) : FnOk P w K mg base CX0 2 f fd ["self", "name"] (spIniG1 lkB K "UnknownRule" "name") := by
  refine FunD.ok F sc_UnknownRule_init (fun vs H Q E h => ?_) (fun cdv A outer s0 H vs Q E hr h => ?_)
  · obtain ⟨a, C, y, rfl, _⟩ := h
    rfl
  obtain ⟨a, C, y, rfl, hC, hno, hnf, ha, q⟩ := h
  refine ⟨_, PSs.nox (pss_cons (ps_expr (pe_clsfn (by rfl) T.c_Missing T.r_Missing.rd ⟨T.r_Missing.at_, rfl⟩ FE hr T.r_Missing.kp hb pass0 (pa_cons (pv 0) (pa_cons pe_str pa_nil)))) (pss_one (ps_ostG lkB (pv 0) (pv 1)))), ?_⟩
  refine ⟨_, rfl, a, C, _, rfl, hC, hno, ha, fun dx hdx hne => ?_⟩
  exact ⟨_, rfl, _, rfl, a, C, rfl, hC, hnf, .inr ⟨dx, [("code", .str "UnknownRule")], upd_same, by rw [upd_ne hne, upd_same], (show 1 ≤ 900 by decide), q dx hdx hne⟩⟩
theorem fn_UnknownQuestion {f : Addr} {fd fdg : FuncData} (F : FunD K "__init__" "UnknownQuestion.__init__" (defArgs s_UnknownQuestion_init) (defBody s_UnknownQuestion_init) (defScope s_UnknownQuestion_init) [] [] f fd) (T : Top K mg)
    (FE : FnOk P w K mg base CX0 1 (He.ma K (He.ga K "Missing") "__init__") fdg ["self", "code"] (spFG lkB K)) (hb : Binds K fdg ["self", "code"] []) : FnOk P w K mg base CX0 2 f fd ["self", "name"] (spIniG1 lkB K "UnknownQuestion" "name") := by
  refine FunD.ok F sc_UnknownQuestion_init (fun vs H Q E h => ?_) (fun cdv A outer s0 H vs Q E hr h => ?_)
  · obtain ⟨a, C, y, rfl, _⟩ := h
    rfl
  obtain ⟨a, C, y, rfl, hC, hno, hnf, ha, q⟩ := h
  refine ⟨_, PSs.nox (pss_cons (ps_expr (pe_clsfn (by rfl) T.c_Missing T.r_Missing.rd ⟨T.r_Missing.at_, rfl⟩ FE hr T.r_Missing.kp hb pass0 (pa_cons (pv 0) (pa_cons pe_str pa_nil)))) (pss_one (ps_ostG lkB (pv 0) (pv 1)))), ?_⟩
  refine ⟨_, rfl, a, C, _, rfl, hC, hno, ha, fun dx hdx hne => ?_⟩
  exact ⟨_, rfl, _, rfl, a, C, rfl, hC, hnf, .inr ⟨dx, [("code", .str "UnknownQuestion")], upd_same, by rw [upd_ne hne, upd_same], (show 1 ≤ 900 by decide), q dx hdx hne⟩⟩
end
end FF
namespace FF
open PySem PySem.Spec PyProof.Rows L2
section
variable {P : Program} {w : World} {K : PySem.W.Frag} {mg : Str → Option Value} {base : Heap}
/-- is_letter(value): for data -/
def spIsLetter (K : PySem.W.Frag) : Sp := fun vs H Q _ => ∃ (v : V) (d : PyData), vs = [v] ∧ Dp K H v d ∧ nice d = true ∧ Q (.bl (isLet d)) H
theorem ok_is_letter {f : Addr} {fd : FuncData} (F : FunD K "is_letter" "is_letter" (defArgs s_is_letter) (defBody s_is_letter) (defScope s_is_letter) [] [] f fd) (hm : mg "is_letter" = some (.ref f)) (T : Top K mg) : Def P w K mg base "is_letter" 1 ["value"] (spIsLetter K) := by
  refine def_mk F hm (F.bindsN fun _ _ _ _ _ _ us hl => match us, hl with | [_], _ => rfl) sc_is_letter (fun vs H Q E h => ?_) (fun cdv A outer s H vs Q E hr h => ?_)
  · obtain ⟨v, d, rfl, _⟩ := h
    rfl
  obtain ⟨v, d, rfl, hd, hn, q⟩ := h
  refine ⟨_, (pss_one (ps_ret (pe_and (pe_callB (call_isK K kb_str) (by rfl) T.b_isinstance (by decide +kernel) (pa_cons (pv 0) (pa_cons (pe_bltn (v := .ty "str") (by rfl) T.b_str (by decide +kernel) rfl) pa_nil))) (pe_and (pe_cmpR op_eq (pe_callB (call_lenK K) (by rfl) T.b_len (by decide +kernel) (pa_cons (pv 0) pa_nil)) pe_int (nomark _)) (pe_one (pe_cmpR op_in_sign (pv 0) (pe_gs T.g_LETTERS) rfl)))))), ?_⟩
  refine ⟨_, rfl, v, d, rfl, hd, _, rfl, ?_⟩
  cases hd with
  | str z =>
    refine iteT ⟨_, rfl, _, z.length, rfl, ⟨nice_str hn, rfl⟩, rfl, _, rfl, ?_⟩
    refine if_int (fun h1 => ?_) (fun h1 => ?_)
    · obtain ⟨c, rfl⟩ := len1 (z := z) (by omega)
      exact ⟨_, rfl, c, lettersS, rfl, rfl, q⟩
    · rw [show isLet (.str z) = false from isLetS_no (by omega)] at q
      exact q
  | non => exact iteF q
  | bl b => exact iteF q
  | int i => exact iteF q
  | lst _ _ => exact iteF q
  | tup _ _ => exact iteF q
/-- measured(value, max_depth), below n deep -/
def spMeasured (K : PySem.W.Frag) (n : Nat) : Sp := fun vs H Q _ => ∃ (v : V) (d : PyData) (m : Int), vs = [v, .int m] ∧ Dp K H v d ∧ nice d = true ∧ m.toNat < n ∧ ∀ H', Same H H' → Q (.int (meas m.toNat d)) H'
theorem inv_op {z : Str} : inV (.str z) [.str ("&" : Str), .str ("|" : Str)] = isOp (.str z) := by
  show ((("&" : Str) == z) || ((("|" : Str) == z) || false)) = (decide (z = ("&" : Str)) || decide (z = ("|" : Str)))
  rw [Bool.or_false, Bool.beq_comm (a := ("&" : Str)), Bool.beq_comm (a := ("|" : Str)), Bool.beq_eq_decide_eq, Bool.beq_eq_decide_eq]
theorem flat_ints (ns : List Int) : (ns.map V.int).all flatV = true := by
  rw [List.all_eq_true]
  intro v hv
  obtain ⟨n, _, rfl⟩ := List.mem_map.mp hv
  rfl
theorem in_ints {i : Int} {ns : List Int} : inV (.int i) (ns.map V.int) = decide (i ∈ ns) := by
  unfold inV
  rw [List.any_map]
  induction ns with
  | nil => rfl
  | cons n ns ih =>
    rw [List.any_cons, ih]
    show ((n == i) || decide (i ∈ ns)) = decide (i ∈ n :: ns)
    by_cases h : i = n
    · subst h; simp
    · have : (n == i) = false := beq_eq_false_iff_ne.mpr (fun z => h z.symm)
      rw [this, Bool.false_or]
      simp [h]
theorem ok_measured_step {n : Nat} {f : Addr} {fd : FuncData} (F : FunD K "measured" "measured" (defArgs s_measured) (defBody s_measured) (defScope s_measured) [] [] f fd) (hm : mg "measured" = some (.ref f)) (T : Top K mg) (D_is_letter : Def P w K mg base "is_letter" 1 ["value"] (spIsLetter K))
    (D_measured : Def P w K mg base "measured" (n + 1) ["value", "max_depth"] (spMeasured K n)) : Def P w K mg base "measured" (n + 2) ["value", "max_depth"] (spMeasured K (n + 1)) := by
  refine def_mk F hm (F.bindsN fun _ _ _ _ _ _ us hl => match us, hl with | [_, _], _ => rfl) sc_measured (fun vs H Q E h => ?_) (fun cdv A outer s H vs Q E hr h => ?_)
  · obtain ⟨v, d, m, rfl, _⟩ := h
    rfl
  obtain ⟨v, d, m, rfl, hd, hn, hm, q⟩ := h
  refine ⟨_, (pss_cons (ps_if (pt_val (pe_def D_is_letter hr (by first | decide | omega) (pa_cons (pv 0) pa_nil)))
  (pss_one (ps_ret (pe_callTy call_int1 (by rfl) T.b_int (by decide +kernel) (pa_cons (pe_cmpR op_gt (pv 1) pe_int (nomark _)) pa_nil))))
  pss_nil)
  (pss_cons (ps_if (PW.pt (pw_or (pt_cmpR op_lt (pv 1) pe_int (nomark _)) (pw_or (pt_not (pt_val (pe_callB (call_isK K kb_tup) (by rfl) T.b_isinstance (by decide +kernel) (pa_cons (pv 0) (pa_cons (pe_bltn (v := .ty "tuple") (by rfl) T.b_tuple (by decide +kernel) rfl) pa_nil))))) (pw_or1 (pt_cmpR op_lt (pe_callB (call_lenK K) (by rfl) T.b_len (by decide +kernel) (pa_cons (pv 0) pa_nil)) pe_int (nomark _))))))
  (pss_one (ps_ret pe_int))
  pss_nil)
  (pss_cons (ps_if (PW.pt (pw_or (pt_not (pt_val (pe_callB (call_isK K kb_str) (by rfl) T.b_isinstance (by decide +kernel) (pa_cons (pe_ix (ix_tupK K) (pv 0) pe_int (fun _ _ => rfl)) (pa_cons (pe_bltn (v := .ty "str") (by rfl) T.b_str (by decide +kernel) rfl) pa_nil))))) (pw_or1 (pt_cmpR (op_notIn_seqK K) (pe_ix (ix_tupK K) (pv 0) pe_int (fun _ _ => rfl)) (pe_gT T.g_OPERATORS) (by rfl)))))
  (pss_one (ps_ret pe_int))
  pss_nil)
  (pss_cons (ps_setLc (i := 2) (own := [("part", 3)]) rfl sc_measured.nd rfl rfl (sw_true rfl rfl rfl (by kernel_rfl)) (pi_tupK K (pe_slice (sl_tupK K) (pv 0) (po_some pe_int) po_none)) (blkOk_by (by kernel_rfl)) (fun _ _ _ _ _ => (pg_name (i := 3) sc_measured.nd rfl (Or.inl rfl) (.inr rfl))) (fun _ _ _ _ _ => pts_nil) (fun _ _ _ _ _ => (pe_def D_measured hr (by first | decide | omega) (pa_cons (pv 3) (pa_cons (pe_op op_sub (pv 1) pe_int) pa_nil)))))
  (pss_one (ps_ret (pe_ifExp (pt_cmpR (op_in_seqK K) pe_int (pv 2) (by rfl)) pe_int (pe_callB (cr_sumK K rfl) (by rfl) T.b_sum (by decide +kernel) (pa_cons (pv 2) pa_nil))))))))), ?_⟩
  refine ⟨_, rfl, v, d, rfl, hd, hn, _, rfl, ?_⟩
  refine if_b (fun hl => ?_) (fun hl => ?_)
  · refine ⟨_, rfl, _, _, rfl, rfl, .inr ⟨_, rfl, ?_⟩⟩
    refine qi (q H (Same.refl H)) ?_
    rw [meas_let hl]
    by_cases h0 : 0 < m
    · rw [if_pos (by omega), if_pos (decide_eq_true h0)]
    · rw [if_neg (by omega), if_neg (by simpa using h0)]
  refine ⟨_, rfl, _, _, rfl, rfl, _, rfl, ?_⟩
  refine if_dec (fun h2 => ?_) (fun h2 => ?_)
  · exact (qi (q H (Same.refl H)) (meas_low hl (by omega)))
  obtain ⟨k, hk⟩ : ∃ k, m.toNat = k + 2 := ⟨m.toNat - 2, by omega⟩
  rw [hk] at q hm
  have no : measP (meas (k + 1)) d = 0 → Q (.int 0) H := fun e => qi (q H (Same.refl H)) (by rw [meas_up hl (by omega), e])
  refine ⟨_, rfl, v, d, rfl, hd, _, rfl, ?_⟩
  cases hd with
  | tup ht ha =>
    rename_i a xs ds
    refine ⟨_, rfl, _, xs.length, rfl, .inr ⟨xs, ht, rfl⟩, _, _, rfl, rfl, _, rfl, ?_⟩
    have hlen := da_len ha
    refine if_dec (fun h3 => ?_) (fun h3 => ?_)
    · refine no ?_
      match ds, hlen with
      | [], _ => rfl
      | [_], _ => rfl
      | [_, _], _ => rfl
      | _ :: _ :: _ :: _, e => simp at e; omega
    have h4 : 3 ≤ ds.length := by omega
    match ds, ha, h4 with
    | [], _, e => exact absurd e (by simp)
    | [_], _, e => exact absurd e (by simp)
    | [_, _], _, e => exact absurd e (by simp)
    | x :: y :: z :: r, .cons (v := vx) (vs := vr) hx hp, e =>
    refine ⟨_, rfl, a, _, _, vx, rfl, rfl, ht, at0, _, x, rfl, hx, _, rfl, ?_⟩
    have noOp : isOp x = false → Q (.int 0) H := fun e => no (by show (if isOp x = true then _ else _) = _; rw [if_neg (by rw [e]; decide)])
    refine if_nb (fun h5 => ?_) (fun h5 => ?_)
    · exact noOp (by cases x <;> first | rfl | cases h5)
    cases hx with
    | str zx =>
    refine ⟨_, rfl, a, _, _, _, rfl, rfl, ht, at0, _, _, rfl, .inr (T.t_OPERATORS H), rfl, rfl, _, rfl, ?_⟩
    refine if_nb (fun h6 => ?_) (fun h6 => ?_)
    · exact noOp (inv_op.symm.trans h6)
    refine ⟨_, rfl, _, rfl, a, _, rfl, ht, notWhole1, fun p hp0 => ⟨p, rfl, ⟨_, SqT.of upd_same⟩, fun D hD => ?_⟩⟩
    rw [cut1] at hD ⊢
    have e1 := same_new hp0 (.tup vr)
    refine lc_mapT (j := 3) (fun i u _ => ∃ d, (y :: z :: r)[i]? = some d ∧ u = .int (meas (k + 1) d)) (fun _ _ _ _ _ h => h) hD (SqT.of upd_same) ?_ (fun _ => rfl) ?_ ?_
    · have := nice_tl hn
      have := da_len hp
      exact le_line (by simp at *; omega)
    · intro i x H2 hx e2 Q' k'
      obtain ⟨d, hd1, hd2⟩ := da_get hp hx
      refine ⟨_, rfl, _, rfl, _, _, rfl, rfl, x, d, m - 1, rfl, up_d (e1.trans e2) hd2, nice_ti hn (List.mem_cons_of_mem _ (List.mem_of_getElem? hd1)), by omega, fun H' e3 => k' _ _ e3 ⟨d, hd1, ?_⟩⟩
      rw [show (m - 1).toNat = k + 1 by omega]
    · intro H2 ys e2 hD2 hl2 hy
      have hmap : ys = ((y :: z :: r).map (meas (k + 1))).map V.int := by
        rw [List.map_map]
        exact eq_map_of (hl2.trans (da_len hp)) fun i u hu => hy i u hu
      subst hmap
      refine ⟨_, rfl, D, _, rfl, .inl (SqL.of hD2), rfl, flat_ints _, _, rfl, ?_⟩
      have e3 := e1.trans e2
      have fin := q H2 e3
      rw [meas_up hl (by omega)] at fin
      have fin2 : Q (.int (if (0 : Int) ∈ ((y :: z :: r).map (meas (k + 1))) then 0 else ((y :: z :: r).map (meas (k + 1))).sum)) H2 := by
        refine qi fin ?_
        show (if isOp (.str zx) = true then _ else _) = _
        rw [if_pos (inv_op.symm.trans h6)]
      show (if (inV (.int 0) (((y :: z :: r).map (meas (k + 1))).map V.int)) = true then _ else _)
      rw [in_ints]
      refine if_dec (fun h7 => ?_) (fun h7 => ?_)
      · rw [if_pos h7] at fin2
        exact fin2
      · rw [if_neg h7] at fin2
        exact ⟨_, rfl, D, _, rfl, SqL.of hD2, fin2⟩
    | _ => cases h5
  | str z => exact no rfl
  | non => exact no rfl
  | bl b => exact no rfl
  | int i => exact no rfl
  | lst _ _ => exact no rfl
end
end FF
namespace FF
open PySem PySem.Spec PyProof.Rows L2
abbrev inB (m s : Int) : Bool := decide (1 ≤ m) && decide (m ≤ s)
def spIsTerm (K : PySem.W.Frag) : Sp := fun vs H Q _ => ∃ (v : V) (d : PyData) (md ms : Int), vs = [v, .int md, .int ms] ∧ Dp K H v d ∧ nice d = true ∧ md.toNat < 11 ∧ ∀ H', Same H H' → Q (.bl (inB (meas md.toNat d) ms)) H'
section
variable {P : Program} {w : World} {K : PySem.W.Frag} {mg : Str → Option Value} {base : Heap}
theorem fn_is_term {f : Addr} {fd : FuncData} (F : FunD K "is_term" "is_term" (defArgs s_is_term) (defBody s_is_term) (defScope s_is_term) [] [("max_depth", .int 5), ("max_size", .int 24)] f fd) (T : Top K mg)
    (D_measured : Def P w K mg base "measured" 12 ["value", "max_depth"] (spMeasured K 11)) : FnOk P w K mg base CX0 13 f fd ["value", "max_depth", "max_size"] (spIsTerm K) := by
  refine fn_mk F sc_is_term (fun vs H Q E h => ?_) (fun cdv A outer s H vs Q E hr h => ?_)
  · obtain ⟨v, d, md, ms, rfl, _⟩ := h
    rfl
  obtain ⟨v, d, md, ms, rfl, hd, hn, h10, q⟩ := h
  refine ⟨_, (pss_one (ps_ret (pe_chain op_le op_le pe_int (pe_def D_measured hr (by first | decide | omega) (pa_cons (pv 0) (pa_cons (pv 1) pa_nil))) (pv 2)))), ?_⟩
  refine ⟨_, rfl, _, rfl, v, d, md, rfl, hd, hn, h10, fun H1 e => ?_⟩
  refine ⟨_, _, rfl, rfl, _, rfl, ?_⟩
  have q1 := q H1 e
  refine if_dec (fun h1 => ?_) (fun h1 => ?_)
  · refine ⟨_, rfl, _, _, rfl, rfl, qb q1 ?_⟩
    show (decide (1 ≤ meas md.toNat d) && decide (meas md.toNat d ≤ ms)) = decide (meas md.toNat d ≤ ms)
    rw [decide_eq_true (show (1 : Int) ≤ meas md.toNat d from h1), Bool.true_and]
  · refine qb q1 ?_
    show (decide (1 ≤ meas md.toNat d) && decide (meas md.toNat d ≤ ms)) = false
    rw [decide_eq_false (show ¬ (1 : Int) ≤ meas md.toNat d from h1), Bool.false_and]
section
variable {f : Addr} {fd : FuncData} (F : FunD K "is_term" "is_term" (defArgs s_is_term) (defBody s_is_term) (defScope s_is_term) [] [("max_depth", .int 5), ("max_size", .int 24)] f fd)
theorem bind_a (F : FunD K "is_term" "is_term" (defArgs s_is_term) (defBody s_is_term) (defScope s_is_term) [] [("max_depth", .int 5), ("max_size", .int 24)] f fd) : ∃ ds, Vals [.int 5, .int 24] ds ∧ Binds K fd ["value", "max_depth", "max_size"] ds :=
  F.binds0 1 (by simp) rfl fun D doc pm an cdv ct us ks hu hk => match us, ks, hu, hk with
    | [_], [_, _], _, _ => ⟨_, _, _, _, _, _, rfl, rfl, _, _, _, _, _, _, rfl, rfl, rfl⟩
end
end
end FF
namespace FF
open PySem PySem.Spec PyProof.Rows L2
def spMeasure (K : PySem.W.Frag) (n : Nat) : Sp := fun vs H Q _ => ∃ (v : V) (d : PyData) (m : Int), vs = [v, .int m] ∧ Dp K H v d ∧ Nice 60 d ∧ m.toNat < n ∧ ∀ H', Same H H' → Q (.int (meas m.toNat d)) H'
section
variable {P : Program} {w : World} {K : PySem.W.Frag} {mg : Str → Option Value} {base : Heap}
theorem inv_op2 {z : PyData} : (([.str ("&" : Str), .str ("|" : Str)] : List PyData).any fun y => PyData.eqv y z) = isOp z := by
  cases z with
  | str z =>
    show (PyData.eqv (.str ("&" : Str)) (.str z) || (PyData.eqv (.str ("|" : Str)) (.str z) || false)) = (decide (z = ("&" : Str)) || decide (z = ("|" : Str)))
    rw [PyData.eqv, PyData.eqv, Bool.or_false, Bool.beq_comm (a := ("&" : Str)), Bool.beq_comm (a := ("|" : Str)), Bool.beq_eq_decide_eq, Bool.beq_eq_decide_eq]
  | _ => rfl
theorem ok_law_measure_step {n : Nat} {f : Addr} {fd : FuncData} (F : FunD K "_law_measure" "_law_measure" (defArgs s_law_measure) (defBody s_law_measure) (defScope s_law_measure) [] [] f fd) (hm : mg "_law_measure" = some (.ref f)) (T : Top K mg)
    (D_law_measure : Def P w K mg base "_law_measure" n ["_law_word", "_law_deep"] (spMeasure K n)) : Def P w K mg base "_law_measure" (n + 1) ["_law_word", "_law_deep"] (spMeasure K (n + 1)) := by
  refine def_mk F hm (F.bindsN fun _ _ _ _ _ _ us hl => match us, hl with | [_, _], _ => rfl) sc_law_measure (fun vs H Q E h => ?_) (fun cdv A outer s H vs Q E hr h => ?_)
  · obtain ⟨v, d, m, rfl, _⟩ := h
    rfl
  obtain ⟨v, d, m, rfl, hd, hn60, hm, q⟩ := h
  have hn := hn60.ok
  refine ⟨_, (pss_cons (ps_if (pt_val (pe_callB (call_isK K kb_str) (by rfl) T.b_isinstance (by decide +kernel) (pa_cons (pv 0) (pa_cons (pe_bltn (v := .ty "str") (by rfl) T.b_str (by decide +kernel) rfl) pa_nil))))
  (pss_one (ps_ret (pe_callTy call_int1 (by rfl) T.b_int (by decide +kernel) (pa_cons (pe_and (pe_cmpR op_eq (pe_callB (call_lenK K) (by rfl) T.b_len (by decide +kernel) (pa_cons (pv 0) pa_nil)) pe_int (nomark _)) (pe_and (pe_cmpR op_in_sign (pv 0) pe_str rfl) (pe_one (pe_cmpR op_gt (pv 1) pe_int (nomark _))))) pa_nil))))
  pss_nil)
  (pss_cons (ps_if (PW.pt (pw_or (pt_cmpR op_lt (pv 1) pe_int (nomark _)) (pw_or (pt_not (pt_val (pe_callB (call_isK K kb_tup) (by rfl) T.b_isinstance (by decide +kernel) (pa_cons (pv 0) (pa_cons (pe_bltn (v := .ty "tuple") (by rfl) T.b_tuple (by decide +kernel) rfl) pa_nil))))) (pw_or (pt_cmpR op_lt (pe_callB (call_lenK K) (by rfl) T.b_len (by decide +kernel) (pa_cons (pv 0) pa_nil)) pe_int (nomark _)) (pw_or1 (pt_cmpR (op_notInK K (r65 hr)) (pe_ix (ix_tupK K) (pv 0) pe_int (fun _ _ => rfl)) (pe_tup (pa_cons pe_str (pa_cons pe_str pa_nil))) (by rfl)))))))
  (pss_one (ps_ret pe_int))
  pss_nil)
  (pss_cons (ps_setLc (i := 2) (own := [("_law_one", 3)]) rfl sc_law_measure.nd rfl rfl (sw_true rfl rfl rfl (by kernel_rfl)) (pi_tupK K (pe_slice (sl_tupK K) (pv 0) (po_some pe_int) po_none)) (blkOk_by (by kernel_rfl)) (fun _ _ _ _ _ => (pg_name (i := 3) sc_law_measure.nd rfl (Or.inl rfl) (.inr rfl))) (fun _ _ _ _ _ => pts_nil) (fun _ _ _ _ _ => (pe_def D_law_measure hr (by first | decide | omega) (pa_cons (pv 3) (pa_cons (pe_op op_sub (pv 1) pe_int) pa_nil)))))
  (pss_one (ps_ret (pe_ifExp (pt_cmpR (op_in_seqK K) pe_int (pv 2) (by rfl)) pe_int (pe_callB (cr_sumK K rfl) (by rfl) T.b_sum (by decide +kernel) (pa_cons (pv 2) pa_nil)))))))), ?_⟩
  refine ⟨_, rfl, v, d, rfl, hd, _, rfl, ?_⟩
  refine if_b (fun hl => ?_) (fun hns => ?_)
  · cases hd with
    | str z =>
      have fin : ∀ b : Bool, (b = true → isLetS z = true ∧ 0 < m) → (b = false → isLetS z = false ∨ ¬ 0 < m) → Q (.int (if b = true then 1 else 0)) H := fun b h1 h2 => by
        refine qi (q H (Same.refl H)) ?_
        cases b with
        | true =>
          obtain ⟨h3, h4⟩ := h1 rfl
          rw [meas_let (d := .str z) h3, if_pos (by omega)] <;> rfl
        | false =>
          rcases h2 rfl with h3 | h3
          · cases hk : m.toNat with
            | zero => rfl
            | succ k =>
              cases k with
              | zero => exact meas_low (d := .str z) h3 (by omega)
              | succ k => rw [meas_up (d := .str z) h3 (by omega)] <;> rfl
          · rw [show m.toNat = 0 by omega] <;> rfl
      refine ⟨_, rfl, _, z.length, rfl, ⟨nice_str hn, rfl⟩, rfl, _, rfl, ?_⟩
      refine if_int (fun h1 => ?_) (fun h1 => ?_)
      · obtain ⟨c, rfl⟩ := len1 (z := z) (by omega)
        refine ⟨_, rfl, c, lettersS, rfl, rfl, _, rfl, ?_⟩
        refine if_dec (fun h2 => ?_) (fun h2 => ?_)
        · refine ⟨_, rfl, _, _, rfl, rfl, .inr ⟨_, rfl, ?_⟩⟩
          exact fin _ (fun h => ⟨decide_eq_true h2, of_decide_eq_true h⟩) (fun h => .inr (of_decide_eq_false h))
        · exact .inr ⟨_, rfl, fin false (fun h => by cases h) (fun _ => .inl (decide_eq_false h2))⟩
      · exact .inr ⟨_, rfl, fin false (fun h => by cases h) (fun _ => .inl (isLetS_no (by omega)))⟩
    | _ => cases hl
  have hl : isLet d = false := by cases d <;> first | rfl | cases hns
  refine ⟨_, rfl, _, _, rfl, rfl, _, rfl, ?_⟩
  refine if_dec (fun h2 => ?_) (fun h2 => ?_)
  · exact qi (q H (Same.refl H)) (meas_low hl (by omega))
  obtain ⟨k, hk⟩ : ∃ k, m.toNat = k + 2 := ⟨m.toNat - 2, by omega⟩
  rw [hk] at q hm
  have no : measP (meas (k + 1)) d = 0 → ∀ H', Same H H' → Q (.int 0) H' := fun e H' e' => qi (q H' e') (by rw [meas_up hl (by omega), e])
  refine ⟨_, rfl, v, d, rfl, hd, _, rfl, ?_⟩
  cases hd with
  | tup ht ha =>
    rename_i a xs ds
    refine ⟨_, rfl, _, xs.length, rfl, .inr ⟨xs, ht, rfl⟩, _, _, rfl, rfl, _, rfl, ?_⟩
    have hlen := da_len ha
    refine if_dec (fun h3 => ?_) (fun h3 => ?_)
    · refine no ?_ H (Same.refl H)
      match ds, hlen with
      | [], _ => rfl
      | [_], _ => rfl
      | [_, _], _ => rfl
      | _ :: _ :: _ :: _, e => simp at e; omega
    have h4 : 3 ≤ ds.length := by omega
    match ds, ha, h4 with
    | [], _, e => exact absurd e (by simp)
    | [_], _, e => exact absurd e (by simp)
    | [_, _], _, e => exact absurd e (by simp)
    | x :: y :: z :: r, .cons (v := vx) (vs := vr) hx hp, e =>
    refine ⟨_, rfl, a, _, _, vx, rfl, rfl, ht, at0, (by show 2 ≤ sizeLine; decide), fun p5 hp5 => ?_⟩
    have e5 := same_new hp5 (.tup [.str ("&" : Str), .str ("|" : Str)])
    have noOp : isOp x = false → ∀ H', Same H H' → Q (.int 0) H' := fun e => no (by show (if isOp x = true then _ else _) = _; rw [if_neg (by rw [e]; decide)])
    refine ⟨x, [.str ("&" : Str), .str ("|" : Str)], up_d e5 hx, .inr (.tup (SqT.of upd_same) (.cons (.str _) (.cons (.str _) .nil))), (hn60.itemT (List.mem_cons_self ..)).shaped, by decide +kernel, _, rfl, ?_⟩
    refine if_nb (fun h6 => ?_) (fun h6 => ?_)
    · exact noOp (inv_op2.symm.trans h6) _ e5
    refine ⟨_, rfl, _, rfl, a, _, rfl, up_t e5 ht, notWhole1, fun p hp0 => ⟨p, rfl, ⟨_, SqT.of upd_same⟩, fun D hD => ?_⟩⟩
    rw [cut1] at hD ⊢
    have e1 := e5.trans (same_new hp0 (.tup vr))
    refine lc_mapT (j := 3) (fun i u _ => ∃ d, (y :: z :: r)[i]? = some d ∧ u = .int (meas (k + 1) d)) (fun _ _ _ _ _ h => h) hD (SqT.of upd_same) ?_ (fun _ => rfl) ?_ ?_
    · have := nice_tl hn
      have := da_len hp
      exact le_line (by simp at *; omega)
    · intro i x H2 hx e2 Q' k'
      obtain ⟨d, hd1, hd2⟩ := da_get hp hx
      refine ⟨_, rfl, _, rfl, _, _, rfl, rfl, x, d, m - 1, rfl, up_d (e1.trans e2) hd2, hn60.itemT (List.mem_cons_of_mem _ (List.mem_of_getElem? hd1)), by omega, fun H' e3 => k' _ _ e3 ⟨d, hd1, ?_⟩⟩
      rw [show (m - 1).toNat = k + 1 by omega]
    · intro H2 ys e2 hD2 hl2 hy
      have hmap : ys = ((y :: z :: r).map (meas (k + 1))).map V.int := by
        rw [List.map_map]
        exact eq_map_of (hl2.trans (da_len hp)) fun i u hu => hy i u hu
      subst hmap
      refine ⟨_, rfl, D, _, rfl, .inl (SqL.of hD2), rfl, flat_ints _, _, rfl, ?_⟩
      have e3 := e1.trans e2
      have fin := q H2 e3
      rw [meas_up hl (by omega)] at fin
      have fin2 : Q (.int (if (0 : Int) ∈ ((y :: z :: r).map (meas (k + 1))) then 0 else ((y :: z :: r).map (meas (k + 1))).sum)) H2 := by
        refine qi fin ?_
        show (if isOp x = true then _ else _) = _
        rw [if_pos (inv_op2.symm.trans h6)]
      show (if (inV (.int 0) (((y :: z :: r).map (meas (k + 1))).map V.int)) = true then _ else _)
      rw [in_ints]
      refine if_dec (fun h7 => ?_) (fun h7 => ?_)
      · rw [if_pos h7] at fin2
        exact fin2
      · rw [if_neg h7] at fin2
        exact ⟨_, rfl, D, _, rfl, SqL.of hD2, fin2⟩
  | str z => exact no rfl H (Same.refl H)
  | non => exact no rfl H (Same.refl H)
  | bl b => exact no rfl H (Same.refl H)
  | int i => exact no rfl H (Same.refl H)
  | lst _ _ => exact no rfl H (Same.refl H)
end
end FF
namespace FF
open PySem PySem.Spec PyProof.Rows L2
def spFits (K : PySem.W.Frag) : Sp := fun vs H Q _ => ∃ (v : V) (d : PyData), vs = [v] ∧ Dp K H v d ∧ Nice 60 d ∧ ∀ H', Same H H' → Q (.bl (decide (1 ≤ meas 5 d) && decide (meas 5 d ≤ 24))) H'
section
variable {P : Program} {w : World} {K : PySem.W.Frag} {mg : Str → Option Value} {base : Heap}
end
end FF
namespace FF
open PySem PySem.Spec PyProof.Rows L2
section
variable {P : Program} {w : World} {K : PySem.W.Frag} {mg : Str → Option Value} {base : Heap}
theorem ok_fits {f : Addr} {fd : FuncData} (F : FunD K "_law_fits" "_law_fits" (defArgs s_law_fits) (defBody s_law_fits) (defScope s_law_fits) [] [] f fd) (hm : mg "_law_fits" = some (.ref f)) (T : Top K mg)
    (D_law_measure : Def P w K mg base "_law_measure" 12 ["_law_word", "_law_deep"] (spMeasure K 12)) : Def P w K mg base "_law_fits" 13 ["_law_word"] (spFits K) := by
  refine def_mk F hm (F.bindsN fun _ _ _ _ _ _ us hl => match us, hl with | [_], _ => rfl) sc_law_fits (fun vs H Q E h => ?_) (fun cdv A outer s H vs Q E hr h => ?_)
  · obtain ⟨v, d, rfl, _⟩ := h
    rfl
  obtain ⟨v, d, rfl, hd, hn, q⟩ := h
  refine ⟨_, (pss_one (ps_ret (pe_chain op_le op_le pe_int (pe_def D_law_measure hr (by first | decide | omega) (pa_cons (pv 0) (pa_cons pe_int pa_nil))) pe_int))), ?_⟩
  refine ⟨_, rfl, v, d, 5, rfl, hd, hn, by omega, fun H1 e => ?_⟩
  refine ⟨_, _, rfl, rfl, _, rfl, ?_⟩
  have q1 := q H1 e
  refine if_dec (fun h1 => ?_) (fun h1 => ?_)
  · rw [decide_eq_true (show (1 : Int) ≤ meas 5 d from h1), Bool.true_and] at q1
    exact ⟨_, _, rfl, rfl, q1⟩
  · rw [decide_eq_false (show ¬ (1 : Int) ≤ meas 5 d from h1), Bool.false_and] at q1
    exact q1
end
end FF
namespace FF
open PySem PySem.Spec PyProof.Rows L2
def partT (f : PyData → Str) : PyData → Str
  | .str z => z
  | p => ("(" : Str) ++ f p ++ ")"
/-- the text of a term, at most n deep -/
def textD : Nat → PyData → Str
  | 0, _ => ""
  | n + 1, d => match d with
    | .str z => z
    | .tuple (.str o :: ps) => Txt.join ((" " : Str) ++ o ++ " ") (ps.map (partT (textD n)))
    | _ => ""
def spText (K : PySem.W.Frag) (n : Nat) : Sp := fun vs H Q _ => ∃ (v : V) (d : PyData) (m : Nat), vs = [v] ∧ Tp K H v d ∧ Drawn m d ∧ m < n ∧ n ≤ 7 ∧ ∀ H', Same H H' → Q (.str (textD (m + 1) d)) H'
theorem drawn_shape {m : Nat} {d : PyData} (h : Drawn m d) : (∃ z, d = .str z ∧ isLet d = true) ∨ ∃ o ps k, d = .tuple (.str o :: ps) ∧ isOp (.str o) = true ∧ 2 ≤ ps.length ∧ ps.length ≤ 8 ∧ m = k + 1 ∧ ∀ p ∈ ps, Drawn k p := by
  have lt : isLet d = true → ∃ z, d = .str z ∧ isLet d = true := fun hl => by
    cases d with
    | str z => exact ⟨z, rfl, hl⟩
    | _ => cases hl
  match m, h with
  | 0, h => exact .inl (lt h)
  | k + 1, .inl h => exact .inl (lt h)
  | k + 1, .inr ⟨o, ps, e, ho, h2, h4, hp⟩ =>
    cases o with
    | str z => exact .inr ⟨z, ps, k, e, ho, h2, h4, rfl, hp⟩
    | _ => cases ho
theorem tpa_get {K : PySem.W.Frag} {H : Hp} : ∀ {vs : List V} {ds : List PyData} {i : Nat} {v : V}, TpAll K H vs ds → vs[i]? = some v → ∃ d, ds[i]? = some d ∧ Tp K H v d
  | _, _, 0, _, .cons h _, e => by cases e; exact ⟨_, rfl, h⟩
  | _, _, i + 1, _, .cons _ t, e => tpa_get (i := i) t e
theorem sum_le {f : PyData → Str} {B : Nat} : ∀ {l : List PyData}, (∀ p ∈ l, (f p).length ≤ B) → ((l.map f).map (·.length)).sum ≤ l.length * B
  | [], _ => Nat.zero_le _
  | x :: r, h => by
    have h1 := h x List.mem_cons_self
    have h2 := sum_le (l := r) fun p hp => h p (List.mem_cons_of_mem _ hp)
    rw [List.map_cons, List.map_cons, List.sum_cons, List.length_cons, Nat.succ_mul]
    omega
theorem sep_len {o : Str} (ho : isOp (.str o) = true) : ((" " : Str) ++ o ++ " ").length = 3 := by
  rcases op_shape ho with h | h
  · rw [PyData.str.inj h]
    decide +kernel
  · rw [PyData.str.inj h]
    decide +kernel
theorem app_len (a b : Str) : (a ++ b).length = a.length + b.length := by
  show (a.cps ++ b.cps).size = _
  rw [Array.size_append] <;> rfl
theorem text_len : ∀ {n : Nat} {d : PyData}, Drawn n d → (textD (n + 1) d).length + 7 ≤ 8 * 8 ^ n := by
  have lt : ∀ {z : Str}, isLet (.str z) = true → z.length = 1 := fun {z} h => by
    obtain ⟨c, e, _⟩ := let_shape h
    rw [PyData.str.inj e] <;> rfl
  intro n
  induction n with
  | zero =>
    intro d h
    rcases drawn_shape h with ⟨z, rfl, hz⟩ | ⟨_, _, _, _, _, _, _, e, _⟩
    · show z.length + 7 ≤ _
      rw [lt hz]
      decide
    · cases e
  | succ n ih =>
    intro d h
    have p1 : 1 ≤ 8 ^ n := Nat.one_le_pow _ _ (by decide)
    rcases drawn_shape h with ⟨z, rfl, hz⟩ | ⟨o, ps, k, rfl, ho, l2, l4, e, hp⟩
    · show z.length + 7 ≤ _
      rw [lt hz, Nat.pow_succ]
      omega
    · cases e
      have hs : ∀ p ∈ ps, (partT (textD (n + 1)) p).length ≤ 8 * 8 ^ n - 5 := fun p hpp => by
        have h1 := ih (hp p hpp)
        rcases drawn_shape (hp p hpp) with ⟨z, rfl, hz⟩ | ⟨o2, ps2, _, rfl, _⟩
        · show z.length ≤ _
          rw [lt hz]
          omega
        · show (("(" : Str) ++ textD (n + 1) _ ++ ")").length ≤ _
          rw [app_len, app_len]
          have e1 : ("(" : Str).length = 1 := by decide +kernel
          have e2 : (")" : Str).length = 1 := by decide +kernel
          omega
      have hj := StrLaws.join_length_le ((" " : Str) ++ o ++ " ") (ps.map (partT (textD (n + 1))))
      have hsum := sum_le hs
      rw [sep_len ho, List.length_map] at hj
      show (Txt.join ((" " : Str) ++ o ++ " ") (ps.map (partT (textD (n + 1))))).length + 7 ≤ _
      have hj2 : (Txt.join ((" " : Str) ++ o ++ " ") (ps.map (partT (textD (n + 1))))).length ≤ ((ps.map (partT (textD (n + 1)))).map (·.length)).sum + ps.length * 3 := by
        rw [TL.join_eq]
        exact hj
      have hm : ps.length * (8 * 8 ^ n - 5) ≤ 8 * (8 * 8 ^ n - 5) := Nat.mul_le_mul_right _ l4
      rw [Nat.pow_succ]
      omega
section
variable {P : Program} {w : World} {K : PySem.W.Frag} {mg : Str → Option Value} {base : Heap}
theorem ok_text_of_step {n : Nat} {f : Addr} {fd : FuncData} (F : FunD K "text_of" "text_of" (defArgs s_text_of) (defBody s_text_of) (defScope s_text_of) [] [] f fd) (hm : mg "text_of" = some (.ref f)) (T : Top K mg)
    (D_text_of : Def P w K mg base "text_of" n ["term"] (spText K n)) : Def P w K mg base "text_of" (n + 1) ["term"] (spText K (n + 1)) := by
  refine def_mk F hm (F.bindsN fun _ _ _ _ _ _ us hl => match us, hl with | [_], _ => rfl) sc_text_of (fun vs H Q E h => ?_) (fun cdv A outer s H vs Q E hr h => ?_)
  · obtain ⟨v, d, m, rfl, _⟩ := h
    rfl
  obtain ⟨v, d, m, rfl, hd, hdr, hmn, hn10, q⟩ := h
  refine ⟨_, (pss_cons (ps_if (pt_val (pe_callB (call_isK K kb_str) (by rfl) T.b_isinstance (by decide +kernel) (pa_cons (pv 0) (pa_cons (pe_bltn (v := .ty "str") (by rfl) T.b_str (by decide +kernel) rfl) pa_nil))))
  (pss_one (ps_ret (pv 0)))
  pss_nil)
  (pss_cons (ps_asg (pv 0) (pg_star2 rfl (pgs_cons (pg_name (i := 1) sc_text_of.nd rfl (Or.inl rfl) (.inl rfl)) (pgs_cons (pg_name (i := 2) sc_text_of.nd rfl (Or.inl rfl) (.inl rfl)) pgs_nil))))
  (pss_cons (ps_setLc (i := 3) (own := [("part", 4)]) rfl sc_text_of.nd rfl rfl (sw_true rfl rfl rfl (by kernel_rfl)) (pi_listK K (pv 2)) (blkOk_by (by kernel_rfl)) (fun _ _ _ _ _ => (pg_name (i := 4) sc_text_of.nd rfl (Or.inl rfl) (.inr rfl))) (fun _ _ _ _ _ => pts_nil) (fun _ _ _ _ _ => (pe_ifExp (pt_val (pe_callB (call_isK K kb_str) (by rfl) T.b_isinstance (by decide +kernel) (pa_cons (pv 4) (pa_cons (pe_bltn (v := .ty "str") (by rfl) T.b_str (by decide +kernel) rfl) pa_nil)))) (pv 4) (pe_joined (PJ.cons pe_str (PJ.cons (pe_fmt (pe_def D_text_of hr (by first | decide | omega) (pa_cons (pv 4) pa_nil))) (PJ.cons pe_str PJ.nil)))))))
  (pss_one (ps_ret (pe_joinK K (pe_joined (PJ.cons pe_str (PJ.cons (pe_fmt (pv 1)) (PJ.cons pe_str PJ.nil)))) (pv 3))))))), ?_⟩
  refine ⟨_, rfl, v, d, rfl, hd.dp, _, rfl, ?_⟩
  rcases drawn_shape hdr with ⟨z, rfl, _⟩ | ⟨o, ps, k, rfl, ho, l2, l4, rfl, hps⟩
  · cases hd with
    | str z => exact iteT ⟨_, rfl, q H (Same.refl H)⟩
  cases hd with
  | tup ht ha =>
  cases ha with
  | @cons vo vr _ _ hvo hvr =>
  rename_i a
  cases hvo with
  | str o =>
  refine iteF ?_
  refine ⟨_, rfl, a, .str o, vr, rfl, ht.sqT, fun p hp => ?_⟩
  have e1 := same_new hp (.lst vr)
  have lr := hvr.len
  have p4 : 8 ^ k ≤ 8 ^ 5 := Nat.pow_le_pow_right (by decide) (by omega)
  have hB : ∀ {n : Nat}, n ≤ 8 * 8 ^ 5 + 100 → n ≤ sizeLine := fun h => Nat.le_trans h (by decide +kernel)
  refine ⟨.str o, [.ref p], rfl, .ref p, [], rfl, rfl, ?_⟩
  refine ⟨_, rfl, p, rfl, ⟨_, SqL.of upd_same⟩, fun D hD => ?_⟩
  refine lc_mapL (j := 4) (fun i u _ => ∃ d, ps[i]? = some d ∧ u = .str (partT (textD (k + 1)) d)) (fun _ _ _ _ _ h => h) hD (SqL.of upd_same) (le_line (by omega)) (fun _ => rfl) ?_ ?_
  · intro i x H2 hx e2 Q' k'
    obtain ⟨d, hd1, hd2⟩ := tpa_get hvr hx
    have hd3 := (hd2.up (Same.T e1)).up (Same.T e2)
    have hdr2 := hps d (List.mem_of_getElem? hd1)
    have tl := text_len hdr2
    refine ⟨_, rfl, x, d, rfl, hd3.dp, _, rfl, ?_⟩
    rcases drawn_shape hdr2 with ⟨z, rfl, _⟩ | ⟨o2, ps2, k2, rfl, _⟩
    · cases hd3 with
      | str z => exact iteT ⟨_, rfl, k' _ _ (Same.refl _) ⟨_, hd1, rfl⟩⟩
    · refine iteF ?_
      refine ⟨"(", rfl, by decide +kernel, _, rfl, x, _, k, rfl, hd3, hdr2, by omega, by omega, fun H3 e3 => .inl ⟨_, rfl, hB (by omega), _, rfl, ?_, ")", rfl, ?_, k' _ _ e3 ⟨_, hd1, ?_⟩⟩⟩
      · rw [app_len]
        have h1 : (Str.empty ++ ("(" : Str)).length = 1 := by decide +kernel
        exact hB (by omega)
      · rw [app_len, app_len]
        have h1 : (Str.empty ++ ("(" : Str)).length = 1 := by decide +kernel
        have h2 : (")" : Str).length = 1 := by decide +kernel
        exact hB (by omega)
      · rfl
  intro H2 ys e2 hD2 hl2 hy
  have hmap : ys = (ps.map (partT (textD (k + 1)))).map V.str := by
    rw [List.map_map]
    exact eq_map_of (hl2.trans lr) fun i u hu => hy i u hu
  subst hmap
  have q2 := q H2 (e1.trans e2)
  have ev : textD (k + 1 + 1) (.tuple (.str o :: ps)) = Txt.join ((" " : Str) ++ o ++ " ") (ps.map (partT (textD (k + 1)))) := rfl
  rw [ev] at q2
  have sl := sep_len ho
  have hs0 : Str.empty ++ (" " : Str) = (" " : Str) := by decide +kernel
  have lo : o.length = 1 := by
    rcases op_shape ho with h | h
    · rw [PyData.str.inj h]
      decide +kernel
    · rw [PyData.str.inj h]
      decide +kernel
  have l1 : (" " : Str).length = 1 := by decide +kernel
  refine ⟨" ", rfl, by decide +kernel, _, rfl, .inl ⟨o, rfl, hB (by omega), o, rfl, ?_, " ", rfl, ?_, ⟨_, rfl⟩, _, rfl, _, D, ps.map (partT (textD (k + 1))), rfl, rfl, .inl (SqL.of hD2), ?_, ?_⟩⟩
  · rw [hs0, app_len]
    exact hB (by omega)
  · rw [hs0, sl]
    exact hB (by omega)
  · rw [hs0, sl, List.length_map]
    have hs : ∀ p ∈ ps, (partT (textD (k + 1)) p).length ≤ 8 * 8 ^ k + 2 := fun p hpp => by
      have h1 := text_len (hps p hpp)
      rcases drawn_shape (hps p hpp) with ⟨z, rfl, hz⟩ | ⟨o2, ps2, _, rfl, _⟩
      · have h2 : textD (k + 1) (.str z) = z := rfl
        rw [h2] at h1
        show z.length ≤ _
        omega
      · show (("(" : Str) ++ textD (k + 1) _ ++ ")").length ≤ _
        rw [app_len, app_len]
        have e1 : ("(" : Str).length = 1 := by decide +kernel
        have e2 : (")" : Str).length = 1 := by decide +kernel
        omega
    have hsum := sum_le hs
    have hm : ps.length * (8 * 8 ^ k + 2) ≤ 8 * (8 * 8 ^ k + 2) := Nat.mul_le_mul_right _ l4
    omega
  · rw [hs0]
    exact q2
end
end FF
namespace FF
open PySem PySem.Spec PyProof.Rows L2
section
variable {P : Program} {w : World} {K : PySem.W.Frag} {mg : Str → Option Value} {base : Heap}
theorem ok_law_text_step {n : Nat} {f : Addr} {fd : FuncData} (F : FunD K "_law_text" "_law_text" (defArgs s_law_text) (defBody s_law_text) (defScope s_law_text) [] [] f fd) (hm : mg "_law_text" = some (.ref f)) (T : Top K mg)
    (D_law_text : Def P w K mg base "_law_text" n ["_law_word"] (spText K n)) : Def P w K mg base "_law_text" (n + 1) ["_law_word"] (spText K (n + 1)) := by
  refine def_mk F hm (F.bindsN fun _ _ _ _ _ _ us hl => match us, hl with | [_], _ => rfl) sc_law_text (fun vs H Q E h => ?_) (fun cdv A outer s H vs Q E hr h => ?_)
  · obtain ⟨v, d, m, rfl, _⟩ := h
    rfl
  obtain ⟨v, d, m, rfl, hd, hdr, hmn, hn10, q⟩ := h
  refine ⟨_, (pss_cons (ps_if (pt_val (pe_callB (call_isK K kb_str) (by rfl) T.b_isinstance (by decide +kernel) (pa_cons (pv 0) (pa_cons (pe_bltn (v := .ty "str") (by rfl) T.b_str (by decide +kernel) rfl) pa_nil))))
  (pss_one (ps_ret (pv 0)))
  pss_nil)
  (pss_cons (ps_setLc (i := 1) (own := [("_law_one", 2)]) rfl sc_law_text.nd rfl rfl (sw_true rfl rfl rfl (by kernel_rfl)) (pi_tupK K (pe_slice (sl_tupK K) (pv 0) (po_some pe_int) po_none)) (blkOk_by (by kernel_rfl)) (fun _ _ _ _ _ => (pg_name (i := 2) sc_law_text.nd rfl (Or.inl rfl) (.inr rfl))) (fun _ _ _ _ _ => pts_nil) (fun _ _ _ _ _ => (pe_ifExp (pt_val (pe_callB (call_isK K kb_str) (by rfl) T.b_isinstance (by decide +kernel) (pa_cons (pv 2) (pa_cons (pe_bltn (v := .ty "str") (by rfl) T.b_str (by decide +kernel) rfl) pa_nil)))) (pv 2) (pe_op op_add_str (pe_op op_add_str pe_str (pe_def D_law_text hr (by first | decide | omega) (pa_cons (pv 2) pa_nil))) pe_str))))
  (pss_one (ps_ret (pe_joinK K (pe_op op_add_str (pe_op op_add_str pe_str (pe_ix (ix_tupK K) (pv 0) pe_int (fun _ _ => rfl))) pe_str) (pv 1)))))), ?_⟩
  refine ⟨_, rfl, v, d, rfl, hd.dp, _, rfl, ?_⟩
  rcases drawn_shape hdr with ⟨z, rfl, _⟩ | ⟨o, ps, k, rfl, ho, l2, l4, rfl, hps⟩
  · cases hd with
    | str z => exact iteT ⟨_, rfl, q H (Same.refl H)⟩
  cases hd with
  | tup ht ha =>
  cases ha with
  | @cons vo vr _ _ hvo hvr =>
  rename_i a
  cases hvo with
  | str o =>
  refine iteF ?_
  have lr := hvr.len
  have p4 : 8 ^ k ≤ 8 ^ 5 := Nat.pow_le_pow_right (by decide) (by omega)
  have hB : ∀ {n : Nat}, n ≤ 8 * 8 ^ 5 + 100 → n ≤ sizeLine := fun h => Nat.le_trans h (by decide +kernel)
  refine ⟨_, rfl, _, rfl, a, _, rfl, ht.sqT, notWhole1, fun p hp0 => ⟨p, rfl, ⟨_, SqT.of upd_same⟩, fun D hD => ?_⟩⟩
  rw [cut1] at hD ⊢
  have e1 := same_new hp0 (.tup vr)
  refine lc_mapT (j := 2) (fun i u _ => ∃ d, ps[i]? = some d ∧ u = .str (partT (textD (k + 1)) d)) (fun _ _ _ _ _ h => h) hD (SqT.of upd_same) (le_line (by omega)) (fun _ => rfl) ?_ ?_
  · intro i x H2 hx e2 Q' k'
    obtain ⟨d, hd1, hd2⟩ := tpa_get hvr hx
    have hd3 := (hd2.up (Same.T e1)).up (Same.T e2)
    have hdr2 := hps d (List.mem_of_getElem? hd1)
    have tl := text_len hdr2
    refine ⟨_, rfl, x, d, rfl, hd3.dp, _, rfl, ?_⟩
    rcases drawn_shape hdr2 with ⟨z, rfl, _⟩ | ⟨o2, ps2, k2, rfl, _⟩
    · cases hd3 with
      | str z => exact iteT ⟨_, rfl, k' _ _ (Same.refl _) ⟨_, hd1, rfl⟩⟩
    · refine iteF ?_
      refine ⟨_, rfl, x, _, k, rfl, hd3, hdr2, by omega, by omega, fun H3 e3 => ⟨_, _, rfl, rfl, ?_, _, _, rfl, rfl, ?_, k' _ _ e3 ⟨_, hd1, rfl⟩⟩⟩
      · have h1 : ("(" : Str).length = 1 := by decide +kernel
        exact hB (by omega)
      · rw [app_len]
        have h1 : ("(" : Str).length = 1 := by decide +kernel
        have h2 : (")" : Str).length = 1 := by decide +kernel
        exact hB (by omega)
  intro H2 ys e2 hD2 hl2 hy
  have hmap : ys = (ps.map (partT (textD (k + 1)))).map V.str := by
    rw [List.map_map]
    exact eq_map_of (hl2.trans lr) fun i u hu => hy i u hu
  subst hmap
  have q2 := q H2 (e1.trans e2)
  have ev : textD (k + 1 + 1) (.tuple (.str o :: ps)) = Txt.join ((" " : Str) ++ o ++ " ") (ps.map (partT (textD (k + 1)))) := rfl
  rw [ev] at q2
  have sl := sep_len ho
  have lo : o.length = 1 := by
    rcases op_shape ho with h | h
    · rw [PyData.str.inj h]
      decide +kernel
    · rw [PyData.str.inj h]
      decide +kernel
  have l1 : (" " : Str).length = 1 := by decide +kernel
  refine ⟨_, rfl, a, _, _, _, rfl, rfl, up_t (e1.trans e2) ht.sqT, at0, _, _, rfl, rfl, ?_, _, _, rfl, rfl, ?_, ⟨_, rfl⟩, _, rfl, _, D, ps.map (partT (textD (k + 1))), rfl, rfl, .inl (SqL.of hD2), ?_, q2⟩
  · exact hB (by omega)
  · rw [app_len]
    exact hB (by omega)
  · rw [sl, List.length_map]
    have hs : ∀ p ∈ ps, (partT (textD (k + 1)) p).length ≤ 8 * 8 ^ k + 2 := fun p hpp => by
      have h1 := text_len (hps p hpp)
      rcases drawn_shape (hps p hpp) with ⟨z, rfl, hz⟩ | ⟨o2, ps2, _, rfl, _⟩
      · have h2 : textD (k + 1) (.str z) = z := rfl
        rw [h2] at h1
        show z.length ≤ _
        omega
      · show (("(" : Str) ++ textD (k + 1) _ ++ ")").length ≤ _
        rw [app_len, app_len]
        have e1 : ("(" : Str).length = 1 := by decide +kernel
        have e2 : (")" : Str).length = 1 := by decide +kernel
        omega
    have hsum := sum_le hs
    have hm : ps.length * (8 * 8 ^ k + 2) ≤ 8 * (8 * 8 ^ k + 2) := Nat.mul_le_mul_right _ l4
    omega
end
end FF
/-! words of terms: walked, their texts in order -/
namespace FF
open PySem PySem.Spec PyProof.Rows L2
def partsD : PyData → List PyData
  | .tuple (_ :: ps) => ps
  | _ => []
def walkD : Nat → PyData → List PyData
  | 0, d => [d]
  | n + 1, d => d :: (partsD d).flatMap (walkD n)
theorem let_parts {d : PyData} (h : isLet d = true) : partsD d = [] := by
  cases d with
  | str z => rfl
  | _ => cases h
theorem parts_drawn {k : Nat} {d p : PyData} (h : Drawn (k + 1) d) (hp : p ∈ partsD d) : Drawn k p := by
  rcases h with h | ⟨o, ps, rfl, _, _, _, hps⟩
  · rw [let_parts h] at hp
    cases hp
  · exact hps p hp
theorem parts0 {d : PyData} (h : Drawn 0 d) : partsD d = [] := let_parts h
theorem parts_len {n : Nat} {d : PyData} (h : Drawn n d) : (partsD d).length ≤ 8 := by
  cases n with
  | zero =>
    rw [parts0 h]
    decide
  | succ n =>
    rcases h with h | ⟨o, ps, rfl, _, _, h4, _⟩
    · rw [let_parts h]
      decide
    · exact h4
theorem flat_le {f : PyData → List PyData} {B : Nat} : ∀ {l : List PyData}, (∀ p ∈ l, (f p).length ≤ B) → (l.flatMap f).length ≤ l.length * B
  | [], _ => Nat.zero_le _
  | x :: r, h => by
    have h1 := h x List.mem_cons_self
    have h2 := flat_le (l := r) fun p hp => h p (List.mem_cons_of_mem _ hp)
    rw [List.flatMap_cons, List.length_append, List.length_cons, Nat.succ_mul]
    omega
theorem walk_len : ∀ {n : Nat} {d : PyData}, Drawn n d → (walkD (n + 1) d).length + 1 ≤ 2 * 8 ^ n := by
  intro n
  induction n with
  | zero =>
    intro d h
    show (d :: (partsD d).flatMap (walkD 0)).length + 1 ≤ 2
    rw [parts0 h]
    exact Nat.le_refl 2
  | succ n ih =>
    intro d h
    show (d :: (partsD d).flatMap (walkD (n + 1))).length + 1 ≤ _
    have hl := parts_len h
    have h1 : ∀ p ∈ partsD d, (walkD (n + 1) p).length ≤ 2 * 8 ^ n - 1 := fun p hp => by
      have := ih (parts_drawn h hp)
      omega
    have h2 := flat_le h1
    have h3 : (partsD d).length * (2 * 8 ^ n - 1) ≤ 8 * (2 * 8 ^ n - 1) := Nat.mul_le_mul_right _ hl
    have h4 : 1 ≤ 8 ^ n := Nat.one_le_pow _ _ (by decide)
    rw [List.length_cons, Nat.pow_succ]
    omega
theorem walk_drawn : ∀ {n : Nat} {d : PyData}, Drawn n d → ∀ w ∈ walkD (n + 1) d, Drawn n w := by
  intro n
  induction n with
  | zero =>
    intro d h w hw
    have hw : w ∈ d :: (partsD d).flatMap (walkD 0) := hw
    rw [parts0 h] at hw
    rw [List.mem_singleton.mp hw]
    exact h
  | succ n ih =>
    intro d h w hw
    rcases List.mem_cons.mp (show w ∈ d :: (partsD d).flatMap (walkD (n + 1)) from hw) with rfl | hw
    · exact h
    · obtain ⟨p, hp, hw⟩ := List.mem_flatMap.mp hw
      exact drawn_mono (ih (parts_drawn h hp) w hw) (Nat.le_succ _)
/-! ### the texts in order -/
def leS (a b : Str) : Bool := !ltCps b.cps.toList a.cps.toList
theorem leS_trans (a b c : Str) (h1 : leS a b = true) (h2 : leS b c = true) : leS a c = true := by
  unfold leS at *
  rw [ltCps_eq] at *
  simp only [Bool.not_eq_true', decide_eq_false_iff_not, List.not_lt] at *
  exact List.le_trans h1 h2
theorem leS_total (a b : Str) : (leS a b || leS b a) = true := by
  unfold leS
  rw [ltCps_eq, ltCps_eq]
  simp only [Bool.or_eq_true, Bool.not_eq_true', decide_eq_false_iff_not, List.not_lt]
  exact List.le_total _ _
theorem leS_antisymm {a b : Str} (h1 : leS a b = true) (h2 : leS b a = true) : a = b := by
  unfold leS at *
  rw [ltCps_eq] at *
  simp only [Bool.not_eq_true', decide_eq_false_iff_not, List.not_lt] at *
  have := List.le_antisymm h1 h2
  obtain ⟨⟨x⟩⟩ := a
  obtain ⟨⟨y⟩⟩ := b
  cases this
  rfl
theorem rising_all : ∀ {l : List Str} {p : Str}, risingS p l = true → (∀ x ∈ l, leS p x = true) ∧ l.Pairwise fun a b => leS a b = true
  | [], _, _ => ⟨(fun x h => by cases h), List.Pairwise.nil⟩
  | y :: l, p, h => by
    have h : (!ltCps y.cps.toList p.cps.toList && risingS y l) = true := h
    obtain ⟨h1, h2⟩ := Bool.and_eq_true_iff.mp h
    obtain ⟨k1, k2⟩ := rising_all h2
    have k0 : leS p y = true := h1
    refine ⟨fun x hx => ?_, .cons k1 k2⟩
    rcases List.mem_cons.mp hx with rfl | hx
    · exact k0
    · exact leS_trans _ _ _ k0 (k1 x hx)
theorem sorted_pw {l : List Str} (h : sortedS l = true) : l.Pairwise fun a b => leS a b = true := by
  cases l with
  | nil => exact .nil
  | cons x l => exact .cons (rising_all h).1 (rising_all h).2
def sortT (ks : List Str) : List Str := ks.mergeSort leS
theorem sort_eq {ys ks : List Str} (hp : ys.Perm ks) (hs : sortedS ys = true) : ys = sortT ks := by
  refine List.Perm.eq_of_pairwise (le := fun a b => leS a b = true) (fun a b _ _ h1 h2 => leS_antisymm h1 h2) (sorted_pw hs) ?_ (hp.trans (List.mergeSort_perm ks leS).symm)
  exact List.pairwise_mergeSort leS_trans leS_total ks
/-! ### dicts of data by texts -/
abbrev DD := List (Str × PyData)
def ddPut (dd : DD) (k : Str) (v : PyData) : DD := if (dd.any fun e => decide (e.1 = k)) = true then dd.map (fun e => if e.1 = k then (e.1, v) else e) else dd ++ [(k, v)]
def ddGet (dd : DD) (k : Str) : Option PyData := (dd.find? fun e => decide (e.1 = k)).map (·.2)
inductive DRel (K : PySem.W.Frag) (H : Hp) : List (Key × V) → DD → Prop
  | nil : DRel K H [] []
  | cons {k : Str} {v : V} {d : PyData} {kvs : List (Key × V)} {dd : DD} : Tp K H v d → DRel K H kvs dd → DRel K H ((.inr k, v) :: kvs) ((k, d) :: dd)
section
variable {K : PySem.W.Frag} {H H' : Hp}
theorem DRel.up (e : SameT H H') : ∀ {kvs : List (Key × V)} {dd : DD}, DRel K H kvs dd → DRel K H' kvs dd
  | _, _, .nil => .nil
  | _, _, .cons h r => .cons (h.up e) (r.up e)
theorem DRel.keys : ∀ {kvs : List (Key × V)} {dd : DD}, DRel K H kvs dd → kvs.map (·.1) = (dd.map (·.1)).map Sum.inr
  | _, _, .nil => rfl
  | _, _, .cons _ r => by
    show _ :: _ = _ :: _
    rw [r.keys] <;> rfl
theorem DRel.len {kvs : List (Key × V)} {dd : DD} (h : DRel K H kvs dd) : kvs.length = dd.length := by
  have := congrArg List.length h.keys
  simpa using this
theorem DRel.any {k : Str} : ∀ {kvs : List (Key × V)} {dd : DD}, DRel K H kvs dd → (kvs.any fun e => decide (e.1 = Sum.inr k)) = dd.any fun e => decide (e.1 = k)
  | _, _, .nil => rfl
  | _, _, .cons (k := k2) _ r => by
    rw [List.any_cons, List.any_cons, r.any]
    congr 1
    exact decide_eq_decide.mpr ⟨fun e => Sum.inr.inj e, fun e => congrArg Sum.inr e⟩
theorem DRel.repl {k : Str} {v : V} {d : PyData} (h : Tp K H v d) : ∀ {kvs : List (Key × V)} {dd : DD}, DRel K H kvs dd → DRel K H (kvs.map fun e => if e.1 = (Sum.inr k : Key) then (e.1, v) else e) (dd.map fun e => if e.1 = k then (e.1, d) else e)
  | _, _, .nil => .nil
  | _, _, .cons (k := k2) (v := v2) (d := d2) h2 r => by
    rw [List.map_cons, List.map_cons]
    by_cases e : k2 = k
    · subst e
      rw [if_pos rfl, if_pos rfl]
      exact .cons h (r.repl h)
    · rw [if_neg (fun z => e (Sum.inr.inj z)), if_neg e]
      exact .cons h2 (r.repl h)
theorem DRel.snoc {k : Str} {v : V} {d : PyData} (h : Tp K H v d) : ∀ {kvs : List (Key × V)} {dd : DD}, DRel K H kvs dd → DRel K H (kvs ++ [(.inr k, v)]) (dd ++ [(k, d)])
  | _, _, .nil => .cons h .nil
  | _, _, .cons h2 r => .cons h2 (r.snoc h)
theorem DRel.put {k : Str} {v : V} {d : PyData} {kvs : List (Key × V)} {dd : DD} (r : DRel K H kvs dd) (h : Tp K H v d) : DRel K H (putK kvs (.inr k) v) (ddPut dd k d) := by
  unfold putK ddPut
  rw [r.any (k := k)]
  split
  · exact r.repl h
  · exact r.snoc h
theorem DRel.get {k : Str} {d : PyData} : ∀ {kvs : List (Key × V)} {dd : DD}, DRel K H kvs dd → ddGet dd k = some d → ∃ v, valV kvs (.inr k) = some v ∧ Tp K H v d
  | _, _, .nil, e => by cases e
  | _, _, .cons (k := k2) (v := v2) (d := d2) (kvs := kvs) (dd := dd) h2 r, e => by
    by_cases hk : k2 = k
    · subst hk
      have : ddGet ((k2, d2) :: dd) k2 = some d2 := by simp [ddGet]
      rw [this] at e
      cases e
      exact ⟨v2, valV_pos rfl, h2⟩
    · have : ddGet ((k2, d2) :: dd) k = ddGet dd k := by simp [ddGet, List.find?_cons, hk]
      rw [this] at e
      obtain ⟨v, h3, h4⟩ := r.get e
      exact ⟨v, (valV_neg fun z => hk (Sum.inr.inj z)).trans h3, h4⟩
end
theorem ddPut_len (dd : DD) (k : Str) (v : PyData) : (ddPut dd k v).length ≤ dd.length + 1 := by
  unfold ddPut
  split
  · rw [List.length_map]
    exact Nat.le_succ _
  · rw [List.length_append]
    exact Nat.le_refl _
theorem ddGet_mem {dd : DD} {j : Str} (h : j ∈ dd.map (·.1)) : ∃ w, ddGet dd j = some w := by
  induction dd with
  | nil => cases h
  | cons a r ih =>
    by_cases e : a.1 = j
    · exact ⟨a.2, by simp [ddGet, List.find?_cons, e]⟩
    · have : ddGet (a :: r) j = ddGet r j := by simp [ddGet, List.find?_cons, e]
      rw [this]
      exact ih ((List.mem_cons.mp h).resolve_left fun q => e q.symm)
def dictT (f : PyData → Str) (ws : List PyData) : DD := ws.foldl (fun dd w => ddPut dd (f w) w) []
/-- the words in the order of their texts -/
def byText (f : PyData → Str) (ws : List PyData) : List PyData := (sortT ((dictT f ws).map (·.1))).map fun t => (ddGet (dictT f ws) t).getD .none
theorem ddPut_all {P : Str × PyData → Prop} {dd : DD} {k : Str} {v : PyData} (h : ∀ e ∈ dd, P e) (hv : P (k, v)) : ∀ e ∈ ddPut dd k v, P e := fun e he => by
  unfold ddPut at he
  split at he
  · obtain ⟨a, ha, rfl⟩ := List.mem_map.mp he
    split
    · rename_i q
      rw [q]
      exact hv
    · exact h a ha
  · rcases List.mem_append.mp he with he | he
    · exact h e he
    · rw [List.mem_singleton.mp he]
      exact hv
theorem dict_all {P : Str × PyData → Prop} {f : PyData → Str} : ∀ {ws : List PyData} {dd : DD}, (∀ e ∈ dd, P e) → (∀ w ∈ ws, P (f w, w)) → ∀ e ∈ ws.foldl (fun dd w => ddPut dd (f w) w) dd, P e
  | [], _, h, _ => h
  | w :: ws, _, h, hw => dict_all (ws := ws) (ddPut_all h (hw w List.mem_cons_self)) fun x hx => hw x (List.mem_cons_of_mem _ hx)
theorem dict_len {f : PyData → Str} : ∀ (ws : List PyData) (dd : DD), (ws.foldl (fun dd w => ddPut dd (f w) w) dd).length ≤ dd.length + ws.length
  | [], _ => Nat.le_refl _
  | w :: ws, dd => by
    have h1 := dict_len (f := f) ws (ddPut dd (f w) w)
    have h2 := ddPut_len dd (f w) w
    show (ws.foldl _ (ddPut dd (f w) w)).length ≤ _
    rw [List.length_cons]
    omega
theorem get_in {dd : DD} {k : Str} {w : PyData} (h : ddGet dd k = some w) : (k, w) ∈ dd := by
  unfold ddGet at h
  cases q : dd.find? fun e => decide (e.1 = k) with
  | none =>
    rw [q] at h
    cases h
  | some e =>
    rw [q] at h
    have h1 := List.mem_of_find?_eq_some q
    have h2 := List.find?_some q
    have h3 : e.1 = k := of_decide_eq_true h2
    have h4 : e.2 = w := Option.some.inj h
    rw [← h3, ← h4]
    exact h1
theorem byText_mem {f : PyData → Str} {ws : List PyData} {w : PyData} (h : w ∈ byText f ws) : w ∈ ws := by
  obtain ⟨t, ht, rfl⟩ := List.mem_map.mp h
  have ht2 : t ∈ (dictT f ws).map (·.1) := (List.mergeSort_perm _ _).mem_iff.mp ht
  obtain ⟨w, hw⟩ := ddGet_mem ht2
  rw [hw]
  exact dict_all (P := fun e => e.2 ∈ ws) (ws := ws) (dd := []) (fun e he => by cases he) (fun w hw => hw) _ (get_in hw)
end FF
/-! parts_of, walked and the law's twins -/
namespace FF
open PySem PySem.Spec PyProof.Rows L2
def spParts (K : PySem.W.Frag) : Sp := fun vs H Q _ => ∃ (v : V) (d : PyData) (m : Nat), vs = [v] ∧ Tp K H v d ∧ Drawn m d ∧ ∀ p us H', Same H H' → H p = none → H' p = some (.tup us) → TpAll K H' us (partsD d) → Q (.ref p) H'
def spPartsL (K : PySem.W.Frag) : Sp := fun vs H Q _ => ∃ (v : V) (d : PyData) (m : Nat), vs = [v] ∧ Tp K H v d ∧ Drawn m d ∧ ∀ p us H', Same H H' → H p = none → H' p = some (.lst us) → TpAll K H' us (partsD d) → Q (.ref p) H'
def spWalked (K : PySem.W.Frag) (n : Nat) : Sp := fun vs H Q _ => ∃ (v : V) (d : PyData) (m : Nat), vs = [v] ∧ Tp K H v d ∧ Drawn m d ∧ m < n ∧ n ≤ 8 ∧ ∀ p us H', Same H H' → H p = none → H' p = some (.lst us) → TpAll K H' us (walkD (m + 1) d) → Q (.ref p) H'
theorem walk_zero {d : PyData} (h : Drawn 0 d) : ∀ n, walkD n d = [d]
  | 0 => rfl
  | n + 1 => by
    show d :: (partsD d).flatMap (walkD n) = _
    rw [parts0 h] <;> rfl
/-- one step of walking serves every depth -/
theorem walk_parts {m : Nat} {d : PyData} (h : Drawn m d) : ∃ j, walkD (m + 1) d = d :: (partsD d).flatMap (walkD (j + 1)) ∧ (∀ p ∈ partsD d, Drawn j p) ∧ (m = 0 ∧ j = 0 ∨ m = j + 1) := by
  cases m with
  | zero =>
    refine ⟨0, ?_, fun p hp => ?_, .inl ⟨rfl, rfl⟩⟩
    · rw [walk_zero h, parts0 h] <;> rfl
    · rw [parts0 h] at hp
      cases hp
  | succ k => exact ⟨k, rfl, fun p hp => parts_drawn h hp, .inr rfl⟩
theorem flat_take {α β : Type} {f : α → List β} {l : List α} {i : Nat} {x : α} (h : l[i]? = some x) : (l.take (i + 1)).flatMap f = (l.take i).flatMap f ++ f x := by
  have : l.take (i + 1) = l.take i ++ [x] := by
    rw [List.take_add_one, h] <;> rfl
  rw [this, List.flatMap_append, List.flatMap_singleton]
section
variable {P : Program} {w : World} {K : PySem.W.Frag} {mg : Str → Option Value} {base : Heap}
theorem ok_parts_of {f : Addr} {fd : FuncData} (F : FunD K "parts_of" "parts_of" (defArgs s_parts_of) (defBody s_parts_of) (defScope s_parts_of) [] [] f fd) (hm : mg "parts_of" = some (.ref f)) (T : Top K mg) : Def P w K mg base "parts_of" 1 ["term"] (spParts K) := by
  refine def_mk F hm (F.bindsN fun _ _ _ _ _ _ us hl => match us, hl with | [_], _ => rfl) sc_parts_of (fun vs H Q E h => ?_) (fun cdv A outer s H vs Q E hr h => ?_)
  · obtain ⟨v, d, m, rfl, _⟩ := h
    rfl
  obtain ⟨v, d, m, rfl, hd, hdr, q⟩ := h
  refine ⟨_, (pss_one (ps_ret (pe_ifExp (pt_val (pe_callB (call_isK K kb_str) (by rfl) T.b_isinstance (by decide +kernel) (pa_cons (pv 0) (pa_cons (pe_bltn (v := .ty "str") (by rfl) T.b_str (by decide +kernel) rfl) pa_nil)))) (pe_tup pa_nil) (pe_slice (sl_tupK K) (pv 0) (po_some pe_int) po_none)))), ?_⟩
  refine ⟨_, rfl, v, d, rfl, hd.dp, _, rfl, ?_⟩
  rcases drawn_shape hdr with ⟨z, rfl, _⟩ | ⟨o, ps, k, rfl, ho, l2, l4, rfl, hps⟩
  · exact iteT ⟨(by show 0 ≤ sizeLine; decide), fun p hp => q p _ _ (same_new hp _) hp upd_same .nil⟩
  cases hd with
  | tup ht ha =>
  cases ha with
  | @cons vo vr _ _ hvo hvr =>
  rename_i a
  refine iteF ⟨_, rfl, _, rfl, a, _, rfl, ht.sqT, notWhole1, fun p hp0 => ?_⟩
  rw [cut1]
  exact q p vr _ (same_new hp0 _) hp0 upd_same (hvr.up (Same.T (same_new hp0 _)))
theorem ok_law_parts {f : Addr} {fd : FuncData} (F : FunD K "_law_parts" "_law_parts" (defArgs s_law_parts) (defBody s_law_parts) (defScope s_law_parts) [] [] f fd) (hm : mg "_law_parts" = some (.ref f)) (T : Top K mg) : Def P w K mg base "_law_parts" 1 ["_law_word"] (spPartsL K) := by
  refine def_mk F hm (F.bindsN fun _ _ _ _ _ _ us hl => match us, hl with | [_], _ => rfl) sc_law_parts (fun vs H Q E h => ?_) (fun cdv A outer s H vs Q E hr h => ?_)
  · obtain ⟨v, d, m, rfl, _⟩ := h
    rfl
  obtain ⟨v, d, m, rfl, hd, hdr, q⟩ := h
  refine ⟨_, (pss_one (ps_ret (pe_ifExp (pt_val (pe_callB (call_isK K kb_str) (by rfl) T.b_isinstance (by decide +kernel) (pa_cons (pv 0) (pa_cons (pe_bltn (v := .ty "str") (by rfl) T.b_str (by decide +kernel) rfl) pa_nil)))) (pe_lst pa_nil) (pe_callTy (call_list_ofK K) (by rfl) T.b_list (by decide +kernel) (pa_cons (pe_slice (sl_tupK K) (pv 0) (po_some pe_int) po_none) pa_nil))))), ?_⟩
  refine ⟨_, rfl, v, d, rfl, hd.dp, _, rfl, ?_⟩
  rcases drawn_shape hdr with ⟨z, rfl, _⟩ | ⟨o, ps, k, rfl, ho, l2, l4, rfl, hps⟩
  · exact iteT ⟨(by show 0 ≤ sizeLine; decide), fun p hp => q p _ _ (same_new hp _) hp upd_same .nil⟩
  cases hd with
  | tup ht ha =>
  cases ha with
  | @cons vo vr _ _ hvo hvr =>
  rename_i a
  refine iteF ⟨_, rfl, _, rfl, a, _, rfl, ht.sqT, notWhole1, fun p hp0 => ?_⟩
  rw [cut1]
  have e1 := same_new hp0 (.tup vr)
  refine ⟨p, vr, rfl, .inr (SqT.of upd_same), fun l hl => ?_⟩
  have hl0 : H l = none := by
    cases e : H l with
    | none => rfl
    | some u =>
      rw [e1 _ _ e] at hl
      cases hl
  exact q l vr _ (e1.trans (same_new hl _)) hl0 upd_same (hvr.up ((Same.T e1).trans (Same.T (same_new hl _))))
theorem ok_walked_step {n : Nat} {f : Addr} {fd : FuncData} (F : FunD K "walked" "walked" (defArgs s_walked) (defBody s_walked) (defScope s_walked) [] [] f fd) (hm : mg "walked" = some (.ref f)) (T : Top K mg)
    (D_parts_of : Def P w K mg base "parts_of" 1 ["term"] (spParts K)) (D_walked : Def P w K mg base "walked" (n + 1) ["term"] (spWalked K n)) : Def P w K mg base "walked" (n + 2) ["term"] (spWalked K (n + 1)) := by
  refine def_mk F hm (F.bindsN fun _ _ _ _ _ _ us hl => match us, hl with | [_], _ => rfl) sc_walked (fun vs H Q E h => ?_) (fun cdv A outer s H vs Q E hr h => ?_)
  · obtain ⟨v, d, m, rfl, _⟩ := h
    rfl
  obtain ⟨v, d, m, rfl, hd, hdr, hmn, hn10, q⟩ := h
  refine ⟨_, (pss_cons (ps_set (i := 1) sc_walked.nd rfl (Or.inl rfl) (pe_lst (pa_cons (pv 0) pa_nil)))
  (pss_cons (ps_for PassesOwn.never rfl (pi_tupK K (pe_def D_parts_of hr (by first | decide | omega) (pa_cons (pv 0) pa_nil))) (pg_name (i := 2) sc_walked.nd rfl (Or.inl rfl) (.inl rfl))
  (pss_one (ps_expr (pe_bmK K PySem.F.plainAttrs_list PySem.F.slot_list_extend PySem.F.type_list_extend mt_extend (pv 1) (pa_cons (pe_def D_walked hr (by first | decide | omega) (pa_cons (pv 2) pa_nil)) pa_nil)))))
  (pss_one (ps_ret (pv 1))))), ?_⟩
  refine ⟨_, rfl, (by show 1 ≤ sizeLine; decide), fun p hp => ?_⟩
  have e1 := same_new hp (.lst [v])
  have hd1 := hd.up (Same.T e1)
  refine ⟨_, rfl, v, d, m, rfl, hd1, hdr, fun t us H2 e2 ht0 ht2 hu2 => ?_⟩
  refine ⟨t, rfl, ⟨us, SqT.of ht2⟩, ?_⟩
  obtain ⟨j, ew, hj, hmj⟩ := walk_parts hdr
  have hul := hu2.len
  have hpl := parts_len hdr
  have wl := walk_len hdr
  have p4 : 8 ^ m ≤ 8 ^ 7 := Nat.pow_le_pow_right (by decide) (by omega)
  have hB : ∀ {n : Nat}, n ≤ 2 * 8 ^ 7 → n ≤ sizeLine := fun h => Nat.le_trans h (by decide +kernel)
  have tp : p ≠ t := fun z => by
    subst z
    rw [upd_same] at ht0
    cases ht0
  refine for_tup (xs := us) (fun i σ H' => ∃ (fs : List V) (o : Option V), σ = [some v, some (.ref p), o] ∧ Same H H' ∧ H' p = some (.lst fs) ∧ H' t = some (.tup us) ∧ TpAll K H' us (partsD d) ∧ TpAll K H' fs (d :: ((partsD d).take i).flatMap (walkD (j + 1))))
    ⟨[v], none, rfl, e1.trans e2, e2 _ _ upd_same, ht2, hu2, .cons (hd1.up (Same.T e2)) .nil⟩ (fun i σ H' _ ⟨fs, o, _, _, _, ht, _⟩ => SqT.of ht) ?_ ?_
  · rintro i x σ H' hx ⟨fs, o, rfl, e3, hp3, ht3, hu3, hf3⟩
    obtain ⟨y, hy1, hy2⟩ := hu3.get hx
    have hyd := hj y (List.mem_of_getElem? hy1)
    have hjn : j < n := by
      rcases hmj with ⟨hm0, _⟩ | hm1
      · subst hm0
        rw [parts0 hdr] at hy1
        cases hy1
      · omega
    refine ⟨_, rfl, .inl ⟨rfl, _, SqL.of hp3⟩, _, rfl, x, y, j, rfl, hy2, hyd, hjn, by omega, fun r rs H4 e4 hr0 hr4 hrs => ?_⟩
    have hp4 := e4 _ _ hp3
    have lf := hf3.len
    have lr := hrs.len
    have wr := walk_len hyd
    have pj : 8 ^ j ≤ 8 ^ 6 := Nat.pow_le_pow_right (by decide) (by omega)
    refine ⟨p, r, fs, rs, rfl, rfl, hp4, hr4, ?_, ?_⟩
    · -- the size: what is made is a part of the whole
      have h1 := flat_le (f := walkD (j + 1)) (B := 2 * 8 ^ 6) (l := (partsD d).take i) (fun p hp => by
        have := walk_len (hj p (List.mem_of_mem_take hp))
        omega)
      have h2 : ((partsD d).take i).length ≤ 8 := by
        rw [List.length_take]
        omega
      have h3 : ((partsD d).take i).length * (2 * 8 ^ 6) ≤ 8 * (2 * 8 ^ 6) := Nat.mul_le_mul_right _ h2
      rw [List.length_cons] at lf
      refine Nat.le_trans ?_ (show 9 * (2 * 8 ^ 6) + 1 ≤ sizeLine by decide +kernel)
      omega
    have eU : SameT H4 (upd H4 p (.lst (fs ++ rs))) := (SameT.refl H4).updL hp4
    refine ⟨fs ++ rs, _, rfl, ?_, upd_same, ?_, ?_, ?_⟩
    · intro b u hb
      rw [upd_ne (ne_of_none hb hp)]
      exact e4 _ _ (e3 _ _ hb)
    · rw [upd_ne (Ne.symm tp)]
      exact e4 _ _ ht3
    · exact (hu3.up (Same.T e4)).up eU
    · rw [flat_take hy1]
      exact TpAll.app (vs := fs) (ws := rs) ((hf3.up (Same.T e4)).up eU) (hrs.up eU)
  · rintro σ H' ⟨fs, o, rfl, e3, hp3, ht3, hu3, hf3⟩
    refine ⟨_, rfl, q p fs H' e3 hp hp3 ?_⟩
    rw [ew]
    rw [hul, List.take_length] at hf3
    exact hf3
theorem ok_law_walk_step {n : Nat} {f : Addr} {fd : FuncData} (F : FunD K "_law_walk" "_law_walk" (defArgs s_law_walk) (defBody s_law_walk) (defScope s_law_walk) [] [] f fd) (hm : mg "_law_walk" = some (.ref f)) (T : Top K mg)
    (D_law_parts : Def P w K mg base "_law_parts" 1 ["_law_word"] (spPartsL K)) (D_law_walk : Def P w K mg base "_law_walk" (n + 1) ["_law_word"] (spWalked K n)) : Def P w K mg base "_law_walk" (n + 2) ["_law_word"] (spWalked K (n + 1)) := by
  refine def_mk F hm (F.bindsN fun _ _ _ _ _ _ us hl => match us, hl with | [_], _ => rfl) sc_law_walk (fun vs H Q E h => ?_) (fun cdv A outer s H vs Q E hr h => ?_)
  · obtain ⟨v, d, m, rfl, _⟩ := h
    rfl
  obtain ⟨v, d, m, rfl, hd, hdr, hmn, hn10, q⟩ := h
  refine ⟨_, (pss_cons (ps_set (i := 1) sc_law_walk.nd rfl (Or.inl rfl) (pe_lst (pa_cons (pv 0) pa_nil)))
  (pss_cons (ps_for PassesOwn.never rfl (pi_listK K (pe_def D_law_parts hr (by first | decide | omega) (pa_cons (pv 0) pa_nil))) (pg_name (i := 2) sc_law_walk.nd rfl (Or.inl rfl) (.inl rfl))
  (pss_one (ps_set (i := 1) sc_law_walk.nd rfl (Or.inl rfl) (pe_op op_cat (pv 1) (pe_def D_law_walk hr (by first | decide | omega) (pa_cons (pv 2) pa_nil))))))
  (pss_one (ps_ret (pv 1))))), ?_⟩
  refine ⟨_, rfl, (by show 1 ≤ sizeLine; decide), fun p0 hp0 => ?_⟩
  have e1 := same_new hp0 (.lst [v])
  have hd1 := hd.up (Same.T e1)
  refine ⟨_, rfl, v, d, m, rfl, hd1, hdr, fun t us H2 e2 ht0 ht2 hu2 => ?_⟩
  refine ⟨t, rfl, ⟨us, SqL.of ht2⟩, ?_⟩
  obtain ⟨j, ew, hj, hmj⟩ := walk_parts hdr
  have hul := hu2.len
  have hpl := parts_len hdr
  have wl := walk_len hdr
  refine for_list (xs := us) (fun i σ H' => ∃ (p : Addr) (fs : List V) (o : Option V), σ = [some v, some (.ref p), o] ∧ H p = none ∧ Same H H' ∧ H' p = some (.lst fs) ∧ H' t = some (.lst us) ∧ TpAll K H' us (partsD d) ∧ TpAll K H' fs (d :: ((partsD d).take i).flatMap (walkD (j + 1))))
    ⟨p0, [v], none, rfl, hp0, e1.trans e2, e2 _ _ upd_same, ht2, hu2, .cons (hd1.up (Same.T e2)) .nil⟩ (fun i σ H' _ ⟨p, fs, o, _, _, _, _, ht, _⟩ => SqL.of ht) ?_ ?_
  · rintro i x σ H' hx ⟨p, fs, o, rfl, hp, e3, hp3, ht3, hu3, hf3⟩
    obtain ⟨y, hy1, hy2⟩ := hu3.get hx
    have hyd := hj y (List.mem_of_getElem? hy1)
    have hjn : j < n := by
      rcases hmj with ⟨hm0, _⟩ | hm1
      · subst hm0
        rw [parts0 hdr] at hy1
        cases hy1
      · omega
    refine ⟨_, rfl, _, rfl, x, y, j, rfl, hy2, hyd, hjn, by omega, fun r rs H4 e4 hr0 hr4 hrs => ?_⟩
    have lf := hf3.len
    have lr := hrs.len
    have wr := walk_len hyd
    have pj : 8 ^ j ≤ 8 ^ 6 := Nat.pow_le_pow_right (by decide) (by omega)
    refine ⟨p, r, fs, rs, rfl, rfl, e4 _ _ hp3, hr4, ?_, fun p2 hp2 => ?_⟩
    · have h1 := flat_le (f := walkD (j + 1)) (B := 2 * 8 ^ 6) (l := (partsD d).take i) (fun p hp => by
        have := walk_len (hj p (List.mem_of_mem_take hp))
        omega)
      have h2 : ((partsD d).take i).length ≤ 8 := by
        rw [List.length_take]
        omega
      have h3 : ((partsD d).take i).length * (2 * 8 ^ 6) ≤ 8 * (2 * 8 ^ 6) := Nat.mul_le_mul_right _ h2
      rw [List.length_cons] at lf
      refine Nat.le_trans ?_ (show 9 * (2 * 8 ^ 6) + 1 ≤ sizeLine by decide +kernel)
      omega
    have e5 := same_new hp2 (.lst (fs ++ rs))
    have e35 := e3.trans (e4.trans e5)
    have hn2 : H p2 = none := by
      cases e : H p2 with
      | none => rfl
      | some u =>
        rw [(e3.trans e4) _ _ e] at hp2
        cases hp2
    refine ⟨p2, fs ++ rs, _, rfl, hn2, e35, upd_same, e5 _ _ (e4 _ _ ht3), hu3.up (Same.T (e4.trans e5)), ?_⟩
    rw [flat_take hy1]
    exact TpAll.app (vs := fs) (ws := rs) (hf3.up (Same.T (e4.trans e5))) (hrs.up (Same.T e5))
  · rintro σ H' ⟨p, fs, o, rfl, hp, e3, hp3, ht3, hu3, hf3⟩
    refine ⟨_, rfl, q p fs H' e3 hp hp3 ?_⟩
    rw [ew]
    rw [hul, List.take_length] at hf3
    exact hf3
end
end FF
/-! words_of and the law's twins -/
namespace FF
open PySem PySem.Spec PyProof.Rows L2
theorem sameT_d {a : Addr} {kvs : List (Key × V)} {H H' : Hp} (ha : H a = some (.dK kvs)) (e : SameB a H H') : SameT H H' := fun b ys h => e b _ (fun z => by rw [z, ha] at h; cases h) h
theorem yes_ {σ : L2.St} {H : Hp} {A : Bool → Hp → Prop} (h : A true H) : tYes σ H A := h
theorem dcIn_texts {K : PySem.W.Frag} {p D : Addr} {H4 : Hp} {ws : List V} {wd : List PyData} {f : PyData → Str} {tk tv : TE} {vs1 : List Nat} {jv : Nat} {σ2 : L2.St} {dd0 : DD} {Nx : Hp → Prop} (hp : H4 p = some (.lst ws)) (hw : TpAll K H4 ws wd) (hD : ∃ kvs, H4 D = some (.dK kvs) ∧ DRel K H4 kvs dd0) (hz : dd0.length + wd.length < sizeLine)
    (hwipe : ∀ x, wipe ((wipe σ2 vs1).set jv (some x)) vs1 = wipe σ2 vs1)
    (key : ∀ x d H', Tp K H' x d → d ∈ wd → ∀ Q : VK, (∀ H'', Same H' H'' → Q (.str (f d)) H'') → tk ((wipe σ2 vs1).set jv (some x)) H' Q)
    (val : ∀ x H' (Q : VK), Q x H' → tv ((wipe σ2 vs1).set jv (some x)) H' Q)
    (done : ∀ H5, SameB D H4 H5 → (∃ kvs, H5 D = some (.dK kvs) ∧ DRel K H5 kvs (wd.foldl (fun dd w => ddPut dd (f w) w) dd0)) → Nx H5) : tDcIn (Itl K p) (gName jv) tYes tk tv D vs1 σ2 H4 Nx := by
  have hpD : p ≠ D := fun z => by
    obtain ⟨kvs, h, _⟩ := hD
    rw [z, h] at hp
    cases hp
  have hl := hw.len
  refine ⟨fun j k H => k = ws.length - j ∧ j ≤ ws.length ∧ SameB D H4 H ∧ ∃ kvs, H D = some (.dK kvs) ∧ DRel K H kvs ((wd.take j).foldl (fun dd w => ddPut dd (f w) w) dd0), ⟨_, rfl, Nat.zero_le _, sb_refl, hD⟩, ?_⟩
  rintro j k H ⟨rfl, hj, e, kvs, hk, hr⟩
  have hpH := e _ _ hpD hp
  have eT : SameT H4 H := by
    obtain ⟨kv0, h0, _⟩ := hD
    exact sameT_d h0 e
  by_cases hlt : j < ws.length
  · refine .inr ⟨⟨ws, ws[j], SqL.of hpH, by simp [hlt]⟩, fun H' => ∃ k', k' < ws.length - j ∧ (k' = ws.length - (j + 1) ∧ j + 1 ≤ ws.length ∧ SameB D H4 H' ∧ ∃ kvs, H' D = some (.dK kvs) ∧ DRel K H' kvs ((wd.take (j + 1)).foldl (fun dd w => ddPut dd (f w) w) dd0)), fun _ h => h, ?_⟩
    rintro x H' ⟨rfl, hx⟩
    have hx := hx ws (SqL.of hpH)
    obtain ⟨d, hd1, hd2⟩ := (hw.up eT).get hx
    refine ⟨hwipe x, yes_ (if_t ?_)⟩
    refine key x d _ hd2 (List.mem_of_getElem? hd1) _ fun H6 e6 => val x H6 _ ?_
    have hk6 := e6 _ _ hk
    have hr6 := (hr.up (Same.T e6)).put (k := f d) (hd2.up (Same.T e6))
    have take1 : wd.take (j + 1) = wd.take j ++ [d] := by
      rw [List.take_add_one, hd1] <;> rfl
    have hlen : kvs.length < sizeLine := by
      have h1 := hr.len
      have h2 := dict_len (f := f) (wd.take j) dd0
      rw [List.length_take] at h2
      omega
    refine ⟨kvs, .inr (f d), rfl, hk6, hlen, ws.length - (j + 1), by omega, rfl, by omega, fun b u n h => ?_, _, upd_same, ?_⟩
    · rw [upd_ne n]
      exact e6 _ _ (e b u n h)
    · rw [take1, List.foldl_append]
      exact hr6.up fun b ys h => by
        rw [upd_ne (fun z => by rw [z, hk6] at h; cases h)]
        exact h
  · have : j = ws.length := by omega
    subst this
    rw [hl, List.take_length] at hr
    exact .inl ⟨⟨ws, SqL.of hpH, Nat.le_refl _⟩, done H e ⟨kvs, hk, hr⟩⟩
abbrev Prs := List (PyData × PyData)
def prD (prs : Prs) : List PyData := prs.map fun p => .tuple [p.1, p.2]
def wordsOf (prs : Prs) : List PyData := prs.flatMap fun p => walkD 5 p.1 ++ walkD 5 p.2
def vocD (prs : Prs) : List PyData := byText (textD 5) (wordsOf prs)
def PrOk (prs : Prs) : Prop := prs.length ≤ 20 ∧ ∀ p ∈ prs, Drawn 4 p.1 ∧ Drawn 4 p.2
theorem words_drawn {prs : Prs} (h : PrOk prs) : ∀ w ∈ wordsOf prs, Drawn 4 w := fun w hw => by
  obtain ⟨p, hp, hw⟩ := List.mem_flatMap.mp hw
  obtain ⟨h1, h2⟩ := h.2 p hp
  rcases List.mem_append.mp hw with hw | hw
  · exact walk_drawn h1 w hw
  · exact walk_drawn h2 w hw
theorem words_len : ∀ {prs : Prs}, (∀ p ∈ prs, Drawn 4 p.1 ∧ Drawn 4 p.2) → (wordsOf prs).length ≤ prs.length * 16384
  | [], _ => Nat.zero_le _
  | p :: prs, h => by
    obtain ⟨h1, h2⟩ := h p List.mem_cons_self
    have k1 := walk_len h1
    have k2 := walk_len h2
    have k3 := words_len (prs := prs) fun q hq => h q (List.mem_cons_of_mem _ hq)
    have e : 2 * 8 ^ 4 = 8192 := by decide
    rw [e] at k1 k2
    show (walkD 5 p.1 ++ walkD 5 p.2 ++ wordsOf prs).length ≤ _
    have k1' : (walkD 5 p.1).length + 1 ≤ 8192 := k1
    have k2' : (walkD 5 p.2).length + 1 ≤ 8192 := k2
    rw [List.length_append, List.length_append, List.length_cons]
    omega
theorem dict_app {f : PyData → Str} (a b : List PyData) : dictT f (a ++ b) = b.foldl (fun dd w => ddPut dd (f w) w) (dictT f a) := List.foldl_append
theorem words_take {prs : Prs} {i : Nat} {p : PyData × PyData} (h : prs[i]? = some p) : wordsOf (prs.take (i + 1)) = wordsOf (prs.take i) ++ (walkD 5 p.1 ++ walkD 5 p.2) := by
  have : prs.take (i + 1) = prs.take i ++ [p] := by
    rw [List.take_add_one, h] <;> rfl
  unfold wordsOf
  rw [this, List.flatMap_append, List.flatMap_singleton]
theorem pr_get {K : PySem.W.Frag} {H : Hp} {us : List V} {prs : Prs} {i : Nat} {x : V} (h : TpAll K H us (prD prs)) (hx : us[i]? = some x) : ∃ p t vl vr, prs[i]? = some p ∧ x = .ref t ∧ SqU K H t [vl, vr] ∧ Tp K H vl p.1 ∧ Tp K H vr p.2 := by
  obtain ⟨d, h1, h2⟩ := h.get hx
  unfold prD at h1
  rw [List.getElem?_map] at h1
  cases hp : prs[i]? with
  | none =>
    rw [hp] at h1
    cases h1
  | some p =>
    rw [hp] at h1
    cases h1
    cases h2 with
    | @tup t xs _ hs ha =>
    cases ha with
    | @cons vl _ _ _ h3 ha =>
    cases ha with
    | @cons vr _ _ _ h4 ha =>
    cases ha
    exact ⟨p, t, vl, vr, rfl, rfl, hs, h3, h4⟩
def spWordsOf (K : PySem.W.Frag) : Sp := fun vs H Q _ => ∃ (a : Addr) (us : List V) (prs : Prs), vs = [.ref a] ∧ H a = some (.lst us) ∧ TpAll K H us (prD prs) ∧ PrOk prs ∧ ∀ r rs H', Same H H' → H r = none → H' r = some (.lst rs) → TpAll K H' rs (vocD prs) → Q (.ref r) H'
/-- the words of a dict in the order of its keys -/
theorem order_lc {K : PySem.W.Frag} {σ : L2.St} {H1 : Hp} {D p1 : Addr} {vsl : List Nat} {jv dv : Nat} {kvs : List (Key × V)} {dd : DD} {ys : List Str} {Qd : VK} (hkv : H1 D = some (.dK kvs)) (hr : DRel K H1 kvs dd) (hp1 : H1 p1 = some (.lst (ys.map V.str))) (hy : ∀ y ∈ ys, y ∈ dd.map (·.1)) (hz : ys.length ≤ sizeLine)
    (hw : ∀ x, wipe ((wipe σ vsl).set jv (some x)) vsl = wipe σ vsl) (h1 : ∀ x, ((wipe σ vsl).set jv (some x))[dv]? = some (some (.ref D))) (h2 : ∀ x, ((wipe σ vsl).set jv (some x))[jv]? = some (some x))
    (done : ∀ H2 p rs, Same H1 H2 → H1 p = none → H2 p = some (.lst rs) → TpAll K H2 rs (ys.map fun t => (ddGet dd t).getD .none) → Qd (.ref p) H2) :
    ∀ D2, H1 D2 = none → ∃ W : Nat → Nat → Hp → Prop, (∃ m, W 0 m (upd H1 D2 (.lst []))) ∧ ∀ i m H, W i m H →
      ((Itl K p1).stop i H ∧ Qd (.ref D2) H) ∨ ((Itl K p1).go i H ∧ ∃ Nx : Hp → Prop, (∀ H', Nx H' → ∃ m', m' < m ∧ W (i + 1) m' H') ∧ ∀ x H', (Itl K p1).yld i H x H' → gName jv x (wipe σ vsl) H' fun σ2 H2 => wipe σ2 vsl = wipe σ vsl ∧ tYes σ2 H2 fun b H3 =>
        if b = true then tDGet (tVar dv) (tVar jv) σ2 H3 fun y H4 => ∃ acc, H4 D2 = some (.lst acc) ∧ acc.length < sizeLine ∧ Nx (upd H4 D2 (.lst (acc ++ [y]))) else Nx H3) := by
  intro D2 hD2
  refine lc_mapL (fun i y H' => ∃ t, ys[i]? = some t ∧ Tp K H' y ((ddGet dd t).getD .none)) (fun i y H H' e ⟨t, a, b⟩ => ⟨t, a, b.up e⟩) hD2 (SqL.of hp1) (by rw [List.length_map]; exact hz) hw ?_ ?_
  · intro i x H2 hx e Q' k'
    rw [List.getElem?_map] at hx
    cases hy2 : ys[i]? with
    | none =>
      rw [hy2] at hx
      cases hx
    | some t =>
    rw [hy2] at hx
    have hx : V.str t = x := Option.some.inj hx
    subst hx
    obtain ⟨d, hd⟩ := ddGet_mem (hy t (List.mem_of_getElem? hy2))
    obtain ⟨v, hv1, hv2⟩ := hr.get hd
    refine ⟨_, h1 _, _, h2 _, D, v, rfl, ?_, k' v H2 (Same.refl H2) ⟨t, hy2, by rw [hd]; exact hv2.up (Same.T e)⟩⟩
    rw [← hv1]
    exact DGet.k (k := Sum.inr t) (e _ _ hkv)
  · intro H2 zs e h3 h4 h5
    refine done H2 D2 zs e hD2 h3 (TpAll.of_get (by rw [List.length_map, h4, List.length_map]) fun i v d hi hd => ?_)
    obtain ⟨t, h6, h7⟩ := h5 i v hi
    rw [List.getElem?_map, h6] at hd
    cases hd
    exact h7
section
variable {P : Program} {w : World} {K : PySem.W.Frag} {mg : Str → Option Value} {base : Heap}
theorem ok_words_of {f : Addr} {fd : FuncData} (F : FunD K "words_of" "words_of" (defArgs s_words_of) (defBody s_words_of) (defScope s_words_of) [] [] f fd) (hm : mg "words_of" = some (.ref f)) (T : Top K mg)
    (D_walked : Def P w K mg base "walked" 7 ["term"] (spWalked K 6)) (D_text_of : Def P w K mg base "text_of" 7 ["term"] (spText K 7)) : Def P w K mg base "words_of" 10 ["pairs"] (spWordsOf K) := by
  refine def_mk F hm (F.bindsN fun _ _ _ _ _ _ us hl => match us, hl with | [_], _ => rfl) sc_words_of (fun vs H Q E h => ?_) (fun cdv A outer s H vs Q E hr h => ?_)
  · obtain ⟨a, us, prs, rfl, _⟩ := h
    rfl
  obtain ⟨a, us, prs, rfl, ha, hu, hok, q⟩ := h
  have hul : us.length = prs.length := by
    have := hu.len
    unfold prD at this
    rwa [List.length_map] at this
  have hB : ∀ {n : Nat}, n ≤ 400000 → n < sizeLine := fun h => Nat.lt_of_le_of_lt h (by decide)
  refine ⟨_, (pss_cons (ps_set (i := 1) sc_words_of.nd rfl (Or.inr rfl) (pe_dc2 (own := [("left", 2), ("right", 3), ("word", 4)]) (vs1 := [4]) rfl sc_words_of.nd (pi_listK K (pv 0)) (blkOk_by (by kernel_rfl)) (by decide) (fun _ _ _ _ _ => (pg_tupK K (n := 2) rfl (pgs_cons (pg_name (i := 2) sc_words_of.nd rfl (Or.inl rfl) (.inr rfl)) (pgs_cons (pg_name (i := 3) sc_words_of.nd rfl (Or.inl rfl) (.inr rfl)) pgs_nil)))) (fun _ _ _ _ _ => pts_nil) (fun _ _ _ _ _ => (pi_listK K (pe_op op_cat (pe_def D_walked hr (by first | decide | omega) (pa_cons (pv 2) pa_nil)) (pe_def D_walked hr (by first | decide | omega) (pa_cons (pv 3) pa_nil))))) (fun _ _ _ _ _ => (pg_name (i := 4) sc_words_of.nd rfl (Or.inl rfl) (.inr rfl))) (fun _ _ _ _ _ => pts_nil) (fun _ _ _ _ _ => (pe_def D_text_of hr (by first | decide | omega) (pa_cons (pv 4) pa_nil))) (fun _ _ _ _ _ => (pv 4))))
  (pss_one (ps_ret (pe_lc (own := [("text", 5)]) rfl sc_words_of.nd (pi_listK K (pe_callB (cr_sortedDA rfl) (by rfl) T.b_sorted (by decide +kernel) (pa_cons (pv 1) pa_nil))) (blkOk_by (by kernel_rfl)) (fun _ _ _ _ _ => (pg_name (i := 5) sc_words_of.nd rfl (Or.inl rfl) (.inr rfl))) (fun _ _ _ _ _ => pts_nil) (fun _ _ _ _ _ => (pe_dget (hu_of hr) (pv 1) (pv 5) (fun _ _ => rfl))))))), ?_⟩
  refine ⟨_, rfl, a, rfl, ⟨us, SqL.of ha⟩, fun D hD => ?_⟩
  have haD : a ≠ D := ne_of_none ha hD
  refine ⟨fun i m H' => m = us.length - i ∧ i ≤ us.length ∧ Same H H' ∧ ∃ kvs, H' D = some (.dK kvs) ∧ DRel K H' kvs (dictT (textD 5) (wordsOf (prs.take i))), ⟨_, rfl, Nat.zero_le _, same_new hD _, [], upd_same, .nil⟩, ?_⟩
  rintro i m H' ⟨rfl, hi, e, kvs, hk, hr1⟩
  have haH := e _ _ ha
  have hwl : ∀ j, (wordsOf (prs.take j)).length ≤ 327680 := fun j => by
    have h1 := words_len (prs := prs.take j) fun p hp => hok.2 p (List.mem_of_mem_take hp)
    have h2 : (prs.take j).length ≤ 20 := by
      rw [List.length_take]
      have := hok.1
      omega
    omega
  by_cases hlt : i < us.length
  · refine .inr ⟨⟨us, us[i], SqL.of haH, by simp [hlt]⟩, fun H'' => ∃ k', k' < us.length - i ∧ (k' = us.length - (i + 1) ∧ i + 1 ≤ us.length ∧ Same H H'' ∧ ∃ kvs, H'' D = some (.dK kvs) ∧ DRel K H'' kvs (dictT (textD 5) (wordsOf (prs.take (i + 1))))), fun _ h => h, ?_⟩
    rintro x H1 ⟨rfl, hx⟩
    have hx := hx us (SqL.of haH)
    obtain ⟨p, t, vl, vr, hp, rfl, ht, hl, hrr⟩ := pr_get (hu.up (Same.T e)) hx
    obtain ⟨dl, dr⟩ := hok.2 p (List.mem_of_getElem? hp)
    have kl := walk_len dl
    have kr := walk_len dr
    have e8192 : 2 * 8 ^ 4 = 8192 := by decide
    rw [e8192] at kl kr
    refine ⟨t, [vl, vr], rfl, ht.sqT, rfl, vl, [vr], rfl, vr, [], rfl, rfl, rfl, yes_ (if_t ?_)⟩
    refine ⟨_, rfl, vl, p.1, 4, rfl, hl, dl, by decide, by decide, fun p1 us1 H2 e2 hn1 hp1 hu1 => ?_⟩
    refine ⟨_, rfl, vr, p.2, 4, rfl, hrr.up (Same.T e2), dr, by decide, by decide, fun p2 us2 H3 e3 hn2 hp2 hu2 => ?_⟩
    have lu1 := hu1.len
    have lu2 := hu2.len
    refine ⟨p1, p2, us1, us2, rfl, rfl, e3 _ _ hp1, hp2, Nat.le_of_lt (hB (by rw [lu1, lu2]; omega)), fun p3 hp3 => ?_⟩
    have e4 := same_new hp3 (.lst (us1 ++ us2))
    refine ⟨p3, rfl, ⟨_, SqL.of upd_same⟩, ?_⟩
    have e24 := e2.trans (e3.trans e4)
    have hw4 : TpAll K (upd H3 p3 (.lst (us1 ++ us2))) (us1 ++ us2) (walkD 5 p.1 ++ walkD 5 p.2) := TpAll.app (hu1.up (Same.T (e3.trans e4))) (hu2.up (Same.T e4))
    refine dcIn_texts (f := textD 5) (dd0 := dictT (textD 5) (wordsOf (prs.take i))) upd_same hw4 ⟨kvs, e24 _ _ hk, hr1.up (Same.T e24)⟩ ?_ (fun _ => rfl) ?_ (fun x H5 Q' h => ⟨_, rfl, h⟩) ?_
    · have h1 := dict_len (f := textD 5) (wordsOf (prs.take i)) []
      have h2 := hwl i
      refine hB ?_
      have h3 : (dictT (textD 5) (wordsOf (prs.take i))).length ≤ 0 + (wordsOf (prs.take i)).length := h1
      have kl' : (walkD 5 p.1).length + 1 ≤ 8192 := kl
      have kr' : (walkD 5 p.2).length + 1 ≤ 8192 := kr
      rw [List.length_append]
      omega
    · intro x d H5 hx5 hd5 Q' hq
      have hdd : Drawn 4 d := by
        rcases List.mem_append.mp hd5 with h | h
        · exact walk_drawn dl d h
        · exact walk_drawn dr d h
      exact ⟨_, rfl, x, d, 4, rfl, hx5, hdd, by decide, by decide, fun H6 e6 => hq H6 e6⟩
    · rintro H5 e5 ⟨kvs5, hk5, hr5⟩
      refine ⟨us.length - (i + 1), by omega, rfl, by omega, fun b u hb => e5 b u (ne_of_none hb hD) (e24 _ _ (e _ _ hb)), kvs5, hk5, ?_⟩
      rw [words_take hp, dict_app]
      exact hr5
  · have hi2 : i = us.length := by omega
    subst hi2
    rw [hul, List.take_length] at hr1
    refine .inl ⟨⟨us, SqL.of haH, Nat.le_refl _⟩, ?_⟩
    have hdl : (dictT (textD 5) (wordsOf prs)).length ≤ 327680 := by
      have h1 := dict_len (f := textD 5) (wordsOf prs) []
      have h2 := hwl prs.length
      rw [List.take_length] at h2
      have h3 : (dictT (textD 5) (wordsOf prs)).length ≤ 0 + (wordsOf prs).length := h1
      omega
    refine ⟨_, rfl, D, kvs, (dictT (textD 5) (wordsOf prs)).map (·.1), rfl, hk, hr1.keys, fun ys p1 hperm hs hp1 => ⟨p1, rfl, ⟨_, SqL.of upd_same⟩, ?_⟩⟩
    have e1 := same_new hp1 (.lst (ys.map V.str))
    have hys := sort_eq hperm hs
    refine order_lc (dv := 1) (jv := 5) (vsl := [5]) (e1 _ _ hk) (hr1.up (Same.T e1)) upd_same (fun y hy => hperm.mem_iff.mp hy) ?_ (fun _ => rfl) (fun _ => rfl) (fun _ => rfl) fun H2 p rs e2 hn2 h2 h3 => ?_
    · rw [hperm.length_eq, List.length_map]
      exact Nat.le_of_lt (hB (by omega))
    have hpn : H p = none := by
      cases z : H p with
      | none => rfl
      | some u =>
        rw [(e.trans e1) _ _ z] at hn2
        cases hn2
    refine q p rs H2 (e.trans (e1.trans e2)) hpn h2 ?_
    rw [hys] at h3
    exact h3
end
end FF
/-! _law_by_text, _law_words -/
namespace FF
open PySem PySem.Spec PyProof.Rows L2
theorem DRel.merge {K : PySem.W.Frag} {H : Hp} : ∀ {more : List (Key × V)} {md : DD} {kvs : List (Key × V)} {dd : DD}, DRel K H more md → DRel K H kvs dd → DRel K H (mergeK kvs more) (md.foldl (fun a e => ddPut a e.1 e.2) dd)
  | _, _, _, _, .nil, r => r
  | _, _, _, _, .cons h m, r => m.merge (r.put h)
theorem dict_map {f : PyData → Str} (ws : List PyData) (dd : DD) : (ws.map fun w => (f w, w)).foldl (fun a e => ddPut a e.1 e.2) dd = ws.foldl (fun a w => ddPut a (f w) w) dd := by
  rw [List.foldl_map]
theorem pairs_dd {K : PySem.W.Frag} {H : Hp} {f : PyData → Str} : ∀ {ys : List V} {ws : List PyData}, ys.length = ws.length → (∀ (i : Nat) (y : V), ys[i]? = some y → ∃ (t : Addr) (d : PyData) (v : V), ws[i]? = some d ∧ y = .ref t ∧ H t = some (.tup [.str (f d), v]) ∧ Tp K H v d) →
    ∃ (ps : List Addr) (kvs : List (Key × V)), ys = ps.map V.ref ∧ Paired (fun p kv => SqT K H p [kV kv.1, kv.2]) ps kvs ∧ DRel K H kvs (ws.map fun w => (f w, w))
  | [], [], _, _ => ⟨[], [], rfl, .nil, .nil⟩
  | [], _ :: _, h, _ => by cases h
  | _ :: _, [], h, _ => by cases h
  | y :: ys, d :: ws, hl, h => by
    obtain ⟨t, d', v, h1, rfl, h3, h4⟩ := h 0 y rfl
    cases h1
    obtain ⟨ps, kvs, h5, h6, h7⟩ := pairs_dd (ys := ys) (ws := ws) (Nat.succ.inj hl) fun i y hy => h (i + 1) y hy
    exact ⟨t :: ps, (.inr (f d), v) :: kvs, by rw [h5] <;> rfl, .cons (SqT.of h3) h6, .cons h4 h7⟩
def spByText (K : PySem.W.Frag) : Sp := fun vs H Q _ => ∃ (a : Addr) (us : List V) (ws : List PyData), vs = [.ref a] ∧ H a = some (.lst us) ∧ TpAll K H us ws ∧ (∀ w ∈ ws, Drawn 4 w) ∧ ws.length ≤ 330000 ∧ ∀ r rs H', Same H H' → H r = none → H' r = some (.lst rs) → TpAll K H' rs (byText (textD 5) ws) → Q (.ref r) H'
theorem new_none {H H' : Hp} {p : Addr} (e : Same H H') (h : H' p = none) : H p = none := by
  cases z : H p with
  | none => rfl
  | some u =>
    rw [e _ _ z] at h
    cases h
section
variable {P : Program} {w : World} {K : PySem.W.Frag} {mg : Str → Option Value} {base : Heap}
theorem ok_by_text {f : Addr} {fd : FuncData} (F : FunD K "_law_by_text" "_law_by_text" (defArgs s_law_by_text) (defBody s_law_by_text) (defScope s_law_by_text) [] [] f fd) (hm : mg "_law_by_text" = some (.ref f)) (T : Top K mg)
    (D_law_text : Def P w K mg base "_law_text" 7 ["_law_word"] (spText K 7)) : Def P w K mg base "_law_by_text" 10 ["_law_row"] (spByText K) := by
  refine def_mk F hm (F.bindsN fun _ _ _ _ _ _ us hl => match us, hl with | [_], _ => rfl) sc_law_by_text (fun vs H Q E h => ?_) (fun cdv A outer s H vs Q E hr h => ?_)
  · obtain ⟨a, us, ws, rfl, _⟩ := h
    rfl
  obtain ⟨a, us, ws, rfl, ha, hu, hok, hlen, q⟩ := h
  have hul := hu.len
  have hB : ∀ {n : Nat}, n ≤ 400000 → n ≤ sizeLine := fun h => Nat.le_trans h (by decide)
  refine ⟨_, (pss_cons (ps_set (i := 1) sc_law_by_text.nd rfl (Or.inr rfl) (pe_callTy (call_dictP rfl) (by rfl) T.b_dict (by decide +kernel) (pa_cons (pe_lc (own := [("_law_one", 2)]) rfl sc_law_by_text.nd (pi_listK K (pv 0)) (blkOk_by (by kernel_rfl)) (fun _ _ _ _ _ => (pg_name (i := 2) sc_law_by_text.nd rfl (Or.inl rfl) (.inr rfl))) (fun _ _ _ _ _ => pts_nil) (fun _ _ _ _ _ => (pe_tup (pa_cons (pe_def D_law_text hr (by first | decide | omega) (pa_cons (pv 2) pa_nil)) (pa_cons (pv 2) pa_nil))))) pa_nil)))
  (pss_one (ps_ret (pe_lc (own := [("_law_text_here", 3)]) rfl sc_law_by_text.nd (pi_listK K (pe_callB (cr_sortedDA rfl) (by rfl) T.b_sorted (by decide +kernel) (pa_cons (pv 1) pa_nil))) (blkOk_by (by kernel_rfl)) (fun _ _ _ _ _ => (pg_name (i := 3) sc_law_by_text.nd rfl (Or.inl rfl) (.inr rfl))) (fun _ _ _ _ _ => pts_nil) (fun _ _ _ _ _ => (pe_dget (hu_of hr) (pv 1) (pv 3) (fun _ _ => rfl))))))), ?_⟩
  refine ⟨_, rfl, a, rfl, ⟨us, SqL.of ha⟩, fun D1 hD1 => ?_⟩
  refine lc_mapL (j := 2) (fun i y H' => ∃ (t : Addr) (d : PyData) (v : V), ws[i]? = some d ∧ y = .ref t ∧ H' t = some (.tup [.str (textD 5 d), v]) ∧ Tp K H' v d) (fun i y H1 H2 e ⟨t, d, v, h1, h2, h3, h4⟩ => ⟨t, d, v, h1, h2, e _ _ h3, h4.up e⟩) hD1 (SqL.of ha) (hB (by omega)) (fun _ => rfl) ?_ ?_
  · intro i x H2 hx e2 Q' k'
    obtain ⟨d, hd1, hd2⟩ := (hu.up (Same.T e2)).get hx
    refine ⟨_, rfl, x, d, 4, rfl, hd2, hok d (List.mem_of_getElem? hd1), by decide, by decide, fun H3 e3 => ⟨_, rfl, (by show 2 ≤ sizeLine; decide), fun t ht => ?_⟩⟩
    have e4 := same_new ht (.tup [.str (textD 5 d), x])
    exact k' _ _ (e3.trans e4) ⟨t, d, x, hd1, rfl, upd_same, hd2.up (Same.T (e3.trans e4))⟩
  intro H2 ys e2 hD2 hyl hy
  obtain ⟨ps, kvs, rfl, hpair, hrel⟩ := pairs_dd (f := textD 5) (hyl.trans hul) hy
  refine ⟨D1, ps, kvs, rfl, SqL.of hD2, hpair, fun D hD => ?_⟩
  have e3 := same_new hD (.dK (mergeK [] kvs))
  have hr3 : DRel K (upd H2 D (.dK (mergeK [] kvs))) (mergeK [] kvs) (dictT (textD 5) ws) := by
    have := (hrel.merge (kvs := []) (dd := []) .nil).up (Same.T e3)
    rw [dict_map] at this
    exact this
  have hdl : (dictT (textD 5) ws).length ≤ 330000 := by
    have h1 : (dictT (textD 5) ws).length ≤ 0 + ws.length := dict_len (f := textD 5) ws []
    omega
  refine ⟨_, rfl, D, _, (dictT (textD 5) ws).map (·.1), rfl, upd_same, hr3.keys, fun zs p1 hperm hs hp1 => ⟨p1, rfl, ⟨_, SqL.of upd_same⟩, ?_⟩⟩
  have e4 := same_new hp1 (.lst (zs.map V.str))
  have hzs := sort_eq hperm hs
  refine order_lc (dv := 1) (jv := 3) (vsl := [3]) (e4 _ _ upd_same) (hr3.up (Same.T e4)) upd_same (fun y hy => hperm.mem_iff.mp hy) ?_ (fun _ => rfl) (fun _ => rfl) (fun _ => rfl) fun H5 p rs e5 hn5 h5 h6 => ?_
  · rw [hperm.length_eq, List.length_map]
    exact hB (by omega)
  refine q p rs H5 (e2.trans (e3.trans (e4.trans e5))) (new_none (e2.trans (e3.trans e4)) hn5) h5 ?_
  rw [hzs] at h6
  exact h6
theorem ok_law_words {f : Addr} {fd : FuncData} (F : FunD K "_law_words" "_law_words" (defArgs s_law_words) (defBody s_law_words) (defScope s_law_words) [] [] f fd) (hm : mg "_law_words" = some (.ref f)) (T : Top K mg)
    (D_law_walk : Def P w K mg base "_law_walk" 7 ["_law_word"] (spWalked K 6)) (D_law_by_text : Def P w K mg base "_law_by_text" 10 ["_law_row"] (spByText K)) : Def P w K mg base "_law_words" 11 ["_law_pairs"] (spWordsOf K) := by
  refine def_mk F hm (F.bindsN fun _ _ _ _ _ _ us hl => match us, hl with | [_], _ => rfl) sc_law_words (fun vs H Q E h => ?_) (fun cdv A outer s H vs Q E hr h => ?_)
  · obtain ⟨a, us, prs, rfl, _⟩ := h
    rfl
  obtain ⟨a, us, prs, rfl, ha, hu, hok, q⟩ := h
  have hul : us.length = prs.length := by
    have := hu.len
    unfold prD at this
    rwa [List.length_map] at this
  have hB : ∀ {n : Nat}, n ≤ 400000 → n ≤ sizeLine := fun h => Nat.le_trans h (by decide)
  have hwl : ∀ j, (wordsOf (prs.take j)).length ≤ 327680 := fun j => by
    have h1 := words_len (prs := prs.take j) fun p hp => hok.2 p (List.mem_of_mem_take hp)
    have h2 : (prs.take j).length ≤ 20 := by
      rw [List.length_take]
      have := hok.1
      omega
    omega
  refine ⟨_, (pss_cons (ps_set (i := 1) sc_law_words.nd rfl (Or.inl rfl) (pe_lst pa_nil))
  (pss_cons (ps_for PassesOwn.never rfl (pi_listK K (pv 0)) (pg_tupK K (n := 2) rfl (pgs_cons (pg_name (i := 2) sc_law_words.nd rfl (Or.inl rfl) (.inl rfl)) (pgs_cons (pg_name (i := 3) sc_law_words.nd rfl (Or.inl rfl) (.inl rfl)) pgs_nil)))
  (pss_one (ps_set (i := 1) sc_law_words.nd rfl (Or.inl rfl) (pe_op op_cat (pe_op op_cat (pv 1) (pe_def D_law_walk hr (by first | decide | omega) (pa_cons (pv 2) pa_nil))) (pe_def D_law_walk hr (by first | decide | omega) (pa_cons (pv 3) pa_nil))))))
  (pss_one (ps_ret (pe_def D_law_by_text hr (by first | decide | omega) (pa_cons (pv 1) pa_nil)))))), ?_⟩
  refine ⟨(by show 0 ≤ sizeLine; decide), fun p0 hp0 => ?_⟩
  have e0 := same_new hp0 (.lst [])
  refine ⟨_, rfl, a, rfl, ⟨us, SqL.of (e0 _ _ ha)⟩, ?_⟩
  refine for_list (xs := us) (fun i σ H' => ∃ (p : Addr) (fs : List V) (o1 o2 : Option V), σ = [some (.ref a), some (.ref p), o1, o2] ∧ Same H H' ∧ H p = none ∧ H' p = some (.lst fs) ∧ TpAll K H' fs (wordsOf (prs.take i)))
    ⟨p0, [], none, none, rfl, e0, hp0, upd_same, .nil⟩ (fun i σ H' _ ⟨_, _, _, _, _, e, _⟩ => SqL.of (e _ _ ha)) ?_ ?_
  · rintro i x σ H1 hx ⟨p, fs, o1, o2, rfl, e, hpn, hp, hfs⟩
    obtain ⟨pr, t, vl, vr, hpr, rfl, ht, hl, hrr⟩ := pr_get (hu.up (Same.T e)) hx
    obtain ⟨dl, dr⟩ := hok.2 pr (List.mem_of_getElem? hpr)
    have kl : (walkD 5 pr.1).length + 1 ≤ 8192 := walk_len dl
    have kr : (walkD 5 pr.2).length + 1 ≤ 8192 := walk_len dr
    have hw0 := hwl i
    have lf := hfs.len
    refine ⟨t, [vl, vr], rfl, ht.sqT, rfl, vl, [vr], rfl, vr, [], rfl, rfl, ?_⟩
    refine ⟨_, rfl, _, rfl, vl, pr.1, 4, rfl, hl, dl, by decide, by decide, fun p1 us1 H2 e2 hn1 hp1 hu1 => ?_⟩
    have lu1 : us1.length = (walkD 5 pr.1).length := hu1.len
    refine ⟨p, p1, fs, us1, rfl, rfl, e2 _ _ hp, hp1, hB (by omega), fun p2 hp2 => ?_⟩
    have e3 := same_new hp2 (.lst (fs ++ us1))
    refine ⟨_, rfl, vr, pr.2, 4, rfl, hrr.up (Same.T (e2.trans e3)), dr, by decide, by decide, fun p3 us3 H4 e4 hn3 hp3 hu3 => ?_⟩
    have lu3 : us3.length = (walkD 5 pr.2).length := hu3.len
    refine ⟨p2, p3, fs ++ us1, us3, rfl, rfl, e4 _ _ upd_same, hp3, hB (by rw [List.length_append]; omega), fun p5 hp5 => ?_⟩
    have e5 := same_new hp5 (.lst (fs ++ us1 ++ us3))
    have eA := e.trans (e2.trans (e3.trans e4))
    refine ⟨p5, _, _, _, rfl, eA.trans e5, new_none eA hp5, upd_same, ?_⟩
    rw [words_take hpr, ← List.append_assoc]
    exact TpAll.app (TpAll.app (hfs.up (Same.T ((e2.trans (e3.trans e4)).trans e5))) (hu1.up (Same.T ((e3.trans e4).trans e5)))) (hu3.up (Same.T e5))
  · rintro σ H1 ⟨p, fs, o1, o2, rfl, e, hpn, hp, hfs⟩
    rw [hul, List.take_length] at hfs
    have h2 := hwl prs.length
    rw [List.take_length] at h2
    exact ⟨_, rfl, p, fs, wordsOf prs, rfl, hp, hfs, words_drawn hok, by omega, fun r rs H2 e2 hn2 hr2 hrs => q r rs H2 (e.trans e2) (new_none e hn2) hr2 hrs⟩
end
end FF
/-! is_name, is_goal, is_rule -/
namespace FF
open PySem PySem.Spec PyProof.Rows L2
abbrev fitsB (d : PyData) : Bool := inB (meas 5 d) 24
abbrev smallS : Str := "abcdefghijklmnopqrstuvwxyz"
def isNameS (z : Str) : Bool := (decide ((1 : Int) ≤ z.length) && decide ((z.length : Int) ≤ 6)) && z.cps.toList.all fun c => decide (c ∈ smallS.cps.toList)
def isGoalD : PyData → Bool
  | .tuple [l, r] => fitsB l && fitsB r
  | _ => false
def isRuleD : PyData → Bool
  | .tuple [.str nm, l, r] => isNameS nm && (fitsB l && fitsB r)
  | _ => false
def spName (K : PySem.W.Frag) : Sp := fun vs H Q _ => ∃ z : Str, vs = [.str z] ∧ z.length ≤ 20000 ∧ ∀ H', Same H H' → Q (.bl (isNameS z)) H'
def spGoal (K : PySem.W.Frag) : Sp := fun vs H Q _ => ∃ (v : V) (d : PyData), vs = [v] ∧ Dp K H v d ∧ nice d = true ∧ ∀ H', Same H H' → Q (.bl (isGoalD d)) H'
def spRule (K : PySem.W.Frag) : Sp := fun vs H Q _ => ∃ (v : V) (d : PyData), vs = [v] ∧ Dp K H v d ∧ nice d = true ∧ ∀ H', Same H H' → Q (.bl (isRuleD d)) H'
theorem all_map {l : List Nat} {f : Nat → Bool} : (l.map f).all id = l.all f := by
  rw [List.all_map] <;> rfl
theorem bls_map {l : List Nat} {f : Nat → Bool} : l.map (fun c => V.bl (f c)) = (l.map f).map V.bl := by
  rw [List.map_map] <;> rfl
theorem nice_sl {z : Str} (h : nice (.str z) = true) : z.length ≤ 20000 := by
  simp only [nice, Bool.and_eq_true, decide_eq_true_eq] at h
  exact h.1
theorem len_two {α : Type} {l : List α} (h : l.length = 2) : ∃ a b, l = [a, b] := match l, h with
  | [a, b], _ => ⟨a, b, rfl⟩
theorem len_three {α : Type} {l : List α} (h : l.length = 3) : ∃ a b c, l = [a, b, c] := match l, h with
  | [a, b, c], _ => ⟨a, b, c, rfl⟩
section
variable {P : Program} {w : World} {K : PySem.W.Frag} {mg : Str → Option Value} {base : Heap}
theorem ok_is_name {f : Addr} {fd : FuncData} (F : FunD K "is_name" "is_name" (defArgs s_is_name) (defBody s_is_name) (defScope s_is_name) [] [] f fd) (hm : mg "is_name" = some (.ref f)) (T : Top K mg) : Def P w K mg base "is_name" 1 ["text"] (spName K) := by
  refine def_mk F hm (F.bindsN fun _ _ _ _ _ _ us hl => match us, hl with | [_], _ => rfl) sc_is_name (fun vs H Q E h => ?_) (fun cdv A outer s H vs Q E hr h => ?_)
  · obtain ⟨z, rfl, _⟩ := h
    rfl
  obtain ⟨z, rfl, hz, q⟩ := h
  have hzl : z.length ≤ sizeLine := le_line hz
  refine ⟨_, (pss_one (ps_ret (pe_and (pe_chain op_le op_le pe_int (pe_callB (call_lenK K) (by rfl) T.b_len (by decide +kernel) (pa_cons (pv 0) pa_nil)) (pe_gi T.g_MAX_NAME)) (pe_one (pe_callB (cr_allK K rfl) (by rfl) T.b_all (by decide +kernel) (pa_cons (pe_lc (own := [("sign", 1)]) rfl sc_is_name.nd (pi_str (pv 0)) (blkOk_by (by kernel_rfl)) (fun _ _ _ _ _ => (pg_name (i := 1) sc_is_name.nd rfl (Or.inl rfl) (.inr rfl))) (fun _ _ _ _ _ => pts_nil) (fun _ _ _ _ _ => (pe_cmpR op_in_sign (pv 1) (pe_gs T.g_SMALL_LETTERS) rfl))) pa_nil)))))), ?_⟩
  refine ⟨_, rfl, _, z.length, rfl, ⟨hzl, rfl⟩, ?_⟩
  refine chain_le (fun Q' h => h) ?_
  refine ⟨_, rfl, ?_⟩
  refine if_b (fun h1 => ?_) (fun h1 => ?_)
  · refine ⟨_, rfl, z, rfl, fun D hD => ?_⟩
    refine lc_strI (j := 1) (fun c => .bl (decide (c ∈ smallS.cps.toList))) hD hzl (fun _ => rfl) ?_ ?_
    · intro c H2 hc Q' hq
      exact ⟨_, rfl, c, smallS, rfl, rfl, hq H2 (Same.refl H2)⟩
    · intro H2 e2 h2
      refine ⟨D, z.cps.toList.map fun c => decide (c ∈ smallS.cps.toList), rfl, ?_, ?_⟩
      · rw [bls_map] at h2
        exact SqL.of h2
      · rw [all_map]
        refine qb (q H2 e2) ?_
        show ((decide ((1 : Int) ≤ z.length) && decide ((z.length : Int) ≤ 6)) && _) = _
        rw [h1, Bool.true_and]
  · refine qb (q H (Same.refl H)) ?_
    show ((decide ((1 : Int) ≤ z.length) && decide ((z.length : Int) ≤ 6)) && _) = false
    rw [h1, Bool.false_and]
theorem ok_law_is_name {f : Addr} {fd : FuncData} (F : FunD K "_law_is_name" "_law_is_name" (defArgs s_law_is_name) (defBody s_law_is_name) (defScope s_law_is_name) [] [] f fd) (hm : mg "_law_is_name" = some (.ref f)) (T : Top K mg) : Def P w K mg base "_law_is_name" 1 ["_law_text_here"] (spName K) := by
  refine def_mk F hm (F.bindsN fun _ _ _ _ _ _ us hl => match us, hl with | [_], _ => rfl) sc_law_is_name (fun vs H Q E h => ?_) (fun cdv A outer s H vs Q E hr h => ?_)
  · obtain ⟨z, rfl, _⟩ := h
    rfl
  obtain ⟨z, rfl, hz, q⟩ := h
  have hzl : z.length ≤ sizeLine := le_line hz
  refine ⟨_, (pss_one (ps_ret (pe_and (pe_chain op_le op_le pe_int (pe_callB (call_lenK K) (by rfl) T.b_len (by decide +kernel) (pa_cons (pv 0) pa_nil)) pe_int) (pe_one (pe_callB (cr_allK K rfl) (by rfl) T.b_all (by decide +kernel) (pa_cons (pe_lc (own := [("_law_one", 1)]) rfl sc_law_is_name.nd (pi_str (pv 0)) (blkOk_by (by kernel_rfl)) (fun _ _ _ _ _ => (pg_name (i := 1) sc_law_is_name.nd rfl (Or.inl rfl) (.inr rfl))) (fun _ _ _ _ _ => pts_nil) (fun _ _ _ _ _ => (pe_cmpR op_in_sign (pv 1) pe_str rfl))) pa_nil)))))), ?_⟩
  refine ⟨_, rfl, _, z.length, rfl, ⟨hzl, rfl⟩, ?_⟩
  refine chain_le (fun Q' h => h) ?_
  refine ⟨_, rfl, ?_⟩
  refine if_b (fun h1 => ?_) (fun h1 => ?_)
  · refine ⟨_, rfl, z, rfl, fun D hD => ?_⟩
    refine lc_strI (j := 1) (fun c => .bl (decide (c ∈ smallS.cps.toList))) hD hzl (fun _ => rfl) ?_ ?_
    · intro c H2 hc Q' hq
      exact ⟨_, rfl, c, smallS, rfl, rfl, hq H2 (Same.refl H2)⟩
    · intro H2 e2 h2
      refine ⟨D, z.cps.toList.map fun c => decide (c ∈ smallS.cps.toList), rfl, ?_, ?_⟩
      · rw [bls_map] at h2
        exact SqL.of h2
      · rw [all_map]
        refine qb (q H2 e2) ?_
        show ((decide ((1 : Int) ≤ z.length) && decide ((z.length : Int) ≤ 6)) && _) = _
        rw [h1, Bool.true_and]
  · refine qb (q H (Same.refl H)) ?_
    show ((decide ((1 : Int) ≤ z.length) && decide ((z.length : Int) ≤ 6)) && _) = false
    rw [h1, Bool.false_and]
theorem ok_is_goal {f fT : Addr} {fd fdT : FuncData} (F : FunD K "is_goal" "is_goal" (defArgs s_is_goal) (defBody s_is_goal) (defScope s_is_goal) [] [] f fd) (hm : mg "is_goal" = some (.ref f)) (T : Top K mg)
    (FT0 : FunD K "is_term" "is_term" (defArgs s_is_term) (defBody s_is_term) (defScope s_is_term) [] [("max_depth", .int 5), ("max_size", .int 24)] fT fdT) (hmT : mg "is_term" = some (.ref fT)) (FT : FnOk P w K mg base CX0 13 fT fdT ["value", "max_depth", "max_size"] (spIsTerm K)) : Def P w K mg base "is_goal" 14 ["value"] (spGoal K) := by
  obtain ⟨da, va, ba⟩ := bind_a FT0
  refine def_mk F hm (F.bindsN fun _ _ _ _ _ _ us hl => match us, hl with | [_], _ => rfl) sc_is_goal (fun vs H Q E h => ?_) (fun cdv A outer s H vs Q E hr h => ?_)
  · obtain ⟨v, d, rfl, _⟩ := h
    rfl
  obtain ⟨v, d, rfl, hd, hn, q⟩ := h
  refine ⟨_, (pss_one (ps_ret (pe_and (pe_callB (call_isK K kb_tup) (by rfl) T.b_isinstance (by decide +kernel) (pa_cons (pv 0) (pa_cons (pe_bltn (v := .ty "tuple") (by rfl) T.b_tuple (by decide +kernel) rfl) pa_nil))) (pe_and (pe_cmpR op_eq (pe_callB (call_lenK K) (by rfl) T.b_len (by decide +kernel) (pa_cons (pv 0) pa_nil)) pe_int (nomark _)) (pe_and (pe_call FT (hr.mono (by decide)) rfl hmT FT0.kp ba va pass0 (pa_cons (pe_ix (ix_tupK K) (pv 0) pe_int (fun _ _ => rfl)) pa_nil)) (pe_one (pe_call FT (hr.mono (by decide)) rfl hmT FT0.kp ba va pass0 (pa_cons (pe_ix (ix_tupK K) (pv 0) pe_int (fun _ _ => rfl)) pa_nil)))))))), ?_⟩
  refine ⟨_, rfl, v, d, rfl, hd, _, rfl, ?_⟩
  have no : isGoalD d = false → Q (.bl false) H := fun e => qb (q H (Same.refl H)) e
  cases hd with
  | tup hs ha =>
    rename_i a us ds
    refine if_t ?_
    have hl := da_len ha
    refine ⟨_, rfl, _, us.length, rfl, .inr ⟨us, hs, rfl⟩, rfl, _, rfl, ?_⟩
    refine if_int (fun h1 => ?_) (fun h1 => ?_)
    · obtain ⟨l, r, rfl⟩ := len_two (l := ds) (by omega)
      cases ha with
      | @cons vl _ _ _ hl' ha =>
      cases ha with
      | @cons vr _ _ _ hr' ha =>
      cases ha
      refine ⟨_, rfl, a, _, _, _, rfl, rfl, hs, at0, vl, l, 5, 24, rfl, hl', nice_ti hn (by simp), by decide, fun H2 e2 => ⟨_, rfl, ?_⟩⟩
      refine if_b (fun h2 => ?_) (fun h2 => ?_)
      · refine ⟨_, rfl, a, _, _, _, rfl, rfl, up_t e2 hs, rfl, vr, r, 5, 24, rfl, up_d e2 hr', nice_ti hn (by simp), by decide, fun H3 e3 => qb (q H3 (e2.trans e3)) ?_⟩
        show (fitsB l && fitsB r) = _
        rw [show fitsB l = true from h2, Bool.true_and] <;> rfl
      · refine qb (q H2 e2) ?_
        show (fitsB l && fitsB r) = false
        rw [show fitsB l = false from h2, Bool.false_and]
    · refine no ?_
      match ds, hl with
      | [], _ => rfl
      | [_], _ => rfl
      | [_, _], hl => exact absurd (by rw [hl]; rfl) h1
      | _ :: _ :: _ :: _, _ => rfl
  | non => exact no rfl
  | bl b => exact no rfl
  | int i => exact no rfl
  | str z => exact no rfl
  | lst _ _ => exact no rfl
theorem ok_is_rule {f : Addr} {fd : FuncData} (F : FunD K "is_rule" "is_rule" (defArgs s_is_rule) (defBody s_is_rule) (defScope s_is_rule) [] [] f fd) (hm : mg "is_rule" = some (.ref f)) (T : Top K mg)
    (D_is_name : Def P w K mg base "is_name" 1 ["text"] (spName K)) (D_is_goal : Def P w K mg base "is_goal" 14 ["value"] (spGoal K)) : Def P w K mg base "is_rule" 15 ["value"] (spRule K) := by
  refine def_mk F hm (F.bindsN fun _ _ _ _ _ _ us hl => match us, hl with | [_], _ => rfl) sc_is_rule (fun vs H Q E h => ?_) (fun cdv A outer s H vs Q E hr h => ?_)
  · obtain ⟨v, d, rfl, _⟩ := h
    rfl
  obtain ⟨v, d, rfl, hd, hn, q⟩ := h
  refine ⟨_, (pss_cons (ps_if (PW.pt (pw_or (pt_not (pt_val (pe_callB (call_isK K kb_tup) (by rfl) T.b_isinstance (by decide +kernel) (pa_cons (pv 0) (pa_cons (pe_bltn (v := .ty "tuple") (by rfl) T.b_tuple (by decide +kernel) rfl) pa_nil))))) (pw_or (pt_cmpR op_ne (pe_callB (call_lenK K) (by rfl) T.b_len (by decide +kernel) (pa_cons (pv 0) pa_nil)) pe_int (nomark _)) (pw_or1 (pt_not (pt_val (pe_callB (call_isK K kb_str) (by rfl) T.b_isinstance (by decide +kernel) (pa_cons (pe_ix (ix_tupK K) (pv 0) pe_int (fun _ _ => rfl)) (pa_cons (pe_bltn (v := .ty "str") (by rfl) T.b_str (by decide +kernel) rfl) pa_nil)))))))))
  (pss_one (ps_ret pe_bl))
  pss_nil)
  (pss_one (ps_ret (pe_and (pe_def D_is_name hr (by first | decide | omega) (pa_cons (pe_ix (ix_tupK K) (pv 0) pe_int (fun _ _ => rfl)) pa_nil)) (pe_one (pe_def D_is_goal hr (by first | decide | omega) (pa_cons (pe_slice (sl_tupK K) (pv 0) (po_some pe_int) po_none) pa_nil))))))), ?_⟩
  have no : isRuleD d = false → Q (.bl false) H := fun e => qb (q H (Same.refl H)) e
  refine ⟨_, rfl, v, d, rfl, hd, _, rfl, ?_⟩
  cases hd with
  | tup hs ha =>
    rename_i a us ds
    refine iteF ?_
    have hl := da_len ha
    refine ⟨_, rfl, _, us.length, rfl, .inr ⟨us, hs, rfl⟩, rfl, _, rfl, ?_⟩
    refine if_bb (b := !decide (us.length = 3)) (by
      congr 1
      exact decide_eq_decide.mpr ⟨fun z => Int.ofNat.inj (V.int.inj z), fun z => by rw [z] <;> rfl⟩) (fun h1 => ?_) (fun h1 => ?_)
    · refine no ?_
      match ds, hl with
      | [], _ => rfl
      | [x], _ => cases x <;> rfl
      | [x, _], _ => cases x <;> rfl
      | [_, _, _], hl =>
        rw [hl] at h1
        cases h1
      | x :: _ :: _ :: _ :: _, _ => cases x <;> rfl
    have h1 : us.length = 3 := by
      by_cases z : us.length = 3
      · exact z
      · rw [decide_eq_false z] at h1
        cases h1
    obtain ⟨nm, l, r, rfl⟩ := len_three (l := ds) (by omega)
    cases ha with
    | @cons vn _ _ _ hn' ha =>
    cases ha with
    | @cons vl _ _ _ hl' ha =>
    cases ha with
    | @cons vr _ _ _ hr' ha =>
    cases ha
    have nn := nice_ti hn (d := nm) (by simp)
    refine ⟨_, rfl, a, _, _, _, rfl, rfl, hs, at0, vn, nm, rfl, hn', _, rfl, ?_⟩
    cases hn' with
    | str z =>
      refine iteF ?_
      refine ⟨_, rfl, a, _, _, _, rfl, rfl, hs, at0, z, rfl, nice_sl nn, fun H2 e2 => ⟨_, rfl, ?_⟩⟩
      refine if_b (fun h2 => ?_) (fun h2 => ?_)
      · refine ⟨_, rfl, _, rfl, a, _, rfl, up_t e2 hs, notWhole1, fun p hp0 => ?_⟩
        rw [cut1]
        have e3 := same_new hp0 (.tup [vl, vr])
        refine ⟨.ref p, .tuple [l, r], rfl, .tup (SqT.of upd_same) (.cons (up_d (e2.trans e3) hl') (.cons (up_d (e2.trans e3) hr') .nil)), ?_, fun H4 e4 => qb (q H4 ((e2.trans e3).trans e4)) ?_⟩
        · have n1 := nice_ti hn (d := l) (by simp)
          have n2 := nice_ti hn (d := r) (by simp)
          simp only [nice, Bool.and_eq_true, decide_eq_true_eq]
          refine ⟨by simp, niceAll_of fun x hx => ?_⟩
          simp only [List.mem_cons, List.not_mem_nil, or_false] at hx
          rcases hx with rfl | rfl
          · exact n1
          · exact n2
        · show (isNameS z && (fitsB l && fitsB r)) = _
          rw [h2, Bool.true_and] <;> rfl
      · refine qb (q H2 e2) ?_
        show (isNameS z && (fitsB l && fitsB r)) = false
        rw [h2, Bool.false_and]
    | non => exact iteT (no rfl)
    | bl b => exact iteT (no rfl)
    | int i => exact iteT (no rfl)
    | lst _ _ => exact iteT (no rfl)
    | tup _ _ => exact iteT (no rfl)
  | non => exact iteT (no rfl)
  | bl b => exact iteT (no rfl)
  | int i => exact iteT (no rfl)
  | str z => exact iteT (no rfl)
  | lst _ _ => exact iteT (no rfl)
end
end FF
/-! need_list, pairs_in, checked_words -/
namespace FF
open PySem PySem.Spec PyProof.Rows L2
def nameOf : PyData → Str
  | .tuple (.str nm :: _) => nm
  | _ => ""
def badAt : List Str → Nat → List PyData → Option Nat
  | _, _, [] => none
  | seen, i, d :: ds => if isRuleD d = true ∧ nameOf d ∉ seen then badAt (seen ++ [nameOf d]) (i + 1) ds else some i
def rulesErr (ds : List PyData) : Option Nat := if 12 < ds.length then some 12 else badAt [] 0 ds
def pairOf : PyData → PyData × PyData
  | .tuple [_, l, r] => (l, r)
  | _ => (.none, .none)
def goalPart : PyData → Prs
  | .tuple [l, r] => [(l, r)]
  | _ => []
def prsOf (ds : List PyData) (g : PyData) : Prs := ds.map pairOf ++ goalPart g
inductive RErr where
  | rules (i : Nat)
  | goal
  | terms (n : Nat)
def isNoneD : PyData → Bool
  | .none => true
  | _ => false
def checkD (ds : List PyData) (g : PyData) : Option RErr := match rulesErr ds with
  | some i => some (.rules i)
  | none => if (!isNoneD g && !isGoalD g) = true then some .goal else if 24 < (vocD (prsOf ds g)).length then some (.terms (vocD (prsOf ds g)).length) else none
def RuleV (K : PySem.W.Frag) (H : Hp) (u : V) (d : PyData) : Prop := Dp K H u d ∧ Nice 50 d ∧ (isRuleD d = true → Tp K H u d ∧ Drawn 4 (pairOf d).1 ∧ Drawn 4 (pairOf d).2)
structure RulesV (K : PySem.W.Frag) (H : Hp) (v : V) (ds : List PyData) : Prop where
  ex : ∃ (a : Addr) (us : List V), v = .ref a ∧ (SqL K H a us ∨ SqT K H a us) ∧ us.length = ds.length ∧ ∀ (i : Nat) (u : V) (d : PyData), us[i]? = some u → ds[i]? = some d → RuleV K H u d
  len : ds.length ≤ 20000
def GoalV (K : PySem.W.Frag) (H : Hp) (v : V) (g : PyData) : Prop := Dp K H v g ∧ Nice 50 g ∧ (isGoalD g = true → Tp K H v g ∧ ∀ p ∈ goalPart g, Drawn 4 p.1 ∧ Drawn 4 p.2)
theorem RuleV.up {K : PySem.W.Frag} {H H' : Hp} {u : V} {d : PyData} (e : Same H H') (h : RuleV K H u d) : RuleV K H' u d := ⟨up_d e h.1, h.2.1, fun q => let ⟨a, b⟩ := h.2.2 q; ⟨a.up (Same.T e), b⟩⟩
theorem RulesV.up {K : PySem.W.Frag} {H H' : Hp} {v : V} {ds : List PyData} (e : Same H H') (h : RulesV K H v ds) : RulesV K H' v ds := by
  obtain ⟨a, us, h1, h2, h3, h4⟩ := h.ex
  exact ⟨⟨a, us, h1, up_s e h2, h3, fun i u d a b => (h4 i u d a b).up e⟩, h.len⟩
theorem GoalV.up {K : PySem.W.Frag} {H H' : Hp} {v : V} {g : PyData} (e : Same H H') (h : GoalV K H v g) : GoalV K H' v g := ⟨up_d e h.1, h.2.1, fun q => let ⟨a, b⟩ := h.2.2 q; ⟨a.up (Same.T e), b⟩⟩
def Err1 (K : PySem.W.Frag) (x f : Str) (y : V) (H : Hp) (E : XK) : Prop := ∀ dd H', Same H H' → H' dd = some (.xd [(f, y), (("code" : Str), .str x)]) → E (.ref (He.ga K x)) (some dd) H'
def Err0 (K : PySem.W.Frag) (x : Str) (H : Hp) (E : XK) : Prop := ∀ dd H', Same H H' → Thr x dd H' → E (.ref (He.ga K x)) dd H'
def ErrOf (K : PySem.W.Frag) (H : Hp) (E : XK) : RErr → Prop
  | .rules i => Err1 K "InvalidRules" "index" (.int i) H E
  | .goal => Err0 K "InvalidGoal" H E
  | .terms n => Err1 K "TooManyTerms" "count" (.int n) H E
theorem Err1.up {K : PySem.W.Frag} {x f : Str} {y : V} {H H1 : Hp} {E : XK} (h : Err1 K x f y H E) (e : Same H H1) : Err1 K x f y H1 E := fun dd H' e2 hd => h dd H' (e.trans e2) hd
theorem Err0.up {K : PySem.W.Frag} {x : Str} {H H1 : Hp} {E : XK} (h : Err0 K x H E) (e : Same H H1) : Err0 K x H1 E := fun dd H' e2 hd => h dd H' (e.trans e2) hd
def spNeedList (K : PySem.W.Frag) : Sp := fun vs H Q E => ∃ (v : V) (ds : List PyData), vs = [v] ∧ RulesV K H v ds ∧ (rulesErr ds = none → ∀ H', Same H H' → Q .non H') ∧ ∀ i, rulesErr ds = some i → Err1 K "InvalidRules" "index" (.int i) H E
def spPairsIn (K : PySem.W.Frag) : Sp := fun vs H Q _ => ∃ (v gv : V) (ds : List PyData) (g : PyData), vs = [v, gv] ∧ RulesV K H v ds ∧ (∀ d ∈ ds, isRuleD d = true) ∧ ds.length ≤ 12 ∧ GoalV K H gv g ∧ (isNoneD g = true ∨ isGoalD g = true) ∧
  ∀ r rs H', Same H H' → H r = none → H' r = some (.lst rs) → TpAll K H' rs (prD (prsOf ds g)) → Q (.ref r) H'
def spChecked (K : PySem.W.Frag) : Sp := fun vs H Q E => ∃ (v gv : V) (ds : List PyData) (g : PyData), vs = [v, gv] ∧ RulesV K H v ds ∧ GoalV K H gv g ∧
  (checkD ds g = none → ∀ r rs H', Same H H' → H r = none → H' r = some (.lst rs) → TpAll K H' rs (vocD (prsOf ds g)) → Q (.ref r) H') ∧ ∀ e, checkD ds g = some e → ErrOf K H E e
theorem rule_shape {d : PyData} (h : isRuleD d = true) : ∃ nm l r, d = .tuple [.str nm, l, r] ∧ isNameS nm = true := by
  match d, h with
  | .tuple [.str nm, l, r], h => exact ⟨nm, l, r, rfl, (Bool.and_eq_true_iff.mp h).1⟩
theorem goal_shape {d : PyData} (h : isGoalD d = true) : ∃ l r, d = .tuple [l, r] := by
  match d, h with
  | .tuple [l, r], _ => exact ⟨l, r, rfl⟩
theorem name_nice {z : Str} (h : isNameS z = true) : Nice 0 (.str z) := by
  obtain ⟨h1, h2⟩ := Bool.and_eq_true_iff.mp h
  have h3 : z.length ≤ 6 := by
    have := of_decide_eq_true (Bool.and_eq_true_iff.mp h1).2
    omega
  refine ⟨?_, Nat.le_of_eq (by rw [PyData.depth])⟩
  simp only [nice, Bool.and_eq_true, decide_eq_true_eq]
  refine ⟨by omega, ?_⟩
  show (z.cps.all fun x => decide (x < 0x110000)) = true
  rw [← Array.all_toList, List.all_eq_true]
  intro c hc
  have h4 := of_decide_eq_true (List.all_eq_true.mp h2 c hc)
  rw [show smallS.cps.toList = [97, 98, 99, 100, 101, 102, 103, 104, 105, 106, 107, 108, 109, 110, 111, 112, 113, 114, 115, 116, 117, 118, 119, 120, 121, 122] by decide +kernel] at h4
  refine decide_eq_true ?_
  simp only [List.mem_cons, List.not_mem_nil, or_false] at h4
  omega
theorem any_str {z : Str} : ∀ l : List Str, ((l.map PyData.str).any fun y => PyData.eqv y (.str z)) = decide (z ∈ l)
  | [] => rfl
  | x :: l => by
    rw [List.map_cons, List.any_cons, any_str l, PyData.eqv]
    by_cases h : x = z
    · subst h
      simp
    · have h2 : ¬ z = x := fun e => h e.symm
      simp [h, h2]
theorem tp_strs {K : PySem.W.Frag} {H : Hp} : ∀ l : List Str, DpAll K H (l.map V.str) (l.map PyData.str)
  | [] => .nil
  | x :: l => .cons (.str x) (tp_strs l)
theorem strs_nice {l : List Str} (hl : l.length ≤ 20000) (h : ∀ z ∈ l, isNameS z = true) : Nice 1 (.list (l.map PyData.str)) := Nice.list (n := 0) (by rw [List.length_map]; exact hl) fun d hd => by
  obtain ⟨z, hz, rfl⟩ := List.mem_map.mp hd
  exact name_nice (h z hz)
theorem Nice.sh {n : Nat} {d : PyData} (h : Nice n d) (hn : n ≤ 60) : SeqAt.shaped d = true := h.shaped (by omega)
theorem badAt_some : ∀ {seen : List Str} {i : Nat} {ds : List PyData} {j : Nat} {d : PyData}, ds[j]? = some d → badAt seen i ds = none → isRuleD d = true
  | seen, i, x :: ds, 0, d, h, e => by
    cases h
    have e : (if isRuleD x = true ∧ nameOf x ∉ seen then badAt (seen ++ [nameOf x]) (i + 1) ds else some i) = none := e
    split at e
    · rename_i q
      exact q.1
    · cases e
  | seen, i, x :: ds, j + 1, d, h, e => by
    have e : (if isRuleD x = true ∧ nameOf x ∉ seen then badAt (seen ++ [nameOf x]) (i + 1) ds else some i) = none := e
    split at e
    · exact badAt_some (ds := ds) (j := j) h e
    · cases e
theorem badAt_step {seen : List Str} {i : Nat} {ds : List PyData} {d : PyData} (h : ds[i]? = some d) : badAt seen i (ds.drop i) = if isRuleD d = true ∧ nameOf d ∉ seen then badAt (seen ++ [nameOf d]) (i + 1) (ds.drop (i + 1)) else some i := by
  have : ds.drop i = d :: ds.drop (i + 1) := by
    have hi := (List.getElem?_eq_some_iff.mp h)
    obtain ⟨hlt, e⟩ := hi
    rw [List.drop_eq_getElem_cons hlt, e]
  rw [this] <;> rfl
theorem rules_ok {ds : List PyData} (h : rulesErr ds = none) : ds.length ≤ 12 ∧ ∀ d ∈ ds, isRuleD d = true := by
  unfold rulesErr at h
  split at h
  · cases h
  · exact ⟨by omega, fun d hd => let ⟨j, hj⟩ := List.getElem?_of_mem hd; badAt_some hj h⟩
section
variable {P : Program} {w : World} {K : PySem.W.Frag} {mg : Str → Option Value} {base : Heap}
theorem ok_need_list {f : Addr} {fd : FuncData} (F : FunD K "need_list" "need_list" (defArgs s_need_list) (defBody s_need_list) (defScope s_need_list) [] [] f fd) (hm : mg "need_list" = some (.ref f)) (T : Top K mg)
    (D_is_rule : Def P w K mg base "is_rule" 15 ["value"] (spRule K)) (x_InvalidRules : RaiseD1 P w K mg base "InvalidRules" "FaultError" 2 "InvalidRules" "index") : DefX P w K mg base "need_list" 16 ["rules"] (spNeedList K) := by
  refine defx_mk F hm (F.bindsN fun _ _ _ _ _ _ us hl => match us, hl with | [_], _ => rfl) sc_need_list (fun vs H Q E h => ?_) (fun cdv A outer s0 H vs Q E hr h tk => ?_)
  · obtain ⟨v, ds, rfl, _⟩ := h
    rfl
  obtain ⟨v, ds, rfl, hR, q1, q2⟩ := h
  obtain ⟨a, us, rfl, hs, hul, hu⟩ := hR.ex
  refine ⟨_, (pss_cons (ps_if (pt_cmpR op_gt (pe_callB (call_lenK K) (by rfl) T.b_len (by decide +kernel) (pa_cons (pv 0) pa_nil)) (pe_gi T.g_MAX_RULES) (nomark _))
  (pss_one (ps_raise rfl tk (pmk_raise1 x_InvalidRules hr (by first | decide | omega) (pa_cons (pe_gi T.g_MAX_RULES) pa_nil) (mono := by intro σ H Q Q' h q; first | exact h _ _ q | exact (let ⟨v, e, q⟩ := q; ⟨v, e, h _ _ q⟩) | exact (let ⟨v, e, x, n, e2, h2, q⟩ := q; ⟨v, e, x, n, e2, h2, h _ _ q⟩) | exact (let ⟨v, e, a, b, c, d, e1, e2, h1, h2, q⟩ := q; ⟨v, e, a, b, c, d, e1, e2, h1, h2, h _ _ q⟩)))))
  pss_nil)
  (pss_cons (ps_set (i := 1) sc_need_list.nd rfl (Or.inl rfl) (pe_lst pa_nil))
  (pss_one (ps_for (passes_of rfl) rfl (pi_enumS K (by rfl) T.b_enumerate (pa_cons (pv 0) pa_nil)) (pg_tupK K (n := 2) rfl (pgs_cons (pg_name (i := 2) sc_need_list.nd rfl (Or.inl rfl) (.inl rfl)) (pgs_cons (pg_name (i := 3) sc_need_list.nd rfl (Or.inl rfl) (.inl rfl)) pgs_nil)))
  (pss_cons (ps_if (PW.pt (pw_or (pt_not (pt_val (pe_def D_is_rule hr (by first | decide | omega) (pa_cons (pv 3) pa_nil)))) (pw_or1 (pt_cmpR (op_inK K (r65 hr)) (pe_ix (ix_tupK K) (pv 3) pe_int (fun _ _ => rfl)) (pv 1) (by rfl)))))
  (pss_one (ps_raise rfl tk (pmk_raise1 x_InvalidRules hr (by first | decide | omega) (pa_cons (pv 2) pa_nil) (mono := by intro σ H Q Q' h q; first | exact h _ _ q | exact (let ⟨v, e, q⟩ := q; ⟨v, e, h _ _ q⟩) | exact (let ⟨v, e, x, n, e2, h2, q⟩ := q; ⟨v, e, x, n, e2, h2, h _ _ q⟩) | exact (let ⟨v, e, a, b, c, d, e1, e2, h1, h2, q⟩ := q; ⟨v, e, a, b, c, d, e1, e2, h1, h2, h _ _ q⟩)))))
  pss_nil)
  (pss_one (ps_expr (pe_bmK K PySem.F.plainAttrs_list PySem.F.slot_list_append PySem.F.type_list_append mt_append (pv 1) (pa_cons (pe_ix (ix_tupK K) (pv 3) pe_int (fun _ _ => rfl)) pa_nil))))))))), ?_⟩
  refine ⟨_, rfl, _, us.length, rfl, len_s hs rfl, _, _, rfl, rfl, _, rfl, ?_⟩
  refine if_dec (fun h1 => ?_) (fun h1 => ?_)
  · exact ⟨.int 12, rfl, fun dd H' e hd => q2 12 (if_pos (by omega)) dd H' e hd⟩
  have h12 : ds.length ≤ 12 := by omega
  have eErr : rulesErr ds = badAt [] 0 ds := if_neg (by omega)
  refine ⟨(by show 0 ≤ sizeLine; decide), fun n hn => ?_⟩
  have e0 := same_new hn (.lst [])
  refine ⟨_, rfl, for_enumS hs e0 (fun i σ H' => ∃ (seen : List Str) (o2 o3 : Option V), σ = [some (.ref a), some (.ref n), o2, o3] ∧ Same H H' ∧ H' n = some (.lst (seen.map V.str)) ∧ (∀ z ∈ seen, isNameS z = true) ∧ seen.length ≤ i ∧ badAt [] 0 ds = badAt seen i (ds.drop i))
    ⟨[], none, none, rfl, e0, upd_same, (fun z h => by cases h), Nat.le_refl _, rfl⟩ (fun i σ H' _ ⟨_, _, _, _, e, _⟩ => e) ?_ ?_⟩
  · rintro i x σ H1 t hx ⟨seen, o2, o3, rfl, e, hn1, hsn, hsl, eb⟩ ht
    have hi : i < ds.length := by
      have := (List.getElem?_eq_some_iff.mp hx).1
      omega
    obtain ⟨d, hd⟩ : ∃ d, ds[i]? = some d := ⟨ds[i], by simp [hi]⟩
    have e2 := same_new ht (.tup [.int (i : Nat), x])
    obtain ⟨r1, r2, r3⟩ := ((hu i x d hx hd).up (e.trans e2))
    have hn2 := e2 _ _ hn1
    rw [badAt_step hd] at eb
    refine ⟨t, [.int (i : Nat), x], rfl, SqT.of upd_same, rfl, _, _, rfl, _, _, rfl, rfl, ?_⟩
    refine ⟨_, rfl, x, d, rfl, r1, r2.ok, fun H3 e3 => ⟨_, rfl, ?_⟩⟩
    have eA := e.trans (e2.trans e3)
    refine if_nb (fun h1 => ?_) (fun h1 => ?_)
    · rw [if_neg (fun q => by rw [h1] at q; cases q.1)] at eb
      exact ⟨_, rfl, _, rfl, fun dd H4 e4 hdd => q2 i (eErr.trans eb) dd H4 (eA.trans e4) hdd⟩
    obtain ⟨nm, l, r, rfl, hnm⟩ := rule_shape h1
    obtain ⟨r4, _⟩ := r3 h1
    cases r4.up (Same.T e3) with
    | @tup ta txs _ hta htx =>
    cases htx with
    | @cons vn _ _ _ hvn _ =>
    cases hvn
    refine ⟨_, rfl, ta, _, _, _, rfl, rfl, hta.sqT, at0, _, rfl, .str nm, seen.map PyData.str, .str nm, .inl (.lst (SqL.of (e3 _ _ hn2)) (tp_strs seen)), (name_nice hnm).sh (by decide), (strs_nice (by omega) hsn).sh (by decide), ?_⟩
    rw [any_str]
    refine ⟨_, rfl, ?_⟩
    refine if_bb (b := decide (nm ∈ seen)) rfl (fun h2 => ?_) (fun h2 => ?_)
    · rw [if_neg (fun q => q.2 (of_decide_eq_true h2))] at eb
      exact ⟨_, rfl, _, rfl, fun dd H4 e4 hdd => q2 i (eErr.trans eb) dd H4 (eA.trans e4) hdd⟩
    · rw [if_pos ⟨h1, of_decide_eq_false h2⟩] at eb
      refine ⟨_, rfl, .inl ⟨rfl, _, SqL.of (e3 _ _ hn2)⟩, _, rfl, ta, _, _, _, rfl, rfl, hta.sqT, at0, n, _, _, rfl, rfl, e3 _ _ hn2, ?_, ?_⟩
      · rw [List.length_map]
        exact lt_line (by omega)
      · refine ⟨seen ++ [nm], _, _, rfl, fun b u hb => ?_, ?_, ?_, ?_, eb⟩
        · rw [upd_ne (ne_of_none hb hn)]
          exact eA _ _ hb
        · rw [List.map_append]
          exact upd_same
        · intro z hz
          rcases List.mem_append.mp hz with hz | hz
          · exact hsn z hz
          · rw [List.mem_singleton.mp hz]
            exact hnm
        · rw [List.length_append, List.length_singleton]
          omega
  · rintro σ H1 ⟨seen, o2, o3, rfl, e, hn1, hsn, hsl, eb⟩
    rw [hul, List.drop_eq_nil_of_le (Nat.le_refl _)] at eb
    exact q1 (eErr.trans eb) H1 e
end
end FF
/-! pairs_in, checked_words, vocabulary -/
namespace FF
open PySem PySem.Spec PyProof.Rows L2
theorem g3_mono {K : PySem.W.Frag} {i j k : Nat} {σ : L2.St} : ∀ (x : V) (H2 : Hp) (A B : L2.St → Hp → Prop), (∀ σ H, A σ H → B σ H) → gTup K 3 (gCons (gName i) (gCons (gName j) (gCons (gName k) gNil))) x σ H2 A → gTup K 3 (gCons (gName i) (gCons (gName j) (gCons (gName k) gNil))) x σ H2 B := by
  rintro x H2 A B f ⟨a, xs, e, h, l, v1, r1, e1, v2, r2, e2, v3, r3, e3, e4, q⟩
  exact ⟨a, xs, e, h, l, v1, r1, e1, v2, r2, e2, v3, r3, e3, e4, f _ _ q⟩
theorem goal_len (g : PyData) : (goalPart g).length ≤ 1 := by
  unfold goalPart
  split
  · exact Nat.le_refl 1
  · exact Nat.zero_le 1
theorem prs_len (ds : List PyData) (g : PyData) : (prsOf ds g).length ≤ ds.length + 1 := by
  unfold prsOf
  rw [List.length_append, List.length_map]
  have := goal_len g
  omega
theorem prs_ok {K : PySem.W.Frag} {H : Hp} {v gv : V} {ds : List PyData} {g : PyData} (hR : RulesV K H v ds) (h1 : ∀ d ∈ ds, isRuleD d = true) (h2 : ds.length ≤ 12) (hG : GoalV K H gv g) (hg : isNoneD g = true ∨ isGoalD g = true) : PrOk (prsOf ds g) := by
  refine ⟨by have := prs_len ds g; omega, fun p hp => ?_⟩
  rcases List.mem_append.mp hp with hp | hp
  · obtain ⟨d, hd, rfl⟩ := List.mem_map.mp hp
    obtain ⟨a, us, _, _, hl, hu⟩ := hR.ex
    obtain ⟨i, hi⟩ := List.getElem?_of_mem hd
    have hlt : i < us.length := by
      have := (List.getElem?_eq_some_iff.mp hi).1
      omega
    exact ((hu i us[i] d (by simp [hlt]) hi).2.2 (h1 d hd)).2
  · rcases hg with hg | hg
    · match g, hg with
      | .none, _ => cases hp
    · exact (hG.2.2 hg).2 p hp
section
variable {P : Program} {w : World} {K : PySem.W.Frag} {mg : Str → Option Value} {base : Heap}
theorem ok_pairs_in {f : Addr} {fd : FuncData} (F : FunD K "pairs_in" "pairs_in" (defArgs s_pairs_in) (defBody s_pairs_in) (defScope s_pairs_in) [] [] f fd) (hm : mg "pairs_in" = some (.ref f)) (T : Top K mg) : Def P w K mg base "pairs_in" 1 ["rules", "goal"] (spPairsIn K) := by
  refine def_mk F hm (F.bindsN fun _ _ _ _ _ _ us hl => match us, hl with | [_, _], _ => rfl) sc_pairs_in (fun vs H Q E h => ?_) (fun cdv A outer s H vs Q E hr h => ?_)
  · obtain ⟨v, gv, ds, g, rfl, _⟩ := h
    rfl
  obtain ⟨v, gv, ds, g, rfl, hR, h1, h2, hG, hg, q⟩ := h
  obtain ⟨a, us, rfl, hs, hul, hu⟩ := hR.ex
  refine ⟨_, (pss_one (ps_ret (pe_op op_cat (pe_lc (own := [("name", 2), ("left", 3), ("right", 4)]) rfl sc_pairs_in.nd (pi_seqK K (pv 0)) (blkOk_by (by kernel_rfl)) (fun _ _ _ _ _ => (pg_tupK K (n := 3) rfl (pgs_cons (pg_name (i := 2) sc_pairs_in.nd rfl (Or.inl rfl) (.inr rfl)) (pgs_cons (pg_name (i := 3) sc_pairs_in.nd rfl (Or.inl rfl) (.inr rfl)) (pgs_cons (pg_name (i := 4) sc_pairs_in.nd rfl (Or.inl rfl) (.inr rfl)) pgs_nil))))) (fun _ _ _ _ _ => pts_nil) (fun _ _ _ _ _ => (pe_tup (pa_cons (pv 3) (pa_cons (pv 4) pa_nil))))) (pe_ifExp (pt_cmp (pc_notN (pv 1)) (by rfl)) (pe_lst (pa_cons (pv 1) pa_nil)) (pe_lst pa_nil))))), ?_⟩
  refine ⟨_, rfl, lc_mapS (fun i y H' => ∃ d, ds[i]? = some d ∧ Tp K H' y (.tuple [(pairOf d).1, (pairOf d).2])) (fun i y H1 H2 e ⟨d, h1, h2⟩ => ⟨d, h1, h2.up e⟩) hs (le_line (by omega)) ?_ g3_mono ?_⟩
  · intro i x H2 hx e Q' k'
    have hi : i < ds.length := by
      have := (List.getElem?_eq_some_iff.mp hx).1
      omega
    obtain ⟨d, hd⟩ : ∃ d, ds[i]? = some d := ⟨ds[i], by simp [hi]⟩
    have hrd := h1 d (List.mem_of_getElem? hd)
    obtain ⟨nm, l, r, rfl, hnm⟩ := rule_shape hrd
    obtain ⟨r4, _⟩ := ((hu i x _ hx hd).up e).2.2 hrd
    cases r4 with
    | @tup ta txs _ hta htx =>
    cases htx with
    | @cons vn _ _ _ hvn htx =>
    cases htx with
    | @cons vl _ _ _ hvl htx =>
    cases htx with
    | @cons vr _ _ _ hvr htx =>
    cases htx
    refine ⟨ta, [vn, vl, vr], rfl, hta.sqT, rfl, vn, _, rfl, vl, _, rfl, vr, _, rfl, rfl, rfl, ?_⟩
    refine ⟨_, rfl, _, rfl, (by show 2 ≤ sizeLine; decide), fun t ht => k' _ _ (same_new ht _) ⟨_, hd, ?_⟩⟩
    have e3 := Same.T (same_new ht (.tup [vl, vr]))
    exact .tup (.inl upd_same) (.cons (hvl.up e3) (.cons (hvr.up e3) .nil))
  intro H2 D ys e2 hD h3 h4 h5
  have hG2 := hG.up e2
  have hys : TpAll K H2 ys (prD (ds.map pairOf)) := TpAll.of_get (by unfold prD; rw [List.length_map, List.length_map, h4, hul]) fun i v d hi hd => by
    obtain ⟨d0, h6, h7⟩ := h5 i v hi
    unfold prD at hd
    rw [List.getElem?_map, List.getElem?_map, h6] at hd
    cases hd
    exact h7
  have fin : ∀ (b : Addr) (zs : List V) (H3 : Hp), Same H2 H3 → H3 b = some (.lst zs) → TpAll K H3 zs (prD (goalPart g)) → rCat (.ref D) (.ref b) H3 Q := fun b zs H3 e3 hb hz => by
    refine ⟨D, b, ys, zs, rfl, rfl, e3 _ _ h3, hb, ?_, fun p hp => ?_⟩
    · have l1 := hz.len
      have l2 : (prD (goalPart g)).length ≤ 1 := by
        unfold prD
        rw [List.length_map]
        exact goal_len g
      exact le_line (by omega)
    · have e4 := same_new hp (.lst (ys ++ zs))
      refine q p _ _ (e2.trans (e3.trans e4)) (new_none (e2.trans e3) hp) upd_same ?_
      unfold prsOf prD
      rw [List.map_append]
      exact TpAll.app (hys.up ((Same.T e3).trans (Same.T e4))) (hz.up (Same.T e4))
  have e0 : ∀ {p : Addr} {o : HO}, H2 p = none → Same H2 (upd H2 p o) := fun h => same_new h _
  refine ⟨_, rfl, ?_⟩
  have hgd := hG2.1
  rcases hg with hg | hg
  · match g, hg with
    | .none, _ =>
    cases hgd
    refine ⟨_, rfl, iteF ⟨(by show 0 ≤ sizeLine; decide), fun p hp => fin p [] _ (e0 hp) upd_same .nil⟩⟩
  · obtain ⟨hgt, _⟩ := hG2.2.2 hg
    obtain ⟨l, r, rfl⟩ := goal_shape hg
    cases hgt with
    | tup ht ha =>
    refine ⟨_, rfl, iteT ⟨_, rfl, (by show 1 ≤ sizeLine; decide), fun p hp => fin p _ _ (e0 hp) upd_same (.cons ?_ .nil)⟩⟩
    exact (Tp.tup ht ha).up (Same.T (e0 hp))
theorem ok_checked {f : Addr} {fd : FuncData} (F : FunD K "checked_words" "checked_words" (defArgs s_checked_words) (defBody s_checked_words) (defScope s_checked_words) [] [] f fd) (hm : mg "checked_words" = some (.ref f)) (T : Top K mg)
    (D_need_list : DefX P w K mg base "need_list" 16 ["rules"] (spNeedList K)) (D_is_goal : Def P w K mg base "is_goal" 14 ["value"] (spGoal K)) (D_pairs_in : Def P w K mg base "pairs_in" 1 ["rules", "goal"] (spPairsIn K)) (D_words_of : Def P w K mg base "words_of" 10 ["pairs"] (spWordsOf K))
    (x_InvalidGoal : RaiseD P w K mg base "InvalidGoal" "FaultError" 2 "InvalidGoal") (x_TooManyTerms : RaiseD1 P w K mg base "TooManyTerms" "FaultError" 2 "TooManyTerms" "count") : DefX P w K mg base "checked_words" 17 ["rules", "goal"] (spChecked K) := by
  refine defx_mk F hm (F.bindsN fun _ _ _ _ _ _ us hl => match us, hl with | [_, _], _ => rfl) sc_checked_words (fun vs H Q E h => ?_) (fun cdv A outer s0 H vs Q E hr h tk => ?_)
  · obtain ⟨v, gv, ds, g, rfl, _⟩ := h
    rfl
  obtain ⟨v, gv, ds, g, rfl, hR, hG, q1, q2⟩ := h
  refine ⟨_, (pss_cons (ps_expr (pe_defx (E := E) D_need_list tk (fun _ _ _ _ h => h) hr (by first | decide | omega) (pa_cons (pv 0) pa_nil)))
  (pss_cons (ps_if (PW.pt (pw_and (pt_cmp (pc_notN (pv 1)) (by rfl)) (pw_and1 (pt_not (pt_val (pe_def D_is_goal hr (by first | decide | omega) (pa_cons (pv 1) pa_nil)))))))
  (pss_one (ps_raise rfl tk (pmk_raise x_InvalidGoal hr (by first | decide | omega))))
  pss_nil)
  (pss_cons (ps_set (i := 2) sc_checked_words.nd rfl (Or.inl rfl) (pe_def D_words_of hr (by first | decide | omega) (pa_cons (pe_def D_pairs_in hr (by first | decide | omega) (pa_cons (pv 0) (pa_cons (pv 1) pa_nil))) pa_nil)))
  (pss_cons (ps_if (pt_cmpR op_gt (pe_callB (call_lenK K) (by rfl) T.b_len (by decide +kernel) (pa_cons (pv 2) pa_nil)) (pe_gi T.g_MAX_TERMS) (nomark _))
  (pss_one (ps_raise rfl tk (pmk_raise1 x_TooManyTerms hr (by first | decide | omega) (pa_cons (pe_callB (call_lenK K) (by rfl) T.b_len (by decide +kernel) (pa_cons (pv 2) pa_nil)) pa_nil) (mono := by intro σ H Q Q' h q; first | exact h _ _ q | exact (let ⟨v, e, q⟩ := q; ⟨v, e, h _ _ q⟩) | exact (let ⟨v, e, x, n, e2, h2, q⟩ := q; ⟨v, e, x, n, e2, h2, h _ _ q⟩) | exact (let ⟨v, e, a, b, c, d, e1, e2, h1, h2, q⟩ := q; ⟨v, e, a, b, c, d, e1, e2, h1, h2, h _ _ q⟩)))))
  pss_nil)
  (pss_one (ps_ret (pv 2))))))), ?_⟩
  refine ⟨_, rfl, v, ds, rfl, hR, fun h1 H1 e1 => ?_, fun i h1 => q2 (.rules i) (by unfold checkD; rw [h1])⟩
  obtain ⟨h12, hall⟩ := rules_ok h1
  have eC : checkD ds g = if (!isNoneD g && !isGoalD g) = true then some .goal else if 24 < (vocD (prsOf ds g)).length then some (.terms (vocD (prsOf ds g)).length) else none := by
    unfold checkD
    rw [h1]
  have hR1 := hR.up e1
  have hG1 := hG.up e1
  have vnon : isNoneD g = true → gv = .non := fun h => by
    have h2 := hG.1
    cases g with
    | none =>
      cases h2
      rfl
    | _ => cases h
  have vnot : isNoneD g = false → decide (gv = .non) = false := fun h => by
    have h2 := hG.1
    refine decide_eq_false fun e => ?_
    subst e
    cases h2
    cases h
  refine ⟨_, rfl, _, rfl, ?_⟩
  by_cases hgood : isNoneD g = true ∨ isGoalD g = true
  · have eC2 : checkD ds g = if 24 < (vocD (prsOf ds g)).length then some (.terms (vocD (prsOf ds g)).length) else none := by
      rw [eC, if_neg]
      rcases hgood with h | h <;> rw [h] <;> simp
    by_cases hno : isNoneD g = true
    · have hv := vnon hno
      subst hv
      obtain ⟨H2, e2, hH2⟩ : ∃ H2, Same H H2 ∧ H2 = H1 := ⟨H1, e1, rfl⟩
      rw [← hH2]
      refine iteF (iteF ?_)
      refine ⟨_, rfl, _, rfl, v, .non, ds, g, rfl, hR.up e2, hall, h12, hG.up e2, hgood, fun r rs H3 e3 hn3 h4 h5 => ⟨r, rs, _, rfl, h4, h5, prs_ok hR hall h12 hG hgood, fun r2 rs2 H4 e4 hn4 h6 h7 => ?_⟩⟩
      have lr := h7.len
      have eA := e2.trans (e3.trans e4)
      refine ⟨_, rfl, _, rs2.length, rfl, .inl ⟨_, SqL.of h6, rfl⟩, _, _, rfl, rfl, _, rfl, ?_⟩
      refine if_dec (fun h8 => ?_) (fun h8 => ?_)
      · refine ⟨_, rfl, _, rs2.length, rfl, .inl ⟨_, SqL.of h6, rfl⟩, _, rfl, fun dd H5 e5 hd => ?_⟩
        have := q2 (.terms (vocD (prsOf ds g)).length) (by rw [eC2, if_pos (by omega)]) dd H5 (eA.trans e5)
        rw [← lr] at this
        exact this hd
      · exact ⟨_, rfl, q1 (by rw [eC2, if_neg (by omega)]) r2 rs2 H4 eA (new_none (e2.trans e3) hn4) h6 h7⟩
    · have hno : isNoneD g = false := by simpa using hno
      have hgg : isGoalD g = true := hgood.resolve_left (by rw [hno]; decide)
      rw [vnot hno]
      refine iteT ⟨_, rfl, gv, g, rfl, (hG.up e1).1, (hG.up e1).2.1.ok, fun H2 e2' => ⟨_, rfl, ?_⟩⟩
      rw [hgg]
      have e2 := e1.trans e2'
      refine iteF ?_
      refine ⟨_, rfl, _, rfl, v, gv, ds, g, rfl, hR.up e2, hall, h12, hG.up e2, hgood, fun r rs H3 e3 hn3 h4 h5 => ⟨r, rs, _, rfl, h4, h5, prs_ok hR hall h12 hG hgood, fun r2 rs2 H4 e4 hn4 h6 h7 => ?_⟩⟩
      have lr := h7.len
      have eA := e2.trans (e3.trans e4)
      refine ⟨_, rfl, _, rs2.length, rfl, .inl ⟨_, SqL.of h6, rfl⟩, _, _, rfl, rfl, _, rfl, ?_⟩
      refine if_dec (fun h8 => ?_) (fun h8 => ?_)
      · refine ⟨_, rfl, _, rs2.length, rfl, .inl ⟨_, SqL.of h6, rfl⟩, _, rfl, fun dd H5 e5 hd => ?_⟩
        have := q2 (.terms (vocD (prsOf ds g)).length) (by rw [eC2, if_pos (by omega)]) dd H5 (eA.trans e5)
        rw [← lr] at this
        exact this hd
      · exact ⟨_, rfl, q1 (by rw [eC2, if_neg (by omega)]) r2 rs2 H4 eA (new_none (e2.trans e3) hn4) h6 h7⟩
  · have hno : isNoneD g = false := by
      cases h : isNoneD g with
      | true => exact absurd (.inl h) hgood
      | false => rfl
    have hgg : isGoalD g = false := by
      cases h : isGoalD g with
      | true => exact absurd (.inr h) hgood
      | false => rfl
    rw [vnot hno]
    refine iteT ⟨_, rfl, gv, g, rfl, (hG.up e1).1, (hG.up e1).2.1.ok, fun H2 e2' => ⟨_, rfl, ?_⟩⟩
    rw [hgg]
    exact iteT fun dd H3 e3 ht => q2 .goal (by rw [eC, hno, hgg]; rfl) dd H3 ((e1.trans e2').trans e3) ht
end
end FF
/-! _law_names, told exactly: valid names, no two alike -/
namespace FF
open PySem PySem.Spec PyProof.Rows L2
theorem smallS_val : smallS.cps.toList = [97, 98, 99, 100, 101, 102, 103, 104, 105, 106, 107, 108, 109, 110, 111, 112, 113, 114, 115, 116, 117, 118, 119, 120, 121, 122] := by decide +kernel
theorem small_get : ∀ k : Nat, k < 26 → smallS.cps.toList[k]? = some (97 + k) := by
  rw [smallS_val]
  decide +kernel
theorem small_at {k : Nat} (h : k < 26) : atI smallS.cps.toList (k : Int) = some (97 + k) := atI_nat (small_get k h)
theorem sum_one {l : List Str} (h : ∀ z ∈ l, z.length = 1) : (l.map (·.length)).sum = l.length := by
  induction l with
  | nil => rfl
  | cons x l ih =>
    rw [List.map_cons, List.sum_cons, ih fun z hz => h z (List.mem_cons_of_mem _ hz), h x List.mem_cons_self, List.length_cons]
    omega
theorem join_one : ∀ l : List Nat, (Str.join ("" : Str) (l.map fun c => (⟨#[c]⟩ : Str))).cps.toList = l
  | [] => rfl
  | [x] => rfl
  | x :: y :: r => by
    show ((#[x] ++ ("" : Str).cps) ++ (Str.join ("" : Str) ((y :: r).map fun c => (⟨#[c]⟩ : Str))).cps).toList = _
    rw [Array.toList_append, Array.toList_append, join_one (y :: r)]
    rfl
theorem join_one_len : ∀ {l : List Str}, (∀ z ∈ l, z.length = 1) → (Str.join ("" : Str) l).length = l.length
  | [], _ => rfl
  | [x], h => h x List.mem_cons_self
  | x :: y :: r, h => by
    have e : (Str.join ("" : Str) (x :: y :: r)).length = x.length + 0 + (Str.join ("" : Str) (y :: r)).length := by
      show ((x.cps ++ ("" : Str).cps) ++ (Str.join ("" : Str) (y :: r)).cps).size = _
      rw [Array.size_append, Array.size_append]
      rfl
    rw [e, join_one_len (l := y :: r) fun z hz => h z (List.mem_cons_of_mem _ hz), h x List.mem_cons_self]
    simp only [List.length_cons]
    omega
/-- the letters of the i-th name -/
def nmL (f st n j i : Nat) : List Nat := (List.replicate n (97 + f)).set j (97 + (f + 1 + st * i) % 26)
def nmS (f st n j i : Nat) : Str := ⟨(nmL f st n j i).toArray⟩
def StepOk (st : Nat) : Prop := st = 1 ∨ st = 3 ∨ st = 5 ∨ st = 7 ∨ st = 9 ∨ st = 11 ∨ st = 15
theorem nm_inj {f st n j a b : Nat} (hs : StepOk st) (hj : j < n) (ha : a < 26) (hb : b < 26) (h : nmS f st n j a = nmS f st n j b) : a = b := by
  have h1 : nmL f st n j a = nmL f st n j b := by
    have := congrArg (fun z : Str => z.cps.toList) h
    simpa [nmS] using this
  have h2 := congrArg (fun l : List Nat => l[j]?) h1
  unfold nmL at h2
  simp only [List.getElem?_set_self', List.getElem?_replicate, hj, if_true, Option.map_some, Option.some.injEq] at h2
  have h3 : (f + 1 + st * a) % 26 = (f + 1 + st * b) % 26 := by
    simpa using h2
  rcases hs with rfl | rfl | rfl | rfl | rfl | rfl | rfl <;> omega
theorem nm_len {f st n j i : Nat} : (nmL f st n j i).length = n := by
  unfold nmL
  rw [List.length_set, List.length_replicate]
theorem nm_mem {f st n j i c : Nat} (hf : f < 26) (h : c ∈ nmL f st n j i) : 97 ≤ c ∧ c < 123 := by
  unfold nmL at h
  rcases List.mem_or_eq_of_mem_set h with h | h
  · have := (List.mem_replicate.mp h).2
    omega
  · have := Nat.mod_lt (f + 1 + st * i) (show 26 > 0 by decide)
    omega
theorem nm_name {f st n j i : Nat} (hf : f < 26) (h1 : 1 ≤ n) (h6 : n ≤ 6) : isNameS (nmS f st n j i) = true := by
  have hl : (nmS f st n j i).length = n := by
    show (nmL f st n j i).toArray.size = n
    rw [List.size_toArray, nm_len]
  unfold isNameS
  rw [hl, decide_eq_true (show (1 : Int) ≤ n by omega), decide_eq_true (show (n : Int) ≤ 6 by omega), Bool.true_and, Bool.true_and, List.all_eq_true]
  intro c hc
  have hc : c ∈ nmL f st n j i := by simpa [nmS] using hc
  obtain ⟨h2, h3⟩ := nm_mem hf hc
  refine decide_eq_true (List.mem_of_getElem? (i := c - 97) ?_)
  rw [small_get (c - 97) (by omega)]
  congr 1
  omega
theorem names_nodup {f st n j m : Nat} (hs : StepOk st) (hj : j < n) (hm : m ≤ 26) : ((List.range m).map (nmS f st n j)).Nodup := by
  refine List.pairwise_map.mpr ?_
  refine List.Pairwise.imp_of_mem (fun {a b} ha hb hab => ?_) (List.nodup_range)
  have ha := List.mem_range.mp ha
  have hb := List.mem_range.mp hb
  exact fun z => hab (nm_inj hs hj (by omega) (by omega) z)
/-- none of the names that the law puts in -/
def ZyN (z : Str) : Prop := z ≠ "zyxwvu" ∧ z ≠ "yxwvut" ∧ z ≠ "xwvuts"
theorem nm_six {f st n j i : Nat} (hj : j < n) {z : Str} {a b c d e k : Nat} (hz : z.cps.toList = [a, b, c, d, e, k]) (h01 : a ≠ b) (h02 : a ≠ c) (h12 : b ≠ c) : nmS f st n j i ≠ z := fun h => by
  have h1 : nmL f st n j i = [a, b, c, d, e, k] := by
    have := congrArg (fun z : Str => z.cps.toList) h
    rw [hz] at this
    simpa [nmS] using this
  have hn : n = 6 := by
    have := congrArg List.length h1
    rw [nm_len] at this
    exact this
  subst hn
  have at_ : ∀ m, m < 6 → m ≠ j → ([a, b, c, d, e, k] : List Nat)[m]? = some (97 + f) := fun m hm hmj => by
    rw [← h1]
    unfold nmL
    rw [List.getElem?_set_ne (Ne.symm hmj), List.getElem?_replicate, if_pos hm]
  by_cases h0 : j = 0
  · subst h0
    have a1 := Option.some.inj (at_ 1 (by decide) (by decide))
    have a2 := Option.some.inj (at_ 2 (by decide) (by decide))
    exact h12 (a1.trans a2.symm)
  · by_cases h1 : j = 1
    · subst h1
      have a1 := Option.some.inj (at_ 0 (by decide) (by decide))
      have a2 := Option.some.inj (at_ 2 (by decide) (by decide))
      exact h02 (a1.trans a2.symm)
    · have a1 := Option.some.inj (at_ 0 (by decide) (Ne.symm h0))
      have a2 := Option.some.inj (at_ 1 (by decide) (Ne.symm h1))
      exact h01 (a1.trans a2.symm)
theorem nm_zy {f st n j i : Nat} (hj : j < n) : ZyN (nmS f st n j i) :=
  ⟨nm_six hj (by decide +kernel : ("zyxwvu" : Str).cps.toList = [122, 121, 120, 119, 118, 117]) (by decide) (by decide) (by decide),
   nm_six hj (by decide +kernel : ("yxwvut" : Str).cps.toList = [121, 120, 119, 118, 117, 116]) (by decide) (by decide) (by decide),
   nm_six hj (by decide +kernel : ("xwvuts" : Str).cps.toList = [120, 119, 118, 117, 116, 115]) (by decide) (by decide) (by decide)⟩
def spNamesG (K : PySem.W.Frag) : Sp := fun vs H Q _ => ∃ (s : Addr) (m : Nat), vs = [.ref s, .int m] ∧ Src H s ∧ m ≤ 26 ∧ ∀ (r : Addr) (ss : List Str) H', Same H H' → H r = none → H' r = some (.lst (ss.map V.str)) → ss.length = m → (∀ z ∈ ss, isNameS z = true) → ss.Nodup → (∀ z ∈ ss, ZyN z) → Q (.ref r) H'
section
variable {P : Program} {w : World} {K : PySem.W.Frag} {mg : Str → Option Value} {base : Heap}
theorem ok_namesG {f : Addr} {fd : FuncData} (F : FunD K "_law_names" "_law_names" (defArgs s_law_names) (defBody s_law_names) (defScope s_law_names) [] [] f fd) (hm : mg "_law_names" = some (.ref f)) (T : Top K mg)
    (D_law_take : Def P w K mg base "_law_take" 1 ["_law_source_here", "_law_many"] spTake) (D_law_pick : Def P w K mg base "_law_pick" 2 ["_law_source_here", "_law_row"] (spPick K)) : Def P w K mg base "_law_names" 3 ["_law_source_here", "_law_many"] (spNamesG K) := by
  refine def_mk F hm (F.bindsN fun _ _ _ _ _ _ us hl => match us, hl with | [_, _], _ => rfl) sc_law_names (fun vs H Q E h => ?_) (fun cdv A outer s H vs Q E hr h => ?_)
  · obtain ⟨s, m, rfl, _⟩ := h
    rfl
  obtain ⟨s, m, rfl, hs, hm26, q⟩ := h
  refine ⟨_, (pss_cons (ps_set (i := 2) sc_law_names.nd rfl (Or.inl rfl) pe_str)
  (pss_cons (ps_set (i := 3) sc_law_names.nd rfl (Or.inl rfl) (pe_op op_add pe_int (pe_def D_law_take hr (by first | decide | omega) (pa_cons (pv 0) (pa_cons pe_int pa_nil)))))
  (pss_cons (ps_set (i := 4) sc_law_names.nd rfl (Or.inl rfl) (pe_def D_law_take hr (by first | decide | omega) (pa_cons (pv 0) (pa_cons (pv 3) pa_nil))))
  (pss_cons (ps_set (i := 5) sc_law_names.nd rfl (Or.inl rfl) (pe_def D_law_take hr (by first | decide | omega) (pa_cons (pv 0) (pa_cons pe_int pa_nil))))
  (pss_cons (ps_set (i := 6) sc_law_names.nd rfl (Or.inl rfl) (pe_def D_law_pick hr (by first | decide | omega) (pa_cons (pv 0) (pa_cons (pe_lst (pa_cons pe_int (pa_cons pe_int (pa_cons pe_int (pa_cons pe_int (pa_cons pe_int (pa_cons pe_int (pa_cons pe_int pa_nil)))))))) pa_nil))))
  (pss_cons (ps_set (i := 7) sc_law_names.nd rfl (Or.inl rfl) (pe_lst pa_nil))
  (pss_cons (ps_for PassesOwn.never rfl (pi_range1 (by rfl) T.b_range (pa_cons (pv 1) pa_nil)) (pg_name (i := 8) sc_law_names.nd rfl (Or.inl rfl) (.inl rfl))
  (pss_cons (ps_set (i := 9) sc_law_names.nd rfl (Or.inl rfl) (pe_op op_rep (pe_lst (pa_cons (pe_ix ix_str (pv 2) (pv 5) (fun _ _ => rfl)) pa_nil)) (pv 3)))
  (pss_cons (ps_asg (pe_ix ix_str (pv 2) (pe_op op_mod (pe_callTy call_int1 (by rfl) T.b_int (by decide +kernel) (pa_cons (pe_op op_add (pe_op op_add (pv 5) pe_int) (pe_op op_mul (pv 6) (pv 8))) pa_nil)) pe_int) (fun _ _ => rfl)) (pg_sub (pv 9) (pv 4) set_list))
  (pss_one (ps_expr (pe_bmK K PySem.F.plainAttrs_list PySem.F.slot_list_append PySem.F.type_list_append mt_append (pv 7) (pa_cons (pe_joinK K pe_str (pv 9)) pa_nil)))))))
  (pss_one (ps_ret (pv 7)))))))))), ?_⟩
  refine ⟨_, rfl, s, 6, rfl, by omega, by omega, hs, fun n n0 n1 => ⟨_, _, rfl, rfl, ?_⟩⟩
  refine ⟨_, rfl, _, rfl, s, _, rfl, by omega, by omega, hs, fun at_ a0 a1 => ?_⟩
  refine ⟨_, rfl, s, 26, rfl, by omega, by omega, hs, fun fi f0 f1 => ?_⟩
  refine ⟨_, rfl, (by show 7 ≤ sizeLine; decide), fun p1 hp1 => ?_⟩
  have e1 := same_new hp1 (.lst [.int 1, .int 3, .int 5, .int 7, .int 9, .int 11, .int 15])
  refine ⟨s, p1, _, rfl, hs.up e1, SqL.of upd_same, by simp, by simp, fun v hv => ?_⟩
  obtain ⟨st, rfl, hst⟩ : ∃ st : Nat, v = .int st ∧ StepOk st := by
    simp only [List.mem_cons, List.not_mem_nil, or_false] at hv
    rcases hv with rfl | rfl | rfl | rfl | rfl | rfl | rfl
    · exact ⟨1, rfl, .inl rfl⟩
    · exact ⟨3, rfl, .inr (.inl rfl)⟩
    · exact ⟨5, rfl, .inr (.inr (.inl rfl))⟩
    · exact ⟨7, rfl, .inr (.inr (.inr (.inl rfl)))⟩
    · exact ⟨9, rfl, .inr (.inr (.inr (.inr (.inl rfl))))⟩
    · exact ⟨11, rfl, .inr (.inr (.inr (.inr (.inr (.inl rfl)))))⟩
    · exact ⟨15, rfl, .inr (.inr (.inr (.inr (.inr (.inr rfl)))))⟩
  obtain ⟨f, rfl⟩ : ∃ f : Nat, fi = (f : Int) := ⟨fi.toNat, by omega⟩
  obtain ⟨j, rfl⟩ : ∃ j : Nat, at_ = (j : Int) := ⟨at_.toNat, by omega⟩
  refine ⟨(by show 0 ≤ sizeLine; decide), fun p2 hp2 => ?_⟩
  have e2 := e1.trans (same_new hp2 (.lst []))
  refine ⟨_, rfl, m, rfl, by omega, by omega, ?_⟩
  refine for_range (lo := 0) (n := m) (fun i σ H' => ∃ (ss : List Str) (o8 o9 : Option V), σ = [some (.ref s), some (.int m), some (.str smallS), some (.int (1 + n)), some (.int j), some (.int f), some (.int st), some (.ref p2), o8, o9] ∧ Same H H' ∧ H' p2 = some (.lst (ss.map V.str)) ∧ ss = (List.range i).map (nmS f st (1 + n).toNat j))
    ⟨[], none, none, rfl, e2, upd_same, rfl⟩ ?_ ?_
  · rintro i σ H1 hi ⟨ss, o8, o9, rfl, e, hp, hss⟩
    have hzl : smallS.length ≤ sizeLine := by decide +kernel
    have hl : ss.length = i := by rw [hss, List.length_map, List.length_range]
    obtain ⟨c1, hc1e⟩ : ∃ c1, c1 = 97 + f := ⟨_, rfl⟩
    have hc1 : atI smallS.cps.toList (f : Int) = some c1 := by rw [hc1e]; exact small_at (by omega)
    refine ⟨_, rfl, _, rfl, smallS, (f : Int), c1, rfl, rfl, hzl, hc1, (by show 1 ≤ sizeLine; decide), fun p3 hp3 => ?_⟩
    have e3 := same_new hp3 (.lst [.str ⟨#[c1]⟩])
    refine ⟨_, rfl, p3, 1 + n, _, rfl, rfl, upd_same, by omega, by omega, le_line (by show 1 * (1 + n).toNat ≤ 20000; omega), fun p4 hp4 => ?_⟩
    have e4 := same_new hp4 (.lst (List.replicate (1 + n).toNat [V.str ⟨#[c1]⟩]).flatten)
    have hp44 : upd (upd H1 p3 (.lst [.str ⟨#[c1]⟩])) p4 (.lst (List.replicate (1 + n).toNat [V.str ⟨#[c1]⟩]).flatten) p4 = some (.lst ((List.replicate (1 + n).toNat (⟨#[c1]⟩ : Str)).map V.str)) := by
      rw [upd_same, List.map_replicate]
      congr 2
      generalize (1 + n).toNat = k
      induction k with
      | zero => rfl
      | succ k ih => rw [List.replicate_succ, List.flatten_cons, ih, List.replicate_succ]; rfl
    have eA := e3.trans e4
    have hpA := eA _ _ hp
    have eAll := e.trans eA
    have hp4n := new_none (e.trans e3) hp4
    generalize upd (upd H1 p3 (.lst [.str ⟨#[c1]⟩])) p4 (.lst (List.replicate (1 + n).toNat [V.str ⟨#[c1]⟩]).flatten) = H4 at hp44 hpA eAll ⊢
    have hmod : ((f : Int) + 1 + st * (0 + (i : Int))) % 26 = (((f + 1 + st * i) % 26 : Nat) : Int) := by
      rw [Int.zero_add]
      push_cast
      rfl
    have hmod0 : 0 ≤ ((f : Int) + 1 + st * (0 + (i : Int))) % 26 ∧ ((f : Int) + 1 + st * (0 + (i : Int))) % 26 < 26 := ⟨Int.emod_nonneg _ (by decide), Int.emod_lt_of_pos _ (by decide)⟩
    have hst15 : st ≤ 15 := by rcases hst with rfl | rfl | rfl | rfl | rfl | rfl | rfl <;> decide
    have hsti : (st : Int) * (0 + (i : Int)) = ((st * i : Nat) : Int) := by rw [Int.zero_add]; push_cast; rfl
    have hsti2 : st * i ≤ 15 * 26 := Nat.mul_le_mul hst15 (by omega)
    obtain ⟨c2, hc2e⟩ : ∃ c2, c2 = 97 + (f + 1 + st * i) % 26 := ⟨_, rfl⟩
    have hc2 : atI smallS.cps.toList (((f : Int) + 1 + st * (0 + (i : Int))) % 26) = some c2 := by
      rw [hmod, hc2e]
      exact small_at (Nat.mod_lt _ (by decide))
    refine ⟨_, rfl, _, rfl, _, _, rfl, rfl, _, rfl, _, rfl, _, _, rfl, rfl, .inl ⟨by omega, by omega⟩, _, _, rfl, rfl, .inl ⟨_, rfl, ?_⟩⟩
    have hj : j < (1 + n).toNat := by omega
    have hix : ixN ((List.replicate (1 + n).toNat (⟨#[c1]⟩ : Str)).map V.str).length (j : Int) = some j := by
      rw [List.length_map, List.length_replicate]
      unfold ixN
      rw [if_pos (by omega), if_pos (by omega)]
      rfl
    have hset : ((List.replicate (1 + n).toNat (⟨#[c1]⟩ : Str)).map V.str).set j (.str ⟨#[c2]⟩) = ((List.replicate (1 + n).toNat (⟨#[c1]⟩ : Str)).set j ⟨#[c2]⟩).map V.str := by
      rw [List.map_set]
    have hone : ∀ z ∈ (List.replicate (1 + n).toNat (⟨#[c1]⟩ : Str)).set j ⟨#[c2]⟩, z = ⟨#[c1]⟩ ∨ z = ⟨#[c2]⟩ := fun z hz => by
      rcases List.mem_or_eq_of_mem_set hz with h | h
      · exact .inl (List.mem_replicate.mp h).2
      · exact .inr h
    refine ⟨_, _, rfl, rfl, (by show (0 : Int) < 26; decide), smallS, _, c2, rfl, rfl, hzl, hc2, _, rfl, _, rfl, p4, _, _, j, rfl, rfl, hp44, hix, ?_⟩
    rw [hset]
    have hl4 : ((List.replicate (1 + n).toNat (⟨#[c1]⟩ : Str)).set j ⟨#[c2]⟩).length = (1 + n).toNat := by
      rw [List.length_set, List.length_replicate]
    have hzs : (List.replicate (1 + n).toNat (⟨#[c1]⟩ : Str)).set j ⟨#[c2]⟩ = (nmL f st (1 + n).toNat j i).map fun c => (⟨#[c]⟩ : Str) := by
      unfold nmL
      rw [List.map_set, List.map_replicate, hc1e, hc2e]
    generalize (List.replicate (1 + n).toNat (⟨#[c1]⟩ : Str)).set j ⟨#[c2]⟩ = zs at hone hl4 hzs ⊢
    have p24 : p2 ≠ p4 := fun z => by
      have hA := e3 _ _ hp
      rw [z, hp4] at hA
      cases hA
    have hpB : upd H4 p4 (.lst (zs.map V.str)) p2 = some (.lst (ss.map V.str)) := by
      rw [upd_ne p24]
      exact hpA
    have z1 : ∀ z ∈ zs, z.length = 1 := fun z hz => by rcases hone z hz with rfl | rfl <;> rfl
    have jl : (Txt.join ("" : Str) zs).length = zs.length := by
      rw [TL.join_eq]
      exact join_one_len z1
    refine ⟨_, rfl, .inl ⟨rfl, _, SqL.of hpB⟩, ⟨_, rfl⟩, _, rfl, ("" : Str), p4, zs, rfl, rfl, .inl (SqL.of upd_same), ?_, p2, _, _, rfl, rfl, hpB, ?_, ?_⟩
    · rw [sum_one z1, show ("" : Str).length = 0 from rfl]
      omega
    · rw [List.length_map]
      exact lt_line (by omega)
    · refine ⟨ss ++ [Txt.join ("" : Str) zs], _, _, rfl, fun b u hb => ?_, ?_, ?_⟩
      · rw [upd_ne (ne_of_none hb (new_none e1 hp2)), upd_ne (ne_of_none hb hp4n)]
        exact eAll _ _ hb
      · rw [upd_same, List.map_append] <;> rfl
      · rw [List.range_succ, List.map_append, hss, TL.join_eq, hzs]
        congr 1
        show [_] = [nmS f st (1 + n).toNat j i]
        congr 1
        have hj1 := join_one (nmL f st (1 + n).toNat j i)
        unfold nmS
        cases hx : Str.join ("" : Str) ((nmL f st (1 + n).toNat j i).map fun c => (⟨#[c]⟩ : Str)) with
        | mk cps =>
          rw [hx] at hj1
          rw [← hj1]
  · rintro σ H' ⟨ss, o8, o9, rfl, e, hp, hss⟩
    refine ⟨_, rfl, q p2 ss H' e (new_none e1 hp2) hp (by rw [hss, List.length_map, List.length_range]) (fun z hz => ?_) (by rw [hss]; exact names_nodup hst (by omega) hm26) (fun z hz => ?_)⟩
    · rw [hss] at hz
      obtain ⟨i, hi, rfl⟩ := List.mem_map.mp hz
      exact nm_name (by omega) (by omega) (by omega)
    · rw [hss] at hz
      obtain ⟨i, hi, rfl⟩ := List.mem_map.mp hz
      exact nm_zy (by omega)
end
end FF
/-! check_rules -/
namespace FF
open PySem PySem.Spec PyProof.Rows L2
section
variable {K : PySem.W.Frag} {x qual : Str} {params : Arguments} {body : List Stmt} {scope : Scope} {dvs : List V} {kws : List (Str × V)} {f : Addr} {fd : FuncData} {ps : List Str}
end

def spCheck (K : PySem.W.Frag) : Sp := fun vs H Q E => ∃ (v gv : V) (ds : List PyData) (g : PyData), vs = [v, gv] ∧ RulesV K H v ds ∧ GoalV K H gv g ∧
  (checkD ds g = none → ∀ H', Same H H' → Q .non H') ∧ ∀ e, checkD ds g = some e → ErrOf K H E e
section
variable {P : Program} {w : World} {K : PySem.W.Frag} {mg : Str → Option Value} {base : Heap}
theorem fn_check_rules {f : Addr} {fd : FuncData} (F : FunD K "check_rules" "check_rules" (defArgs s_check_rules) (defBody s_check_rules) (defScope s_check_rules) [.non] [] f fd) (T : Top K mg)
    (D_checked_words : DefX P w K mg base "checked_words" 17 ["rules", "goal"] (spChecked K)) : FnOk P w K mg base (L2.CX P w) 18 f fd ["rules", "goal"] (spCheck K) := by
  refine FunD.ok F sc_check_rules (fun vs H Q E h => ?_) (fun cdv A outer s0 H vs Q E hr h => ?_)
  · obtain ⟨v, gv, ds, g, rfl, _⟩ := h
    rfl
  have tk : Takes (cxOf (L2.CX P w) P w K mg base ["rules", "goal"] "check_rules" (defScope s_check_rules) f cdv A outer s0 H E) fun cls d _ H => E cls d H := takes_of rfl rfl rfl rfl
  obtain ⟨v, gv, ds, g, rfl, h1, h2, q0, q1⟩ := h
  exact ⟨_, (pss_one (ps_expr (pe_defx (E := E) D_checked_words tk (fun _ _ _ _ h => h) hr (by first | decide | omega) (pa_cons (pv 0) (pa_cons (pv 1) pa_nil))))), _, rfl, _, rfl, v, gv, ds, g, rfl, h1, h2, fun h r rs H' e _ _ _ => q0 h H' e, q1⟩
theorem bind_chk2 {f : Addr} {fd : FuncData} (F : FunD K "check_rules" "check_rules" (defArgs s_check_rules) (defBody s_check_rules) (defScope s_check_rules) [.non] [] f fd) : Binds K fd ["rules", "goal"] [] := by
  obtain ⟨ds, h1, h2⟩ := F.binds1 (ps := ["rules", "goal"]) 2 1 (by simp) rfl fun T kV doc pm an cdv ct us its l1 l2 => match us, its, l1, l2 with
    | [_, _], [_], _, _ => ⟨_, rfl, rfl⟩
  cases h1
  exact h2
end
section
variable {K : PySem.W.Frag}
theorem bind_chk1 {f : Addr} {fd : FuncData} (F : FunD K "check_rules" "check_rules" (defArgs s_check_rules) (defBody s_check_rules) (defScope s_check_rules) [.non] [] f fd) : ∃ ds, Vals [.non] ds ∧ Binds K fd ["rules", "goal"] ds :=
  F.binds1 (ps := ["rules", "goal"]) 1 0 (by simp) rfl fun T kV doc pm an cdv ct us its l1 l2 => match us, its, l1, l2 with
    | [_], [_], _, _ => ⟨_, rfl, rfl⟩
end
end FF
namespace FF
open PySem PySem.Spec PyProof.Rows L2
def spNeed (K : PySem.W.Frag) : Sp := fun vs H Q E => ∃ (v : V) (d : PyData), vs = [v] ∧ Dp K H v d ∧ nice d = true ∧ (fitsB d = true → ∀ H', Same H H' → Q .non H') ∧
  (fitsB d = false → ∀ dd H', Same H H' → Thr ("InvalidTerm" : Str) dd H' → E (.ref (He.ga K "InvalidTerm")) dd H')
section
variable {P : Program} {w : World} {K : PySem.W.Frag} {mg : Str → Option Value} {base : Heap}
theorem ok_need_term {f fT : Addr} {fd fdT : FuncData} (F : FunD K "need_term" "need_term" (defArgs s_need_term) (defBody s_need_term) (defScope s_need_term) [] [] f fd) (hm : mg "need_term" = some (.ref f)) (T : Top K mg)
    (FT0 : FunD K "is_term" "is_term" (defArgs s_is_term) (defBody s_is_term) (defScope s_is_term) [] [("max_depth", .int 5), ("max_size", .int 24)] fT fdT) (hmT : mg "is_term" = some (.ref fT)) (FT : FnOk P w K mg base CX0 13 fT fdT ["value", "max_depth", "max_size"] (spIsTerm K))
    (x_InvalidTerm : RaiseD P w K mg base "InvalidTerm" "FaultError" 2 "InvalidTerm") : DefX P w K mg base "need_term" 14 ["value"] (spNeed K) := by
  obtain ⟨da, va, ba⟩ := bind_a FT0
  refine defx_mk F hm (F.bindsN fun _ _ _ _ _ _ us hl => match us, hl with | [_], _ => rfl) sc_need_term (fun vs H Q E h => ?_) (fun cdv A outer s0 H vs Q E hr h tk => ?_)
  · obtain ⟨v, d, rfl, _⟩ := h
    rfl
  obtain ⟨v, d, rfl, hd, hn, q1, q2⟩ := h
  refine ⟨_, (pss_one (ps_if (pt_not (pt_val (pe_call FT (hr.mono (by decide)) rfl hmT FT0.kp ba va pass0 (pa_cons (pv 0) pa_nil))))
  (pss_one (ps_raise rfl tk (pmk_raise x_InvalidTerm hr (by first | decide | omega))))
  pss_nil)), ?_⟩
  refine ⟨_, rfl, v, d, 5, 24, rfl, hd, hn, by decide, fun H1 e1 => ⟨_, rfl, ?_⟩⟩
  refine if_nb (fun h1 => ?_) (fun h1 => ?_)
  · exact fun dd H2 e2 ht => q2 h1 dd H2 (e1.trans e2) ht
  · exact q1 h1 H1 e1
end
end FF
/-! _law_same: data, dicts of bools, lists of both (the same on both sides) -/
namespace FF
open PySem PySem.Spec PyProof.Rows L2
theorem dp_strsC {K : PySem.W.Frag} {H : Hp} : ∀ zs : List Str, DpAll K H (zs.map V.str) (zs.map PyData.str)
  | [] => .nil
  | _ :: r => .cons (.str _) (dp_strsC r)
theorem lets_niceC {zs : List Str} (h : ∀ z ∈ zs, isLetS z = true) (hl : zs.length ≤ 1000) : Nice 1 (.list (zs.map PyData.str)) := Nice.list (by rw [List.length_map]; omega) fun d hd => by
  obtain ⟨z, hz, rfl⟩ := List.mem_map.mp hd
  exact ⟨let_nice (h z hz), by rw [PyData.depth]; exact Nat.le_refl _⟩
theorem lock_sameC {H H2 : Hp} {c : Addr} {u : HO} {od : Obj} (hc : H c = some u) (e : Same (upd H c (.frz od u)) H2) : Same H (upd H2 c u) := fun x o hx => by
  by_cases h : x = c
  · subst h
    rw [upd_same]
    exact hc.symm.trans hx
  · rw [upd_ne h]
    exact e x o (by rw [upd_ne h]; exact hx)
/-- a dict of letters with truth values -/
structure BoolK (kvs : List (Key × V)) : Prop where
  keys : ∃ ks : List Str, kvs.map (·.1) = ks.map Sum.inr ∧ (∀ z ∈ ks, isLetS z = true) ∧ ks.Nodup
  vals : ∀ p ∈ kvs, ∃ b, p.2 = V.bl b
  few : kvs.length ≤ 900
theorem boolK_sorted {ks ys ys' : List Str} (h1 : ys.Perm ks) (h2 : ys'.Perm ks) (s1 : sortedS ys = true) (s2 : sortedS ys' = true) : ys = ys' := (sort_eq h1 s1).trans (sort_eq h2 s2).symm
def SmD (H : Hp) (n : Nat) (v v' : V) : Prop := 2 ≤ n ∧ ∃ (c c' : Addr) (kvs : List (Key × V)), v = .ref c ∧ v' = .ref c' ∧ H c = some (.dK kvs) ∧ H c' = some (.dK kvs) ∧ BoolK kvs
def SmV (K : PySem.W.Frag) (H : Hp) (n : Nat) (v v' : V) : Prop := (∃ d, Dp K H v d ∧ Dp K H v' d ∧ nice d = true ∧ d.depth < n) ∨ SmD H n v v' ∨
  (1 ≤ n ∧ ∃ (a a' : Addr) (xs ys : List V), v = .ref a ∧ v' = .ref a' ∧ H a = some (.lst xs) ∧ H a' = some (.lst ys) ∧ xs.length = ys.length ∧ xs.length ≤ 9000 ∧ ∀ (i : Nat) (x y : V), xs[i]? = some x → ys[i]? = some y → (∃ d, Dp K H x d ∧ Dp K H y d ∧ nice d = true ∧ d.depth + 1 < n) ∨ SmD H (n - 1) x y)
def spSameV (K : PySem.W.Frag) (n : Nat) : Sp := fun vs H Q _ => ∃ (v v' : V), vs = [v, v'] ∧ SmV K H n v v' ∧ n ≤ 60 ∧ ∀ H', Same H H' → Q (.bl true) H'
section
variable {P : Program} {w : World} {K : PySem.W.Frag} {mg : Str → Option Value} {base : Heap}
theorem same_noneV {f : Addr} {fd : FuncData} (F : FunD K "_law_same" "_law_same" (defArgs s_law_same) (defBody s_law_same) (defScope s_law_same) [] [] f fd) (hm : mg "_law_same" = some (.ref f)) : Def P w K mg base "_law_same" 0 ["_law_found", "_law_due"] (spSameV K 0) :=
  def_none F hm (F.bindsN fun _ _ _ _ _ _ us hl => match us, hl with | [_, _], _ => rfl) fun vs H Q E ⟨_, _, _, h, _⟩ => by
    rcases h with ⟨_, _, _, _, h⟩ | ⟨h, _⟩ | ⟨h, _⟩ <;> omega
theorem ok_sameV {n : Nat} {f : Addr} {fd : FuncData} (F : FunD K "_law_same" "_law_same" (defArgs s_law_same) (defBody s_law_same) (defScope s_law_same) [] [] f fd) (hm : mg "_law_same" = some (.ref f)) (T : Top K mg)
    (D_law_same : Def P w K mg base "_law_same" n ["_law_found", "_law_due"] (spSameV K n)) : Def P w K mg base "_law_same" (n + 1) ["_law_found", "_law_due"] (spSameV K (n + 1)) := by
  refine def_mk F hm (F.bindsN fun _ _ _ _ _ _ us hl => match us, hl with | [_, _], _ => rfl) sc_law_same (fun vs H Q E h => ?_) (fun cdv A outer s H vs Q E hr h => ?_)
  · obtain ⟨v, v', rfl, _⟩ := h
    rfl
  obtain ⟨v, v', rfl, hsm, h60, q⟩ := h
  refine ⟨_, (pss_cons (ps_if (PW.pt (pw_or (pt_cmp (pc_isN (pv 1)) (by rfl)) (pw_or1 (pt_cmp (pc_isN (pv 0)) (by rfl)))))
  (pss_one (ps_ret (pe_and (pe_cmp (pc_isN (pv 1)) (by rfl)) (pe_one (pe_cmp (pc_isN (pv 0)) (by rfl))))))
  pss_nil)
  (pss_cons (ps_if (PW.pt (pw_or (pt_val (pe_callB (call_isC K kb_bool) (by rfl) T.b_isinstance (by decide +kernel) (pa_cons (pv 1) (pa_cons (pe_bltn (v := .ty "bool") (by rfl) T.b_bool (by decide +kernel) rfl) pa_nil)))) (pw_or1 (pt_val (pe_callB (call_isC K kb_bool) (by rfl) T.b_isinstance (by decide +kernel) (pa_cons (pv 0) (pa_cons (pe_bltn (v := .ty "bool") (by rfl) T.b_bool (by decide +kernel) rfl) pa_nil)))))))
  (pss_one (ps_ret (pe_and (pe_callB (call_isC K kb_bool) (by rfl) T.b_isinstance (by decide +kernel) (pa_cons (pv 1) (pa_cons (pe_bltn (v := .ty "bool") (by rfl) T.b_bool (by decide +kernel) rfl) pa_nil))) (pe_and (pe_callB (call_isC K kb_bool) (by rfl) T.b_isinstance (by decide +kernel) (pa_cons (pv 0) (pa_cons (pe_bltn (v := .ty "bool") (by rfl) T.b_bool (by decide +kernel) rfl) pa_nil))) (pe_one (pe_cmpR (op_eqK K hr.units) (pv 0) (pv 1) (nomark _)))))))
  pss_nil)
  (pss_cons (ps_if (PW.pt (pw_or (pt_val (pe_callB (call_isC K kb_int) (by rfl) T.b_isinstance (by decide +kernel) (pa_cons (pv 1) (pa_cons (pe_bltn (v := .ty "int") (by rfl) T.b_int (by decide +kernel) rfl) pa_nil)))) (pw_or1 (pt_val (pe_callB (call_isC K kb_str) (by rfl) T.b_isinstance (by decide +kernel) (pa_cons (pv 1) (pa_cons (pe_bltn (v := .ty "str") (by rfl) T.b_str (by decide +kernel) rfl) pa_nil)))))))
  (pss_one (ps_ret (pe_and (pe_cmpR op_eq (pe_callB (call_isC K kb_int) (by rfl) T.b_isinstance (by decide +kernel) (pa_cons (pv 0) (pa_cons (pe_bltn (v := .ty "int") (by rfl) T.b_int (by decide +kernel) rfl) pa_nil))) (pe_callB (call_isC K kb_int) (by rfl) T.b_isinstance (by decide +kernel) (pa_cons (pv 1) (pa_cons (pe_bltn (v := .ty "int") (by rfl) T.b_int (by decide +kernel) rfl) pa_nil))) (nomark _)) (pe_one (pe_cmpR (op_eqK K hr.units) (pv 0) (pv 1) (nomark _))))))
  pss_nil)
  (pss_cons (ps_if (pt_val (pe_callB (call_isC K kb_dict) (by rfl) T.b_isinstance (by decide +kernel) (pa_cons (pv 1) (pa_cons (pe_bltn (v := .ty "dict") (by rfl) T.b_dict (by decide +kernel) rfl) pa_nil))))
  (pss_cons (ps_if (PW.pt (pw_or (pt_not (pt_val (pe_callB (call_isC K kb_dict) (by rfl) T.b_isinstance (by decide +kernel) (pa_cons (pv 0) (pa_cons (pe_bltn (v := .ty "dict") (by rfl) T.b_dict (by decide +kernel) rfl) pa_nil))))) (pw_or1 (pt_cmpR (op_neK K hr.units) (pe_callB (cr_sortedDA rfl) (by rfl) T.b_sorted (by decide +kernel) (pa_cons (pv 0) pa_nil)) (pe_callB (cr_sortedDA rfl) (by rfl) T.b_sorted (by decide +kernel) (pa_cons (pv 1) pa_nil)) (nomark _)))))
  (pss_one (ps_ret pe_bl))
  pss_nil)
  (pss_one (ps_ret (pe_callB (cr_allK K rfl) (by rfl) T.b_all (by decide +kernel) (pa_cons (pe_lock (pe_lc (own := [("_law_key", 2)]) rfl sc_law_same.nd (pi_keys (pv 1)) (blkOk_by (by kernel_rfl)) (fun _ _ _ _ _ => (pg_name (i := 2) sc_law_same.nd rfl (Or.inl rfl) (.inr rfl))) (fun _ _ _ _ _ => pts_nil) (fun _ _ _ _ _ => (pe_def D_law_same hr (by first | decide | omega) (pa_cons (pe_dget (hu_of hr) (pv 0) (pv 2) (fun _ _ => rfl)) (pa_cons (pe_dget (hu_of hr) (pv 1) (pv 2) (fun _ _ => rfl)) pa_nil)))))) pa_nil)))))
  pss_nil)
  (pss_cons (ps_if (PW.pt (pw_or (pt_cmpR op_ne (pe_callB (call_isC K kb_lst) (by rfl) T.b_isinstance (by decide +kernel) (pa_cons (pv 0) (pa_cons (pe_bltn (v := .ty "list") (by rfl) T.b_list (by decide +kernel) rfl) pa_nil))) (pe_callB (call_isC K kb_lst) (by rfl) T.b_isinstance (by decide +kernel) (pa_cons (pv 1) (pa_cons (pe_bltn (v := .ty "list") (by rfl) T.b_list (by decide +kernel) rfl) pa_nil))) (nomark _)) (pw_or1 (pt_cmpR op_ne (pe_callB (call_isC K kb_tup) (by rfl) T.b_isinstance (by decide +kernel) (pa_cons (pv 0) (pa_cons (pe_bltn (v := .ty "tuple") (by rfl) T.b_tuple (by decide +kernel) rfl) pa_nil))) (pe_callB (call_isC K kb_tup) (by rfl) T.b_isinstance (by decide +kernel) (pa_cons (pv 1) (pa_cons (pe_bltn (v := .ty "tuple") (by rfl) T.b_tuple (by decide +kernel) rfl) pa_nil))) (nomark _)))))
  (pss_one (ps_ret pe_bl))
  pss_nil)
  (pss_one (ps_ret (pe_and (pe_cmpR op_eq (pe_callB (call_lenK K) (by rfl) T.b_len (by decide +kernel) (pa_cons (pv 0) pa_nil)) (pe_callB (call_lenK K) (by rfl) T.b_len (by decide +kernel) (pa_cons (pv 1) pa_nil)) (nomark _)) (pe_one (pe_callB (cr_allK K rfl) (by rfl) T.b_all (by decide +kernel) (pa_cons (pe_lc (own := [("_law_one", 3), ("_law_other", 4)]) rfl sc_law_same.nd (pi_zipK K (by rfl) T.b_zip (pa_cons (pv 0) (pa_cons (pv 1) pa_nil))) (blkOk_by (by kernel_rfl)) (fun _ _ _ _ _ => (pg_tupK K (n := 2) rfl (pgs_cons (pg_name (i := 3) sc_law_same.nd rfl (Or.inl rfl) (.inr rfl)) (pgs_cons (pg_name (i := 4) sc_law_same.nd rfl (Or.inl rfl) (.inr rfl)) pgs_nil)))) (fun _ _ _ _ _ => pts_nil) (fun _ _ _ _ _ => (pe_def D_law_same hr (by first | decide | omega) (pa_cons (pv 3) (pa_cons (pv 4) pa_nil))))) pa_nil))))))))))), ?_⟩
  rcases hsm with ⟨d, hd, hd', hn, hdn⟩ | ⟨hn2, c, c', kvs, rfl, rfl, hc, hc', hb⟩ | ⟨_, a, a', xs, ys, rfl, rfl, ha, ha', hl, h9, hx⟩
  · have hsh : SeqAt.shaped d = true := Nice.shaped (n := 60) ⟨hn, by omega⟩
    have hq := q H (Same.refl H)
    have heq : Q (.bl (PyData.eqv d d)) H := qb hq (SeqAt.eqv_refl d (SeqAt.canLay_of_shaped hsh)).symm
    refine ⟨_, rfl, _, rfl, ?_⟩
    cases d with
    | none =>
      cases hd; cases hd'
      exact ⟨_, rfl, _, rfl, _, rfl, hq⟩
    | bool b =>
      cases hd; cases hd'
      exact ⟨_, rfl, _, rfl, _, rfl, .inl ⟨_, _, rfl, .bl b, _, rfl, _, rfl, .inl ⟨_, _, rfl, .bl b, _, rfl, _, rfl, .inl ⟨_, _, rfl, .bl b, _, rfl, _, rfl, _, rfl, _, _, .bl b, .bl b, hsh, hsh, heq⟩⟩⟩⟩
    | int i =>
      cases hd; cases hd'
      exact ⟨_, rfl, _, rfl, _, rfl, .inl ⟨_, _, rfl, .int i, _, rfl, _, rfl, .inl ⟨_, _, rfl, .int i, _, rfl, _, rfl, .inl ⟨_, _, rfl, .int i, _, rfl, _, rfl, .inl ⟨_, _, rfl, .int i, _, rfl, .inl ⟨_, _, rfl, .int i, rfl, _, rfl, _, rfl, _, rfl, _, _, .int i, .int i, hsh, hsh, heq⟩⟩⟩⟩⟩⟩
    | str z =>
      cases hd; cases hd'
      exact ⟨_, rfl, _, rfl, _, rfl, .inl ⟨_, _, rfl, .str z, _, rfl, _, rfl, .inl ⟨_, _, rfl, .str z, _, rfl, _, rfl, .inl ⟨_, _, rfl, .str z, _, rfl, _, rfl, .inl ⟨_, _, rfl, .str z, _, rfl, _, rfl, .inl ⟨_, _, rfl, .str z, _, rfl, .inl ⟨_, _, rfl, .str z, rfl, _, rfl, _, rfl, _, rfl, _, _, .str z, .str z, hsh, hsh, heq⟩⟩⟩⟩⟩⟩⟩
    | dict _ => cases hd
    | list ds =>
      cases hd with
      | lst hs ha =>
      cases hd' with
      | lst hs' ha' =>
      rename_i a xs a' xs'
      have l1 := da_len ha
      have l2 := da_len ha'
      refine ⟨_, rfl, _, rfl, _, rfl, .inl ⟨_, _, rfl, .lst hs' ha', _, rfl, _, rfl, .inl ⟨_, _, rfl, .lst hs ha, _, rfl, ?_⟩⟩⟩
      refine ⟨_, rfl, .inl ⟨_, _, rfl, .lst hs' ha', _, rfl, _, rfl, .inl ⟨_, _, rfl, .lst hs' ha', _, rfl, ?_⟩⟩⟩
      refine ⟨_, rfl, .inl ⟨_, _, rfl, .lst hs' ha', _, rfl, ?_⟩⟩
      refine ⟨_, rfl, .inl ⟨_, _, rfl, .lst hs ha, _, rfl, .inl ⟨_, _, rfl, .lst hs' ha', rfl, _, rfl, ?_⟩⟩⟩
      refine ⟨_, rfl, .inl ⟨_, _, rfl, .lst hs ha, _, rfl, .inl ⟨_, _, rfl, .lst hs' ha', rfl, _, rfl, ?_⟩⟩⟩
      refine ⟨_, rfl, _, xs.length, rfl, .inl ⟨_, hs, rfl⟩, _, rfl, _, xs'.length, rfl, .inl ⟨_, hs', rfl⟩, rfl, _, rfl, ?_⟩
      refine if_int (fun _ => ?_) (fun h => absurd (by omega) h)
      refine ⟨_, rfl, _, rfl, a, a', xs, xs', rfl, .inl ⟨hs, hs', fun D hD => ?_⟩⟩
      refine lc_zipS (S := SqL K) (j := 3) (k := 4) (fun e h => up_l e h) (fun _ u _ => u = .bl true) (fun _ _ _ _ _ h => h) hD hs hs' (by omega) (le_line (by have := nice_ll hn; omega)) (fun _ _ => rfl) ?_ ?_
      · intro i x y H2 hx hy e Q' k'
        obtain ⟨d, hd1, hd2⟩ := da_get ha hx
        obtain ⟨d', hd1', hd2'⟩ := da_get ha' hy
        rw [hd1] at hd1'
        cases hd1'
        have hmem := List.mem_of_getElem? hd1
        have := depthAll_mem hmem
        rw [PyData.depth] at hdn
        exact ⟨_, rfl, _, rfl, x, y, rfl, .inl ⟨d, up_d e hd2, up_d e hd2', nice_li hn hmem, by omega⟩, by omega, fun H' e' => k' _ _ e' rfl⟩
      · intro H2 us e hD2 hl2 hu
        have hus : us = (List.replicate xs.length true).map V.bl := by
          rw [List.map_replicate]
          exact List.eq_replicate_iff.mpr ⟨hl2, fun b hb => by
            obtain ⟨i, hi, rfl⟩ := List.mem_iff_getElem.mp hb
            exact hu i _ (List.getElem?_eq_getElem hi)⟩
        rw [hus] at hD2
        exact ⟨D, _, rfl, SqL.of hD2, qb (q H2 e) (all_true _).symm⟩
    | tuple ds =>
      cases hd with
      | tup hs ha =>
      cases hd' with
      | tup hs' ha' =>
      rename_i a xs a' xs'
      have l1 := da_len ha
      have l2 := da_len ha'
      refine ⟨_, rfl, _, rfl, _, rfl, .inl ⟨_, _, rfl, .tup hs' ha', _, rfl, _, rfl, .inl ⟨_, _, rfl, .tup hs ha, _, rfl, ?_⟩⟩⟩
      refine ⟨_, rfl, .inl ⟨_, _, rfl, .tup hs' ha', _, rfl, _, rfl, .inl ⟨_, _, rfl, .tup hs' ha', _, rfl, ?_⟩⟩⟩
      refine ⟨_, rfl, .inl ⟨_, _, rfl, .tup hs' ha', _, rfl, ?_⟩⟩
      refine ⟨_, rfl, .inl ⟨_, _, rfl, .tup hs ha, _, rfl, .inl ⟨_, _, rfl, .tup hs' ha', rfl, _, rfl, ?_⟩⟩⟩
      refine ⟨_, rfl, .inl ⟨_, _, rfl, .tup hs ha, _, rfl, .inl ⟨_, _, rfl, .tup hs' ha', rfl, _, rfl, ?_⟩⟩⟩
      refine ⟨_, rfl, _, xs.length, rfl, .inr ⟨_, hs, rfl⟩, _, rfl, _, xs'.length, rfl, .inr ⟨_, hs', rfl⟩, rfl, _, rfl, ?_⟩
      refine if_int (fun _ => ?_) (fun h => absurd (by omega) h)
      refine ⟨_, rfl, _, rfl, a, a', xs, xs', rfl, .inr ⟨hs, hs', fun D hD => ?_⟩⟩
      refine lc_zipS (S := SqT K) (j := 3) (k := 4) (fun e h => up_t e h) (fun _ u _ => u = .bl true) (fun _ _ _ _ _ h => h) hD hs hs' (by omega) (le_line (by have := nice_tl hn; omega)) (fun _ _ => rfl) ?_ ?_
      · intro i x y H2 hx hy e Q' k'
        obtain ⟨d, hd1, hd2⟩ := da_get ha hx
        obtain ⟨d', hd1', hd2'⟩ := da_get ha' hy
        rw [hd1] at hd1'
        cases hd1'
        have hmem := List.mem_of_getElem? hd1
        have := depthAll_mem hmem
        rw [PyData.depth] at hdn
        exact ⟨_, rfl, _, rfl, x, y, rfl, .inl ⟨d, up_d e hd2, up_d e hd2', nice_ti hn hmem, by omega⟩, by omega, fun H' e' => k' _ _ e' rfl⟩
      · intro H2 us e hD2 hl2 hu
        have hus : us = (List.replicate xs.length true).map V.bl := by
          rw [List.map_replicate]
          exact List.eq_replicate_iff.mpr ⟨hl2, fun b hb => by
            obtain ⟨i, hi, rfl⟩ := List.mem_iff_getElem.mp hb
            exact hu i _ (List.getElem?_eq_getElem hi)⟩
        rw [hus] at hD2
        exact ⟨D, _, rfl, SqL.of hD2, qb (q H2 e) (all_true _).symm⟩
  · obtain ⟨⟨ks, hk, hkl, hkn⟩, hbv, hfew⟩ := hb
    have kl : ks.length = kvs.length := by
      have := congrArg List.length hk
      rw [List.length_map, List.length_map] at this
      exact this.symm
    refine ⟨_, rfl, _, rfl, _, rfl, _, rfl, _, rfl, .inr (.inl ⟨c', _, rfl, hc', _, rfl, _, rfl, .inr (.inl ⟨c, _, rfl, hc, _, rfl, ?_⟩)⟩)⟩
    refine ⟨_, rfl, .inr (.inl ⟨c', _, rfl, hc', _, rfl, _, rfl, .inr (.inl ⟨c', _, rfl, hc', _, rfl, ?_⟩)⟩)⟩
    refine ⟨_, rfl, .inr (.inl ⟨c', _, rfl, hc', _, rfl, ?_⟩)⟩
    refine iteT ?_
    refine ⟨_, rfl, .inr (.inl ⟨c, _, rfl, hc, _, rfl, ?_⟩)⟩
    refine iteF ?_
    refine ⟨_, rfl, c, kvs, ks, rfl, hc, hk, fun ys p1 hp1 hs1 hp => ?_⟩
    have e1 := same_new hp (.lst (ys.map V.str))
    refine ⟨_, rfl, c', kvs, ks, rfl, e1 _ _ hc', hk, fun ys2 p2 hp2 hs2 hq => ?_⟩
    have e2 := same_new hq (.lst (ys2.map V.str))
    obtain rfl := boolK_sorted hp1 hp2 hs1 hs2
    have hys : ∀ z ∈ ys, isLetS z = true := fun z hz => hkl z (hp1.mem_iff.mp hz)
    have hsh := (lets_niceC hys (by rw [hp1.length_eq]; omega)).shaped
    refine ⟨.list (ys.map .str), .list (ys.map .str), .lst (SqL.of (e2 _ _ upd_same)) (dp_strsC _), .lst (SqL.of upd_same) (dp_strsC _), hsh, hsh, _, rfl, ?_⟩
    rw [SeqAt.eqv_refl _ (SeqAt.canLay_of_shaped hsh)]
    refine iteF ?_
    have e := e1.trans e2
    have hc := e _ _ hc
    have hc' := e _ _ hc'
    have q := fun H' (f : Same (upd (upd H p1 (.lst (ys.map V.str))) p2 (.lst (ys.map V.str))) H') => q H' (e.trans f)
    generalize upd (upd H p1 (.lst (ys.map V.str))) p2 (.lst (ys.map V.str)) = H2 at hc hc' q ⊢
    clear e e1 e2 hp hq hsh
    refine ⟨c', .dK kvs, hc', trivial, fun od => ?_⟩
    refine ⟨_, rfl, c', od, rfl, .inl ⟨kvs, upd_same, fun D hD => ?_⟩⟩
    have knd : (kvs.map (·.1)).Nodup := by
      rw [hk]
      exact List.pairwise_map.mpr (hkn.imp fun hne e => hne (Sum.inr.inj e))
    refine lc_mapK (j := 2) (fun _ y _ => y = .bl true) (fun _ _ _ _ _ h => h) hD upd_same (le_line (by omega)) (by intro _; rfl) ?_ ?_
    · intro i k v H3 hkv e3 Q' kk
      have hmem := List.mem_of_getElem? hkv
      obtain ⟨b, hb⟩ := hbv _ hmem
      have hval := val_nodup knd _ hmem
      dsimp only at hb hval
      subst hb
      have hr1 : H3 c = some (.dK kvs) ∨ ∃ o, H3 c = some (.frz o (.dK kvs)) := by
        by_cases h : c = c'
        · exact .inr ⟨od, e3 _ _ (by rw [h]; exact upd_same)⟩
        · exact .inl (e3 _ _ (by rw [upd_ne h]; exact hc))
      exact ⟨_, rfl, _, rfl, c, _, rfl, .inl ⟨kvs, k, hr1, rfl, hval.symm⟩, _, rfl, _, rfl, c', _, rfl, .inl ⟨kvs, k, .inr ⟨od, e3 _ _ upd_same⟩, rfl, hval.symm⟩, .bl b, .bl b, rfl, .inl ⟨.bool b, .bl b, .bl b, by cases b <;> decide +kernel, by cases b <;> (rw [PyData.depth]; omega)⟩, by omega, fun H' e' => kk _ _ e' rfl⟩
    intro H3 ys3 e3 hD3 hl3 hy
    have hfz := e3 _ _ (show (upd H2 c' (.frz od (.dK kvs))) c' = some (.frz od (.dK kvs)) from upd_same)
    have hys3 : ys3 = (List.replicate kvs.length true).map V.bl := by
      refine eq_map_of (by rw [hl3, List.length_replicate]) fun i y h => ⟨true, ?_, hy i y h⟩
      have := (List.getElem?_eq_some_iff.mp h).1
      rw [List.getElem?_replicate, if_pos (by omega)]
    subst hys3
    refine ⟨hfz, D, _, rfl, SqL.of (by rw [upd_ne (fun z => by rw [z, hfz] at hD3; cases hD3)]; exact hD3), ?_⟩
    rw [show (List.replicate kvs.length true).all id = true from List.all_eq_true.mpr fun b hb => (List.mem_replicate.mp hb).2]
    exact q _ (lock_sameC hc' e3)
  · refine ⟨_, rfl, _, rfl, _, rfl, _, rfl, _, rfl, .inr (.inr ⟨a', _, rfl, ha', _, rfl, _, rfl, .inr (.inr ⟨a, _, rfl, ha, _, rfl, ?_⟩)⟩)⟩
    refine ⟨_, rfl, .inr (.inr ⟨a', _, rfl, ha', _, rfl, _, rfl, .inr (.inr ⟨a', _, rfl, ha', _, rfl, ?_⟩)⟩)⟩
    refine ⟨_, rfl, .inr (.inr ⟨a', _, rfl, ha', _, rfl, ?_⟩)⟩
    refine ⟨_, rfl, .inr (.inr ⟨a, _, rfl, ha, _, rfl, .inr (.inr ⟨a', _, rfl, ha', rfl, _, rfl, ?_⟩)⟩)⟩
    refine ⟨_, rfl, .inr (.inr ⟨a, _, rfl, ha, _, rfl, .inr (.inr ⟨a', _, rfl, ha', rfl, _, rfl, ?_⟩)⟩)⟩
    refine ⟨_, rfl, _, xs.length, rfl, .inl ⟨_, SqL.of ha, rfl⟩, _, rfl, _, ys.length, rfl, .inl ⟨_, SqL.of ha', rfl⟩, rfl, _, rfl, ?_⟩
    refine if_int (fun _ => ?_) (fun h => absurd (by omega) h)
    refine ⟨_, rfl, _, rfl, a, a', xs, ys, rfl, .inl ⟨SqL.of ha, SqL.of ha', fun D hD => ?_⟩⟩
    refine lc_zipS (S := SqL K) (j := 3) (k := 4) (fun e h => up_l e h) (fun _ u _ => u = .bl true) (fun _ _ _ _ _ h => h) hD (SqL.of ha) (SqL.of ha') (by omega) (le_line (by omega)) (fun _ _ => rfl) ?_ ?_
    · intro i x y H2 hx1 hy1 e Q' k'
      rcases hx i x y hx1 hy1 with ⟨d, h1, h2, h3, h4⟩ | ⟨hn3, c, c', kvs, rfl, rfl, h1, h2, h3⟩
      · exact ⟨_, rfl, _, rfl, x, y, rfl, .inl ⟨d, up_d e h1, up_d e h2, h3, by omega⟩, by omega, fun H' e' => k' _ _ e' rfl⟩
      · exact ⟨_, rfl, _, rfl, _, _, rfl, .inr (.inl ⟨by omega, c, c', kvs, rfl, rfl, e _ _ h1, e _ _ h2, h3⟩), by omega, fun H' e' => k' _ _ e' rfl⟩
    · intro H2 us e hD2 hul hy
      have hus : us = (List.replicate xs.length true).map V.bl := by
        refine eq_map_of (by rw [hul, List.length_replicate]) fun i y h => ⟨true, ?_, hy i y h⟩
        have := (List.getElem?_eq_some_iff.mp h).1
        rw [List.getElem?_replicate, if_pos (by omega)]
      subst hus
      refine ⟨D, _, rfl, SqL.of hD2, ?_⟩
      rw [show (List.replicate xs.length true).all id = true from List.all_eq_true.mpr fun b hb => (List.mem_replicate.mp hb).2]
      exact q _ e
end
end FF
/-! scenes: drawn rules and a goal -/
namespace FF
open PySem PySem.Spec PyProof.Rows L2
theorem vname_nice {z : Str} (h : isNameS z = true) : Nice 0 (.str z) := by
  unfold isNameS at h
  obtain ⟨h1, h2⟩ := Bool.and_eq_true_iff.mp h
  obtain ⟨_, h4⟩ := Bool.and_eq_true_iff.mp h1
  have h4 := of_decide_eq_true h4
  refine ⟨?_, Nat.le_of_eq (by rw [PyData.depth])⟩
  simp only [nice, Bool.and_eq_true, decide_eq_true_eq]
  refine ⟨by omega, ?_⟩
  show (z.cps.all fun x => decide (x < 0x110000)) = true
  rw [← Array.all_toList, List.all_eq_true]
  intro c hc
  have := of_decide_eq_true (List.all_eq_true.mp h2 c hc)
  rw [smallS_val] at this
  simp only [List.mem_cons, List.not_mem_nil, or_false] at this
  exact decide_eq_true (by omega)
/-- names apart: the rules of a scene are valid -/
theorem bad_none : ∀ {ds : List PyData} {seen : List Str} {i : Nat}, (∀ d ∈ ds, isRuleD d = true) → (ds.map nameOf).Nodup → (∀ d ∈ ds, nameOf d ∉ seen) → badAt seen i ds = none
  | [], _, _, _, _, _ => rfl
  | d :: r, seen, i, h1, h2, h3 => by
    unfold badAt
    rw [if_pos ⟨h1 d List.mem_cons_self, h3 d List.mem_cons_self⟩]
    rw [List.map_cons] at h2
    obtain ⟨h4, h5⟩ := List.nodup_cons.mp h2
    refine bad_none (fun e he => h1 e (List.mem_cons_of_mem _ he)) h5 fun e he z => ?_
    rcases List.mem_append.mp z with z | z
    · exact h3 e (List.mem_cons_of_mem _ he) z
    · exact h4 (List.mem_map.mpr ⟨e, he, List.mem_singleton.mp z⟩)
end FF
/-! stores (plain): commands, what they refuse, the next state -/
namespace FF
open PySem PySem.Spec PyProof.Rows L2
abbrev Qs := List (Str × PyData)
/-- a command with a name and terms that are right -/
inductive Cmd where
  | add (nm : Str) (l r : PyData)
  | put (nm : Str) (l r : PyData)
  | drop (nm : Str)
  | ask (nm : Str) (l r : PyData)
  | forget (nm : Str)
def Cmd.data : Cmd → PyData
  | .add nm l r => .tuple [.str "add", .str nm, l, r]
  | .put nm l r => .tuple [.str "put", .str nm, l, r]
  | .drop nm => .tuple [.str "drop", .str nm]
  | .ask nm l r => .tuple [.str "ask", .str nm, l, r]
  | .forget nm => .tuple [.str "forget", .str nm]
def TermD (d : PyData) : Prop := Drawn 4 d ∧ fitsB d = true ∧ Nice 40 d
def Cmd.ok : Cmd → Prop
  | .add nm l r => isNameS nm = true ∧ TermD l ∧ TermD r
  | .put nm l r => isNameS nm = true ∧ TermD l ∧ TermD r
  | .drop nm => isNameS nm = true
  | .ask nm l r => isNameS nm = true ∧ TermD l ∧ TermD r
  | .forget nm => isNameS nm = true
/-- what is refused: the code and the field -/
structure SErr where
  code : Str
  fld : PyData
/-- the first question (by its name) whose vocabulary is too large; none: the rules' alone -/
def manyD (ds : List PyData) (g : PyData) : Option Nat := if (vocD (prsOf ds g)).length > 24 then some (vocD (prsOf ds g)).length else none
def manyQ (ds : List PyData) (qs : Qs) : List Str → Option Nat
  | [] => none
  | z :: zs => match manyD ds ((qs.lookup z).getD .none) with
    | some n => some n
    | none => manyQ ds qs zs
def termsD (ds : List PyData) (qs : Qs) : Option Nat := match manyD ds .none with
  | some n => some n
  | none => manyQ ds qs (sortT (qs.map Prod.fst))
def chkD (ds : List PyData) (qs : Qs) : Except SErr (List PyData × Qs) := match termsD ds qs with
  | some n => .error ⟨"TooManyTerms", .int n⟩
  | none => .ok (ds, qs)
/-- the next state, or what is refused -/
def afterD (lim : Nat) (ds : List PyData) (qs : Qs) : Cmd → Except SErr (List PyData × Qs)
  | .add nm l r => if nm ∈ ds.map nameOf then .error ⟨"NameInUse", .str nm⟩ else if lim ≤ ds.length then .error ⟨"CapacityReached", .int lim⟩ else chkD (ds ++ [.tuple [.str nm, l, r]]) qs
  | .put nm l r => if nm ∈ ds.map nameOf then chkD (ds.map fun d => if nameOf d = nm then .tuple [.str nm, l, r] else d) qs else .error ⟨"UnknownRule", .str nm⟩
  | .drop nm => if nm ∈ ds.map nameOf then .ok (ds.filter fun d => decide (nameOf d ≠ nm), qs) else .error ⟨"UnknownRule", .str nm⟩
  | .ask nm l r => if nm ∈ qs.map Prod.fst then .error ⟨"NameInUse", .str nm⟩ else if 8 ≤ qs.length then .error ⟨"CapacityReached", .int 8⟩ else chkD ds (qs ++ [(nm, .tuple [l, r])])
  | .forget nm => if nm ∈ qs.map Prod.fst then .ok (ds, qs.filter fun q => decide (q.1 ≠ nm)) else .error ⟨"UnknownQuestion", .str nm⟩
/-- a rule, a goal with terms that are right -/
def RulD (d : PyData) : Prop := ∃ nm l r, d = .tuple [.str nm, l, r] ∧ isNameS nm = true ∧ TermD l ∧ TermD r
def GolD (g : PyData) : Prop := ∃ l r, g = .tuple [l, r] ∧ TermD l ∧ TermD r
/-- a state of a store -/
structure StOk (lim : Nat) (ds : List PyData) (qs : Qs) : Prop where
  rul : ∀ d ∈ ds, RulD d
  nd : (ds.map nameOf).Nodup
  len : ds.length ≤ lim
  gol : ∀ q ∈ qs, GolD q.2
  nq : (qs.map Prod.fst).Nodup
  lq : qs.length ≤ 8
theorem chkD_ok {ds ds' : List PyData} {qs qs' : Qs} (h : chkD ds qs = .ok (ds', qs')) : ds' = ds ∧ qs' = qs ∧ termsD ds qs = none := by
  unfold chkD at h
  cases e : termsD ds qs with
  | some n => rw [e] at h; cases h
  | none => rw [e] at h; cases h; exact ⟨rfl, rfl, rfl⟩
theorem StOk.after {lim : Nat} {ds ds' : List PyData} {qs qs' : Qs} {c : Cmd} (h : StOk lim ds qs) (hc : c.ok) (e : afterD lim ds qs c = .ok (ds', qs')) : StOk lim ds' qs' := by
  cases c with
  | add nm l r =>
    dsimp only [afterD] at e
    split at e
    · cases e
    · next h1 =>
      split at e
      · cases e
      · next h2 =>
        obtain ⟨rfl, rfl, _⟩ := chkD_ok e
        refine ⟨fun d hd => ?_, ?_, by rw [List.length_append, List.length_singleton]; omega, h.gol, h.nq, h.lq⟩
        · rcases List.mem_append.mp hd with hd | hd
          · exact h.rul d hd
          · rw [List.mem_singleton.mp hd]; exact ⟨nm, l, r, rfl, hc.1, hc.2.1, hc.2.2⟩
        · rw [List.map_append]
          refine List.nodup_append.mpr ⟨h.nd, by simp, fun a ha b hb => ?_⟩
          obtain rfl : b = nm := List.mem_singleton.mp hb
          exact fun z => h1 (z ▸ ha)
  | put nm l r =>
    dsimp only [afterD] at e
    split at e
    · next h1 =>
      obtain ⟨rfl, rfl, _⟩ := chkD_ok e
      have hm : (ds.map fun d => if nameOf d = nm then PyData.tuple [.str nm, l, r] else d).map nameOf = ds.map nameOf := by
        rw [List.map_map]
        refine List.map_congr_left fun d hd => ?_
        show nameOf (if nameOf d = nm then PyData.tuple [.str nm, l, r] else d) = nameOf d
        split
        · next h2 => rw [h2] <;> rfl
        · rfl
      refine ⟨fun d hd => ?_, by rw [hm]; exact h.nd, by rw [List.length_map]; exact h.len, h.gol, h.nq, h.lq⟩
      obtain ⟨d0, hd0, rfl⟩ := List.mem_map.mp hd
      split
      · exact ⟨nm, l, r, rfl, hc.1, hc.2.1, hc.2.2⟩
      · exact h.rul d0 hd0
    · cases e
  | drop nm =>
    dsimp only [afterD] at e
    split at e
    · cases e
      have hs : (ds.filter fun d => decide (nameOf d ≠ nm)).Sublist ds := List.filter_sublist
      exact ⟨fun d hd => h.rul d (hs.subset hd), (hs.map nameOf).nodup h.nd, Nat.le_trans hs.length_le h.len, h.gol, h.nq, h.lq⟩
    · cases e
  | ask nm l r =>
    dsimp only [afterD] at e
    split at e
    · cases e
    · next h1 =>
      split at e
      · cases e
      · next h2 =>
        obtain ⟨rfl, rfl, _⟩ := chkD_ok e
        refine ⟨h.rul, h.nd, h.len, fun q hq => ?_, ?_, by rw [List.length_append, List.length_singleton]; omega⟩
        · rcases List.mem_append.mp hq with hq | hq
          · exact h.gol q hq
          · rw [List.mem_singleton.mp hq]; exact ⟨l, r, rfl, hc.2.1, hc.2.2⟩
        · rw [List.map_append]
          refine List.nodup_append.mpr ⟨h.nq, by simp, fun a ha b hb => ?_⟩
          obtain rfl : b = nm := List.mem_singleton.mp hb
          exact fun z => h1 (z ▸ ha)
  | forget nm =>
    dsimp only [afterD] at e
    split at e
    · cases e
      have hs : (qs.filter fun q => decide (q.1 ≠ nm)).Sublist qs := List.filter_sublist
      exact ⟨h.rul, h.nd, h.len, fun q hq => h.gol q (hs.subset hq), (hs.map Prod.fst).nodup h.nq, Nat.le_trans hs.length_le h.lq⟩
    · cases e
end FF
/-! stores: scenes in the heap; names_in, need_terms, checked -/
namespace FF
open PySem PySem.Spec PyProof.Rows L2
/-- questions in a dict -/
inductive QsAll (K : PySem.W.Frag) (H : Hp) : List (Key × V) → Qs → Prop where
  | nil : QsAll K H [] []
  | cons {z : Str} {v : V} {d : PyData} {kvs : List (Key × V)} {qs : Qs} : Tp K H v d → QsAll K H kvs qs → QsAll K H ((.inr z, v) :: kvs) ((z, d) :: qs)
theorem QsAll.up {K : PySem.W.Frag} {H H' : Hp} (e : SameT H H') : ∀ {kvs : List (Key × V)} {qs : Qs}, QsAll K H kvs qs → QsAll K H' kvs qs
  | _, _, .nil => .nil
  | _, _, .cons a b => .cons (a.up e) (QsAll.up e b)
theorem QsAll.keys {K : PySem.W.Frag} {H : Hp} : ∀ {kvs : List (Key × V)} {qs : Qs}, QsAll K H kvs qs → kvs.map (·.1) = (qs.map Prod.fst).map Sum.inr
  | _, _, .nil => rfl
  | _, _, .cons a b => by rw [List.map_cons, QsAll.keys b] <;> rfl
theorem QsAll.len {K : PySem.W.Frag} {H : Hp} {kvs : List (Key × V)} {qs : Qs} (h : QsAll K H kvs qs) : kvs.length = qs.length := by
  have := congrArg List.length h.keys
  rwa [List.length_map, List.length_map, List.length_map] at this
theorem QsAll.get {K : PySem.W.Frag} {H : Hp} {z : Str} : ∀ {kvs : List (Key × V)} {qs : Qs} {d : PyData}, QsAll K H kvs qs → qs.lookup z = some d → ∃ v, valV kvs (.inr z) = some v ∧ Tp K H v d
  | _, _, _, .nil, h => nomatch h
  | _, _, d, .cons (z := y) (v := v) (d := d0) a b, h => by
    rw [lookup_cons] at h
    by_cases e : z = y
    · rw [if_pos e] at h
      cases h
      exact ⟨v, valV_pos (by rw [e]), a⟩
    · rw [if_neg e] at h
      obtain ⟨u, h1, h2⟩ := QsAll.get b h
      exact ⟨u, (valV_neg (fun q => e (Sum.inr.inj q).symm)).trans h1, h2⟩
where
  lookup_cons {z y : Str} {d : PyData} {qs : Qs} : ((y, d) :: qs).lookup z = if z = y then some d else qs.lookup z := by
    by_cases e : z = y
    · subst e; simp [List.lookup]
    · rw [if_neg e]
      have : (z == y) = false := by simpa using e
      simp [List.lookup, this]
/-- a scene (or the law's state): a tuple of a list of rules and a dict of questions -/
structure ScV (K : PySem.W.Frag) (H : Hp) (t rl qd : Addr) (us : List V) (kvs : List (Key × V)) (ds : List PyData) (qs : Qs) : Prop where
  at_ : SqT K H t [.ref rl, .ref qd]
  rl : H rl = some (.lst us)
  us : TpAll K H us ds
  qd : H qd = some (.dK kvs)
  qs : QsAll K H kvs qs
theorem ScV.up {K : PySem.W.Frag} {H H' : Hp} {t rl qd : Addr} {us : List V} {kvs : List (Key × V)} {ds : List PyData} {qs : Qs} (h : ScV K H t rl qd us kvs ds qs) (e : Same H H') : ScV K H' t rl qd us kvs ds qs :=
  ⟨up_t e h.at_, e _ _ h.rl, h.us.up (Same.T e), e _ _ h.qd, h.qs.up (Same.T e)⟩
theorem tup_tp {K : PySem.W.Frag} {H : Hp} {u : V} {ds : List PyData} (t : Tp K H u (.tuple ds)) : ∃ (ta : Addr) (us : List V), u = .ref ta ∧ SqT K H ta us ∧ TpAll K H us ds := by
  cases t with
  | tup hs hu => exact ⟨_, _, rfl, hs.sqT, hu⟩
theorem rul_tp {K : PySem.W.Frag} {H : Hp} {u : V} {d : PyData} (t : Tp K H u d) (h : RulD d) : ∃ (ta : Addr) (r : List V), u = .ref ta ∧ SqT K H ta (.str (nameOf d) :: r) := by
  obtain ⟨nm, l, r, rfl, _⟩ := h
  obtain ⟨ta, us, rfl, hs, hu⟩ := tup_tp t
  cases hu with
  | @cons vn ur _ _ hvn hur =>
  cases hvn
  exact ⟨ta, ur, rfl, hs⟩
theorem rul_nice {d : PyData} (h : RulD d) : Nice 50 d := by
  obtain ⟨nm, l, r, rfl, hn, hl, hr⟩ := h
  refine (Nice.tuple (n := 40) (by simp) fun x hx => ?_).mono (by decide)
  simp only [List.mem_cons, List.not_mem_nil, or_false] at hx
  rcases hx with rfl | rfl | rfl
  · exact (vname_nice hn).mono (by decide)
  · exact hl.2.2
  · exact hr.2.2
theorem rul_is {d : PyData} (h : RulD d) : isRuleD d = true := by
  obtain ⟨nm, l, r, rfl, hn, hl, hr⟩ := h
  show (isNameS nm && (fitsB l && fitsB r)) = true
  rw [hn, hl.2.1, hr.2.1] <;> rfl
theorem gol_is {g : PyData} (h : GolD g) : isGoalD g = true := by
  obtain ⟨l, r, rfl, hl, hr⟩ := h
  show (fitsB l && fitsB r) = true
  rw [hl.2.1, hr.2.1] <;> rfl
theorem gol_nice {g : PyData} (h : GolD g) : Nice 50 g := by
  obtain ⟨l, r, rfl, hl, hr⟩ := h
  refine (Nice.tuple (n := 40) (by simp) fun x hx => ?_).mono (by decide)
  simp only [List.mem_cons, List.not_mem_nil, or_false] at hx
  rcases hx with rfl | rfl
  · exact hl.2.2
  · exact hr.2.2
theorem rul_v {K : PySem.W.Frag} {H : Hp} {u : V} {d : PyData} (h : RulD d) (t : Tp K H u d) : RuleV K H u d := ⟨t.dp, rul_nice h, fun _ => ⟨t, by obtain ⟨nm, l, r, rfl, hn, hl, hr⟩ := h; exact ⟨hl.1, hr.1⟩⟩⟩
theorem gol_v {K : PySem.W.Frag} {H : Hp} {u : V} {g : PyData} (h : GolD g) (t : Tp K H u g) : GoalV K H u g := ⟨t.dp, gol_nice h, fun _ => ⟨t, fun p hp => by
  obtain ⟨l, r, rfl, hl, hr⟩ := h
  rw [List.mem_singleton.mp (show p ∈ [(l, r)] from hp)]
  exact ⟨hl.1, hr.1⟩⟩⟩
theorem non_v {K : PySem.W.Frag} {H : Hp} : GoalV K H .non .none := ⟨.non, ⟨by decide, by decide +kernel⟩, fun h => nomatch h⟩
theorem ScV.rules {K : PySem.W.Frag} {H : Hp} {t rl qd : Addr} {us : List V} {kvs : List (Key × V)} {ds : List PyData} {qs : Qs} (h : ScV K H t rl qd us kvs ds qs) (hr : ∀ d ∈ ds, RulD d) (hl : ds.length ≤ 20000) : RulesV K H (.ref rl) ds :=
  ⟨⟨rl, us, rfl, .inl (SqL.of h.rl), h.us.len, fun i u d h1 h2 => by
    obtain ⟨d', h3, h4⟩ := h.us.get h1
    cases h3.symm.trans h2
    exact rul_v (hr _ (List.mem_of_getElem? h2)) h4⟩, hl⟩
/-- with good rules and a good goal check_rules asks for the number of words alone -/
theorem check_many {lim : Nat} {ds : List PyData} {qs : Qs} (h : StOk lim ds qs) (hl : lim ≤ 12) {g : PyData} (hg : g = .none ∨ isGoalD g = true) : checkD ds g = (manyD ds g).map .terms := by
  have hR : rulesErr ds = none := by
    unfold rulesErr
    rw [if_neg (by have := h.len; omega)]
    exact bad_none (fun d hd => rul_is (h.rul d hd)) h.nd fun d _ z => nomatch z
  unfold checkD manyD
  rw [hR]
  dsimp only
  have hb : ¬ (!isNoneD g && !isGoalD g) = true := by
    rcases hg with rfl | hg
    · decide
    · rw [hg]; simp
  rw [if_neg hb]
  by_cases hv : (vocD (prsOf ds g)).length > 24
  · rw [if_pos hv, if_pos hv] <;> rfl
  · rw [if_neg hv, if_neg hv] <;> rfl
theorem manyQ_app (ds : List PyData) (qs : Qs) : ∀ (l r : List Str), manyQ ds qs l = none → manyQ ds qs (l ++ r) = manyQ ds qs r
  | [], r, _ => rfl
  | z :: l, r, h => by
    unfold manyQ at h
    rw [List.cons_append]
    conv => lhs; unfold manyQ
    cases e : manyD ds ((qs.lookup z).getD .none) with
    | some n => rw [e] at h; cases h
    | none =>
      rw [e] at h
      dsimp only at h ⊢
      exact manyQ_app ds qs l r h
section
variable {P : Program} {w : World} {K : PySem.W.Frag} {mg : Str → Option Value} {base : Heap}
def spNamesIn (K : PySem.W.Frag) : Sp := fun vs H Q _ => ∃ (t rl qd : Addr) (us : List V) (kvs : List (Key × V)) (ds : List PyData) (qs : Qs), vs = [.ref t] ∧ ScV K H t rl qd us kvs ds qs ∧ (∀ d ∈ ds, RulD d) ∧ ds.length ≤ 1000 ∧
  ∀ p H', Same H H' → H p = none → H' p = some (.lst ((ds.map nameOf).map V.str)) → Q (.ref p) H'
theorem ok_names_in {f : Addr} {fd : FuncData} (F : FunD K "names_in" "names_in" (defArgs s_names_in) (defBody s_names_in) (defScope s_names_in) [] [] f fd) (hm : mg "names_in" = some (.ref f)) (T : Top K mg) : Def P w K mg base "names_in" 1 ["scene"] (spNamesIn K) := by
  refine def_mk F hm (F.bindsN fun _ _ _ _ _ _ us hl => match us, hl with | [_], _ => rfl) sc_names_in (fun vs H Q E h => ?_) (fun cdv A outer s0 H vs Q E hr h => ?_)
  · obtain ⟨t, rl, qd, us, kvs, ds, qs, rfl, _⟩ := h
    rfl
  obtain ⟨t, rl, qd, us, kvs, ds, qs, rfl, hS, hr2, hl, q⟩ := h
  have hul := hS.us.len
  refine ⟨_, (pss_one (ps_ret (pe_lc (own := [("rule", 1)]) rfl sc_names_in.nd (pi_listK K (pe_ix (ix_tupK K) (pv 0) pe_int (fun _ _ => rfl))) (blkOk_by (by kernel_rfl)) (fun _ _ _ _ _ => (pg_name (i := 1) sc_names_in.nd rfl (Or.inl rfl) (.inr rfl))) (fun _ _ _ _ _ => pts_nil) (fun _ _ _ _ _ => (pe_ix (ix_tupK K) (pv 1) pe_int (fun _ _ => rfl)))))), ?_⟩
  refine ⟨_, rfl, t, _, _, .ref rl, rfl, rfl, hS.at_, at0, rl, rfl, ⟨_, SqL.of hS.rl⟩, fun D hD => ?_⟩
  refine lc_mapL (j := 1) (fun i y _ => ∃ d, ds[i]? = some d ∧ y = .str (nameOf d)) (fun _ _ _ _ _ h => h) hD (SqL.of hS.rl) (le_line (by omega)) (fun _ => rfl) ?_ ?_
  · intro i x H2 hx e Q' k'
    obtain ⟨d, hd, hxd⟩ := hS.us.get hx
    obtain ⟨ta, r, rfl, hta⟩ := rul_tp (hxd.up (Same.T e)) (hr2 d (List.mem_of_getElem? hd))
    exact ⟨_, rfl, ta, _, _, _, rfl, rfl, hta, at0, k' _ _ (Same.refl _) ⟨d, hd, rfl⟩⟩
  intro H2 ys e hD2 hyl hy
  have hys : ys = (ds.map nameOf).map V.str := by
    rw [List.map_map]
    exact eq_map_of (by rw [hyl, hul]) hy
  subst hys
  exact q D H2 e hD hD2
def spNeeds (K : PySem.W.Frag) : Sp := fun vs H Q _ => ∃ (vl vr : V) (l r : PyData), vs = [vl, vr] ∧ Dp K H vl l ∧ Dp K H vr r ∧ nice l = true ∧ nice r = true ∧ fitsB l = true ∧ fitsB r = true ∧ ∀ H', Same H H' → Q .non H'
theorem ok_need_terms {f : Addr} {fd : FuncData} (F : FunD K "need_terms" "need_terms" (defArgs s_need_terms) (defBody s_need_terms) (defScope s_need_terms) [] [] f fd) (hm : mg "need_terms" = some (.ref f)) (T : Top K mg)
    (D_need_term : DefX P w K mg base "need_term" 14 ["value"] (spNeed K)) : DefX P w K mg base "need_terms" 15 ["left", "right"] (spNeeds K) := by
  refine defx_mk F hm (F.bindsN fun _ _ _ _ _ _ us hl => match us, hl with | [_, _], _ => rfl) sc_need_terms (fun vs H Q E h => ?_) (fun cdv A outer s0 H vs Q E hr h tk => ?_)
  · obtain ⟨vl, vr, l, r, rfl, _⟩ := h
    rfl
  obtain ⟨vl, vr, l, r, rfl, hl, hr2, nl, nr, fl, fr, q⟩ := h
  refine ⟨_, (pss_cons (ps_expr (pe_defx (E := E) D_need_term tk (fun _ _ _ _ h => h) hr (by first | decide | omega) (pa_cons (pv 0) pa_nil)))
  (pss_one (ps_expr (pe_defx (E := E) D_need_term tk (fun _ _ _ _ h => h) hr (by first | decide | omega) (pa_cons (pv 1) pa_nil))))), ?_⟩
  refine ⟨_, rfl, vl, l, rfl, hl, nl, fun _ H1 e1 => ?_, fun h => absurd (fl.symm.trans h) (by decide)⟩
  exact ⟨_, rfl, vr, r, rfl, up_d e1 hr2, nr, fun _ H2 e2 => q H2 (e1.trans e2), fun h => absurd (fr.symm.trans h) (by decide)⟩
def spChk (K : PySem.W.Frag) : Sp := fun vs H Q E => ∃ (t rl qd : Addr) (us : List V) (kvs : List (Key × V)) (ds : List PyData) (qs : Qs), vs = [.ref t] ∧ ScV K H t rl qd us kvs ds qs ∧ StOk 12 ds qs ∧
  (termsD ds qs = none → ∀ H', Same H H' → Q (.ref t) H') ∧ ∀ n, termsD ds qs = some n → Err1 K "TooManyTerms" "count" (.int (n : Nat)) H E
theorem ok_checkedS {f fC : Addr} {fd fdC : FuncData} (F : FunD K "checked" "checked" (defArgs s_checked) (defBody s_checked) (defScope s_checked) [] [] f fd) (hm : mg "checked" = some (.ref f)) (T : Top K mg)
    (FC0 : FunD K "check_rules" "check_rules" (defArgs s_check_rules) (defBody s_check_rules) (defScope s_check_rules) [.non] [] fC fdC) (hmC : mg "check_rules" = some (.ref fC)) (FC : FnOk P w K mg base (L2.CX P w) 18 fC fdC ["rules", "goal"] (spCheck K)) : DefX P w K mg base "checked" 19 ["scene"] (spChk K) := by
  have D_check_rules : DefX P w K mg base "check_rules" 18 ["rules", "goal"] (spCheck K) := ⟨fC, fdC, FC, hmC, FC0.kp, bind_chk2 FC0⟩
  obtain ⟨dc1, vc1, bc1⟩ := bind_chk1 FC0
  refine defx_mk F hm (F.bindsN fun _ _ _ _ _ _ us hl => match us, hl with | [_], _ => rfl) sc_checked (fun vs H Q E h => ?_) (fun cdv A outer s0 H vs Q E hr h tk => ?_)
  · obtain ⟨t, rl, qd, us, kvs, ds, qs, rfl, _⟩ := h
    rfl
  obtain ⟨t, rl, qd, us, kvs, ds, qs, rfl, hS, hO, q1, q2⟩ := h
  refine ⟨_, (pss_cons (ps_asg (pv 0) (pg_tupK K (n := 2) rfl (pgs_cons (pg_name (i := 1) sc_checked.nd rfl (Or.inl rfl) (.inl rfl)) (pgs_cons (pg_name (i := 2) sc_checked.nd rfl (Or.inl rfl) (.inl rfl)) pgs_nil))))
  (pss_cons (ps_expr (pe_call (E := E) FC (hr.mono (by first | decide | omega)) rfl hmC FC0.kp bc1 vc1 (passes_call tk (fun _ _ _ _ h => h)) (pa_cons (pv 1) pa_nil)))
  (pss_cons (ps_for (passes_of rfl) rfl (pi_listK K (pe_callB (cr_sortedDA rfl) (by rfl) T.b_sorted (by decide +kernel) (pa_cons (pv 2) pa_nil))) (pg_name (i := 3) sc_checked.nd rfl (Or.inl rfl) (.inl rfl))
  (pss_one (ps_expr (pe_defx (E := E) D_check_rules tk (fun _ _ _ _ h => h) hr (by first | decide | omega) (pa_cons (pv 1) (pa_cons (pe_dget (hu_of hr) (pv 2) (pv 3) (fun _ _ => rfl)) pa_nil))))))
  (pss_one (ps_ret (pv 0)))))), ?_⟩
  refine ⟨_, rfl, t, _, rfl, hS.at_, rfl, _, _, rfl, _, _, rfl, rfl, ?_⟩
  dsimp only
  have hm0 := check_many hO (by decide) (g := .none) (.inl rfl)
  refine ⟨_, rfl, .ref rl, .non, ds, .none, rfl, hS.rules hO.rul (by have := hO.len; omega), non_v, fun hn H1 e1 => ?_, fun e he => ?_⟩
  rotate_left
  · rw [hm0] at he
    obtain ⟨n, hn, rfl⟩ := Option.map_eq_some_iff.mp he
    exact q2 n (by unfold termsD; rw [hn])
  have hn0 : manyD ds .none = none := by
    rw [hm0] at hn
    exact Option.map_eq_none_iff.mp hn
  have hS1 := hS.up e1
  refine ⟨_, rfl, qd, kvs, qs.map Prod.fst, rfl, hS1.qd, hS1.qs.keys, fun ys p hp hsd hpn => ?_⟩
  have hys := sort_eq hp hsd
  subst hys
  have e2 := same_new hpn (.lst ((sortT (qs.map Prod.fst)).map V.str))
  have hp2 : (upd H1 p (.lst ((sortT (qs.map Prod.fst)).map V.str))) p = some (.lst ((sortT (qs.map Prod.fst)).map V.str)) := upd_same
  have e02 := e1.trans e2
  generalize upd H1 p (.lst ((sortT (qs.map Prod.fst)).map V.str)) = H2 at e2 hp2 e02 ⊢
  refine ⟨p, rfl, ⟨_, SqL.of hp2⟩, ?_⟩
  refine for_list (xs := (sortT (qs.map Prod.fst)).map V.str) (fun i σ H' => ∃ o3, σ = [some (.ref t), some (.ref rl), some (.ref qd), o3] ∧ Same H2 H' ∧ manyQ ds qs ((sortT (qs.map Prod.fst)).take i) = none)
    ⟨none, rfl, Same.refl _, rfl⟩ (fun i σ H' _ ⟨_, _, e, _⟩ => SqL.of (e _ _ hp2)) ?_ ?_
  · rintro i x σ H3 hx ⟨o3, rfl, e3, hmq⟩
    rw [List.getElem?_map] at hx
    obtain ⟨z, hz, rfl⟩ := Option.map_eq_some_iff.mp hx
    have e03 := e02.trans e3
    have hS3 := hS.up e03
    have hzm : z ∈ qs.map Prod.fst := (List.mergeSort_perm (qs.map Prod.fst) leS).mem_iff.mp (List.mem_of_getElem? hz)
    obtain ⟨g, hg⟩ : ∃ g, qs.lookup z = some g := by
      obtain ⟨⟨z', g⟩, hm, rfl⟩ := List.mem_map.mp hzm
      cases hl : qs.lookup z' with
      | some g' => exact ⟨g', rfl⟩
      | none => exact absurd (List.lookup_eq_none_iff.mp hl _ hm) (by simp)
    obtain ⟨v, hv, htv⟩ := hS3.qs.get hg
    have hgol : GolD g := hO.gol (z, g) (by
      have : ∀ {l : Qs}, l.lookup z = some g → (z, g) ∈ l := fun {l} => by
        induction l with
        | nil => intro h; cases h
        | cons a l ih =>
          obtain ⟨y, d⟩ := a
          rw [QsAll.get.lookup_cons]
          by_cases e : z = y
          · rw [if_pos e]; intro h; cases h; rw [e]; exact List.mem_cons_self
          · rw [if_neg e]; exact fun h => List.mem_cons_of_mem _ (ih h)
      exact this hg)
    have hmz := check_many hO (by decide) (g := g) (.inr (gol_is hgol))
    have htake : (sortT (qs.map Prod.fst)).take (i + 1) = (sortT (qs.map Prod.fst)).take i ++ [z] := by rw [List.take_add_one, hz] <;> rfl
    refine ⟨_, rfl, _, rfl, _, rfl, qd, v, rfl, by rw [← hv]; exact DGet.k (k := .inr z) hS3.qd, .ref rl, v, ds, g, rfl, hS3.rules hO.rul (by have := hO.len; omega), gol_v hgol htv, fun hn H4 e4 => ⟨_, rfl, e3.trans e4, ?_⟩, fun e he => ?_⟩
    · rw [htake, manyQ_app _ _ _ _ hmq]
      rw [hmz] at hn
      unfold manyQ
      rw [hg]
      show (match manyD ds g with | some n => some n | none => manyQ ds qs []) = none
      rw [Option.map_eq_none_iff.mp hn] <;> rfl
    · rw [hmz] at he
      obtain ⟨n, hn, rfl⟩ := Option.map_eq_some_iff.mp he
      refine Err1.up (q2 n ?_) e03
      unfold termsD
      rw [hn0]
      dsimp only
      have hsplit : sortT (qs.map Prod.fst) = (sortT (qs.map Prod.fst)).take i ++ z :: (sortT (qs.map Prod.fst)).drop (i + 1) := by
        have := List.take_append_drop (i + 1) (sortT (qs.map Prod.fst))
        rw [htake, List.append_assoc] at this
        exact this.symm
      rw [hsplit, manyQ_app _ _ _ _ hmq]
      unfold manyQ
      rw [hg]
      show (match manyD ds g with | some n => some n | none => _) = some n
      rw [hn]
  · rintro σ H3 ⟨o3, rfl, e3, hmq⟩
    rw [List.length_map, List.take_length] at hmq
    exact ⟨_, rfl, q1 (by unfold termsD; rw [hn0]; exact hmq) H3 (e02.trans e3)⟩
end
end FF
/-! stores: the commands, one by one -/
namespace FF
open PySem PySem.Spec PyProof.Rows L2
def fldN (code : Str) : Str := if code = "CapacityReached" then "limit" else if code = "TooManyTerms" then "count" else "name"
def fldV : PyData → V
  | .str z => .str z
  | .int n => .int n
  | _ => .non
def ErrS (K : PySem.W.Frag) (H : Hp) (E : XK) (e : SErr) : Prop := Err1 K e.code (fldN e.code) (fldV e.fld) H E
/-- what a command does: the next scene, or what is refused -/
def StepQ (K : PySem.W.Frag) (H : Hp) (Q : VK) (E : XK) (r : Except SErr (List PyData × Qs)) : Prop :=
  (∀ ds' qs', r = .ok (ds', qs') → ∀ t' rl' qd' us' kvs' H', Same H H' → ScV K H' t' rl' qd' us' kvs' ds' qs' → Q (.ref t') H') ∧ ∀ e, r = .error e → ErrS K H E e
theorem flat_nms (zs : List Str) : (zs.map V.str).all flatV = true := by
  rw [List.all_eq_true]
  intro v hv
  obtain ⟨z, _, rfl⟩ := List.mem_map.mp hv
  rfl
theorem inV_nms (nm : Str) (zs : List Str) : inV (.str nm) (zs.map V.str) = decide (nm ∈ zs) := by
  unfold inV
  rw [List.any_map]
  induction zs with
  | nil => rfl
  | cons z zs ih =>
    rw [List.any_cons, ih]
    have e : ((fun x => eqV x (V.str nm)) ∘ V.str) z = decide (nm = z) := by
      show decide (z = nm) = decide (nm = z)
      exact decide_eq_decide.mpr ⟨fun h => h.symm, fun h => h.symm⟩
    rw [e]
    simp
section
variable {P : Program} {w : World} {K : PySem.W.Frag} {mg : Str → Option Value} {base : Heap}
def spWoRule (K : PySem.W.Frag) : Sp := fun vs H Q E => ∃ (t rl qd : Addr) (us : List V) (kvs : List (Key × V)) (ds : List PyData) (qs : Qs) (lim : Nat) (nm : Str), vs = [.ref t, .str nm] ∧ ScV K H t rl qd us kvs ds qs ∧ StOk lim ds qs ∧ lim ≤ 12 ∧ StepQ K H Q E (afterD lim ds qs (.drop nm))
theorem ok_without_rule {f : Addr} {fd : FuncData} (F : FunD K "without_rule" "without_rule" (defArgs s_without_rule) (defBody s_without_rule) (defScope s_without_rule) [] [] f fd) (hm : mg "without_rule" = some (.ref f)) (T : Top K mg)
    (D_names_in : Def P w K mg base "names_in" 1 ["scene"] (spNamesIn K)) (x_UnknownRule : RaiseG1 P w K mg base lkB "UnknownRule" 2 "UnknownRule" "name") : DefX P w K mg base "without_rule" 4 ["scene", "name"] (spWoRule K) := by
  refine defx_mk F hm (F.bindsN fun _ _ _ _ _ _ us hl => match us, hl with | [_, _], _ => rfl) sc_without_rule (fun vs H Q E h => ?_) (fun cdv A outer s0 H vs Q E hr h tk => ?_)
  · obtain ⟨t, rl, qd, us, kvs, ds, qs, lim, nm, rfl, _⟩ := h
    rfl
  obtain ⟨t, rl, qd, us, kvs, ds, qs, lim, nm, rfl, hS, hO, hl12, q1, q2⟩ := h
  have hdl := hO.len
  refine ⟨_, (pss_cons (ps_if (pt_cmpR (op_notIn_seqK K) (pv 1) (pe_def D_names_in hr (by first | decide | omega) (pa_cons (pv 0) pa_nil)) (by rfl))
  (pss_one (ps_raise rfl tk (pmk_raiseG1 x_UnknownRule hr (by first | decide | omega) (pa_cons (pv 1) pa_nil) (mono := by intro σ H Q Q' h q; first | exact h _ _ q | exact (let ⟨v, e, q⟩ := q; ⟨v, e, h _ _ q⟩) | exact (let ⟨v, e, x, n, e2, h2, q⟩ := q; ⟨v, e, x, n, e2, h2, h _ _ q⟩) | exact (let ⟨v, e, a, b, c, d, e1, e2, h1, h2, q⟩ := q; ⟨v, e, a, b, c, d, e1, e2, h1, h2, h _ _ q⟩)))))
  pss_nil)
  (pss_one (ps_ret (pe_tup (pa_cons (pe_lc (own := [("rule", 2)]) rfl sc_without_rule.nd (pi_listK K (pe_ix (ix_tupK K) (pv 0) pe_int (fun _ _ => rfl))) (blkOk_by (by kernel_rfl)) (fun _ _ _ _ _ => (pg_name (i := 2) sc_without_rule.nd rfl (Or.inl rfl) (.inr rfl))) (fun _ _ _ _ _ => (pts_one (pt_cmpR op_ne (pe_ix (ix_tupK K) (pv 2) pe_int (fun _ _ => rfl)) (pv 1) (nomark _)))) (fun _ _ _ _ _ => (pv 2))) (pa_cons (pe_ix (ix_tupK K) (pv 0) pe_int (fun _ _ => rfl)) pa_nil)))))), ?_⟩
  refine ⟨_, rfl, _, rfl, t, rl, qd, us, kvs, ds, qs, rfl, hS, hO.rul, Nat.le_trans hdl (Nat.le_trans hl12 (by decide)), fun p H1 e1 hp0 hp => ?_⟩
  refine ⟨p, _, rfl, .inl (SqL.of hp), rfl, flat_nms _, _, rfl, ?_⟩
  have hS1 := hS.up e1
  rw [inV_nms]
  refine if_nb (fun hb => ?_) (fun hb => ?_)
  · have hno := of_decide_eq_false hb
    refine ⟨_, rfl, _, rfl, fun dd H2 e2 hd => ?_⟩
    exact q2 ⟨"UnknownRule", .str nm⟩ (by dsimp only [afterD]; rw [if_neg hno]) dd H2 (e1.trans e2) hd
  · have hin := of_decide_eq_true hb
    refine ⟨_, rfl, t, _, _, .ref rl, rfl, rfl, hS1.at_, at0, rl, rfl, ⟨_, SqL.of hS1.rl⟩, fun D hD => ?_⟩
    refine lc_filtD (j := 2) (fun d => decide (nameOf d ≠ nm)) hD (SqL.of hS1.rl) hS1.us (le_line (by have := hS1.us.len; omega)) (fun _ => rfl) ?_ (fun x H2 Q' h => ⟨_, rfl, h⟩) ?_
    · intro i x d H2 hx hd hxd e2 Qb k'
      obtain ⟨ta, r, rfl, hta⟩ := rul_tp hxd (hO.rul d (List.mem_of_getElem? hd))
      refine ⟨_, rfl, ta, _, _, _, rfl, rfl, hta, at0, _, rfl, rfl, _, rfl, ?_⟩
      have ev : (!decide (V.str (nameOf d) = V.str nm)) = decide (nameOf d ≠ nm) := by
        rw [show decide (V.str (nameOf d) = V.str nm) = decide (nameOf d = nm) from decide_eq_decide.mpr ⟨fun e => V.str.inj e, fun e => by rw [e]⟩]
        simp
      have := k' H2 (Same.refl _)
      rw [← ev] at this
      exact this
    intro H2 us2 e2 hD2 hus2
    have hS2 := hS1.up e2
    refine ⟨_, rfl, t, _, _, .ref qd, rfl, rfl, hS2.at_, (rfl : atI [V.ref rl, V.ref qd] 1 = some (.ref qd)), (by show 2 ≤ sizeLine; decide), fun t2 ht2 => ?_⟩
    have e3 := same_new ht2 (.tup [.ref D, .ref qd])
    exact q1 _ _ (by dsimp only [afterD]; rw [if_pos hin]) t2 D qd us2 kvs _ (e1.trans (e2.trans e3)) ⟨SqT.of upd_same, e3 _ _ hD2, hus2.up (Same.T e3), e3 _ _ hS2.qd, hS2.qs.up (Same.T e3)⟩
def spWRule (K : PySem.W.Frag) : Sp := fun vs H Q E => ∃ (t rl qd : Addr) (us : List V) (kvs : List (Key × V)) (ds : List PyData) (qs : Qs) (lim : Nat) (v : V) (nm : Str) (l r : PyData), vs = [.ref t, v, .int (lim : Nat)] ∧ ScV K H t rl qd us kvs ds qs ∧ StOk lim ds qs ∧ lim ≤ 12 ∧ Tp K H v (Cmd.add nm l r).data ∧ (Cmd.add nm l r).ok ∧ StepQ K H Q E (afterD lim ds qs (.add nm l r))
theorem four_tp {H : Hp} {v : V} {a b : Str} {l r : PyData} (h : Tp K H v (.tuple [.str a, .str b, l, r])) : ∃ (c : Addr) (vl vr : V), v = .ref c ∧ SqT K H c [.str a, .str b, vl, vr] ∧ Tp K H vl l ∧ Tp K H vr r := by
  obtain ⟨c, us, rfl, hs, hu⟩ := tup_tp h
  cases hu with
  | @cons v1 _ _ _ h1 hu =>
  cases hu with
  | @cons v2 _ _ _ h2 hu =>
  cases hu with
  | @cons v3 _ _ _ h3 hu =>
  cases hu with
  | @cons v4 _ _ _ h4 hu =>
  cases hu
  cases h1
  cases h2
  exact ⟨c, v3, v4, rfl, hs, h3, h4⟩
theorem name_len {z : Str} (h : isNameS z = true) : z.length ≤ 20000 := by
  have := (vname_nice h).ok
  exact Nat.le_of_lt_succ (by
    have h2 := (vname_nice h)
    simp [isNameS] at h
    omega)
theorem ok_with_rule {f : Addr} {fd : FuncData} (F : FunD K "with_rule" "with_rule" (defArgs s_with_rule) (defBody s_with_rule) (defScope s_with_rule) [] [] f fd) (hm : mg "with_rule" = some (.ref f)) (T : Top K mg)
    (D_is_name : Def P w K mg base "is_name" 1 ["text"] (spName K)) (D_names_in : Def P w K mg base "names_in" 1 ["scene"] (spNamesIn K)) (D_need_terms : DefX P w K mg base "need_terms" 15 ["left", "right"] (spNeeds K)) (D_checked : DefX P w K mg base "checked" 19 ["scene"] (spChk K))
    (x_InvalidName : RaiseD1 P w K mg base "InvalidName" "FaultError" 2 "InvalidName" "name") (x_NameInUse : RaiseD1 P w K mg base "NameInUse" "FaultError" 2 "NameInUse" "name") (x_CapacityReached : RaiseD1 P w K mg base "CapacityReached" "FaultError" 2 "CapacityReached" "limit") :
    DefX P w K mg base "with_rule" 20 ["scene", "command", "limit"] (spWRule K) := by
  refine defx_mk F hm (F.bindsN fun _ _ _ _ _ _ us hl => match us, hl with | [_, _, _], _ => rfl) sc_with_rule (fun vs H Q E h => ?_) (fun cdv A outer s0 H vs Q E hr h tk => ?_)
  · obtain ⟨t, rl, qd, us, kvs, ds, qs, lim, v, nm, l, r, rfl, _⟩ := h
    rfl
  obtain ⟨t, rl, qd, us, kvs, ds, qs, lim, v, nm, l, r, rfl, hS, hO, hl12, hv, ⟨hnm, hl, hr2⟩, q1, q2⟩ := h
  have hdl := hO.len
  have hul := hS.us.len
  obtain ⟨c, vl, vr, rfl, hc, hvl, hvr⟩ := four_tp hv
  refine ⟨_, (pss_cons (ps_asg (pv 1) (pg_tupK K (n := 4) rfl (pgs_cons (pg_name (i := 3) sc_with_rule.nd rfl (Or.inl rfl) (.inl rfl)) (pgs_cons (pg_name (i := 4) sc_with_rule.nd rfl (Or.inl rfl) (.inl rfl)) (pgs_cons (pg_name (i := 5) sc_with_rule.nd rfl (Or.inl rfl) (.inl rfl)) (pgs_cons (pg_name (i := 6) sc_with_rule.nd rfl (Or.inl rfl) (.inl rfl)) pgs_nil))))))
  (pss_cons (ps_if (pt_not (pt_val (pe_def D_is_name hr (by first | decide | omega) (pa_cons (pv 4) pa_nil))))
  (pss_one (ps_raise rfl tk (pmk_raise1 x_InvalidName hr (by first | decide | omega) (pa_cons (pv 4) pa_nil) (mono := by intro σ H Q Q' h q; first | exact h _ _ q | exact (let ⟨v, e, q⟩ := q; ⟨v, e, h _ _ q⟩) | exact (let ⟨v, e, x, n, e2, h2, q⟩ := q; ⟨v, e, x, n, e2, h2, h _ _ q⟩) | exact (let ⟨v, e, a, b, c, d, e1, e2, h1, h2, q⟩ := q; ⟨v, e, a, b, c, d, e1, e2, h1, h2, h _ _ q⟩)))))
  pss_nil)
  (pss_cons (ps_if (pt_cmpR (op_in_seqK K) (pv 4) (pe_def D_names_in hr (by first | decide | omega) (pa_cons (pv 0) pa_nil)) (by rfl))
  (pss_one (ps_raise rfl tk (pmk_raise1 x_NameInUse hr (by first | decide | omega) (pa_cons (pv 4) pa_nil) (mono := by intro σ H Q Q' h q; first | exact h _ _ q | exact (let ⟨v, e, q⟩ := q; ⟨v, e, h _ _ q⟩) | exact (let ⟨v, e, x, n, e2, h2, q⟩ := q; ⟨v, e, x, n, e2, h2, h _ _ q⟩) | exact (let ⟨v, e, a, b, c, d, e1, e2, h1, h2, q⟩ := q; ⟨v, e, a, b, c, d, e1, e2, h1, h2, h _ _ q⟩)))))
  pss_nil)
  (pss_cons (ps_expr (pe_defx (E := E) D_need_terms tk (fun _ _ _ _ h => h) hr (by first | decide | omega) (pa_cons (pv 5) (pa_cons (pv 6) pa_nil))))
  (pss_cons (ps_if (pt_cmpR op_ge (pe_callB (call_lenK K) (by rfl) T.b_len (by decide +kernel) (pa_cons (pe_ix (ix_tupK K) (pv 0) pe_int (fun _ _ => rfl)) pa_nil)) (pv 2) (nomark _))
  (pss_one (ps_raise rfl tk (pmk_raise1 x_CapacityReached hr (by first | decide | omega) (pa_cons (pv 2) pa_nil) (mono := by intro σ H Q Q' h q; first | exact h _ _ q | exact (let ⟨v, e, q⟩ := q; ⟨v, e, h _ _ q⟩) | exact (let ⟨v, e, x, n, e2, h2, q⟩ := q; ⟨v, e, x, n, e2, h2, h _ _ q⟩) | exact (let ⟨v, e, a, b, c, d, e1, e2, h1, h2, q⟩ := q; ⟨v, e, a, b, c, d, e1, e2, h1, h2, h _ _ q⟩)))))
  pss_nil)
  (pss_one (ps_ret (pe_defx (E := E) D_checked tk (fun _ _ _ _ h => h) hr (by first | decide | omega) (pa_cons (pe_tup (pa_cons (pe_lst (StX.pa_star (pe_ix (ix_tupK K) (pv 0) pe_int (fun _ _ => rfl)) (pa_cons (pe_tup (pa_cons (pv 4) (pa_cons (pv 5) (pa_cons (pv 6) pa_nil)))) pa_nil))) (pa_cons (pe_ix (ix_tupK K) (pv 0) pe_int (fun _ _ => rfl)) pa_nil))) pa_nil))))))))), ?_⟩
  refine ⟨_, rfl, c, _, rfl, hc, rfl, _, _, rfl, _, _, rfl, _, _, rfl, _, _, rfl, rfl, ?_⟩
  dsimp only
  refine ⟨_, rfl, nm, rfl, name_len hnm, fun H1 e1 => ⟨_, rfl, ?_⟩⟩
  rw [hnm]
  refine if_nb (fun h => absurd h (by decide)) (fun _ => ?_)
  have hS1 := hS.up e1
  refine ⟨_, rfl, _, rfl, t, rl, qd, us, kvs, ds, qs, rfl, hS1, hO.rul, Nat.le_trans hdl (Nat.le_trans hl12 (by decide)), fun p H2 e2 hp0 hp => ?_⟩
  refine ⟨p, _, rfl, .inl (SqL.of hp), rfl, flat_nms _, _, rfl, ?_⟩
  rw [inV_nms]
  have e12 := e1.trans e2
  have hS2 := hS.up e12
  refine if_b (fun hb => ?_) (fun hb => ?_)
  · have hin := of_decide_eq_true hb
    refine ⟨_, rfl, _, rfl, fun dd H3 e3 hd => ?_⟩
    exact q2 ⟨"NameInUse", .str nm⟩ (by dsimp only [afterD]; rw [if_pos hin]) dd H3 (e12.trans e3) hd
  have hno := of_decide_eq_false hb
  refine ⟨_, rfl, _, rfl, vl, vr, l, r, rfl, (hvl.up (Same.T e12)).dp, (hvr.up (Same.T e12)).dp, hl.2.2.ok, hr2.2.2.ok, hl.2.1, hr2.2.1, fun H3 e3 => ?_⟩
  have e13 := e12.trans e3
  have hS3 := hS.up e13
  refine ⟨_, rfl, t, _, _, .ref rl, rfl, rfl, hS3.at_, at0, .ref rl, us.length, rfl, .inl ⟨us, SqL.of hS3.rl, rfl⟩, _, rfl, _, _, rfl, rfl, ?_⟩
  refine ⟨_, rfl, ?_⟩
  refine if_dec (fun hge => ?_) (fun hlt => ?_)
  · refine ⟨_, rfl, _, rfl, fun dd H4 e4 hd => ?_⟩
    refine q2 ⟨"CapacityReached", .int lim⟩ (by dsimp only [afterD]; rw [if_neg hno, if_pos (by omega)]) dd H4 (e13.trans e4) hd
  refine ⟨_, rfl, t, _, _, .ref rl, rfl, rfl, hS3.at_, at0, rl, us, rfl, .inr (SqL.of hS3.rl), _, rfl, _, rfl, _, rfl, (by show 3 ≤ sizeLine; decide), fun tt htt => ?_⟩
  have e4 := same_new htt (.tup [.str nm, vl, vr])
  have h4 : (upd H3 tt (.tup [.str nm, vl, vr])) tt = some (.tup [.str nm, vl, vr]) := upd_same
  have e14 := e13.trans e4
  have hS4 := hS.up e14
  generalize upd H3 tt (.tup [.str nm, vl, vr]) = H4 at e4 h4 e14 hS4 ⊢
  refine ⟨le_line (by rw [List.length_append, hul]; show ds.length + 1 ≤ 20000; omega), fun nl hnl => ?_⟩
  have e5 := same_new hnl (.lst (us ++ [.ref tt]))
  have h5 : (upd H4 nl (.lst (us ++ [.ref tt]))) nl = some (.lst (us ++ [.ref tt])) := upd_same
  have e15 := e14.trans e5
  have hS5 := hS.up e15
  have h54 := e5 _ _ h4
  generalize upd H4 nl (.lst (us ++ [.ref tt])) = H5 at e5 h5 e15 hS5 h54 ⊢
  refine ⟨_, rfl, t, _, _, .ref qd, rfl, rfl, hS5.at_, (rfl : atI [V.ref rl, V.ref qd] 1 = some (.ref qd)), (by show 2 ≤ sizeLine; decide), fun t2 ht2 => ?_⟩
  have e6 := same_new ht2 (.tup [.ref nl, .ref qd])
  have e16 := e15.trans e6
  have hN : TpAll K (upd H5 t2 (.tup [.ref nl, .ref qd])) (us ++ [.ref tt]) (ds ++ [.tuple [.str nm, l, r]]) := tpa_snoc (.tup (.inl (e6 _ _ h54)) (.cons (.str _) (.cons (hvl.up (Same.T e16)) (.cons (hvr.up (Same.T e16)) .nil)))) (hS.us.up (Same.T e16))
  have hS6 : ScV K (upd H5 t2 (.tup [.ref nl, .ref qd])) t2 nl qd (us ++ [.ref tt]) kvs (ds ++ [.tuple [.str nm, l, r]]) qs := ⟨SqT.of upd_same, e6 _ _ h5, hN, e6 _ _ hS5.qd, hS5.qs.up (Same.T e6)⟩
  have hO6 : StOk lim (ds ++ [.tuple [.str nm, l, r]]) qs := by
    refine ⟨fun d hd => ?_, ?_, by rw [List.length_append, List.length_singleton]; omega, hO.gol, hO.nq, hO.lq⟩
    · rcases List.mem_append.mp hd with hd | hd
      · exact hO.rul d hd
      · rw [List.mem_singleton.mp hd]; exact ⟨nm, l, r, rfl, hnm, hl, hr2⟩
    · rw [List.map_append]
      refine List.nodup_append.mpr ⟨hO.nd, by simp, fun a ha b hb => ?_⟩
      obtain rfl : b = nm := List.mem_singleton.mp hb
      exact fun z => hno (z ▸ ha)
  have hO12 : StOk 12 (ds ++ [.tuple [.str nm, l, r]]) qs := ⟨hO6.rul, hO6.nd, Nat.le_trans hO6.len hl12, hO6.gol, hO6.nq, hO6.lq⟩
  have ha : afterD lim ds qs (.add nm l r) = chkD (ds ++ [.tuple [.str nm, l, r]]) qs := by dsimp only [afterD]; rw [if_neg hno, if_neg (by omega)]
  refine ⟨t2, nl, qd, _, kvs, _, qs, rfl, hS6, hO12, fun hn H7 e7 => ?_, fun n hn => ?_⟩
  · exact q1 _ _ (by rw [ha]; unfold chkD; rw [hn]) t2 nl qd _ kvs H7 (e16.trans e7) (hS6.up e7)
  · have := q2 ⟨"TooManyTerms", .int n⟩ (by rw [ha]; unfold chkD; rw [hn])
    exact Err1.up (this : Err1 K "TooManyTerms" "count" (.int n) H E) e16
end
end FF
/-! stores: put, ask, forget -/
namespace FF
open PySem PySem.Spec PyProof.Rows L2
theorem StOk.put {lim : Nat} {ds : List PyData} {qs : Qs} {nm : Str} {l r : PyData} (h : StOk lim ds qs) (hn : isNameS nm = true) (hl : TermD l) (hr : TermD r) : StOk lim (ds.map fun d => if nameOf d = nm then PyData.tuple [.str nm, l, r] else d) qs := by
  have hm : (ds.map fun d => if nameOf d = nm then PyData.tuple [.str nm, l, r] else d).map nameOf = ds.map nameOf := by
    rw [List.map_map]
    refine List.map_congr_left fun d hd => ?_
    show nameOf (if nameOf d = nm then PyData.tuple [.str nm, l, r] else d) = nameOf d
    split
    · next h2 => rw [h2] <;> rfl
    · rfl
  refine ⟨fun d hd => ?_, by rw [hm]; exact h.nd, by rw [List.length_map]; exact h.len, h.gol, h.nq, h.lq⟩
  obtain ⟨d0, hd0, rfl⟩ := List.mem_map.mp hd
  split
  · exact ⟨nm, l, r, rfl, hn, hl, hr⟩
  · exact h.rul d0 hd0
theorem StOk.up12 {lim : Nat} {ds : List PyData} {qs : Qs} (h : StOk lim ds qs) (hl : lim ≤ 12) : StOk 12 ds qs := ⟨h.rul, h.nd, Nat.le_trans h.len hl, h.gol, h.nq, h.lq⟩
section
variable {P : Program} {w : World} {K : PySem.W.Frag} {mg : Str → Option Value} {base : Heap}
def spWOther (K : PySem.W.Frag) : Sp := fun vs H Q E => ∃ (t rl qd : Addr) (us : List V) (kvs : List (Key × V)) (ds : List PyData) (qs : Qs) (lim : Nat) (v : V) (nm : Str) (l r : PyData), vs = [.ref t, v] ∧ ScV K H t rl qd us kvs ds qs ∧ StOk lim ds qs ∧ lim ≤ 12 ∧ Tp K H v (Cmd.put nm l r).data ∧ (Cmd.put nm l r).ok ∧ StepQ K H Q E (afterD lim ds qs (.put nm l r))
theorem ok_with_other {f : Addr} {fd : FuncData} (F : FunD K "with_other_rule" "with_other_rule" (defArgs s_with_other_rule) (defBody s_with_other_rule) (defScope s_with_other_rule) [] [] f fd) (hm : mg "with_other_rule" = some (.ref f)) (T : Top K mg)
    (D_names_in : Def P w K mg base "names_in" 1 ["scene"] (spNamesIn K)) (D_need_terms : DefX P w K mg base "need_terms" 15 ["left", "right"] (spNeeds K)) (D_checked : DefX P w K mg base "checked" 19 ["scene"] (spChk K))
    (x_UnknownRule : RaiseG1 P w K mg base lkB "UnknownRule" 2 "UnknownRule" "name") :
    DefX P w K mg base "with_other_rule" 20 ["scene", "command"] (spWOther K) := by
  refine defx_mk F hm (F.bindsN fun _ _ _ _ _ _ us hl => match us, hl with | [_, _], _ => rfl) sc_with_other_rule (fun vs H Q E h => ?_) (fun cdv A outer s0 H vs Q E hr h tk => ?_)
  · obtain ⟨t, rl, qd, us, kvs, ds, qs, lim, v, nm, l, r, rfl, _⟩ := h
    rfl
  obtain ⟨t, rl, qd, us, kvs, ds, qs, lim, v, nm, l, r, rfl, hS, hO, hl12, hv, ⟨hnm, hl, hr2⟩, q1, q2⟩ := h
  have hdl := hO.len
  have hul := hS.us.len
  obtain ⟨c, vl, vr, rfl, hc, hvl, hvr⟩ := four_tp hv
  refine ⟨_, (pss_cons (ps_asg (pv 1) (pg_tupK K (n := 4) rfl (pgs_cons (pg_name (i := 2) sc_with_other_rule.nd rfl (Or.inl rfl) (.inl rfl)) (pgs_cons (pg_name (i := 3) sc_with_other_rule.nd rfl (Or.inr rfl) (.inl rfl)) (pgs_cons (pg_name (i := 4) sc_with_other_rule.nd rfl (Or.inr rfl) (.inl rfl)) (pgs_cons (pg_name (i := 5) sc_with_other_rule.nd rfl (Or.inr rfl) (.inl rfl)) pgs_nil))))))
  (pss_cons (ps_if (pt_cmpR (op_notIn_seqK K) (pv 3) (pe_def D_names_in hr (by first | decide | omega) (pa_cons (pv 0) pa_nil)) (by rfl))
  (pss_one (ps_raise rfl tk (pmk_raiseG1 x_UnknownRule hr (by first | decide | omega) (pa_cons (pv 3) pa_nil) (mono := by intro σ H Q Q' h q; first | exact h _ _ q | exact (let ⟨v, e, q⟩ := q; ⟨v, e, h _ _ q⟩) | exact (let ⟨v, e, x, n, e2, h2, q⟩ := q; ⟨v, e, x, n, e2, h2, h _ _ q⟩) | exact (let ⟨v, e, a, b, c, d, e1, e2, h1, h2, q⟩ := q; ⟨v, e, a, b, c, d, e1, e2, h1, h2, h _ _ q⟩)))))
  pss_nil)
  (pss_cons (ps_expr (pe_defx (E := E) D_need_terms tk (fun _ _ _ _ h => h) hr (by first | decide | omega) (pa_cons (pv 4) (pa_cons (pv 5) pa_nil))))
  (pss_cons (ps_setLc (i := 6) (own := [("rule", 7)]) rfl sc_with_other_rule.nd rfl rfl (sw_true rfl rfl rfl (by kernel_rfl)) (pi_listK K (pe_ix (ix_tupK K) (pv 0) pe_int (fun _ _ => rfl))) (blkOk_by (by kernel_rfl)) (fun _ _ _ _ _ => (pg_name (i := 7) sc_with_other_rule.nd rfl (Or.inl rfl) (.inr rfl))) (fun _ _ _ _ _ => pts_nil) (fun _ _ _ _ _ => (pe_ifExp (pt_cmpR op_eq (pe_ix (ix_tupK K) (pv 7) pe_int (fun _ _ => rfl)) (pv 3) (nomark _)) (pe_tup (pa_cons (pv 3) (pa_cons (pv 4) (pa_cons (pv 5) pa_nil)))) (pv 7))))
  (pss_one (ps_ret (pe_defx (E := E) D_checked tk (fun _ _ _ _ h => h) hr (by first | decide | omega) (pa_cons (pe_tup (pa_cons (pv 6) (pa_cons (pe_ix (ix_tupK K) (pv 0) pe_int (fun _ _ => rfl)) pa_nil))) pa_nil)))))))), ?_⟩
  refine ⟨_, rfl, c, _, rfl, hc, rfl, _, _, rfl, _, _, rfl, _, _, rfl, _, _, rfl, rfl, ?_⟩
  dsimp only
  refine ⟨_, rfl, _, rfl, t, rl, qd, us, kvs, ds, qs, rfl, hS, hO.rul, Nat.le_trans hdl (Nat.le_trans hl12 (by decide)), fun p H2 e12 hp0 hp => ?_⟩
  refine ⟨p, _, rfl, .inl (SqL.of hp), rfl, flat_nms _, _, rfl, ?_⟩
  rw [inV_nms]
  refine if_nb (fun hb => ?_) (fun hb => ?_)
  · have hno := of_decide_eq_false hb
    refine ⟨_, rfl, _, rfl, fun dd H3 e3 hd => ?_⟩
    exact q2 ⟨"UnknownRule", .str nm⟩ (by dsimp only [afterD]; rw [if_neg hno]) dd H3 (e12.trans e3) hd
  have hin := of_decide_eq_true hb
  refine ⟨_, rfl, _, rfl, vl, vr, l, r, rfl, (hvl.up (Same.T e12)).dp, (hvr.up (Same.T e12)).dp, hl.2.2.ok, hr2.2.2.ok, hl.2.1, hr2.2.1, fun H3 e3 => ?_⟩
  have e13 := e12.trans e3
  have hS3 := hS.up e13
  refine ⟨_, rfl, t, _, _, .ref rl, rfl, rfl, hS3.at_, at0, rl, rfl, ⟨_, SqL.of hS3.rl⟩, fun D hD => ?_⟩
  refine lc_mapL (j := 7) (fun i y H' => ∃ d, ds[i]? = some d ∧ Tp K H' y (if nameOf d = nm then PyData.tuple [.str nm, l, r] else d)) (fun i y H1 H2 e ⟨d, h1, h2⟩ => ⟨d, h1, h2.up e⟩) hD (SqL.of hS3.rl) (le_line (by omega)) (fun _ => rfl) ?_ ?_
  · intro i x H4 hx e4 Q' k'
    obtain ⟨d, hd, hxd⟩ := hS3.us.get hx
    have hx4 := hxd.up (Same.T e4)
    obtain ⟨ta, r9, rfl, hta⟩ := rul_tp hx4 (hO.rul d (List.mem_of_getElem? hd))
    have e14 := e13.trans e4
    refine ⟨_, rfl, ta, _, _, _, rfl, rfl, hta, at0, _, rfl, rfl, _, rfl, ?_⟩
    refine if_dec (fun he => ?_) (fun he => ?_)
    · have he := V.str.inj he
      refine ⟨_, rfl, _, rfl, _, rfl, (by show 3 ≤ sizeLine; decide), fun tt htt => k' _ _ (same_new htt _) ⟨d, hd, ?_⟩⟩
      rw [if_pos he]
      have e5 := e14.trans (same_new htt (.tup [.str nm, vl, vr]))
      exact .tup (.inl upd_same) (.cons (.str _) (.cons (hvl.up (Same.T e5)) (.cons (hvr.up (Same.T e5)) .nil)))
    · refine ⟨_, rfl, k' _ _ (Same.refl _) ⟨d, hd, ?_⟩⟩
      rw [if_neg (fun z => he (by rw [z]))]
      exact hx4
  intro H4 ys e4 hD4 hyl hy
  have e14 := e13.trans e4
  have hS4 := hS.up e14
  have hys : TpAll K H4 ys (ds.map fun d => if nameOf d = nm then PyData.tuple [.str nm, l, r] else d) := TpAll.of_get (by rw [List.length_map, hyl, hul]) fun i u d h1 h2 => by
    rw [List.getElem?_map] at h2
    obtain ⟨d0, h3, rfl⟩ := Option.map_eq_some_iff.mp h2
    obtain ⟨d1, h4, h5⟩ := hy i u h1
    rw [h3] at h4
    cases h4
    exact h5
  refine ⟨_, rfl, _, rfl, t, _, _, .ref qd, rfl, rfl, hS4.at_, (rfl : atI [V.ref rl, V.ref qd] 1 = some (.ref qd)), (by show 2 ≤ sizeLine; decide), fun t2 ht2 => ?_⟩
  have e6 := same_new ht2 (.tup [.ref D, .ref qd])
  have e16 := e14.trans e6
  have hS6 : ScV K (upd H4 t2 (.tup [.ref D, .ref qd])) t2 D qd ys kvs (ds.map fun d => if nameOf d = nm then PyData.tuple [.str nm, l, r] else d) qs := ⟨SqT.of upd_same, e6 _ _ hD4, hys.up (Same.T e6), e6 _ _ hS4.qd, hS4.qs.up (Same.T e6)⟩
  have hO6 := hO.put hnm hl hr2
  have ha : afterD lim ds qs (.put nm l r) = chkD (ds.map fun d => if nameOf d = nm then PyData.tuple [.str nm, l, r] else d) qs := by dsimp only [afterD]; rw [if_pos hin]
  refine ⟨t2, D, qd, _, kvs, _, qs, rfl, hS6, hO6.up12 hl12, fun hn H7 e7 => ?_, fun n hn => ?_⟩
  · exact q1 _ _ (by rw [ha]; unfold chkD; rw [hn]) t2 D qd _ kvs H7 (e16.trans e7) (hS6.up e7)
  · have := q2 ⟨"TooManyTerms", .int n⟩ (by rw [ha]; unfold chkD; rw [hn])
    exact Err1.up (this : Err1 K "TooManyTerms" "count" (.int n) H E) e16
end
end FF
/-! stores: ask -/
namespace FF
open PySem PySem.Spec PyProof.Rows L2
theorem QsAll.snoc {K : PySem.W.Frag} {H : Hp} {z : Str} {v : V} {d : PyData} (h : Tp K H v d) : ∀ {kvs : List (Key × V)} {qs : Qs}, QsAll K H kvs qs → QsAll K H (kvs ++ [(.inr z, v)]) (qs ++ [(z, d)])
  | _, _, .nil => .cons h .nil
  | _, _, .cons a b => .cons a (QsAll.snoc h b)
theorem QsAll.isSome {K : PySem.W.Frag} {H : Hp} {z : Str} {kvs : List (Key × V)} {qs : Qs} (h : QsAll K H kvs qs) : (valV kvs (.inr z)).isSome = decide (z ∈ qs.map Prod.fst) := by
  rw [← valV_any]
  induction h with
  | nil => rfl
  | @cons y v d kvs qs a b ih =>
    rw [List.any_cons, ih, List.map_cons]
    by_cases e : z = y
    · subst e
      simp
    · have : decide ((Sum.inr y : Key) = Sum.inr z) = false := decide_eq_false fun q => e (Sum.inr.inj q).symm
      rw [this]
      simp [e]
theorem putK_snoc {kvs : List (Key × V)} {k : Key} {v : V} (h : (valV kvs k).isSome = false) : putK kvs k v = kvs ++ [(k, v)] := by
  unfold putK
  rw [valV_any, h]
  rfl
section
variable {P : Program} {w : World} {K : PySem.W.Frag} {mg : Str → Option Value} {base : Heap}
def spWQues (K : PySem.W.Frag) : Sp := fun vs H Q E => ∃ (t rl qd : Addr) (us : List V) (kvs : List (Key × V)) (ds : List PyData) (qs : Qs) (lim : Nat) (v : V) (nm : Str) (l r : PyData), vs = [.ref t, v] ∧ ScV K H t rl qd us kvs ds qs ∧ StOk lim ds qs ∧ lim ≤ 12 ∧ Tp K H v (Cmd.ask nm l r).data ∧ (Cmd.ask nm l r).ok ∧ StepQ K H Q E (afterD lim ds qs (.ask nm l r))
theorem ok_with_question {f : Addr} {fd : FuncData} (F : FunD K "with_question" "with_question" (defArgs s_with_question) (defBody s_with_question) (defScope s_with_question) [] [] f fd) (hm : mg "with_question" = some (.ref f)) (T : Top K mg)
    (D_is_name : Def P w K mg base "is_name" 1 ["text"] (spName K)) (D_need_terms : DefX P w K mg base "need_terms" 15 ["left", "right"] (spNeeds K)) (D_checked : DefX P w K mg base "checked" 19 ["scene"] (spChk K))
    (x_InvalidName : RaiseD1 P w K mg base "InvalidName" "FaultError" 2 "InvalidName" "name") (x_NameInUse : RaiseD1 P w K mg base "NameInUse" "FaultError" 2 "NameInUse" "name") (x_CapacityReached : RaiseD1 P w K mg base "CapacityReached" "FaultError" 2 "CapacityReached" "limit") :
    DefX P w K mg base "with_question" 20 ["scene", "command"] (spWQues K) := by
  refine defx_mk F hm (F.bindsN fun _ _ _ _ _ _ us hl => match us, hl with | [_, _], _ => rfl) sc_with_question (fun vs H Q E h => ?_) (fun cdv A outer s0 H vs Q E hr h tk => ?_)
  · obtain ⟨t, rl, qd, us, kvs, ds, qs, lim, v, nm, l, r, rfl, _⟩ := h
    rfl
  obtain ⟨t, rl, qd, us, kvs, ds, qs, lim, v, nm, l, r, rfl, hS, hO, hl12, hv, ⟨hnm, hl, hr2⟩, q1, q2⟩ := h
  have hql := hO.lq
  have hkl := hS.qs.len
  obtain ⟨c, vl, vr, rfl, hc, hvl, hvr⟩ := four_tp hv
  refine ⟨_, (pss_cons (ps_asg (pv 1) (pg_tupK K (n := 4) rfl (pgs_cons (pg_name (i := 2) sc_with_question.nd rfl (Or.inl rfl) (.inl rfl)) (pgs_cons (pg_name (i := 3) sc_with_question.nd rfl (Or.inl rfl) (.inl rfl)) (pgs_cons (pg_name (i := 4) sc_with_question.nd rfl (Or.inl rfl) (.inl rfl)) (pgs_cons (pg_name (i := 5) sc_with_question.nd rfl (Or.inl rfl) (.inl rfl)) pgs_nil))))))
  (pss_cons (ps_if (pt_not (pt_val (pe_def D_is_name hr (by first | decide | omega) (pa_cons (pv 3) pa_nil))))
  (pss_one (ps_raise rfl tk (pmk_raise1 x_InvalidName hr (by first | decide | omega) (pa_cons (pv 3) pa_nil) (mono := by intro σ H Q Q' h q; first | exact h _ _ q | exact (let ⟨v, e, q⟩ := q; ⟨v, e, h _ _ q⟩) | exact (let ⟨v, e, x, n, e2, h2, q⟩ := q; ⟨v, e, x, n, e2, h2, h _ _ q⟩) | exact (let ⟨v, e, a, b, c, d, e1, e2, h1, h2, q⟩ := q; ⟨v, e, a, b, c, d, e1, e2, h1, h2, h _ _ q⟩)))))
  pss_nil)
  (pss_cons (ps_if (pt_cmp (pc_din (hu_of hr) (pv 3) (pe_ix (ix_tupK K) (pv 0) pe_int (fun _ _ => rfl))) (by rfl))
  (pss_one (ps_raise rfl tk (pmk_raise1 x_NameInUse hr (by first | decide | omega) (pa_cons (pv 3) pa_nil) (mono := by intro σ H Q Q' h q; first | exact h _ _ q | exact (let ⟨v, e, q⟩ := q; ⟨v, e, h _ _ q⟩) | exact (let ⟨v, e, x, n, e2, h2, q⟩ := q; ⟨v, e, x, n, e2, h2, h _ _ q⟩) | exact (let ⟨v, e, a, b, c, d, e1, e2, h1, h2, q⟩ := q; ⟨v, e, a, b, c, d, e1, e2, h1, h2, h _ _ q⟩)))))
  pss_nil)
  (pss_cons (ps_expr (pe_defx (E := E) D_need_terms tk (fun _ _ _ _ h => h) hr (by first | decide | omega) (pa_cons (pv 4) (pa_cons (pv 5) pa_nil))))
  (pss_cons (ps_if (pt_cmpR op_ge (pe_callB L2.call_lenD (by rfl) T.b_len (by decide +kernel) (pa_cons (pe_ix (ix_tupK K) (pv 0) pe_int (fun _ _ => rfl)) pa_nil)) (pe_gi T.g_MAX_QUESTIONS) (nomark _))
  (pss_one (ps_raise rfl tk (pmk_raise1 x_CapacityReached hr (by first | decide | omega) (pa_cons (pe_gi T.g_MAX_QUESTIONS) pa_nil) (mono := by intro σ H Q Q' h q; first | exact h _ _ q | exact (let ⟨v, e, q⟩ := q; ⟨v, e, h _ _ q⟩) | exact (let ⟨v, e, x, n, e2, h2, q⟩ := q; ⟨v, e, x, n, e2, h2, h _ _ q⟩) | exact (let ⟨v, e, a, b, c, d, e1, e2, h1, h2, q⟩ := q; ⟨v, e, a, b, c, d, e1, e2, h1, h2, h _ _ q⟩)))))
  pss_nil)
  (pss_one (ps_ret (pe_defx (E := E) D_checked tk (fun _ _ _ _ h => h) hr (by first | decide | omega) (pa_cons (pe_tup (pa_cons (pe_ix (ix_tupK K) (pv 0) pe_int (fun _ _ => rfl)) (pa_cons (pe_dstar (pe_ix (ix_tupK K) (pv 0) pe_int (fun _ _ => rfl)) (pv 3) (pe_tup (pa_cons (pv 4) (pa_cons (pv 5) pa_nil)))) pa_nil))) pa_nil))))))))), ?_⟩
  refine ⟨_, rfl, c, _, rfl, hc, rfl, _, _, rfl, _, _, rfl, _, _, rfl, _, _, rfl, rfl, ?_⟩
  dsimp only
  refine ⟨_, rfl, nm, rfl, name_len hnm, fun H1 e1 => ⟨_, rfl, ?_⟩⟩
  rw [hnm]
  refine if_nb (fun h => absurd h (by decide)) (fun _ => ?_)
  have hS1 := hS.up e1
  refine ⟨_, rfl, _, rfl, t, _, _, .ref qd, rfl, rfl, hS1.at_, (rfl : atI [V.ref rl, V.ref qd] 1 = some (.ref qd)), qd, _, rfl, DGet.k (k := .inr nm) hS1.qd, _, rfl, ?_⟩
  rw [hS1.qs.isSome]
  refine if_b (fun hb => ?_) (fun hb => ?_)
  · have hin := of_decide_eq_true hb
    refine ⟨_, rfl, _, rfl, fun dd H3 e3 hd => ?_⟩
    exact q2 ⟨"NameInUse", .str nm⟩ (by dsimp only [afterD]; rw [if_pos hin]) dd H3 (e1.trans e3) hd
  have hno := of_decide_eq_false hb
  refine ⟨_, rfl, _, rfl, vl, vr, l, r, rfl, (hvl.up (Same.T e1)).dp, (hvr.up (Same.T e1)).dp, hl.2.2.ok, hr2.2.2.ok, hl.2.1, hr2.2.1, fun H3 e3 => ?_⟩
  have e13 := e1.trans e3
  have hS3 := hS.up e13
  refine ⟨_, rfl, t, _, _, .ref qd, rfl, rfl, hS3.at_, (rfl : atI [V.ref rl, V.ref qd] 1 = some (.ref qd)), qd, kvs, rfl, hS3.qd, _, _, rfl, rfl, ?_⟩
  refine ⟨_, rfl, ?_⟩
  refine if_dec (fun hge => ?_) (fun hlt => ?_)
  · refine ⟨_, rfl, fun dd H4 e4 hd => ?_⟩
    exact q2 ⟨"CapacityReached", .int 8⟩ (by dsimp only [afterD]; rw [if_neg hno, if_pos (by omega)]) dd H4 (e13.trans e4) hd
  refine ⟨_, rfl, t, _, _, .ref rl, rfl, rfl, hS3.at_, at0, fun p hp => ?_⟩
  have e4 := same_new hp (.dK [])
  have hS4 := hS3.up e4
  have pq : qd ≠ p := ne_of_none hS3.qd hp
  refine ⟨_, rfl, t, _, _, .ref qd, rfl, rfl, hS4.at_, (rfl : atI [V.ref rl, V.ref qd] 1 = some (.ref qd)), qd, kvs, rfl, pq, upd_same, hS4.qd, lt_line (by omega), fun q hq => ?_⟩
  have hqp : q ≠ p := fun z => by rw [z, upd_same] at hq; cases hq
  have hq3 : H3 q = none := by rwa [upd_ne hqp, upd_ne hqp] at hq
  refine ⟨_, rfl, _, rfl, _, rfl, (by show 2 ≤ sizeLine; decide), fun tt htt => ?_⟩
  have htq : tt ≠ q := fun z => by rw [z, upd_same] at htt; cases htt
  have htp : tt ≠ p := fun z => by rw [z, upd_ne (Ne.symm hqp), upd_same] at htt; cases htt
  have ht3 : H3 tt = none := by rwa [upd_ne htq, upd_ne htp, upd_ne htp] at htt
  refine ⟨.inr nm, rfl, by rw [upd_ne (Ne.symm htp), upd_ne (Ne.symm hqp), upd_same], by rw [upd_ne (Ne.symm htq), upd_same], (by show 2 ≤ sizeLine; decide), fun t2 ht2 => ?_⟩
  have hsome : (valV kvs (.inr nm)).isSome = false := by rw [hS.qs.isSome]; exact hb
  rw [putK_snoc hsome] at ht2 ⊢
  have e35 : Same H3 (upd (upd (upd (upd (upd (upd H3 p (.dK [])) p (.dK kvs)) q (.dK [])) tt (.tup [vl, vr])) q (.dK [(.inr nm, V.ref tt)])) p (.dK (kvs ++ [(.inr nm, V.ref tt)]))) := fun b u hb => by
    rw [upd_ne (ne_of_none hb hp), upd_ne (ne_of_none hb hq3), upd_ne (ne_of_none hb ht3), upd_ne (ne_of_none hb hq3), upd_ne (ne_of_none hb hp), upd_ne (ne_of_none hb hp)]
    exact hb
  have hpp : (upd (upd (upd (upd (upd (upd H3 p (.dK [])) p (.dK kvs)) q (.dK [])) tt (.tup [vl, vr])) q (.dK [(.inr nm, V.ref tt)])) p (.dK (kvs ++ [(.inr nm, V.ref tt)]))) p = some (.dK (kvs ++ [(.inr nm, V.ref tt)])) := upd_same
  have htt5 : (upd (upd (upd (upd (upd (upd H3 p (.dK [])) p (.dK kvs)) q (.dK [])) tt (.tup [vl, vr])) q (.dK [(.inr nm, V.ref tt)])) p (.dK (kvs ++ [(.inr nm, V.ref tt)]))) tt = some (.tup [vl, vr]) := by rw [upd_ne htp, upd_ne htq, upd_same]
  generalize upd (upd (upd (upd (upd (upd H3 p (.dK [])) p (.dK kvs)) q (.dK [])) tt (.tup [vl, vr])) q (.dK [(.inr nm, V.ref tt)])) p (.dK (kvs ++ [(.inr nm, V.ref tt)])) = H5 at ht2 e35 hpp htt5 ⊢
  have e6 := same_new ht2 (.tup [.ref rl, .ref p])
  have e16 := e13.trans (e35.trans e6)
  have hS5 := hS3.up e35
  have hgt : Tp K (upd H5 t2 (.tup [.ref rl, .ref p])) (.ref tt) (.tuple [l, r]) := .tup (.inl (e6 _ _ htt5)) (.cons (hvl.up (Same.T e16)) (.cons (hvr.up (Same.T e16)) .nil))
  have hS6 : ScV K (upd H5 t2 (.tup [.ref rl, .ref p])) t2 rl p us (kvs ++ [(.inr nm, V.ref tt)]) ds (qs ++ [(nm, .tuple [l, r])]) := ⟨SqT.of upd_same, e6 _ _ hS5.rl, hS5.us.up (Same.T e6), e6 _ _ hpp, QsAll.snoc hgt (hS5.qs.up (Same.T e6))⟩
  have hO6 : StOk 12 ds (qs ++ [(nm, .tuple [l, r])]) := by
    refine ⟨hO.rul, hO.nd, Nat.le_trans hO.len hl12, fun q hq => ?_, ?_, by rw [List.length_append, List.length_singleton]; omega⟩
    · rcases List.mem_append.mp hq with hq | hq
      · exact hO.gol q hq
      · rw [List.mem_singleton.mp hq]; exact ⟨l, r, rfl, hl, hr2⟩
    · rw [List.map_append]
      refine List.nodup_append.mpr ⟨hO.nq, by simp, fun a ha b hb => ?_⟩
      obtain rfl : b = nm := List.mem_singleton.mp hb
      exact fun z => hno (z ▸ ha)
  have ha : afterD lim ds qs (.ask nm l r) = chkD ds (qs ++ [(nm, .tuple [l, r])]) := by dsimp only [afterD]; rw [if_neg hno, if_neg (by omega)]
  refine ⟨t2, rl, p, us, _, ds, _, rfl, hS6, hO6, fun hn H7 e7 => ?_, fun n hn => ?_⟩
  · exact q1 _ _ (by rw [ha]; unfold chkD; rw [hn]) t2 rl p us _ H7 (e16.trans e7) (hS6.up e7)
  · have := q2 ⟨"TooManyTerms", .int n⟩ (by rw [ha]; unfold chkD; rw [hn])
    exact Err1.up (this : Err1 K "TooManyTerms" "count" (.int n) H E) e16
end
end FF
/-! stores: forget -/
namespace FF
open PySem PySem.Spec PyProof.Rows L2
/-- a dict comprehension over the items of a locked dict -/
theorem dc_items {d : Addr} {o : Obj} {kvs : List (Key × V)} {g : TG} {tt : TT} {tk tv : TE} {vs : List Nat} {σ : L2.St} {H1 : Hp} {D : Addr} {Qd : Hp → Prop} (Pv : Nat → Hp → Prop) (h0 : Pv 0 (upd H1 D (.dK []))) (hl : ∀ i H, i ≤ kvs.length → Pv i H → H d = some (.frz o (.dK kvs)))
    (hs : ∀ i k v T H, kvs[i]? = some (k, v) → Pv i H → H T = none → g (.ref T) (wipe σ vs) (upd H T (.tup [kV k, v])) fun σ2 H2 => wipe σ2 vs = wipe σ vs ∧ tt σ2 H2 fun b H3 =>
      if b = true then tk σ2 H3 fun y H4 => tv σ2 H4 fun z H5 => ∃ kvs k, y = kV k ∧ H5 D = some (.dK kvs) ∧ kvs.length < sizeLine ∧ Pv (i + 1) (upd H5 D (.dK (putK kvs k z))) else Pv (i + 1) H3) (hd : ∀ H, Pv kvs.length H → Qd H) :
    ∃ W : Nat → Nat → Hp → Prop, (∃ m, W 0 m (upd H1 D (.dK []))) ∧ ∀ i m H, W i m H →
      ((Iti d o kvs).stop i H ∧ Qd H) ∨ ((Iti d o kvs).go i H ∧ ∃ Nx : Hp → Prop, (∀ H', Nx H' → ∃ m', m' < m ∧ W (i + 1) m' H') ∧ ∀ x H', (Iti d o kvs).yld i H x H' → g x (wipe σ vs) H' fun σ2 H2 => wipe σ2 vs = wipe σ vs ∧ tt σ2 H2 fun b H3 =>
        if b = true then tk σ2 H3 fun y H4 => tv σ2 H4 fun z H5 => ∃ kvs k, y = kV k ∧ H5 D = some (.dK kvs) ∧ kvs.length < sizeLine ∧ Nx (upd H5 D (.dK (putK kvs k z))) else Nx H3) := by
  refine ⟨fun i m H => m = kvs.length - i ∧ i ≤ kvs.length ∧ Pv i H, ⟨_, rfl, Nat.zero_le _, h0⟩, ?_⟩
  rintro i m H ⟨rfl, hi, p⟩
  have q := hl i H hi p
  by_cases hlt : i < kvs.length
  · refine .inr ⟨⟨q, hlt⟩, Pv (i + 1), fun H' p' => ⟨kvs.length - (i + 1), by omega, rfl, hlt, p'⟩, fun x H' y => ?_⟩
    obtain ⟨T, k, v, hk, rfl, hT, rfl⟩ := y
    exact hs i k v T H hk p hT
  · have e : i = kvs.length := by omega
    subst e
    exact .inl ⟨⟨q, Nat.le_refl _⟩, hd H p⟩
/-- what is read stays if a dict's state alone changes -/
theorem sqt_dk {K : PySem.W.Frag} {H : Hp} {a d : Addr} {xs : List V} {kvs : List (Key × V)} {o : HO} (hd : H d = some (.dK kvs)) (h : SqT K H a xs) : SqT K (upd H d o) a xs := by
  have e : ∀ (b : Addr) (u : HO), b ≠ d → H b = some u → (upd H d o) b = some u := fun b u n h => by rw [upd_ne n]; exact h
  rcases h with (h | ⟨o, h⟩) | h
  · exact .inl (.inl (e _ _ (fun z => by rw [z, hd] at h; cases h) h))
  · exact .inl (.inr ⟨o, e _ _ (fun z => by rw [z, hd] at h; cases h) h⟩)
  · exact .inr h
theorem QsAll.filt {K : PySem.W.Frag} {H : Hp} {nm : Str} : ∀ {kvs : List (Key × V)} {qs : Qs}, QsAll K H kvs qs → QsAll K H (kvs.filter fun p => decide (p.1 ≠ Sum.inr nm)) (qs.filter fun q => decide (q.1 ≠ nm))
  | _, _, .nil => .nil
  | _, _, .cons (z := z) a b => by
    by_cases e : z = nm
    · subst e
      simpa using QsAll.filt b
    · have h1 : decide ((Sum.inr z : Key) ≠ Sum.inr nm) = true := decide_eq_true fun q => e (Sum.inr.inj q)
      have h2 : decide (z ≠ nm) = true := decide_eq_true e
      rw [List.filter_cons, List.filter_cons, if_pos h1, if_pos h2]
      exact .cons a (QsAll.filt b)
theorem QsAll.key_at {K : PySem.W.Frag} {H : Hp} {kvs : List (Key × V)} {qs : Qs} (h : QsAll K H kvs qs) {i : Nat} {k : Key} {v : V} (hi : kvs[i]? = some (k, v)) : ∃ z, k = Sum.inr z := by
  have h1 : (kvs.map (·.1))[i]? = some k := by rw [List.getElem?_map, hi] <;> rfl
  rw [h.keys, List.getElem?_map] at h1
  obtain ⟨z, _, e⟩ := Option.map_eq_some_iff.mp h1
  exact ⟨z, e.symm⟩
section
variable {P : Program} {w : World} {K : PySem.W.Frag} {mg : Str → Option Value} {base : Heap}
def spWoQ (K : PySem.W.Frag) : Sp := fun vs H Q E => ∃ (t rl qd : Addr) (us : List V) (kvs : List (Key × V)) (ds : List PyData) (qs : Qs) (lim : Nat) (nm : Str), vs = [.ref t, .str nm] ∧ ScV K H t rl qd us kvs ds qs ∧ StOk lim ds qs ∧ lim ≤ 12 ∧ StepQ K H Q E (afterD lim ds qs (.forget nm))
theorem ok_without_question {f : Addr} {fd : FuncData} (F : FunD K "without_question" "without_question" (defArgs s_without_question) (defBody s_without_question) (defScope s_without_question) [] [] f fd) (hm : mg "without_question" = some (.ref f)) (T : Top K mg)
    (x_UnknownQuestion : RaiseG1 P w K mg base lkB "UnknownQuestion" 2 "UnknownQuestion" "name") : DefX P w K mg base "without_question" 4 ["scene", "name"] (spWoQ K) := by
  refine defx_mk F hm (F.bindsN fun _ _ _ _ _ _ us hl => match us, hl with | [_, _], _ => rfl) sc_without_question (fun vs H Q E h => ?_) (fun cdv A outer s0 H vs Q E hr h tk => ?_)
  · obtain ⟨t, rl, qd, us, kvs, ds, qs, lim, nm, rfl, _⟩ := h
    rfl
  obtain ⟨t, rl, qd, us, kvs, ds, qs, lim, nm, rfl, hS, hO, hl12, q1, q2⟩ := h
  have hkl := hS.qs.len
  have hql := hO.lq
  refine ⟨_, (pss_cons (ps_if (pt_cmp (pc_dnotin (hu_of hr) (pv 1) (pe_ix (ix_tupK K) (pv 0) pe_int (fun _ _ => rfl))) (by rfl))
  (pss_one (ps_raise rfl tk (pmk_raiseG1 x_UnknownQuestion hr (by first | decide | omega) (pa_cons (pv 1) pa_nil) (mono := by intro σ H Q Q' h q; first | exact h _ _ q | exact (let ⟨v, e, q⟩ := q; ⟨v, e, h _ _ q⟩) | exact (let ⟨v, e, x, n, e2, h2, q⟩ := q; ⟨v, e, x, n, e2, h2, h _ _ q⟩) | exact (let ⟨v, e, a, b, c, d, e1, e2, h1, h2, q⟩ := q; ⟨v, e, a, b, c, d, e1, e2, h1, h2, h _ _ q⟩)))))
  pss_nil)
  (pss_one (ps_ret (pe_tup (pa_cons (pe_ix (ix_tupK K) (pv 0) pe_int (fun _ _ => rfl)) (pa_cons (pe_lock (pe_dc (own := [("one", 2), ("goal", 3)]) rfl sc_without_question.nd (pi_items (pe_ix (ix_tupK K) (pv 0) pe_int (fun _ _ => rfl))) (blkOk_by (by kernel_rfl)) (fun _ _ _ _ _ => (pg_tupK K (n := 2) rfl (pgs_cons (pg_name (i := 2) sc_without_question.nd rfl (Or.inl rfl) (.inr rfl)) (pgs_cons (pg_name (i := 3) sc_without_question.nd rfl (Or.inl rfl) (.inr rfl)) pgs_nil)))) (fun _ _ _ _ _ => (pts_one (pt_cmpR op_ne (pv 2) (pv 1) (nomark _)))) (fun _ _ _ _ _ => (pv 2)) (fun _ _ _ _ _ => (pv 3)))) pa_nil)))))), ?_⟩
  refine ⟨_, rfl, _, rfl, t, _, _, .ref qd, rfl, rfl, hS.at_, (rfl : atI [V.ref rl, V.ref qd] 1 = some (.ref qd)), qd, _, rfl, DGet.k (k := .inr nm) hS.qd, _, rfl, ?_⟩
  rw [hS.qs.isSome]
  refine if_nb (fun hb => ?_) (fun hb => ?_)
  · have hno := of_decide_eq_false hb
    refine ⟨_, rfl, _, rfl, fun dd H3 e3 hd => ?_⟩
    exact q2 ⟨"UnknownQuestion", .str nm⟩ (by dsimp only [afterD]; rw [if_neg hno]) dd H3 e3 hd
  have hin := of_decide_eq_true hb
  refine ⟨_, rfl, t, _, _, .ref rl, rfl, rfl, hS.at_, at0, qd, .dK kvs, hS.qd, trivial, fun od => ?_⟩
  have hst : SqT K (upd H qd (.frz od (.dK kvs))) t [.ref rl, .ref qd] := sqt_dk hS.qd hS.at_
  refine ⟨_, rfl, t, _, _, .ref qd, rfl, rfl, hst, (rfl : atI [V.ref rl, V.ref qd] 1 = some (.ref qd)), qd, od, kvs, rfl, upd_same, fun D hD => ?_⟩
  have hDq : D ≠ qd := fun z => by rw [z, upd_same] at hD; cases hD
  have hD0 : H D = none := by rwa [upd_ne hDq] at hD
  have hnk : (kvs.map (·.1)).Nodup := by
    rw [hS.qs.keys]
    exact List.Pairwise.map _ (fun a b n e => n (Sum.inr.inj e)) hO.nq
  refine dc_items (fun i H' => H' qd = some (.frz od (.dK kvs)) ∧ H' D = some (.dK ((kvs.take i).filter fun p => decide (p.1 ≠ Sum.inr nm))) ∧ ∀ b u, b ≠ qd → b ≠ D → H b = some u → H' b = some u)
    ⟨by rw [upd_ne hDq.symm, upd_same], upd_same, fun b u n1 n2 h => by rw [upd_ne n2, upd_ne n1]; exact h⟩ (fun i H' _ p => p.1) ?_ ?_
  · intro i k v T9 H2 hi ⟨p1, p2, p3⟩ hT
    obtain ⟨z, rfl⟩ := hS.qs.key_at hi
    have nq : qd ≠ T9 := ne_of_none p1 hT
    have nD : D ≠ T9 := ne_of_none p2 hT
    refine ⟨T9, _, rfl, SqT.of upd_same, rfl, _, _, rfl, _, _, rfl, rfl, rfl, ?_⟩
    refine ⟨_, rfl, _, rfl, rfl, _, rfl, ?_⟩
    have htk : kvs.take (i + 1) = kvs.take i ++ [(Sum.inr z, v)] := by rw [List.take_add_one, hi] <;> rfl
    have p3' : ∀ b u, b ≠ qd → b ≠ D → H b = some u → (upd H2 T9 (.tup [kV (Sum.inr z), v])) b = some u := fun b u n1 n2 h => by
      have := p3 b u n1 n2 h
      rw [upd_ne (ne_of_none this hT)]
      exact this
    by_cases e : z = nm
    · have eb : (!decide (kV (Sum.inr z) = V.str nm)) = false := by rw [e] <;> simp [kV]
      rw [eb]
      refine ⟨by rw [upd_ne nq]; exact p1, ?_, p3'⟩
      rw [upd_ne nD, p2, htk, List.filter_append]
      have : decide ((Sum.inr z : Key) ≠ Sum.inr nm) = false := by rw [e] <;> simp
      rw [List.filter_cons, if_neg (by rw [this]; decide), List.filter_nil, List.append_nil]
    · have eb : (!decide (kV (Sum.inr z) = V.str nm)) = true := by
        have : kV (Sum.inr z) ≠ V.str nm := fun q => e (V.str.inj q)
        rw [decide_eq_false this] <;> rfl
      rw [eb]
      have hd : decide ((Sum.inr z : Key) ≠ Sum.inr nm) = true := decide_eq_true fun q => e (Sum.inr.inj q)
      have hnew : (valV ((kvs.take i).filter fun p => decide (p.1 ≠ Sum.inr nm)) (Sum.inr z)).isSome = false := by
        rw [← valV_any, List.any_eq_false]
        intro x hx
        have hx1 := (List.mem_filter.mp hx).1
        have h9 : ((kvs.take (i + 1)).map (·.1)).Nodup := (List.Sublist.map _ (List.take_sublist _ _)).nodup hnk
        rw [htk, List.map_append] at h9
        have := (List.nodup_append.mp h9).2.2 x.1 (List.mem_map.mpr ⟨x, hx1, rfl⟩) (Sum.inr z) (by simp)
        simpa using this
      refine ⟨_, rfl, _, rfl, _, _, rfl, (by rw [upd_ne nD]; exact p2), lt_line ?_, ?_, ?_, fun b u n1 n2 h => ?_⟩
      · have h1 := (List.filter_sublist (l := kvs.take i) (p := fun p => decide (p.1 ≠ Sum.inr nm))).length_le
        have h2 := List.length_take_le i kvs
        have h3 : (kvs.take i).length ≤ kvs.length := (List.take_sublist i kvs).length_le
        omega
      · rw [upd_ne hDq.symm, upd_ne nq]
        exact p1
      · rw [upd_same, putK_snoc hnew, htk, List.filter_append, List.filter_cons, if_pos hd, List.filter_nil]
      · rw [upd_ne n2]
        exact p3' b u n1 n2 h
  · intro H' ⟨p1, p2, p3⟩
    rw [List.take_length] at p2
    refine ⟨p1, (by show 2 ≤ sizeLine; decide), fun t2 ht2 => ?_⟩
    have e1 : Same H (upd H' qd (.dK kvs)) := fun b u h => by
      by_cases hb : b = qd
      · rw [hb] at h ⊢
        rw [hS.qd] at h
        rw [upd_same]
        exact h
      · rw [upd_ne hb]
        exact p3 b u hb (ne_of_none h hD0) h
    have hD1 : (upd H' qd (.dK kvs)) D = some (.dK (kvs.filter fun p => decide (p.1 ≠ Sum.inr nm))) := by
      rw [upd_ne hDq]
      exact p2
    have e2 := same_new ht2 (.tup [.ref rl, .ref D])
    have e12 := e1.trans e2
    have hS2 := hS.up e12
    exact q1 _ _ (by dsimp only [afterD]; rw [if_pos hin]) t2 rl D us _ _ e12 ⟨SqT.of upd_same, hS2.rl, hS2.us, e2 _ _ hD1, hS2.qs.filt⟩
end
end FF
/-! stores: after (the word of a command tells the def) -/
namespace FF
open PySem PySem.Spec PyProof.Rows L2
theorem two_tp {K : PySem.W.Frag} {H : Hp} {v : V} {a b : Str} (h : Tp K H v (.tuple [.str a, .str b])) : ∃ c : Addr, v = .ref c ∧ SqT K H c [.str a, .str b] := by
  obtain ⟨c, us, rfl, hs, hu⟩ := tup_tp h
  cases hu with
  | @cons v1 _ _ _ h1 hu =>
  cases hu with
  | @cons v2 _ _ _ h2 hu =>
  cases hu
  cases h1
  cases h2
  exact ⟨c, rfl, hs⟩
section
variable {P : Program} {w : World} {K : PySem.W.Frag} {mg : Str → Option Value} {base : Heap}
def spAfter (K : PySem.W.Frag) : Sp := fun vs H Q E => ∃ (t rl qd : Addr) (us : List V) (kvs : List (Key × V)) (ds : List PyData) (qs : Qs) (lim : Nat) (v : V) (c : Cmd), vs = [.ref t, v, .int (lim : Nat)] ∧ ScV K H t rl qd us kvs ds qs ∧ StOk lim ds qs ∧ lim ≤ 12 ∧ Tp K H v c.data ∧ c.ok ∧ StepQ K H Q E (afterD lim ds qs c)
theorem ok_after {f : Addr} {fd : FuncData} (F : FunD K "after" "after" (defArgs s_after) (defBody s_after) (defScope s_after) [] [] f fd) (hm : mg "after" = some (.ref f)) (T : Top K mg) (t_LENGTHS : KTab K w (He.ga K "LENGTHS") kt_LENGTHS)
    (D_with_rule : DefX P w K mg base "with_rule" 20 ["scene", "command", "limit"] (spWRule K)) (D_with_other_rule : DefX P w K mg base "with_other_rule" 20 ["scene", "command"] (spWOther K)) (D_without_rule : DefX P w K mg base "without_rule" 4 ["scene", "name"] (spWoRule K))
    (D_with_question : DefX P w K mg base "with_question" 20 ["scene", "command"] (spWQues K)) (D_without_question : DefX P w K mg base "without_question" 4 ["scene", "name"] (spWoQ K))
    (x_InvalidCommand : RaiseD1 P w K mg base "InvalidCommand" "FaultError" 2 "InvalidCommand" "word") :
    DefX P w K mg base "after" 21 ["scene", "command", "limit"] (spAfter K) := by
  refine defx_mk F hm (F.bindsN fun _ _ _ _ _ _ us hl => match us, hl with | [_, _, _], _ => rfl) sc_after (fun vs H Q E h => ?_) (fun cdv A outer s0 H vs Q E hr h tk => ?_)
  · obtain ⟨t, rl, qd, us, kvs, ds, qs, lim, v, c, rfl, _⟩ := h
    rfl
  obtain ⟨t, rl, qd, us, kvs, ds, qs, lim, v, c, rfl, hS, hO, hl12, hv, hc, q⟩ := h
  refine ⟨_, (pss_cons (ps_set (i := 3) sc_after.nd rfl (Or.inl rfl) (pe_ifExp (pt_cmpR op_gt (pe_callB (call_lenK K) (by rfl) T.b_len (by decide +kernel) (pa_cons (pv 1) pa_nil)) pe_int (nomark _)) (pe_ix (ix_tupK K) (pv 1) pe_int (fun _ _ => rfl)) pe_non))
  (pss_cons (ps_if (PW.pt (pw_or (pt_cmpR (op_tabNot t_LENGTHS) (pv 3) (pe_gT T.g_LENGTHS) (by rfl)) (pw_or1 (pt_cmpR op_ne (pe_ix (ix_tab t_LENGTHS) (pe_gT T.g_LENGTHS) (pv 3) (fun _ _ => rfl)) (pe_callB (call_lenK K) (by rfl) T.b_len (by decide +kernel) (pa_cons (pv 1) pa_nil)) (nomark _)))))
  (pss_one (ps_raise rfl tk (pmk_raise1 x_InvalidCommand hr (by first | decide | omega) (pa_cons (pv 3) pa_nil) (mono := by intro σ H Q Q' h q; first | exact h _ _ q | exact (let ⟨v, e, q⟩ := q; ⟨v, e, h _ _ q⟩) | exact (let ⟨v, e, x, n, e2, h2, q⟩ := q; ⟨v, e, x, n, e2, h2, h _ _ q⟩) | exact (let ⟨v, e, a, b, c, d, e1, e2, h1, h2, q⟩ := q; ⟨v, e, a, b, c, d, e1, e2, h1, h2, h _ _ q⟩)))))
  pss_nil)
  (pss_cons (ps_if (pt_cmpR op_eq (pv 3) pe_str (nomark _))
  (pss_one (ps_ret (pe_defx (E := E) D_with_rule tk (fun _ _ _ _ h => h) hr (by first | decide | omega) (pa_cons (pv 0) (pa_cons (pv 1) (pa_cons (pv 2) pa_nil))))))
  pss_nil)
  (pss_cons (ps_if (pt_cmpR op_eq (pv 3) pe_str (nomark _))
  (pss_one (ps_ret (pe_defx (E := E) D_with_other_rule tk (fun _ _ _ _ h => h) hr (by first | decide | omega) (pa_cons (pv 0) (pa_cons (pv 1) pa_nil)))))
  pss_nil)
  (pss_cons (ps_if (pt_cmpR op_eq (pv 3) pe_str (nomark _))
  (pss_one (ps_ret (pe_defx (E := E) D_without_rule tk (fun _ _ _ _ h => h) hr (by first | decide | omega) (pa_cons (pv 0) (pa_cons (pe_ix (ix_tupK K) (pv 1) pe_int (fun _ _ => rfl)) pa_nil)))))
  pss_nil)
  (pss_one (ps_ret (pe_ifExp (pt_cmpR op_eq (pv 3) pe_str (nomark _)) (pe_defx (E := E) D_with_question tk (fun _ _ _ _ h => h) hr (by first | decide | omega) (pa_cons (pv 0) (pa_cons (pv 1) pa_nil))) (pe_defx (E := E) D_without_question tk (fun _ _ _ _ h => h) hr (by first | decide | omega) (pa_cons (pv 0) (pa_cons (pe_ix (ix_tupK K) (pv 1) pe_int (fun _ _ => rfl)) pa_nil))))))))))), ?_⟩
  cases c with
  | add nm l r =>
    obtain ⟨ca, vl, vr, rfl, hca, hvl, hvr⟩ := four_tp hv
    refine ⟨_, rfl, .ref ca, 4, rfl, .inr ⟨_, hca, rfl⟩, _, _, rfl, rfl, _, rfl, ?_⟩
    refine if_dec (fun _ => ?_) (fun h => absurd (by decide) h)
    refine ⟨_, rfl, ca, _, _, _, rfl, rfl, hca, at0, ?_⟩
    refine ⟨_, rfl, "add", rfl, rfl, _, rfl, ?_⟩
    rw [show (!tabHas kt_LENGTHS "add") = false from by decide]
    refine ⟨_, rfl, ("add", 4), by decide, rfl, rfl, _, rfl, .ref ca, 4, rfl, .inr ⟨_, hca, rfl⟩, ?_⟩
    refine ⟨rfl, _, rfl, ?_⟩
    refine if_nb (fun h => absurd h (by decide)) (fun _ => ?_)
    refine ⟨_, rfl, rfl, _, rfl, ?_⟩
    refine if_b (fun _ => ?_) (fun h => absurd h (by decide))
    exact ⟨_, rfl, _, rfl, _, rfl, t, rl, qd, us, kvs, ds, qs, lim, _, nm, l, r, rfl, hS, hO, hl12, hv, hc, q⟩
  | put nm l r =>
    obtain ⟨ca, vl, vr, rfl, hca, hvl, hvr⟩ := four_tp hv
    refine ⟨_, rfl, .ref ca, 4, rfl, .inr ⟨_, hca, rfl⟩, _, _, rfl, rfl, _, rfl, ?_⟩
    refine if_dec (fun _ => ?_) (fun h => absurd (by decide) h)
    refine ⟨_, rfl, ca, _, _, _, rfl, rfl, hca, at0, ?_⟩
    refine ⟨_, rfl, "put", rfl, rfl, _, rfl, ?_⟩
    rw [show (!tabHas kt_LENGTHS "put") = false from by decide]
    refine ⟨_, rfl, ("put", 4), by decide, rfl, rfl, _, rfl, .ref ca, 4, rfl, .inr ⟨_, hca, rfl⟩, ?_⟩
    refine ⟨rfl, _, rfl, ?_⟩
    refine if_nb (fun h => absurd h (by decide)) (fun _ => ?_)
    refine ⟨_, rfl, rfl, _, rfl, ?_⟩
    refine if_b (fun h => absurd h (by decide)) (fun _ => ?_)
    refine ⟨_, rfl, rfl, _, rfl, ?_⟩
    refine if_b (fun _ => ?_) (fun h => absurd h (by decide))
    exact ⟨_, rfl, _, rfl, t, rl, qd, us, kvs, ds, qs, lim, _, nm, l, r, rfl, hS, hO, hl12, hv, hc, q⟩
  | drop nm =>
    obtain ⟨ca, rfl, hca⟩ := two_tp hv
    refine ⟨_, rfl, .ref ca, 2, rfl, .inr ⟨_, hca, rfl⟩, _, _, rfl, rfl, _, rfl, ?_⟩
    refine if_dec (fun _ => ?_) (fun h => absurd (by decide) h)
    refine ⟨_, rfl, ca, _, _, _, rfl, rfl, hca, at0, ?_⟩
    refine ⟨_, rfl, "drop", rfl, rfl, _, rfl, ?_⟩
    rw [show (!tabHas kt_LENGTHS "drop") = false from by decide]
    refine ⟨_, rfl, ("drop", 2), by decide, rfl, rfl, _, rfl, .ref ca, 2, rfl, .inr ⟨_, hca, rfl⟩, ?_⟩
    refine ⟨rfl, _, rfl, ?_⟩
    refine if_nb (fun h => absurd h (by decide)) (fun _ => ?_)
    refine ⟨_, rfl, rfl, _, rfl, ?_⟩
    refine if_b (fun h => absurd h (by decide)) (fun _ => ?_)
    refine ⟨_, rfl, rfl, _, rfl, ?_⟩
    refine if_b (fun h => absurd h (by decide)) (fun _ => ?_)
    refine ⟨_, rfl, rfl, _, rfl, ?_⟩
    refine if_b (fun _ => ?_) (fun h => absurd h (by decide))
    exact ⟨_, rfl, _, rfl, ca, _, _, _, rfl, rfl, hca, (rfl : atI [V.str "drop", V.str nm] 1 = some (.str nm)), t, rl, qd, us, kvs, ds, qs, lim, nm, rfl, hS, hO, hl12, q⟩
  | ask nm l r =>
    obtain ⟨ca, vl, vr, rfl, hca, hvl, hvr⟩ := four_tp hv
    refine ⟨_, rfl, .ref ca, 4, rfl, .inr ⟨_, hca, rfl⟩, _, _, rfl, rfl, _, rfl, ?_⟩
    refine if_dec (fun _ => ?_) (fun h => absurd (by decide) h)
    refine ⟨_, rfl, ca, _, _, _, rfl, rfl, hca, at0, ?_⟩
    refine ⟨_, rfl, "ask", rfl, rfl, _, rfl, ?_⟩
    rw [show (!tabHas kt_LENGTHS "ask") = false from by decide]
    refine ⟨_, rfl, ("ask", 4), by decide, rfl, rfl, _, rfl, .ref ca, 4, rfl, .inr ⟨_, hca, rfl⟩, ?_⟩
    refine ⟨rfl, _, rfl, ?_⟩
    refine if_nb (fun h => absurd h (by decide)) (fun _ => ?_)
    refine ⟨_, rfl, rfl, _, rfl, ?_⟩
    refine if_b (fun h => absurd h (by decide)) (fun _ => ?_)
    refine ⟨_, rfl, rfl, _, rfl, ?_⟩
    refine if_b (fun h => absurd h (by decide)) (fun _ => ?_)
    refine ⟨_, rfl, rfl, _, rfl, ?_⟩
    refine if_b (fun h => absurd h (by decide)) (fun _ => ?_)
    refine ⟨_, rfl, rfl, _, rfl, ?_⟩
    refine if_b (fun _ => ?_) (fun h => absurd h (by decide))
    exact ⟨_, rfl, _, rfl, t, rl, qd, us, kvs, ds, qs, lim, _, nm, l, r, rfl, hS, hO, hl12, hv, hc, q⟩
  | forget nm =>
    obtain ⟨ca, rfl, hca⟩ := two_tp hv
    refine ⟨_, rfl, .ref ca, 2, rfl, .inr ⟨_, hca, rfl⟩, _, _, rfl, rfl, _, rfl, ?_⟩
    refine if_dec (fun _ => ?_) (fun h => absurd (by decide) h)
    refine ⟨_, rfl, ca, _, _, _, rfl, rfl, hca, at0, ?_⟩
    refine ⟨_, rfl, "forget", rfl, rfl, _, rfl, ?_⟩
    rw [show (!tabHas kt_LENGTHS "forget") = false from by decide]
    refine ⟨_, rfl, ("forget", 2), by decide, rfl, rfl, _, rfl, .ref ca, 2, rfl, .inr ⟨_, hca, rfl⟩, ?_⟩
    refine ⟨rfl, _, rfl, ?_⟩
    refine if_nb (fun h => absurd h (by decide)) (fun _ => ?_)
    refine ⟨_, rfl, rfl, _, rfl, ?_⟩
    refine if_b (fun h => absurd h (by decide)) (fun _ => ?_)
    refine ⟨_, rfl, rfl, _, rfl, ?_⟩
    refine if_b (fun h => absurd h (by decide)) (fun _ => ?_)
    refine ⟨_, rfl, rfl, _, rfl, ?_⟩
    refine if_b (fun h => absurd h (by decide)) (fun _ => ?_)
    refine ⟨_, rfl, rfl, _, rfl, ?_⟩
    refine if_b (fun h => absurd h (by decide)) (fun _ => ?_)
    exact ⟨_, rfl, _, rfl, ca, _, _, _, rfl, rfl, hca, (rfl : atI [V.str "forget", V.str nm] 1 = some (.str nm)), t, rl, qd, us, kvs, ds, qs, lim, nm, rfl, hS, hO, hl12, q⟩
end
end FF
/-! stores: the class Store -/
namespace FF
open PySem PySem.Spec PyProof.Rows L2
abbrev Sc := List PyData × Qs
/-- a value that is a scene -/
def ScE (K : PySem.W.Frag) (H : Hp) (v : V) (st : Sc) : Prop := ∃ t rl qd us kvs, v = .ref t ∧ ScV K H t rl qd us kvs st.1 st.2
inductive ScAll (K : PySem.W.Frag) (H : Hp) : List V → List Sc → Prop where
  | nil : ScAll K H [] []
  | cons {v : V} {st : Sc} {vs : List V} {sts : List Sc} : ScE K H v st → ScAll K H vs sts → ScAll K H (v :: vs) (st :: sts)
/-- the addresses of a store: itself, the list of steps to undo, to redo -/
structure SAd where
  c : Addr
  ul : Addr
  rd : Addr
def stoF (A : SAd) (t ad : V) (n lim : Nat) : List (Str × V) := [("scene", t), ("undo_scenes", .ref A.ul), ("redo_scenes", .ref A.rd), ("answers", ad), ("computed", .int n), ("most", .int lim)]
structure StoAt (K : PySem.W.Frag) (H : Hp) (A : SAd) (lim : Nat) (past : List Sc) (now : Sc) (fut : List Sc) : Prop where
  ins : ∃ dx t ad, H A.c = some (.ins (He.ga K "Store") dx (stoF A t (.ref ad) 0 lim)) ∧ ScE K H t now ∧ H ad = some (.dK [])
  und : ∃ l, H A.ul = some (hid (isL l) A.ul) ∧ ScAll K H l past
  red : ∃ l, H A.rd = some (hid (isL l) A.rd) ∧ ScAll K H l fut
  ne : A.ul ≠ A.rd
/-- all but the store and its two lists stays -/
def SameN (A : SAd) (H H' : Hp) : Prop := ∀ b u, b ≠ A.c → b ≠ A.ul → b ≠ A.rd → H b = some u → H' b = some u
theorem SameN.of {A : SAd} {H H' : Hp} (e : Same H H') : SameN A H H' := fun b u _ _ _ h => e b u h
theorem SameN.trans {A : SAd} {H H1 H2 : Hp} (x : SameN A H H1) (y : SameN A H1 H2) : SameN A H H2 := fun b u n1 n2 n3 h => y b u n1 n2 n3 (x b u n1 n2 n3 h)
/-- what is no instance, not hidden and no table stays -/
def KeptN (H H' : Hp) : Prop := ∀ b u, (∀ C dx fs, u ≠ .ins C dx fs) → (∀ φ, u ≠ .ext φ) → (∀ ps, u ≠ .tbl ps) → H b = some u → H' b = some u
theorem KeptN.of {H H' : Hp} (e : Same H H') : KeptN H H' := fun b u _ _ _ h => e b u h
theorem KeptN.trans {H H1 H2 : Hp} (x : KeptN H H1) (y : KeptN H1 H2) : KeptN H H2 := fun b u n1 n2 n3 h => y b u n1 n2 n3 (x b u n1 n2 n3 h)
theorem upd_back2 {H : Hp} {a : Addr} {o o' : HO} (_h : H a = none) : upd (upd H a o) a o' = upd H a o' := upd_upd ..
theorem nn {f p : Addr} {H H1 : Hp} (e : SameB f H H1) (n : f ≠ p) (h : H1 p = none) : H p = none := by
  cases q : H p with
  | none => rfl
  | some u => rw [e _ _ (Ne.symm n) q] at h; cases h
theorem hid_ext {g : List V → Prop} {a : Addr} {u : HO} (n : ∀ φ, u ≠ .ext φ) : hid g a ≠ u := fun z => n _ z.symm
section
variable {K : PySem.W.Frag} {H H' : Hp} {A : SAd} {lim : Nat} {past fut : List Sc} {now : Sc}
theorem StoAt.keep (h : StoAt K H A lim past now fut) (e : SameN A H H') : KeptN H H' := fun b u n1 n2 _ hb => by
  refine e b u (fun z => ?_) (fun z => ?_) (fun z => ?_) hb
  · obtain ⟨dx, t, ad, hi, _⟩ := h.ins
    rw [z, hi] at hb
    exact n1 _ _ _ (Option.some.inj hb).symm
  · obtain ⟨l, hl, _⟩ := h.und
    rw [z, hl] at hb
    exact hid_ext n2 (Option.some.inj hb)
  · obtain ⟨l, hl, _⟩ := h.red
    rw [z, hl] at hb
    exact hid_ext n2 (Option.some.inj hb)
theorem KeptN.dk {a : Addr} {kvs : List (Key × V)} (e : KeptN H H') (h : H a = some (.dK kvs)) : H' a = some (.dK kvs) := e _ _ (fun _ _ _ z => nomatch z) (fun _ z => nomatch z) (fun _ z => nomatch z) h
theorem KeptN.ls {a : Addr} {xs : List V} (e : KeptN H H') (h : H a = some (.lst xs)) : H' a = some (.lst xs) := e _ _ (fun _ _ _ z => nomatch z) (fun _ z => nomatch z) (fun _ z => nomatch z) h
theorem KeptN.T (e : KeptN H H') : SameT H H' := fun b xs h => e b _ (fun _ _ _ z => nomatch z) (fun _ z => nomatch z) (fun _ z => nomatch z) h
theorem kn_rd {a : Addr} {u : HO} (e : KeptN H H') (n1 : ∀ C dx fs, u ≠ .ins C dx fs) (n2 : ∀ φ, u ≠ .ext φ) (n3 : ∀ ps, u ≠ .tbl ps) (h : Rd H a u) : Rd H' a u := by
  rcases h with h | ⟨o, h⟩
  · exact .inl (e _ _ n1 n2 n3 h)
  · exact .inr ⟨o, e _ _ (fun _ _ _ z => nomatch z) (fun _ z => nomatch z) (fun _ z => nomatch z) h⟩
theorem kn_t {a : Addr} {xs : List V} (e : KeptN H H') (h : SqT K H a xs) : SqT K H' a xs := by
  rcases h with h | h
  · exact .inl (kn_rd e (fun _ _ _ z => nomatch z) (fun _ z => nomatch z) (fun _ z => nomatch z) h)
  · exact .inr h
theorem ScV.n {t rl qd : Addr} {us : List V} {kvs : List (Key × V)} {ds : List PyData} {qs : Qs} (h : ScV K H t rl qd us kvs ds qs) (e : KeptN H H') : ScV K H' t rl qd us kvs ds qs :=
  ⟨kn_t e h.at_, e _ _ (fun _ _ _ z => nomatch z) (fun _ z => nomatch z) (fun _ z => nomatch z) h.rl, h.us.up e.T, e _ _ (fun _ _ _ z => nomatch z) (fun _ z => nomatch z) (fun _ z => nomatch z) h.qd, h.qs.up e.T⟩
theorem ScE.n {v : V} {st : Sc} (h : ScE K H v st) (e : KeptN H H') : ScE K H' v st := by
  obtain ⟨t, rl, qd, us, kvs, rfl, h⟩ := h
  exact ⟨t, rl, qd, us, kvs, rfl, h.n e⟩
theorem ScAll.n (e : KeptN H H') : ∀ {vs : List V} {sts : List Sc}, ScAll K H vs sts → ScAll K H' vs sts
  | _, _, .nil => .nil
  | _, _, .cons a b => .cons (a.n e) (ScAll.n e b)
theorem ScAll.len : ∀ {vs : List V} {sts : List Sc}, ScAll K H vs sts → vs.length = sts.length
  | _, _, .nil => rfl
  | _, _, .cons a b => congrArg (· + 1) (ScAll.len b)
theorem ScAll.snoc {v : V} {st : Sc} (h : ScE K H v st) : ∀ {vs : List V} {sts : List Sc}, ScAll K H vs sts → ScAll K H (vs ++ [v]) (sts ++ [st])
  | _, _, .nil => .cons h .nil
  | _, _, .cons a b => .cons a (ScAll.snoc h b)
/-- another store's change leaves this one -/
theorem StoAt.n {B : SAd} (h : StoAt K H A lim past now fut) (e : SameN B H H') (k : KeptN H H') (hc : A.c ≠ B.c) (h1 : A.c ≠ B.ul ∧ A.c ≠ B.rd) (h2 : A.ul ≠ B.c ∧ A.ul ≠ B.ul ∧ A.ul ≠ B.rd) (h3 : A.rd ≠ B.c ∧ A.rd ≠ B.ul ∧ A.rd ≠ B.rd) : StoAt K H' A lim past now fut := by
  obtain ⟨⟨dx, t, ad, hi, hs, had⟩, ⟨lu, hu, hus⟩, ⟨lr, hr, hrs⟩, ne⟩ := h
  exact ⟨⟨dx, t, ad, e _ _ hc h1.1 h1.2 hi, hs.n k, k _ _ (fun _ _ _ z => nomatch z) (fun _ z => nomatch z) (fun _ z => nomatch z) had⟩,
    ⟨lu, e _ _ h2.1 h2.2.1 h2.2.2 hu, hus.n k⟩, ⟨lr, e _ _ h3.1 h3.2.1 h3.2.2 hr, hrs.n k⟩, ne⟩
theorem StoAt.up (h : StoAt K H A lim past now fut) (e : Same H H') : StoAt K H' A lim past now fut := by
  obtain ⟨⟨dx, t, ad, hi, hs, had⟩, ⟨lu, hu, hus⟩, ⟨lr, hr, hrs⟩, ne⟩ := h
  exact ⟨⟨dx, t, ad, e _ _ hi, hs.n (.of e), e _ _ had⟩, ⟨lu, e _ _ hu, hus.n (.of e)⟩, ⟨lr, e _ _ hr, hrs.n (.of e)⟩, ne⟩
end
section
variable {P : Program} {w : World} {K : PySem.W.Frag} {mg : Str → Option Value} {base : Heap}
def spStoInit (K : PySem.W.Frag) : Sp := fun vs H Q _ => ∃ (s dx : Addr), vs = [.ref s] ∧ H s = some (.ins (He.ga K "Store") dx []) ∧
  ∀ H' ul rd, SameB s H H' → H ul = none → H rd = none → StoAt K H' ⟨s, ul, rd⟩ 12 [] ([], []) [] → Q .non H'
theorem ok_store_init {fd : FuncData} (F : FunD K "__init__" "Store.__init__" (defArgs s_Store___init__) (defBody s_Store___init__) (defScope s_Store___init__) [] [] (He.ma K (He.ga K "Store") "__init__") fd) (T : Top K mg) : MakeD P w K mg base "Store" 1 ["self"] (spStoInit K) := by
  refine ⟨⟨fd, fnm_mk F sc_Store___init__ (fun vs H Q E h => ?_) (fun cdv A outer s H vs Q E hr h => ?_), F.bindsN fun _ _ _ _ _ _ us hl => match us, hl with | [_], _ => rfl⟩, T.mk_Store, T.c_Store⟩
  · obtain ⟨f, dx, rfl, _⟩ := h
    rfl
  obtain ⟨f, dx, rfl, hf, q⟩ := h
  refine ⟨_, (pss_cons (ps_fld (pv 0) (pe_tup (pa_cons (pe_lst pa_nil) (pa_cons pe_dnewK pa_nil))) rfl)
  (pss_cons (ps_fld (pv 0) (pe_hide (good := isL []) (pe_lst pa_nil)) rfl)
  (pss_cons (ps_fld (pv 0) (pe_hide (good := isL []) (pe_lst pa_nil)) rfl)
  (pss_cons (ps_fld (pv 0) pe_dnewK rfl)
  (pss_cons (ps_fld (pv 0) pe_int rfl)
  (pss_one (ps_fld (pv 0) (pe_gi T.g_MAX_RULES) rfl))))))), ?_⟩
  have nf : ∀ {p : Addr} {H1 : Hp}, SameB f H H1 → (∃ o, H1 f = some o) → H1 p = none → f ≠ p := fun _ ⟨o, h⟩ hp e => by
    rw [e, hp] at h
    cases h
  refine ⟨(by show 0 ≤ sizeLine; decide), fun rl hrl => fun qd hqd => ⟨(by show 2 ≤ sizeLine; decide), fun t ht => ⟨_, rfl, f, _, dx, _, rfl, same_new ht _ _ _ (same_new hqd _ _ _ (same_new hrl _ _ _ hf)), T.k_Store, T.n_Store_scene, (by show 0 < 1000; decide), ?_⟩⟩⟩
  have n1 := nf sb_refl ⟨_, hf⟩ hrl
  have n2 : f ≠ qd := ne_of_none (same_new hrl (.lst []) _ _ hf) hqd
  have n3 : f ≠ t := ne_of_none (same_new hqd (.dK []) _ _ (same_new hrl (.lst []) _ _ hf)) ht
  have e3 := (same_new hrl (.lst [])).trans ((same_new hqd (.dK [])).trans (same_new ht (.tup [V.ref rl, V.ref qd])))
  have hrl3 : (upd (upd (upd H rl (.lst [])) qd (.dK [])) t (.tup [V.ref rl, V.ref qd])) rl = some (.lst []) := ((same_new hqd (.dK [])).trans (same_new ht (.tup [V.ref rl, V.ref qd]))) _ _ upd_same
  have hqd3 : (upd (upd (upd H rl (.lst [])) qd (.dK [])) t (.tup [V.ref rl, V.ref qd])) qd = some (.dK []) := (same_new ht (.tup [V.ref rl, V.ref qd])) _ _ upd_same
  have ht3 : (upd (upd (upd H rl (.lst [])) qd (.dK [])) t (.tup [V.ref rl, V.ref qd])) t = some (.tup [V.ref rl, V.ref qd]) := upd_same
  generalize upd (upd (upd H rl (.lst [])) qd (.dK [])) t (.tup [V.ref rl, V.ref qd]) = H3 at e3 hrl3 hqd3 ht3 ⊢
  have s4 : SameB f H (upd H3 f (.ins (He.ga K "Store") dx (putF "scene" (.ref t) []))) := (sb_of e3).tr sb_upd
  have ht4 : (upd H3 f (.ins (He.ga K "Store") dx (putF "scene" (.ref t) []))) t = some (.tup [V.ref rl, V.ref qd]) := by rw [upd_ne (Ne.symm n3)]; exact ht3
  have hrl4 : (upd H3 f (.ins (He.ga K "Store") dx (putF "scene" (.ref t) []))) rl = some (.lst []) := by rw [upd_ne (Ne.symm n1)]; exact hrl3
  have hqd4 : (upd H3 f (.ins (He.ga K "Store") dx (putF "scene" (.ref t) []))) qd = some (.dK []) := by rw [upd_ne (Ne.symm n2)]; exact hqd3
  have f4 : (upd H3 f (.ins (He.ga K "Store") dx (putF "scene" (.ref t) []))) f = some (.ins (He.ga K "Store") dx (putF "scene" (.ref t) [])) := upd_same
  generalize upd H3 f (.ins (He.ga K "Store") dx (putF "scene" (.ref t) [])) = H4 at s4 ht4 hrl4 hqd4 f4 ⊢
  refine ⟨(by show 0 ≤ sizeLine; decide), fun ul hul => ⟨ul, [], rfl, upd_same, rfl, _, rfl, f, _, dx, _, rfl, (by rw [upd_back2 hul]; exact same_new hul _ _ _ f4), T.k_Store, T.n_Store_undo_scenes, (by show 1 < 1000; decide), ?_⟩⟩
  rw [upd_back2 hul]
  have n5 : f ≠ ul := ne_of_none f4 hul
  have e5 := same_new hul (hid (isL []) ul)
  have h5 : (upd H4 ul (hid (isL []) ul)) ul = some (hid (isL []) ul) := upd_same
  have u5 : H ul = none := nn s4 n5 hul
  generalize upd H4 ul (hid (isL []) ul) = H5 at e5 h5 ⊢
  have s6 : SameB f H4 (upd H5 f (.ins (He.ga K "Store") dx (putF "undo_scenes" (.ref ul) (putF "scene" (.ref t) [])))) := (sb_of e5).tr sb_upd
  have h6 : (upd H5 f (.ins (He.ga K "Store") dx (putF "undo_scenes" (.ref ul) (putF "scene" (.ref t) [])))) ul = some (hid (isL []) ul) := by rw [upd_ne (Ne.symm n5)]; exact h5
  have f6 : (upd H5 f (.ins (He.ga K "Store") dx (putF "undo_scenes" (.ref ul) (putF "scene" (.ref t) [])))) f = some (.ins (He.ga K "Store") dx (putF "undo_scenes" (.ref ul) (putF "scene" (.ref t) []))) := upd_same
  have s46 := s4.tr s6
  generalize upd H5 f (.ins (He.ga K "Store") dx (putF "undo_scenes" (.ref ul) (putF "scene" (.ref t) []))) = H6 at s6 h6 f6 s46 ⊢
  refine ⟨(by show 0 ≤ sizeLine; decide), fun rd hrd => ⟨rd, [], rfl, upd_same, rfl, _, rfl, f, _, dx, _, rfl, (by rw [upd_back2 hrd]; exact same_new hrd _ _ _ f6), T.k_Store, T.n_Store_redo_scenes, (by show 2 < 1000; decide), ?_⟩⟩
  rw [upd_back2 hrd]
  have n7 : f ≠ rd := ne_of_none f6 hrd
  have n75 : ul ≠ rd := ne_of_none h6 hrd
  have e7 := same_new hrd (hid (isL []) rd)
  have h7 : (upd H6 rd (hid (isL []) rd)) rd = some (hid (isL []) rd) := upd_same
  have u7 : H rd = none := nn s46 n7 hrd
  generalize upd H6 rd (hid (isL []) rd) = H7 at e7 h7 ⊢
  have s8 : SameB f H6 (upd H7 f (.ins (He.ga K "Store") dx (putF "redo_scenes" (.ref rd) (putF "undo_scenes" (.ref ul) (putF "scene" (.ref t) []))))) := (sb_of e7).tr sb_upd
  have h8 : (upd H7 f (.ins (He.ga K "Store") dx (putF "redo_scenes" (.ref rd) (putF "undo_scenes" (.ref ul) (putF "scene" (.ref t) []))))) rd = some (hid (isL []) rd) := by rw [upd_ne (Ne.symm n7)]; exact h7
  have f8 : (upd H7 f (.ins (He.ga K "Store") dx (putF "redo_scenes" (.ref rd) (putF "undo_scenes" (.ref ul) (putF "scene" (.ref t) []))))) f = some (.ins (He.ga K "Store") dx (putF "redo_scenes" (.ref rd) (putF "undo_scenes" (.ref ul) (putF "scene" (.ref t) [])))) := upd_same
  have s48 := s46.tr s8
  have s68 := s6.tr s8
  generalize upd H7 f (.ins (He.ga K "Store") dx (putF "redo_scenes" (.ref rd) (putF "undo_scenes" (.ref ul) (putF "scene" (.ref t) [])))) = H8 at s8 h8 f8 s48 s68 ⊢
  refine fun ad had => ⟨_, rfl, f, _, dx, _, rfl, same_new had _ _ _ f8, T.k_Store, T.n_Store_answers, (by show 3 < 1000; decide), ?_⟩
  have n9 : f ≠ ad := ne_of_none f8 had
  have s9 : SameB f H8 (upd (upd H8 ad (.dK [])) f (.ins (He.ga K "Store") dx (putF "answers" (.ref ad) (putF "redo_scenes" (.ref rd) (putF "undo_scenes" (.ref ul) (putF "scene" (.ref t) [])))))) := (sb_of (same_new had _)).tr sb_upd
  have h9 : (upd (upd H8 ad (.dK [])) f (.ins (He.ga K "Store") dx (putF "answers" (.ref ad) (putF "redo_scenes" (.ref rd) (putF "undo_scenes" (.ref ul) (putF "scene" (.ref t) [])))))) ad = some (.dK []) := by rw [upd_ne (Ne.symm n9)]; exact upd_same
  have f9 : (upd (upd H8 ad (.dK [])) f (.ins (He.ga K "Store") dx (putF "answers" (.ref ad) (putF "redo_scenes" (.ref rd) (putF "undo_scenes" (.ref ul) (putF "scene" (.ref t) [])))))) f = some (.ins (He.ga K "Store") dx (putF "answers" (.ref ad) (putF "redo_scenes" (.ref rd) (putF "undo_scenes" (.ref ul) (putF "scene" (.ref t) []))))) := upd_same
  generalize upd (upd H8 ad (.dK [])) f (.ins (He.ga K "Store") dx (putF "answers" (.ref ad) (putF "redo_scenes" (.ref rd) (putF "undo_scenes" (.ref ul) (putF "scene" (.ref t) []))))) = H9 at s9 h9 f9 ⊢
  refine ⟨_, rfl, f, _, dx, _, rfl, f9, T.k_Store, T.n_Store_computed, (by show 4 < 1000; decide), ?_⟩
  have sA : SameB f H9 (upd H9 f (.ins (He.ga K "Store") dx (putF "computed" (.int 0) (putF "answers" (.ref ad) (putF "redo_scenes" (.ref rd) (putF "undo_scenes" (.ref ul) (putF "scene" (.ref t) []))))))) := sb_upd
  have fA : (upd H9 f (.ins (He.ga K "Store") dx (putF "computed" (.int 0) (putF "answers" (.ref ad) (putF "redo_scenes" (.ref rd) (putF "undo_scenes" (.ref ul) (putF "scene" (.ref t) []))))))) f = some (.ins (He.ga K "Store") dx (putF "computed" (.int 0) (putF "answers" (.ref ad) (putF "redo_scenes" (.ref rd) (putF "undo_scenes" (.ref ul) (putF "scene" (.ref t) [])))))) := upd_same
  generalize upd H9 f (.ins (He.ga K "Store") dx (putF "computed" (.int 0) (putF "answers" (.ref ad) (putF "redo_scenes" (.ref rd) (putF "undo_scenes" (.ref ul) (putF "scene" (.ref t) [])))))) = HA at sA fA ⊢
  refine ⟨_, rfl, f, _, dx, _, rfl, fA, T.k_Store, T.n_Store_most, (by show 5 < 1000; decide), ?_⟩
  have sB : SameB f HA (upd HA f (.ins (He.ga K "Store") dx (putF "most" (.int 12) (putF "computed" (.int 0) (putF "answers" (.ref ad) (putF "redo_scenes" (.ref rd) (putF "undo_scenes" (.ref ul) (putF "scene" (.ref t) [])))))))) := sb_upd
  have sZ := s9.tr (sA.tr sB)
  have sY := s68.tr sZ
  have sX := s8.tr sZ
  refine q _ ul rd (s48.tr sZ) u5 u7 ⟨⟨dx, .ref t, ad, upd_same, ⟨t, rl, qd, [], [], rfl, ?_⟩, (sA.tr sB) _ _ (Ne.symm n9) h9⟩, ⟨[], (s8.tr sZ) _ _ (Ne.symm n5) h6, .nil⟩, ⟨[], sZ _ _ (Ne.symm n7) h8, .nil⟩, n75⟩
  have sW := s6.tr sX
  exact ⟨SqT.of (sW _ _ (Ne.symm n3) ht4), sW _ _ (Ne.symm n1) hrl4, .nil, sW _ _ (Ne.symm n2) hqd4, .nil⟩
end
end FF
/-! stores: show, advance, do -/
namespace FF
open PySem PySem.Spec PyProof.Rows L2
theorem hid_dk {g : List V → Prop} {a : Addr} {kvs : List (Key × V)} : hid g a ≠ .dK kvs := hid_ext fun _ z => nomatch z
theorem hid_ins {g : List V → Prop} {a C dx : Addr} {fs : List (Str × V)} : hid g a ≠ .ins C dx fs := hid_ext fun _ z => nomatch z
section
variable {P : Program} {w : World} {K : PySem.W.Frag} {mg : Str → Option Value} {base : Heap}
def spShow (K : PySem.W.Frag) : Sp := fun vs H Q _ => ∃ (A : SAd) (lim : Nat) (past fut : List Sc) (now st : Sc) (v : V), vs = [.ref A.c, v] ∧ StoAt K H A lim past now fut ∧ ScE K H v st ∧ ∀ H', SameB A.c H H' → StoAt K H' A lim past st fut → Q .non H'
theorem ok_show {fd : FuncData} (F : FunD K "show" "Store.show" (defArgs s_Store_show) (defBody s_Store_show) (defScope s_Store_show) [] [] (He.ma K (He.ga K "Store") "show") fd) (T : Top K mg) : MethD P w K mg base "Store" "show" 1 ["self", "scene"] (spShow K) := by
  refine methd_mk F (F.bindsN fun _ _ _ _ _ _ us hl => match us, hl with | [_, _], _ => rfl) T.k_Store T.m_Store_show sc_Store_show (fun vs H Q E h => ?_) (fun cdv A0 outer s H vs Q E hr h => ?_)
  · obtain ⟨A, lim, past, fut, now, st, v, rfl, _⟩ := h
    rfl
  obtain ⟨A, lim, past, fut, now, st, v, rfl, hA, hv, q⟩ := h
  obtain ⟨t', rl, qd, us, kvs, rfl, hS⟩ := hv
  have hA' := hA
  obtain ⟨⟨dx, t, ad, hi, hs, had⟩, ⟨lu, hu, hus⟩, ⟨lr, hr9, hrs⟩, ne⟩ := hA'
  refine ⟨_, (pss_cons (ps_fld (pv 0) (pv 1) rfl)
  (pss_cons (ps_asg (pv 1) (pg_tupK K (n := 2) rfl (pgs_cons (pg_name (i := 2) sc_Store_show.nd rfl (Or.inl rfl) (.inl rfl)) (pgs_cons (pg_name (i := 3) sc_Store_show.nd rfl (Or.inl rfl) (.inl rfl)) pgs_nil))))
  (pss_cons (ps_set (i := 4) sc_Store_show.nd rfl (Or.inl rfl) pe_dnewK)
  (pss_cons (ps_lock (ps_for PassesOwn.never rfl (pi_keys (pe_fld (pv 0) rfl)) (pg_name (i := 5) sc_Store_show.nd rfl (Or.inl rfl) (.inl rfl))
  (pss_cons (ps_set (i := 6) sc_Store_show.nd rfl (Or.inl rfl) (pe_dget (hu_of hr) (pe_fld (pv 0) rfl) (pv 5) (fun _ _ => rfl)))
  (pss_one ps_never))))
  (pss_one (ps_fld (pv 0) (pv 4) rfl)))))), ?_⟩
  refine ⟨_, rfl, _, rfl, A.c, _, dx, _, rfl, hi, T.k_Store, T.n_Store_scene, (by show 6 < 1000; decide), ?_⟩
  have s1 : SameB A.c H (upd H A.c (.ins (He.ga K "Store") dx (putF "scene" (.ref t') (stoF A t (.ref ad) 0 lim)))) := sb_upd
  have f1 : (upd H A.c (.ins (He.ga K "Store") dx (putF "scene" (.ref t') (stoF A t (.ref ad) 0 lim)))) A.c = some (.ins (He.ga K "Store") dx (stoF A (.ref t') (.ref ad) 0 lim)) := upd_same
  generalize upd H A.c (.ins (He.ga K "Store") dx (putF "scene" (.ref t') (stoF A t (.ref ad) 0 lim))) = H1 at s1 f1 ⊢
  have k1 : KeptN H H1 := hA.keep fun b u n1 n2 n3 h => s1 b u n1 h
  have hS1 := hS.n k1
  have had1 := k1.dk had
  refine ⟨_, rfl, t', _, rfl, hS1.at_, rfl, _, _, rfl, _, _, rfl, rfl, ?_⟩
  refine fun kp hkp => ?_
  have e2 := same_new hkp (.dK [])
  have hk2 : (upd H1 kp (.dK [])) kp = some (.dK []) := upd_same
  generalize upd H1 kp (.dK []) = H2 at e2 hk2 ⊢
  refine ⟨ad, .dK [], e2 _ _ had1, trivial, fun od => ?_⟩
  have nc : A.c ≠ ad := fun z => by rw [z, had1] at f1; cases f1
  refine ⟨_, rfl, A.c, _, dx, _, _, rfl, by rw [upd_ne nc]; exact e2 _ _ f1, T.k_Store, T.n_Store_answers, rfl, ad, od, rfl, .inl ⟨[], upd_same, for_none ⟨upd_same, Nat.le_refl _⟩ ⟨upd_same, ?_⟩⟩⟩
  rw [upd_back (e2 _ _ had1)]
  have f2 := e2 _ _ f1
  refine ⟨_, rfl, _, rfl, A.c, _, dx, _, rfl, f2, T.k_Store, T.n_Store_answers, (by show 6 < 1000; decide), ?_⟩
  have nk : kp ≠ A.c := fun z => by rw [z, f2] at hk2; cases hk2
  have s3 : SameB A.c H2 (upd H2 A.c (.ins (He.ga K "Store") dx (putF "answers" (.ref kp) (stoF A (.ref t') (.ref ad) 0 lim)))) := sb_upd
  have s13 := s1.tr ((sb_of e2).tr s3)
  have k13 : KeptN H (upd H2 A.c (.ins (He.ga K "Store") dx (putF "answers" (.ref kp) (stoF A (.ref t') (.ref ad) 0 lim)))) := hA.keep fun b u n1 n2 n3 h => s13 b u n1 h
  have nu : A.ul ≠ A.c := fun z => by rw [z, hi] at hu; exact hid_ins (Option.some.inj hu).symm
  have nr : A.rd ≠ A.c := fun z => by rw [z, hi] at hr9; exact hid_ins (Option.some.inj hr9).symm
  exact q _ s13 ⟨⟨dx, .ref t', kp, upd_same, ⟨t', rl, qd, us, kvs, rfl, hS.n k13⟩, s3 _ _ nk hk2⟩, ⟨lu, s13 _ _ nu hu, hus.n k13⟩, ⟨lr, s13 _ _ nr hr9, hrs.n k13⟩, ne⟩
def spAdv (K : PySem.W.Frag) : Sp := fun vs H Q _ => ∃ (A : SAd) (lim : Nat) (past fut : List Sc) (now st : Sc) (v : V), vs = [.ref A.c, v] ∧ StoAt K H A lim past now fut ∧ ScE K H v st ∧ past.length < 10000 ∧ ∀ H' rd, H rd = none → SameN A H H' → StoAt K H' ⟨A.c, A.ul, rd⟩ lim (past ++ [now]) st [] → Q .non H'
theorem ok_advance {fd : FuncData} (F : FunD K "advance" "Store.advance" (defArgs s_Store_advance) (defBody s_Store_advance) (defScope s_Store_advance) [] [] (He.ma K (He.ga K "Store") "advance") fd) (T : Top K mg)
    (D_Store_show : MethD P w K mg base "Store" "show" 1 ["self", "scene"] (spShow K)) : MethD P w K mg base "Store" "advance" 2 ["self", "scene"] (spAdv K) := by
  refine methd_mk F (F.bindsN fun _ _ _ _ _ _ us hl => match us, hl with | [_, _], _ => rfl) T.k_Store T.m_Store_advance sc_Store_advance (fun vs H Q E h => ?_) (fun cdv A0 outer s H vs Q E hr h => ?_)
  · obtain ⟨A, lim, past, fut, now, st, v, rfl, _⟩ := h
    rfl
  obtain ⟨A, lim, past, fut, now, st, v, rfl, hA, hv, hlen, q⟩ := h
  have hA' := hA
  obtain ⟨⟨dx, t, ad, hi, hs, had⟩, ⟨lu, hu, hus⟩, ⟨lr, hr9, hrs⟩, ne⟩ := hA'
  have nu : A.c ≠ A.ul := fun z => by rw [z, hu] at hi; exact hid_ins (Option.some.inj hi)
  have nr : A.rd ≠ A.c := fun z => by rw [z, hi] at hr9; exact hid_ins (Option.some.inj hr9).symm
  have nda : ad ≠ A.ul := fun z => by rw [z, hu] at had; exact hid_dk (Option.some.inj had)
  have hlu := hus.len
  refine ⟨_, (pss_cons (ps_expr (pe_opened (pe_bmK K PySem.F.plainAttrs_list PySem.F.slot_list_append PySem.F.type_list_append mt_append (pe_fld (pv 0) rfl) (pa_cons (pe_fld (pv 0) rfl) pa_nil))))
  (pss_cons (ps_fld (pv 0) (pe_hide (good := isL []) (pe_lst pa_nil)) rfl)
  (pss_one (ps_expr (pe_methd D_Store_show hr (by first | decide | omega) (pv 0) (pa_cons (pv 1) pa_nil)))))), ?_⟩
  have i1 : (upd H A.ul (.lst lu)) A.c = some (.ins (He.ga K "Store") dx (stoF A t (.ref ad) 0 lim)) := by rw [upd_ne nu]; exact hi
  refine ⟨A.ul, lu, hu, _, rfl, A.c, _, dx, _, _, rfl, i1, T.k_Store, T.n_Store_undo_scenes, rfl, .inl ⟨rfl, _, SqL.of upd_same⟩, _, rfl, A.c, _, dx, _, _, rfl, i1, T.k_Store, T.n_Store_scene, rfl, A.ul, lu, _, rfl, rfl, upd_same, lt_line (by omega), lu ++ [t], upd_same, ?_⟩
  rw [upd_upd, upd_upd]
  have e1 : SameN A H (upd H A.ul (hid (isL (lu ++ [t])) A.ul)) := fun b u n1 n2 n3 h => by rw [upd_ne n2]; exact h
  have k1 := hA.keep e1
  have i2 : (upd H A.ul (hid (isL (lu ++ [t])) A.ul)) A.c = some (.ins (He.ga K "Store") dx (stoF A t (.ref ad) 0 lim)) := by rw [upd_ne nu]; exact hi
  have h2 : (upd H A.ul (hid (isL (lu ++ [t])) A.ul)) A.ul = some (hid (isL (lu ++ [t])) A.ul) := upd_same
  have hnone : ∀ {p : Addr}, (upd H A.ul (hid (isL (lu ++ [t])) A.ul)) p = none → H p = none := fun {p} hp => by
    by_cases z : p = A.ul
    · rw [z, upd_same] at hp; cases hp
    · rwa [upd_ne z] at hp
  generalize upd H A.ul (hid (isL (lu ++ [t])) A.ul) = H1 at e1 k1 i2 h2 hnone ⊢
  refine ⟨(by show 0 ≤ sizeLine; decide), fun p hp => ⟨p, [], rfl, upd_same, rfl, _, rfl, A.c, _, dx, _, rfl, (by rw [upd_back2 hp]; exact same_new hp _ _ _ i2), T.k_Store, T.n_Store_redo_scenes, (by show 6 < 1000; decide), ?_⟩⟩
  rw [upd_back2 hp]
  have np : A.c ≠ p := ne_of_none i2 hp
  have npu : A.ul ≠ p := ne_of_none h2 hp
  have e2 : SameN A H1 (upd (upd H1 p (hid (isL []) p)) A.c (.ins (He.ga K "Store") dx (putF "redo_scenes" (.ref p) (stoF A t (.ref ad) 0 lim)))) := fun b u n1 n2 n3 h => by rw [upd_ne n1]; exact same_new hp _ _ _ h
  have e12 := e1.trans e2
  have k12 := hA.keep e12
  have i3 : (upd (upd H1 p (hid (isL []) p)) A.c (.ins (He.ga K "Store") dx (putF "redo_scenes" (.ref p) (stoF A t (.ref ad) 0 lim)))) A.c = some (.ins (He.ga K "Store") dx (stoF ⟨A.c, A.ul, p⟩ t (.ref ad) 0 lim)) := upd_same
  have h3 : (upd (upd H1 p (hid (isL []) p)) A.c (.ins (He.ga K "Store") dx (putF "redo_scenes" (.ref p) (stoF A t (.ref ad) 0 lim)))) A.ul = some (hid (isL (lu ++ [t])) A.ul) := by rw [upd_ne (Ne.symm nu), upd_ne npu]; exact h2
  have r3 : (upd (upd H1 p (hid (isL []) p)) A.c (.ins (He.ga K "Store") dx (putF "redo_scenes" (.ref p) (stoF A t (.ref ad) 0 lim)))) p = some (hid (isL []) p) := by rw [upd_ne (Ne.symm np)]; exact upd_same
  generalize upd (upd H1 p (hid (isL []) p)) A.c (.ins (He.ga K "Store") dx (putF "redo_scenes" (.ref p) (stoF A t (.ref ad) 0 lim))) = H3 at e2 e12 k12 i3 h3 r3 ⊢
  have hA3 : StoAt K H3 ⟨A.c, A.ul, p⟩ lim (past ++ [now]) now [] := ⟨⟨dx, t, ad, i3, hs.n k12, k12.dk had⟩, ⟨lu ++ [t], h3, (hus.n k12).snoc (hs.n k12)⟩, ⟨[], r3, .nil⟩, npu⟩
  refine ⟨_, rfl, A.c, dx, _, rfl, i3, rfl, _, rfl, ⟨A.c, A.ul, p⟩, lim, past ++ [now], [], now, st, v, rfl, hA3, hv.n k12, fun H' s' hA' => ?_⟩
  exact q H' p (hnone hp) (e12.trans fun b u n1 n2 n3 h => s' b u n1 h) hA'
end
end FF
/-! stores: do, rules, questions, len, repr -/
namespace FF
open PySem PySem.Spec PyProof.Rows L2
theorem int_log : ∀ n : Nat, n ≤ 60 → (n : Int).natAbs.log2 < 1920 := by decide +kernel
theorem int_short : ∀ n : Nat, n ≤ 60 → (toString (n : Int) : Str).length ≤ 100 := by decide +kernel
theorem str_len (a b : Str) : (a ++ b).length = a.length + b.length := by
  show (a.cps ++ b.cps).size = _
  rw [Array.size_append]
  rfl
theorem mem_sort {l : List Str} {i : Nat} {z : Str} (h : (sortT l)[i]? = some z) : z ∈ l := (List.mergeSort_perm l leS).mem_iff.mp (List.mem_of_getElem? h)
theorem look_some {z : Str} {qs : Qs} (h : z ∈ qs.map Prod.fst) : ∃ g, qs.lookup z = some g := by
  obtain ⟨⟨z', g⟩, hm, rfl⟩ := List.mem_map.mp h
  cases hl : qs.lookup z' with
  | some g' => exact ⟨g', rfl⟩
  | none => exact absurd (List.lookup_eq_none_iff.mp hl _ hm) (by simp)
theorem mem_look {z : Str} {g : PyData} : ∀ {l : Qs}, l.lookup z = some g → (z, g) ∈ l
  | [], h => by cases h
  | (y, d) :: l, h => by
    rw [QsAll.get.lookup_cons] at h
    by_cases e : z = y
    · rw [if_pos e] at h; cases h; rw [e]; exact List.mem_cons_self
    · rw [if_neg e] at h; exact List.mem_cons_of_mem _ (mem_look h)
def reprS (n m : Nat) : Str := (("Store(" ++ toString ((n : Nat) : Int)) ++ " rules, ") ++ toString ((m : Nat) : Int) ++ " questions)"
section
variable {P : Program} {w : World} {K : PySem.W.Frag} {mg : Str → Option Value} {base : Heap}
def spDo (K : PySem.W.Frag) : Sp := fun vs H Q E => ∃ (A : SAd) (lim : Nat) (past fut : List Sc) (now : Sc) (v : V) (c : Cmd), vs = [.ref A.c, v] ∧ StoAt K H A lim past now fut ∧ StOk lim now.1 now.2 ∧ lim ≤ 12 ∧ past.length < 10000 ∧ Tp K H v c.data ∧ c.ok ∧
  (∀ st, afterD lim now.1 now.2 c = .ok st → ∀ H' rd, H rd = none → SameN A H H' → StoAt K H' ⟨A.c, A.ul, rd⟩ lim (past ++ [now]) st [] → Q .non H') ∧ ∀ e, afterD lim now.1 now.2 c = .error e → ErrS K H E e
theorem ok_do {fd : FuncData} (F : FunD K "do" "Store.do" (defArgs s_Store_do) (defBody s_Store_do) (defScope s_Store_do) [] [] (He.ma K (He.ga K "Store") "do") fd) (T : Top K mg)
    (D_Store_advance : MethD P w K mg base "Store" "advance" 2 ["self", "scene"] (spAdv K)) (D_after : DefX P w K mg base "after" 21 ["scene", "command", "limit"] (spAfter K)) : MethX P w K mg base "Store" "do" 22 ["self", "command"] (spDo K) := by
  refine methx_mk F (F.bindsN fun _ _ _ _ _ _ us hl => match us, hl with | [_, _], _ => rfl) T.k_Store T.m_Store_do sc_Store_do (fun vs H Q E h => ?_) (fun cdv A0 outer s H vs Q E hr h tk => ?_)
  · obtain ⟨A, lim, past, fut, now, v, c, rfl, _⟩ := h
    rfl
  obtain ⟨A, lim, past, fut, now, v, c, rfl, hA, hO, hl12, hlen, hv, hc, q1, q2⟩ := h
  obtain ⟨dx, tv, ad, hi, ⟨t, rl, qd, us, kvs, rfl, hS⟩, had⟩ := hA.ins
  refine ⟨_, (pss_one (ps_expr (pe_methd D_Store_advance hr (by first | decide | omega) (pv 0) (pa_cons (pe_defx (E := E) D_after tk (fun _ _ _ _ h => h) hr (by first | decide | omega) (pa_cons (pe_fld (pv 0) rfl) (pa_cons (pv 1) (pa_cons (pe_fld (pv 0) rfl) pa_nil)))) pa_nil)))), ?_⟩
  refine ⟨_, rfl, A.c, dx, _, rfl, hi, rfl, _, rfl, A.c, _, dx, _, _, rfl, hi, T.k_Store, T.n_Store_scene, rfl, _, rfl, _, rfl, A.c, _, dx, _, _, rfl, hi, T.k_Store, T.n_Store_most, rfl, ?_⟩
  refine ⟨t, rl, qd, us, kvs, now.1, now.2, lim, v, c, rfl, hS, hO, hl12, hv, hc, fun ds' qs' he t' rl' qd' us' kvs' H1 e1 hS1 => ?_, q2⟩
  refine ⟨A, lim, past, fut, now, (ds', qs'), .ref t', rfl, hA.up e1, ⟨t', rl', qd', us', kvs', rfl, hS1⟩, hlen, fun H' rd hrd eN hA' => ?_⟩
  refine q1 _ he H' rd ?_ ((SameN.of e1).trans eN) hA'
  cases z : H rd with
  | none => rfl
  | some u => rw [e1 _ _ z] at hrd; cases hrd
/-- the rules in a new list -/
def spRulesM (K : PySem.W.Frag) : Sp := fun vs H Q _ => ∃ (A : SAd) (lim : Nat) (past fut : List Sc) (now : Sc), vs = [.ref A.c] ∧ StoAt K H A lim past now fut ∧ ∀ (p : Addr) (us : List V) H', Same H H' → H p = none → H' p = some (.lst us) → TpAll K H' us now.1 → Q (.ref p) H'
theorem ok_rulesM {fd : FuncData} (F : FunD K "rules" "Store.rules" (defArgs s_Store_rules) (defBody s_Store_rules) (defScope s_Store_rules) [] [] (He.ma K (He.ga K "Store") "rules") fd) (T : Top K mg) : MethD P w K mg base "Store" "rules" 1 ["self"] (spRulesM K) := by
  refine methd_mk F (F.bindsN fun _ _ _ _ _ _ us hl => match us, hl with | [_], _ => rfl) T.k_Store T.m_Store_rules sc_Store_rules (fun vs H Q E h => ?_) (fun cdv A0 outer s H vs Q E hr h => ?_)
  · obtain ⟨A, lim, past, fut, now, rfl, _⟩ := h
    rfl
  obtain ⟨A, lim, past, fut, now, rfl, hA, q⟩ := h
  obtain ⟨dx, tv, ad, hi, ⟨t, rl, qd, us, kvs, rfl, hS⟩, had⟩ := hA.ins
  refine ⟨_, (pss_one (ps_ret (pe_callTy (call_list_ofK K) (by rfl) T.b_list (by decide +kernel) (pa_cons (pe_ix (ix_tupK K) (pe_fld (pv 0) rfl) pe_int (fun _ _ => rfl)) pa_nil)))), ?_⟩
  refine ⟨_, rfl, A.c, _, dx, _, _, rfl, hi, T.k_Store, T.n_Store_scene, rfl, t, _, _, .ref rl, rfl, rfl, hS.at_, at0, rl, us, rfl, .inl (SqL.of hS.rl), fun p hp => ?_⟩
  have e1 := same_new hp (.lst us)
  exact q p us _ e1 hp upd_same (hS.us.up (Same.T e1))
def qdata (q : Str × PyData) : PyData := match q.2 with
  | .tuple xs => .tuple (.str q.1 :: xs)
  | d => d
/-- the questions, with their names, in ascending order, in a new list -/
def spQuesM (K : PySem.W.Frag) : Sp := fun vs H Q _ => ∃ (A : SAd) (lim : Nat) (past fut : List Sc) (now : Sc), vs = [.ref A.c] ∧ StoAt K H A lim past now fut ∧ StOk lim now.1 now.2 ∧ ∀ (p : Addr) (us : List V) H', Same H H' → H p = none → H' p = some (.lst us) → TpAll K H' us ((sortT (now.2.map Prod.fst)).map fun z => qdata (z, (now.2.lookup z).getD .none)) → Q (.ref p) H'
theorem ok_quesM {fd : FuncData} (F : FunD K "questions" "Store.questions" (defArgs s_Store_questions) (defBody s_Store_questions) (defScope s_Store_questions) [] [] (He.ma K (He.ga K "Store") "questions") fd) (T : Top K mg) : MethD P w K mg base "Store" "questions" 1 ["self"] (spQuesM K) := by
  refine methd_mk F (F.bindsN fun _ _ _ _ _ _ us hl => match us, hl with | [_], _ => rfl) T.k_Store T.m_Store_questions sc_Store_questions (fun vs H Q E h => ?_) (fun cdv A0 outer s H vs Q E hr h => ?_)
  · obtain ⟨A, lim, past, fut, now, rfl, _⟩ := h
    rfl
  obtain ⟨A, lim, past, fut, now, rfl, hA, hO, q⟩ := h
  obtain ⟨dx, tv, ad, hi, ⟨t, rl, qd, us, kvs, rfl, hS⟩, had⟩ := hA.ins
  refine ⟨_, (pss_one (ps_ret (pe_lc (own := [("name", 1)]) rfl sc_Store_questions.nd (pi_listK K (pe_callB (cr_sortedDA rfl) (by rfl) T.b_sorted (by decide +kernel) (pa_cons (pe_ix (ix_tupK K) (pe_fld (pv 0) rfl) pe_int (fun _ _ => rfl)) pa_nil))) (blkOk_by (by kernel_rfl)) (fun _ _ _ _ _ => (pg_name (i := 1) sc_Store_questions.nd rfl (Or.inl rfl) (.inr rfl))) (fun _ _ _ _ _ => pts_nil) (fun _ _ _ _ _ => (pe_tup (pa_cons (pv 1) (pa_starK K (pe_dget (hu_of hr) (pe_ix (ix_tupK K) (pe_fldK K (pv 0) rfl) pe_int (fun _ _ => rfl)) (pv 1) (fun _ _ => rfl)) pa_nil))))))), ?_⟩
  refine ⟨_, rfl, A.c, _, dx, _, _, rfl, hi, T.k_Store, T.n_Store_scene, rfl, t, _, _, .ref qd, rfl, rfl, hS.at_, (rfl : atI [V.ref rl, V.ref qd] 1 = some (.ref qd)), qd, kvs, now.2.map Prod.fst, rfl, hS.qd, hS.qs.keys, fun ys p hp hsd hpn => ?_⟩
  have hys := sort_eq hp hsd
  subst hys
  have e1 := same_new hpn (.lst ((sortT (now.2.map Prod.fst)).map V.str))
  have hp1 : (upd H p (.lst ((sortT (now.2.map Prod.fst)).map V.str))) p = some (.lst ((sortT (now.2.map Prod.fst)).map V.str)) := upd_same
  generalize upd H p (.lst ((sortT (now.2.map Prod.fst)).map V.str)) = H1 at e1 hp1 ⊢
  refine ⟨p, rfl, ⟨_, SqL.of hp1⟩, fun D hD => ?_⟩
  have hlq := hO.lq
  have hlen : (sortT (now.2.map Prod.fst)).length = now.2.length := by
    have := (List.mergeSort_perm (now.2.map Prod.fst) leS).length_eq
    rwa [List.length_map] at this
  refine lc_mapL (j := 1) (fun i y H' => ∃ z, (sortT (now.2.map Prod.fst))[i]? = some z ∧ Tp K H' y (qdata (z, (now.2.lookup z).getD .none))) (fun i y Ha Hb e ⟨z, h1, h2⟩ => ⟨z, h1, h2.up e⟩) hD (SqL.of hp1) (le_line (by rw [List.length_map, hlen]; omega)) (fun _ => rfl) ?_ ?_
  · intro i x H2 hx e2 Q' k'
    rw [List.getElem?_map] at hx
    obtain ⟨z, hz, rfl⟩ := Option.map_eq_some_iff.mp hx
    have e12 := e1.trans e2
    have hS2 := hS.up e12
    have hA2 := hA.up e12
    obtain ⟨g, hg⟩ := look_some (mem_sort hz)
    obtain ⟨v, hv, htv⟩ := hS2.qs.get hg
    obtain ⟨l, r, rfl, hl, hr2⟩ := hO.gol (z, g) (mem_look hg)
    obtain ⟨ta, us2, rfl, hta, hus2⟩ := tup_tp htv
    refine ⟨_, rfl, _, rfl, A.c, _, dx, _, _, rfl, e12 _ _ hi, T.k_Store, T.n_Store_scene, rfl, t, _, _, .ref qd, rfl, rfl, hS2.at_, (rfl : atI [V.ref rl, V.ref qd] 1 = some (.ref qd)), _, rfl, qd, .ref ta, rfl, by rw [← hv]; exact DGet.k (k := .inr z) hS2.qd, ta, us2, rfl, .inl hta, ?_⟩
    show (V.str z :: (us2 ++ [])).length ≤ sizeLine ∧ ∀ p : Addr, H2 p = none → Q' (.ref p) (upd H2 p (.tup (V.str z :: (us2 ++ []))))
    rw [List.append_nil]
    have hul2 := hus2.len
    refine ⟨le_line (by rw [List.length_cons, hul2]; exact Nat.le_trans (by decide : 3 ≤ 20000) (Nat.le_refl _)), fun tt htt => k' _ _ (same_new htt _) ⟨z, hz, ?_⟩⟩
    rw [hg]
    have e3 := same_new htt (.tup (V.str z :: us2))
    exact .tup (.inl upd_same) (.cons (.str _) (hus2.up (Same.T e3)))
  · intro H2 ys e2 hD2 hyl hy
    refine q D ys H2 (e1.trans e2) ?_ hD2 (TpAll.of_get (by rw [hyl, List.length_map, List.length_map]) fun i u d h1 h2 => ?_)
    · cases z : H D with
      | none => rfl
      | some u => rw [e1 _ _ z] at hD; cases hD
    · obtain ⟨z, h3, h4⟩ := hy i u h1
      rw [List.getElem?_map, h3] at h2
      cases h2
      exact h4
def spLenM (K : PySem.W.Frag) : Sp := fun vs H Q _ => ∃ (A : SAd) (lim : Nat) (past fut : List Sc) (now : Sc), vs = [.ref A.c] ∧ StoAt K H A lim past now fut ∧ Q (.int (now.1.length : Nat)) H
theorem ok_lenM {fd : FuncData} (F : FunD K "__len__" "Store.__len__" (defArgs s_Store___len__) (defBody s_Store___len__) (defScope s_Store___len__) [] [] (He.ma K (He.ga K "Store") "__len__") fd) (T : Top K mg) : MethD P w K mg base "Store" "__len__" 1 ["self"] (spLenM K) := by
  refine methd_mk F (F.bindsN fun _ _ _ _ _ _ us hl => match us, hl with | [_], _ => rfl) T.k_Store T.m_Store___len__ sc_Store___len__ (fun vs H Q E h => ?_) (fun cdv A0 outer s H vs Q E hr h => ?_)
  · obtain ⟨A, lim, past, fut, now, rfl, _⟩ := h
    rfl
  obtain ⟨A, lim, past, fut, now, rfl, hA, q⟩ := h
  obtain ⟨dx, tv, ad, hi, ⟨t, rl, qd, us, kvs, rfl, hS⟩, had⟩ := hA.ins
  refine ⟨_, (pss_one (ps_ret (pe_callB (call_lenK K) (by rfl) T.b_len (by decide +kernel) (pa_cons (pe_ix (ix_tupK K) (pe_fld (pv 0) rfl) pe_int (fun _ _ => rfl)) pa_nil)))), ?_⟩
  refine ⟨_, rfl, A.c, _, dx, _, _, rfl, hi, T.k_Store, T.n_Store_scene, rfl, t, _, _, .ref rl, rfl, rfl, hS.at_, at0, .ref rl, us.length, rfl, .inl ⟨us, SqL.of hS.rl, rfl⟩, ?_⟩
  rw [hS.us.len]
  exact q
def spReprM (K : PySem.W.Frag) : Sp := fun vs H Q _ => ∃ (A : SAd) (lim : Nat) (past fut : List Sc) (now : Sc), vs = [.ref A.c] ∧ StoAt K H A lim past now fut ∧ now.1.length ≤ 60 ∧ now.2.length ≤ 60 ∧ Q (.str (reprS now.1.length now.2.length)) H
theorem ok_reprM {fd : FuncData} (F : FunD K "__repr__" "Store.__repr__" (defArgs s_Store___repr__) (defBody s_Store___repr__) (defScope s_Store___repr__) [] [] (He.ma K (He.ga K "Store") "__repr__") fd) (T : Top K mg) : MethD P w K mg base "Store" "__repr__" 1 ["self"] (spReprM K) := by
  refine methd_mk F (F.bindsN fun _ _ _ _ _ _ us hl => match us, hl with | [_], _ => rfl) T.k_Store T.m_Store___repr__ sc_Store___repr__ (fun vs H Q E h => ?_) (fun cdv A0 outer s H vs Q E hr h => ?_)
  · obtain ⟨A, lim, past, fut, now, rfl, _⟩ := h
    rfl
  obtain ⟨A, lim, past, fut, now, rfl, hA, hn, hm, q⟩ := h
  obtain ⟨dx, tv, ad, hi, ⟨t, rl, qd, us, kvs, rfl, hS⟩, had⟩ := hA.ins
  refine ⟨_, (pss_one (ps_ret (pe_joined (PJ.cons pe_str (PJ.cons (pe_fmt (pe_callB (call_lenK K) (by rfl) T.b_len (by decide +kernel) (pa_cons (pe_ix (ix_tupK K) (pe_fld (pv 0) rfl) pe_int (fun _ _ => rfl)) pa_nil))) (PJ.cons pe_str (PJ.cons (pe_fmt (pe_callB L2.call_lenD (by rfl) T.b_len (by decide +kernel) (pa_cons (pe_ix (ix_tupK K) (pe_fld (pv 0) rfl) pe_int (fun _ _ => rfl)) pa_nil))) (PJ.cons pe_str PJ.nil)))))))), ?_⟩
  have l1 : (toString ((now.1.length : Nat) : Int) : Str).length ≤ 100 := int_short _ hn
  have l2 : (toString ((now.2.length : Nat) : Int) : Str).length ≤ 100 := int_short _ hm
  have hul := hS.us.len
  have hkl := hS.qs.len
  refine ⟨_, rfl, Nat.le_of_ble_eq_true rfl, ?_⟩
  refine ⟨_, rfl, A.c, _, dx, _, _, rfl, hi, T.k_Store, T.n_Store_scene, rfl, t, _, _, .ref rl, rfl, rfl, hS.at_, at0, .ref rl, now.1.length, rfl, .inl ⟨us, SqL.of hS.rl, hul.symm⟩, .inr ⟨_, rfl, ?_, _, rfl, ?_, ?_⟩⟩
  · exact int_log _ hn
  · refine le_line ?_
    rw [str_len, str_len, show Str.empty.length = 0 from rfl, show ("Store(" : Str).length = 6 from rfl]
    omega
  refine ⟨_, rfl, ?_, ?_⟩
  · refine le_line ?_
    rw [str_len, str_len, str_len, show Str.empty.length = 0 from rfl, show ("Store(" : Str).length = 6 from rfl, show (" rules, " : Str).length = 8 from rfl]
    omega
  refine ⟨_, rfl, A.c, _, dx, _, _, rfl, hi, T.k_Store, T.n_Store_scene, rfl, t, _, _, .ref qd, rfl, rfl, hS.at_, (rfl : atI [V.ref rl, V.ref qd] 1 = some (.ref qd)), qd, kvs, rfl, hS.qd, .inr ⟨_, rfl, ?_, _, rfl, ?_, ?_⟩⟩
  · rw [hkl]
    exact int_log _ hm
  · refine le_line ?_
    rw [str_len, str_len, str_len, str_len, hkl, show Str.empty.length = 0 from rfl, show ("Store(" : Str).length = 6 from rfl, show (" rules, " : Str).length = 8 from rfl]
    omega
  refine ⟨_, rfl, ?_, ?_⟩
  · refine le_line ?_
    rw [str_len, str_len, str_len, str_len, str_len, hkl, show Str.empty.length = 0 from rfl, show ("Store(" : Str).length = 6 from rfl, show (" rules, " : Str).length = 8 from rfl, show (" questions)" : Str).length = 11 from rfl]
    omega
  have e0 : Str.empty ++ ("Store(" : Str) = "Store(" := by decide +kernel
  rw [e0, hkl]
  exact q
end
end FF
/-! the law's def that tells what was refused: the code and the field -/
namespace FF
open PySem PySem.Spec PyProof.Rows L2
inductive FldOf : Str → Str → Prop where
  | InvalidCommand : FldOf "InvalidCommand" "word"
  | InvalidName : FldOf "InvalidName" "name"
  | NameInUse : FldOf "NameInUse" "name"
  | UnknownRule : FldOf "UnknownRule" "name"
  | UnknownQuestion : FldOf "UnknownQuestion" "name"
  | CapacityReached : FldOf "CapacityReached" "limit"
  | TooManyTerms : FldOf "TooManyTerms" "count"
inductive Fld0 : Str → Prop where
  | InvalidTerm : Fld0 "InvalidTerm"
  | NothingLeft : Fld0 "NothingLeft"
/-- what the def answers where its call raises -/
def RefX (K : PySem.W.Frag) (Q : VK) : XK := fun cls d H' =>
  (∃ (code fld : Str) (y : V) (dd : Addr), FldOf code fld ∧ cls = .ref (He.ga K code) ∧ d = some dd ∧ H' dd = some (.xd [(fld, y), ("code", .str code)]) ∧ ∀ p, H' p = none → Q (.ref p) (upd H' p (.tup [.str code, y]))) ∨
  (∃ code : Str, Fld0 code ∧ cls = .ref (He.ga K code) ∧ Thr code d H' ∧ ∀ p, H' p = none → Q (.ref p) (upd H' p (.tup [.str code, .non])))
def TT_ref (K : PySem.W.Frag) : (XK → Hp → VK → Prop) → Hp → VK → Prop := fun tl H Q =>
  ∀ t0, H t0 = none → tl (RefX K Q) (upd H t0 (.tup [.str "", .non])) (fun _ H' => Q (.ref t0) H')
theorem gives_law_refused_with {X : Cx} (T : Top X.K X.mg) {g : Addr} {cdg : Value} {q : Str} : GivesS X ["_law_ask", "_law_told", "e"] "_law_refused_with" (defScope s_law_refused_with) g cdg (defBody s_law_refused_with) "_law_ask" q (TT_ref X.K) := by
  intro f c' s H Q tl act hc h
  refine ⟨_, pss_cons (ps_set (i := 1) sc_law_refused_with.nd rfl (Or.inl rfl) (pe_tup (pa_cons pe_str (pa_cons pe_non pa_nil)))) (pss_cons
    (ps_try_manyB (X := (cxOf C8.CX0 X.prog X.w X.K X.mg X.base ["_law_ask", "_law_told", "e"] "_law_refused_with" (defScope s_law_refused_with) g cdg X.A X.stack s H C8.E0).nox) (i := 2)
      (tb := fun W D σ H => ∃ E : XK, (∀ cls d H', E cls d H' → W cls d σ H') ∧ σ[0]? = some (some (.ref f)) ∧ H c' = some (LamX.CodeO c' q) ∧ ∃ Q' : VK, (∀ v H', Q' v H' → D.nx σ H') ∧ tl E H Q')
      rfl rfl sc_law_refused_with.nd rfl rfl LamX.takes0 (fun W pn xe tk _ => ?_)
      (.cons ⟨rfl, by decide, .inl T.c_InvalidCommand⟩ (fun a oe cls d pn hz hf => pss_one (ps_set (i := 1) sc_law_refused_with.nd rfl (Or.inl rfl) (pe_tup (pa_cons (pe_xf T.x_InvalidCommand.c.xf T.x_InvalidCommand.c.noc hz hf (pv 2)) (pa_cons (pe_xf T.x_InvalidCommand.c.xf T.n_InvalidCommand_word hz hf (pv 2)) pa_nil)))))
        (.cons ⟨rfl, by decide, .inl T.c_InvalidName⟩ (fun a oe cls d pn hz hf => pss_one (ps_set (i := 1) sc_law_refused_with.nd rfl (Or.inl rfl) (pe_tup (pa_cons (pe_xf T.x_InvalidName.c.xf T.x_InvalidName.c.noc hz hf (pv 2)) (pa_cons (pe_xf T.x_InvalidName.c.xf T.n_InvalidName_name hz hf (pv 2)) pa_nil)))))
        (.cons ⟨rfl, by decide, .inl T.c_NameInUse⟩ (fun a oe cls d pn hz hf => pss_one (ps_set (i := 1) sc_law_refused_with.nd rfl (Or.inl rfl) (pe_tup (pa_cons (pe_xf T.x_NameInUse.c.xf T.x_NameInUse.c.noc hz hf (pv 2)) (pa_cons (pe_xf T.x_NameInUse.c.xf T.n_NameInUse_name hz hf (pv 2)) pa_nil)))))
        (.cons ⟨rfl, by decide, .inl T.c_UnknownRule⟩ (fun a oe cls d pn hz hf => pss_one (ps_set (i := 1) sc_law_refused_with.nd rfl (Or.inl rfl) (pe_tup (pa_cons (pe_xf T.x_UnknownRule.c.xf T.x_UnknownRule.c.noc hz hf (pv 2)) (pa_cons (pe_xf T.x_UnknownRule.c.xf T.n_UnknownRule_name hz hf (pv 2)) pa_nil)))))
        (.cons ⟨rfl, by decide, .inl T.c_UnknownQuestion⟩ (fun a oe cls d pn hz hf => pss_one (ps_set (i := 1) sc_law_refused_with.nd rfl (Or.inl rfl) (pe_tup (pa_cons (pe_xf T.x_UnknownQuestion.c.xf T.x_UnknownQuestion.c.noc hz hf (pv 2)) (pa_cons (pe_xf T.x_UnknownQuestion.c.xf T.n_UnknownQuestion_name hz hf (pv 2)) pa_nil)))))
        (.cons ⟨rfl, by decide, .inl T.c_InvalidTerm⟩ (fun a oe cls d pn hz hf => pss_one (ps_set (i := 1) sc_law_refused_with.nd rfl (Or.inl rfl) (pe_tup (pa_cons (pe_xf T.x_InvalidTerm.c.xf T.x_InvalidTerm.c.noc hz hf (pv 2)) (pa_cons pe_non pa_nil)))))
        (.cons ⟨rfl, by decide, .inl T.c_CapacityReached⟩ (fun a oe cls d pn hz hf => pss_one (ps_set (i := 1) sc_law_refused_with.nd rfl (Or.inl rfl) (pe_tup (pa_cons (pe_xf T.x_CapacityReached.c.xf T.x_CapacityReached.c.noc hz hf (pv 2)) (pa_cons (pe_xf T.x_CapacityReached.c.xf T.n_CapacityReached_limit hz hf (pv 2)) pa_nil)))))
        (.cons ⟨rfl, by decide, .inl T.c_TooManyTerms⟩ (fun a oe cls d pn hz hf => pss_one (ps_set (i := 1) sc_law_refused_with.nd rfl (Or.inl rfl) (pe_tup (pa_cons (pe_xf T.x_TooManyTerms.c.xf T.x_TooManyTerms.c.noc hz hf (pv 2)) (pa_cons (pe_xf T.x_TooManyTerms.c.xf T.n_TooManyTerms_count hz hf (pv 2)) pa_nil)))))
        (.cons ⟨rfl, by decide, .inl T.c_NothingLeft⟩ (fun a oe cls d pn hz hf => pss_one (ps_set (i := 1) sc_law_refused_with.nd rfl (Or.inl rfl) (pe_tup (pa_cons (pe_xf T.x_NothingLeft.c.xf T.x_NothingLeft.c.noc hz hf (pv 2)) (pa_cons pe_non pa_nil)))))
        .nil))))))))))
    (pss_one (ps_ret (pv 1)))), ?_⟩
  · refine ⟨fun pins s' σ H' D I h' => ?_⟩
    obtain ⟨E, hW, h1, h2, Q', hQ, h3⟩ := h'
    exact (pss_one (ps_expr (pe_mono (act W pn xe _ _ tk)))).run pins s' σ H' D I ⟨Q', hQ, h1, h2, E, hW, h3⟩
  · refine ⟨(show 2 ≤ sizeLine by decide), fun t0 ht0 => ⟨_, fun cls d H' hE => ?_, rfl, same_new ht0 _ _ _ hc, _, fun v H' hq => ⟨_, rfl, hq⟩, h t0 ht0⟩⟩
    rcases hE with ⟨code, fld, y, dd, hF, rfl, rfl, hd, hq⟩ | ⟨code, hF, rfl, ⟨dd, fs, rfl, hd, hc9⟩, hq⟩
    · cases hF with
      | InvalidCommand => exact ⟨true, T.e_InvalidCommand_InvalidCommand, fun _ a ha => ⟨_, rfl, rfl, rfl, dd, _, _, rfl, hd, rfl, _, rfl, rfl, rfl, dd, _, _, rfl, hd, rfl, (show 2 ≤ sizeLine by decide), fun p hp => ⟨_, rfl, hq p hp⟩⟩, fun z => by cases z⟩
      | InvalidName => exact ⟨false, T.e_InvalidName_InvalidCommand, fun z => (by cases z), fun _ => ⟨true, T.e_InvalidName_InvalidName, fun _ a ha => ⟨_, rfl, rfl, rfl, dd, _, _, rfl, hd, rfl, _, rfl, rfl, rfl, dd, _, _, rfl, hd, rfl, (show 2 ≤ sizeLine by decide), fun p hp => ⟨_, rfl, hq p hp⟩⟩, fun z => by cases z⟩⟩
      | NameInUse => exact ⟨false, T.e_NameInUse_InvalidCommand, fun z => (by cases z), fun _ => ⟨false, T.e_NameInUse_InvalidName, fun z => (by cases z), fun _ => ⟨true, T.e_NameInUse_NameInUse, fun _ a ha => ⟨_, rfl, rfl, rfl, dd, _, _, rfl, hd, rfl, _, rfl, rfl, rfl, dd, _, _, rfl, hd, rfl, (show 2 ≤ sizeLine by decide), fun p hp => ⟨_, rfl, hq p hp⟩⟩, fun z => by cases z⟩⟩⟩
      | UnknownRule => exact ⟨false, T.e_UnknownRule_InvalidCommand, fun z => (by cases z), fun _ => ⟨false, T.e_UnknownRule_InvalidName, fun z => (by cases z), fun _ => ⟨false, T.e_UnknownRule_NameInUse, fun z => (by cases z), fun _ => ⟨true, T.e_UnknownRule_UnknownRule, fun _ a ha => ⟨_, rfl, rfl, rfl, dd, _, _, rfl, hd, rfl, _, rfl, rfl, rfl, dd, _, _, rfl, hd, rfl, (show 2 ≤ sizeLine by decide), fun p hp => ⟨_, rfl, hq p hp⟩⟩, fun z => by cases z⟩⟩⟩⟩
      | UnknownQuestion => exact ⟨false, T.e_UnknownQuestion_InvalidCommand, fun z => (by cases z), fun _ => ⟨false, T.e_UnknownQuestion_InvalidName, fun z => (by cases z), fun _ => ⟨false, T.e_UnknownQuestion_NameInUse, fun z => (by cases z), fun _ => ⟨false, T.e_UnknownQuestion_UnknownRule, fun z => (by cases z), fun _ => ⟨true, T.e_UnknownQuestion_UnknownQuestion, fun _ a ha => ⟨_, rfl, rfl, rfl, dd, _, _, rfl, hd, rfl, _, rfl, rfl, rfl, dd, _, _, rfl, hd, rfl, (show 2 ≤ sizeLine by decide), fun p hp => ⟨_, rfl, hq p hp⟩⟩, fun z => by cases z⟩⟩⟩⟩⟩
      | CapacityReached => exact ⟨false, T.e_CapacityReached_InvalidCommand, fun z => (by cases z), fun _ => ⟨false, T.e_CapacityReached_InvalidName, fun z => (by cases z), fun _ => ⟨false, T.e_CapacityReached_NameInUse, fun z => (by cases z), fun _ => ⟨false, T.e_CapacityReached_UnknownRule, fun z => (by cases z), fun _ => ⟨false, T.e_CapacityReached_UnknownQuestion, fun z => (by cases z), fun _ => ⟨false, T.e_CapacityReached_InvalidTerm, fun z => (by cases z), fun _ => ⟨true, T.e_CapacityReached_CapacityReached, fun _ a ha => ⟨_, rfl, rfl, rfl, dd, _, _, rfl, hd, rfl, _, rfl, rfl, rfl, dd, _, _, rfl, hd, rfl, (show 2 ≤ sizeLine by decide), fun p hp => ⟨_, rfl, hq p hp⟩⟩, fun z => by cases z⟩⟩⟩⟩⟩⟩⟩
      | TooManyTerms => exact ⟨false, T.e_TooManyTerms_InvalidCommand, fun z => (by cases z), fun _ => ⟨false, T.e_TooManyTerms_InvalidName, fun z => (by cases z), fun _ => ⟨false, T.e_TooManyTerms_NameInUse, fun z => (by cases z), fun _ => ⟨false, T.e_TooManyTerms_UnknownRule, fun z => (by cases z), fun _ => ⟨false, T.e_TooManyTerms_UnknownQuestion, fun z => (by cases z), fun _ => ⟨false, T.e_TooManyTerms_InvalidTerm, fun z => (by cases z), fun _ => ⟨false, T.e_TooManyTerms_CapacityReached, fun z => (by cases z), fun _ => ⟨true, T.e_TooManyTerms_TooManyTerms, fun _ a ha => ⟨_, rfl, rfl, rfl, dd, _, _, rfl, hd, rfl, _, rfl, rfl, rfl, dd, _, _, rfl, hd, rfl, (show 2 ≤ sizeLine by decide), fun p hp => ⟨_, rfl, hq p hp⟩⟩, fun z => by cases z⟩⟩⟩⟩⟩⟩⟩⟩
    · cases hF with
      | InvalidTerm => exact ⟨false, T.e_InvalidTerm_InvalidCommand, fun z => (by cases z), fun _ => ⟨false, T.e_InvalidTerm_InvalidName, fun z => (by cases z), fun _ => ⟨false, T.e_InvalidTerm_NameInUse, fun z => (by cases z), fun _ => ⟨false, T.e_InvalidTerm_UnknownRule, fun z => (by cases z), fun _ => ⟨false, T.e_InvalidTerm_UnknownQuestion, fun z => (by cases z), fun _ => ⟨true, T.e_InvalidTerm_InvalidTerm, fun _ a ha => ⟨_, rfl, rfl, rfl, dd, _, _, rfl, hd, hc9, (show 2 ≤ sizeLine by decide), fun p hp => ⟨_, rfl, hq p hp⟩⟩, fun z => by cases z⟩⟩⟩⟩⟩⟩
      | NothingLeft => exact ⟨false, T.e_NothingLeft_InvalidCommand, fun z => (by cases z), fun _ => ⟨false, T.e_NothingLeft_InvalidName, fun z => (by cases z), fun _ => ⟨false, T.e_NothingLeft_NameInUse, fun z => (by cases z), fun _ => ⟨false, T.e_NothingLeft_UnknownRule, fun z => (by cases z), fun _ => ⟨false, T.e_NothingLeft_UnknownQuestion, fun z => (by cases z), fun _ => ⟨false, T.e_NothingLeft_InvalidTerm, fun z => (by cases z), fun _ => ⟨false, T.e_NothingLeft_CapacityReached, fun z => (by cases z), fun _ => ⟨false, T.e_NothingLeft_TooManyTerms, fun z => (by cases z), fun _ => ⟨true, T.e_NothingLeft_NothingLeft, fun _ a ha => ⟨_, rfl, rfl, rfl, dd, _, _, rfl, hd, hc9, (show 2 ≤ sizeLine by decide), fun p hp => ⟨_, rfl, hq p hp⟩⟩, fun z => by cases z⟩⟩⟩⟩⟩⟩⟩⟩⟩
end FF
/-! stores: the law's own next state -/
namespace FF
open PySem PySem.Spec PyProof.Rows L2
/-- the effect of a command that is not refused -/
def nextD (ds : List PyData) (qs : Qs) : Cmd → Sc
  | .add nm l r => (ds ++ [.tuple [.str nm, l, r]], qs)
  | .put nm l r => (ds.map fun d => if nameOf d = nm then .tuple [.str nm, l, r] else d, qs)
  | .drop nm => (ds.filter fun d => decide (nameOf d ≠ nm), qs)
  | .ask nm l r => (ds, qs ++ [(nm, .tuple [l, r])])
  | .forget nm => (ds, qs.filter fun q => decide (q.1 ≠ nm))
def okN (qs : Qs) : Cmd → Prop
  | .ask nm _ _ => nm ∉ qs.map Prod.fst
  | .forget nm => nm ∈ qs.map Prod.fst
  | _ => True
theorem chkD_eq {ds : List PyData} {qs : Qs} {st : Sc} (h : chkD ds qs = .ok st) : st = (ds, qs) ∧ termsD ds qs = none := by
  obtain ⟨a, b⟩ := st
  obtain ⟨rfl, rfl, h⟩ := chkD_ok h
  exact ⟨rfl, h⟩
theorem after_next {lim : Nat} {ds : List PyData} {qs : Qs} {c : Cmd} {st : Sc} (h : afterD lim ds qs c = .ok st) : st = nextD ds qs c ∧ okN qs c := by
  cases c with
  | add nm l r =>
    dsimp only [afterD] at h
    split at h
    · cases h
    · split at h
      · cases h
      · exact ⟨(chkD_eq h).1, trivial⟩
  | put nm l r =>
    dsimp only [afterD] at h
    split at h
    · exact ⟨(chkD_eq h).1, trivial⟩
    · cases h
  | drop nm =>
    dsimp only [afterD] at h
    split at h
    · cases h; exact ⟨rfl, trivial⟩
    · cases h
  | ask nm l r =>
    dsimp only [afterD] at h
    split at h
    · cases h
    · next h1 =>
      split at h
      · cases h
      · exact ⟨(chkD_eq h).1, h1⟩
  | forget nm =>
    dsimp only [afterD] at h
    split at h
    · next h1 => cases h; exact ⟨rfl, h1⟩
    · cases h
def Cmd.wd : Cmd → Str
  | .add .. => "add"
  | .put .. => "put"
  | .drop .. => "drop"
  | .ask .. => "ask"
  | .forget .. => "forget"
def Cmd.nm : Cmd → Str
  | .add nm _ _ => nm
  | .put nm _ _ => nm
  | .drop nm => nm
  | .ask nm _ _ => nm
  | .forget nm => nm
theorem cmd_tp {K : PySem.W.Frag} {H : Hp} {v : V} {c : Cmd} (h : Tp K H v c.data) : ∃ (ca : Addr) (rest : List V), v = .ref ca ∧ SqT K H ca (.str c.wd :: .str c.nm :: rest) := by
  cases c with
  | add nm l r => obtain ⟨ca, vl, vr, rfl, hca, _⟩ := four_tp h; exact ⟨ca, _, rfl, hca⟩
  | put nm l r => obtain ⟨ca, vl, vr, rfl, hca, _⟩ := four_tp h; exact ⟨ca, _, rfl, hca⟩
  | drop nm => obtain ⟨ca, rfl, hca⟩ := two_tp h; exact ⟨ca, _, rfl, hca⟩
  | ask nm l r => obtain ⟨ca, vl, vr, rfl, hca, _⟩ := four_tp h; exact ⟨ca, _, rfl, hca⟩
  | forget nm => obtain ⟨ca, rfl, hca⟩ := two_tp h; exact ⟨ca, _, rfl, hca⟩
theorem cut_1 (xs : List V) : cutV xs (some 1) none = xs.drop 1 := by
  unfold cutV
  rw [show HT.sIx xs.length 0 (some 1) = min 1 xs.length from HT.sIx_nat _ _ 1, HT.sIx_none]
  by_cases h : 1 ≤ xs.length
  · rw [Nat.min_eq_left h, List.take_of_length_le (by rw [List.length_drop]; omega)]
  · have : xs = [] := List.length_eq_zero_iff.mp (by omega)
    subst this
    rfl
theorem cut_2 (xs : List V) : cutV xs (some 2) none = xs.drop 2 := by
  unfold cutV
  rw [show HT.sIx xs.length 0 (some 2) = min 2 xs.length from HT.sIx_nat _ _ 2, HT.sIx_none]
  by_cases h : 2 ≤ xs.length
  · rw [Nat.min_eq_left h, List.take_of_length_le (by rw [List.length_drop]; omega)]
  · have h2 : xs.length ≤ 2 := by omega
    rw [Nat.min_eq_right h2, List.drop_length, List.drop_eq_nil_of_le h2, List.take_nil]
theorem keep_l {H0 H : Hp} {a : Addr} {o : HO} (ha : H0 a = none) (e : Same H0 H) : Same H0 (upd H a o) := fun b u h => by
  rw [upd_ne (ne_of_none h ha)]
  exact e b u h
theorem none_b {H0 H : Hp} {a : Addr} (e : Same H0 H) (h : H a = none) : H0 a = none := by
  cases z : H0 a with
  | none => rfl
  | some u => rw [e _ _ z] at h; cases h
/-- the copies on the way -/
def NxM (K : PySem.W.Frag) (H0 : Hp) (t ca : Addr) (w nm : Str) (ds : List PyData) (qs : Qs) : L2.St → Hp → Prop := fun σ' H' => ∃ (L D : Addr) (us : List V) (kvs : List (Key × V)) (o6 : Option V), σ' = [some (.ref t), some (.ref ca), some (.ref L), some (.ref D), some (.str w), some (.str nm), o6] ∧
  Same H0 H' ∧ H' L = some (.lst us) ∧ TpAll K H' us ds ∧ H' D = some (.dK kvs) ∧ QsAll K H' kvs qs ∧ H0 L = none ∧ H0 D = none
section
variable {P : Program} {w : World} {K : PySem.W.Frag} {mg : Str → Option Value} {base : Heap}
def spNext (K : PySem.W.Frag) : Sp := fun vs H Q _ => ∃ (t rl qd : Addr) (us : List V) (kvs : List (Key × V)) (ds : List PyData) (qs : Qs) (v : V) (c : Cmd), vs = [.ref t, v] ∧ ScV K H t rl qd us kvs ds qs ∧ (∀ d ∈ ds, RulD d) ∧ (qs.map Prod.fst).Nodup ∧ ds.length ≤ 1000 ∧ qs.length ≤ 1000 ∧ Tp K H v c.data ∧ okN qs c ∧
  ∀ t' rl' qd' us' kvs' H', Same H H' → ScV K H' t' rl' qd' us' kvs' (nextD ds qs c).1 (nextD ds qs c).2 → Q (.ref t') H'
theorem ok_nextL {f : Addr} {fd : FuncData} (F : FunD K "_law_next" "_law_next" (defArgs s_law_next) (defBody s_law_next) (defScope s_law_next) [] [] f fd) (hm : mg "_law_next" = some (.ref f)) (T : Top K mg) : Def P w K mg base "_law_next" 1 ["_law_state", "_law_command"] (spNext K) := by
  refine def_mk F hm (F.bindsN fun _ _ _ _ _ _ us hl => match us, hl with | [_, _], _ => rfl) sc_law_next (fun vs H Q E h => ?_) (fun cdv A outer s0 H vs Q E hr h => ?_)
  · obtain ⟨t, rl, qd, us, kvs, ds, qs, v, c, rfl, _⟩ := h
    rfl
  obtain ⟨t, rl, qd, us, kvs, ds, qs, v, c, rfl, hS, hR, hnd, hl1, hl2, hv, hN, q⟩ := h
  obtain ⟨ca, rest, rfl, hca⟩ := cmd_tp hv
  refine ⟨_, (pss_cons (ps_par (i := 2) (j := 3) (by rfl) sc_law_next.nd rfl rfl (by decide) rfl rfl (pa_cons (pe_callTy (call_list_ofK K) (by rfl) T.b_list (by decide +kernel) (pa_cons (pe_ix (ix_tupK K) (pv 0) pe_int (fun _ _ => rfl)) pa_nil)) (pa_cons (pe_callTy call_dictD (by rfl) T.b_dict (by decide +kernel) (pa_cons (pe_ix (ix_tupK K) (pv 0) pe_int (fun _ _ => rfl)) pa_nil)) pa_nil)) (by rfl))
  (pss_cons (ps_asg (pe_tup (pa_cons (pe_ix (ix_tupK K) (pv 1) pe_int (fun _ _ => rfl)) (pa_cons (pe_ix (ix_tupK K) (pv 1) pe_int (fun _ _ => rfl)) pa_nil))) (pg_tupK K (n := 2) rfl (pgs_cons (pg_name (i := 4) sc_law_next.nd rfl (Or.inl rfl) (.inl rfl)) (pgs_cons (pg_name (i := 5) sc_law_next.nd rfl (Or.inr rfl) (.inl rfl)) pgs_nil))))
  (C8.pss_cut (ps_if (pt_cmpR op_eq (pv 4) pe_str (nomark _))
  (pss_one (ps_expr (pe_bmK K PySem.F.plainAttrs_list PySem.F.slot_list_append PySem.F.type_list_append mt_append (pv 2) (pa_cons (pe_slice (sl_tupK K) (pv 1) (po_some pe_int) po_none) pa_nil))))
  pss_nil)
  (C8.pss_cut (ps_if (pt_cmpR op_eq (pv 4) pe_str (nomark _))
  (pss_one (ps_setLc (i := 2) (own := [("_law_one", 6)]) rfl sc_law_next.nd rfl rfl (sw_true rfl rfl rfl (by kernel_rfl)) (pi_listK K (pv 2)) (blkOk_by (by kernel_rfl)) (fun _ _ _ _ _ => (pg_name (i := 6) sc_law_next.nd rfl (Or.inl rfl) (.inr rfl))) (fun _ _ _ _ _ => pts_nil) (fun _ _ _ _ _ => (pe_ifExp (pt_cmpR op_eq (pe_ix (ix_tupK K) (pv 6) pe_int (fun _ _ => rfl)) (pv 5) (nomark _)) (pe_slice (sl_tupK K) (pv 1) (po_some pe_int) po_none) (pv 6)))))
  pss_nil)
  (C8.pss_cut (ps_if (pt_cmpR op_eq (pv 4) pe_str (nomark _))
  (pss_one (ps_setLc (i := 2) (own := [("_law_one", 6)]) rfl sc_law_next.nd rfl rfl (sw_true rfl rfl rfl (by kernel_rfl)) (pi_listK K (pv 2)) (blkOk_by (by kernel_rfl)) (fun _ _ _ _ _ => (pg_name (i := 6) sc_law_next.nd rfl (Or.inl rfl) (.inr rfl))) (fun _ _ _ _ _ => (pts_one (pt_cmpR op_ne (pe_ix (ix_tupK K) (pv 6) pe_int (fun _ _ => rfl)) (pv 5) (nomark _)))) (fun _ _ _ _ _ => (pv 6))))
  pss_nil)
  (C8.pss_cut (ps_if (pt_cmpR op_eq (pv 4) pe_str (nomark _))
  (pss_one (ps_dput (hu_of hr) (pv 3) (pv 5) (pe_slice (sl_tupK K) (pv 1) (po_some pe_int) po_none) (by rfl)))
  pss_nil)
  (C8.pss_cut (ps_if (pt_cmpR op_eq (pv 4) pe_str (nomark _))
  (pss_one (ps_expr (pe_dpop1 (pv 3) (pv 5) ⟨rfl, rfl, rfl, rfl⟩)))
  pss_nil)
  (pss_one (ps_ret (pe_tup (pa_cons (pv 2) (pa_cons (pv 3) pa_nil)))))))))))), ?_⟩
  refine ⟨_, rfl, t, _, _, .ref rl, rfl, rfl, hS.at_, at0, rl, us, rfl, .inl (SqL.of hS.rl), fun L hL => ?_⟩
  have e1 := same_new hL (.lst us)
  have hL1 : (upd H L (.lst us)) L = some (.lst us) := upd_same
  generalize upd H L (.lst us) = H1 at e1 hL1 ⊢
  have hS1 := hS.up e1
  refine ⟨_, rfl, t, _, _, .ref qd, rfl, rfl, hS1.at_, (rfl : atI [V.ref rl, V.ref qd] 1 = some (.ref qd)), qd, kvs, rfl, .inl hS1.qd, fun D hD => ⟨_, _, rfl, ?_⟩⟩
  have hDn : H D = none := by
    cases z : H D with
    | none => rfl
    | some u => rw [e1 _ _ z] at hD; cases hD
  have e2 := e1.trans (same_new hD (.dK kvs))
  have hL2 := same_new hD (.dK kvs) _ _ hL1
  have hD2 : (upd H1 D (.dK kvs)) D = some (.dK kvs) := upd_same
  generalize upd H1 D (.dK kvs) = H2 at e2 hL2 hD2 ⊢
  have hca2 := up_t e2 hca
  refine ⟨_, rfl, ca, _, _, _, rfl, rfl, hca2, at0, _, rfl, ca, _, _, _, rfl, rfl, hca2, (atI_nat (j := 1) rfl), (by show 2 ≤ sizeLine; decide), fun p hp => ⟨p, _, rfl, SqT.of upd_same, rfl, _, _, rfl, _, _, rfl, rfl, ?_⟩⟩
  have e3 := e2.trans (same_new hp (.tup [.str c.wd, .str c.nm]))
  have hL3 := same_new hp (.tup [.str c.wd, .str c.nm]) _ _ hL2
  have hD3 := same_new hp (.tup [.str c.wd, .str c.nm]) _ _ hD2
  generalize upd H2 p (.tup [.str c.wd, .str c.nm]) = H3 at e3 hL3 hD3 ⊢
  have hus3 := hS.us.up (Same.T e3)
  have hqs3 := hS.qs.up (Same.T e3)
  have hul := hS.us.len
  have hkl := hS.qs.len
  cases c with
  | add nm l r =>
    obtain ⟨ca', vl, vr, hv1, hca0, hvl, hvr⟩ := four_tp hv
    cases hv1
    refine ⟨NxM K H t ca "add" nm (ds ++ [.tuple [.str nm, l, r]]) qs, ⟨_, rfl, rfl, _, rfl, if_b (fun _ => ?_) (fun h => absurd (show decide (V.str ("add" : Str) = V.str "add") = false from h) (by decide))⟩, ?_⟩
    · refine ⟨_, rfl, .inl ⟨rfl, _, SqL.of hL3⟩, _, rfl, _, rfl, ca, _, rfl, up_t e3 hca0, by simp [HT.sIx], fun p2 hp2 => ?_⟩
      refine ⟨L, us, .ref p2, rfl, rfl, same_new hp2 _ _ _ hL3, lt_line (by omega), ?_⟩
      rw [show cutV [V.str "add", V.str nm, vl, vr] (some 1) none = [V.str nm, vl, vr] from by rw [cut_1] <;> rfl]
      have e5 := same_new hp2 (.tup [V.str nm, vl, vr])
      have e6 := keep_l hL (e3.trans e5) (o := .lst (us ++ [.ref p2]))
      have np : p2 ≠ L := fun z => by rw [z, hL3] at hp2; cases hp2
      have nD : D ≠ L := fun z => by rw [z, hL3] at hD3; cases hD3
      have ht2 : (upd (upd H3 p2 (.tup [V.str nm, vl, vr])) L (.lst (us ++ [.ref p2]))) p2 = some (.tup [V.str nm, vl, vr]) := by rw [upd_ne np]; exact upd_same
      exact ⟨L, D, us ++ [.ref p2], kvs, none, rfl, e6, upd_same, tpa_snoc (.tup (.inl ht2) (.cons (.str _) (.cons (hvl.up (Same.T e6)) (.cons (hvr.up (Same.T e6)) .nil)))) (hS.us.up (Same.T e6)), by rw [upd_ne nD]; exact e5 _ _ hD3, hS.qs.up (Same.T e6), hL, hDn⟩
    rintro _ H3 ⟨L, D, us, kvs, o6, rfl, e3, hL3, hus3, hD3, hqs3, hL, hDn⟩
    refine ⟨NxM K H t ca "add" nm (ds ++ [.tuple [.str nm, l, r]]) qs, ⟨_, rfl, rfl, _, rfl, if_b (fun h => absurd (show decide (V.str ("add" : Str) = V.str "put") = true from h) (by decide)) (fun _ => ⟨L, D, us, kvs, o6, rfl, e3, hL3, hus3, hD3, hqs3, hL, hDn⟩)⟩, ?_⟩
    rintro _ H3 ⟨L, D, us, kvs, o6, rfl, e3, hL3, hus3, hD3, hqs3, hL, hDn⟩
    refine ⟨NxM K H t ca "add" nm (ds ++ [.tuple [.str nm, l, r]]) qs, ⟨_, rfl, rfl, _, rfl, if_b (fun h => absurd (show decide (V.str ("add" : Str) = V.str "drop") = true from h) (by decide)) (fun _ => ⟨L, D, us, kvs, o6, rfl, e3, hL3, hus3, hD3, hqs3, hL, hDn⟩)⟩, ?_⟩
    rintro _ H3 ⟨L, D, us, kvs, o6, rfl, e3, hL3, hus3, hD3, hqs3, hL, hDn⟩
    refine ⟨NxM K H t ca "add" nm (ds ++ [.tuple [.str nm, l, r]]) qs, ⟨_, rfl, rfl, _, rfl, if_b (fun h => absurd (show decide (V.str ("add" : Str) = V.str "ask") = true from h) (by decide)) (fun _ => ⟨L, D, us, kvs, o6, rfl, e3, hL3, hus3, hD3, hqs3, hL, hDn⟩)⟩, ?_⟩
    rintro _ H3 ⟨L, D, us, kvs, o6, rfl, e3, hL3, hus3, hD3, hqs3, hL, hDn⟩
    refine ⟨NxM K H t ca "add" nm (ds ++ [.tuple [.str nm, l, r]]) qs, ⟨_, rfl, rfl, _, rfl, if_b (fun h => absurd (show decide (V.str ("add" : Str) = V.str "forget") = true from h) (by decide)) (fun _ => ⟨L, D, us, kvs, o6, rfl, e3, hL3, hus3, hD3, hqs3, hL, hDn⟩)⟩, ?_⟩
    rintro _ H3 ⟨L, D, us, kvs, o6, rfl, e3, hL3, hus3, hD3, hqs3, hL, hDn⟩
    refine ⟨_, rfl, _, rfl, (by show 2 ≤ sizeLine; decide), fun p9 hp9 => ?_⟩
    have e9 := same_new hp9 (.tup [.ref L, .ref D])
    exact q p9 L D us kvs _ (e3.trans e9) ⟨SqT.of upd_same, e9 _ _ hL3, hus3.up (Same.T e9), e9 _ _ hD3, hqs3.up (Same.T e9)⟩
  | put nm l r =>
    obtain ⟨ca', vl, vr, hv1, hca0, hvl, hvr⟩ := four_tp hv
    cases hv1
    refine ⟨NxM K H t ca "put" nm ds qs, ⟨_, rfl, rfl, _, rfl, if_b (fun h => absurd (show decide (V.str ("put" : Str) = V.str "add") = true from h) (by decide)) (fun _ => ⟨L, D, us, kvs, none, rfl, e3, hL3, hus3, hD3, hqs3, hL, hDn⟩)⟩, ?_⟩
    rintro _ H3 ⟨L, D, us, kvs, o6, rfl, e3, hL3, hus3, hD3, hqs3, hL, hDn⟩
    have hul := hus3.len
    have hkl := hqs3.len
    refine ⟨NxM K H t ca "put" nm (ds.map fun d => if nameOf d = nm then PyData.tuple [.str nm, l, r] else d) qs, ⟨_, rfl, rfl, _, rfl, if_b (fun _ => ?_) (fun h => absurd (show decide (V.str ("put" : Str) = V.str "put") = false from h) (by decide))⟩, ?_⟩
    · refine ⟨_, rfl, L, rfl, ⟨_, SqL.of hL3⟩, fun D2 hD2 => ?_⟩
      refine lc_mapL (j := 6) (fun i y H' => ∃ d, ds[i]? = some d ∧ Tp K H' y (if nameOf d = nm then PyData.tuple [.str nm, l, r] else d)) (fun i y Ha Hb e ⟨d, h1, h2⟩ => ⟨d, h1, h2.up e⟩) hD2 (SqL.of hL3) (le_line (by omega)) (fun _ => rfl) ?_ ?_
      · intro i x H4 hx e4 Q' k'
        obtain ⟨d, hd, hxd⟩ := hus3.get hx
        have hx4 := hxd.up (Same.T e4)
        obtain ⟨ta, r9, rfl, hta⟩ := rul_tp hx4 (hR d (List.mem_of_getElem? hd))
        have e14 := e3.trans e4
        refine ⟨_, rfl, ta, _, _, _, rfl, rfl, hta, at0, _, rfl, rfl, _, rfl, ?_⟩
        refine if_dec (fun he => ?_) (fun he => ?_)
        · have he := V.str.inj he
          refine ⟨_, rfl, _, rfl, ca, _, rfl, up_t e14 hca0, by simp [HT.sIx], fun tt htt => k' _ _ (same_new htt _) ⟨d, hd, ?_⟩⟩
          rw [if_pos he, show cutV [V.str "put", V.str nm, vl, vr] (some 1) none = [V.str nm, vl, vr] from by rw [cut_1] <;> rfl]
          have e5 := e14.trans (same_new htt (.tup [.str nm, vl, vr]))
          exact .tup (.inl upd_same) (.cons (.str _) (.cons (hvl.up (Same.T e5)) (.cons (hvr.up (Same.T e5)) .nil)))
        · refine ⟨_, rfl, k' _ _ (Same.refl _) ⟨d, hd, ?_⟩⟩
          rw [if_neg (fun z => he (by rw [z] <;> rfl))]
          exact hx4
      intro H4 ys e4 hD4 hyl hy
      have e14 := e3.trans e4
      exact ⟨D2, D, ys, kvs, _, rfl, e14, hD4, TpAll.of_get (by rw [List.length_map, hyl, hul]) fun i u d h1 h2 => by
        rw [List.getElem?_map] at h2
        obtain ⟨d0, h3, rfl⟩ := Option.map_eq_some_iff.mp h2
        obtain ⟨d1, h4, h5⟩ := hy i u h1
        rw [h3] at h4
        cases h4
        exact h5, e4 _ _ hD3, hqs3.up (Same.T e4), none_b e3 hD2, hDn⟩
    rintro _ H3 ⟨L, D, us, kvs, o6, rfl, e3, hL3, hus3, hD3, hqs3, hL, hDn⟩
    refine ⟨NxM K H t ca "put" nm (ds.map fun d => if nameOf d = nm then PyData.tuple [.str nm, l, r] else d) qs, ⟨_, rfl, rfl, _, rfl, if_b (fun h => absurd (show decide (V.str ("put" : Str) = V.str "drop") = true from h) (by decide)) (fun _ => ⟨L, D, us, kvs, o6, rfl, e3, hL3, hus3, hD3, hqs3, hL, hDn⟩)⟩, ?_⟩
    rintro _ H3 ⟨L, D, us, kvs, o6, rfl, e3, hL3, hus3, hD3, hqs3, hL, hDn⟩
    refine ⟨NxM K H t ca "put" nm (ds.map fun d => if nameOf d = nm then PyData.tuple [.str nm, l, r] else d) qs, ⟨_, rfl, rfl, _, rfl, if_b (fun h => absurd (show decide (V.str ("put" : Str) = V.str "ask") = true from h) (by decide)) (fun _ => ⟨L, D, us, kvs, o6, rfl, e3, hL3, hus3, hD3, hqs3, hL, hDn⟩)⟩, ?_⟩
    rintro _ H3 ⟨L, D, us, kvs, o6, rfl, e3, hL3, hus3, hD3, hqs3, hL, hDn⟩
    refine ⟨NxM K H t ca "put" nm (ds.map fun d => if nameOf d = nm then PyData.tuple [.str nm, l, r] else d) qs, ⟨_, rfl, rfl, _, rfl, if_b (fun h => absurd (show decide (V.str ("put" : Str) = V.str "forget") = true from h) (by decide)) (fun _ => ⟨L, D, us, kvs, o6, rfl, e3, hL3, hus3, hD3, hqs3, hL, hDn⟩)⟩, ?_⟩
    rintro _ H3 ⟨L, D, us, kvs, o6, rfl, e3, hL3, hus3, hD3, hqs3, hL, hDn⟩
    refine ⟨_, rfl, _, rfl, (by show 2 ≤ sizeLine; decide), fun p9 hp9 => ?_⟩
    have e9 := same_new hp9 (.tup [.ref L, .ref D])
    exact q p9 L D us kvs _ (e3.trans e9) ⟨SqT.of upd_same, e9 _ _ hL3, hus3.up (Same.T e9), e9 _ _ hD3, hqs3.up (Same.T e9)⟩
  | drop nm =>
    obtain ⟨ca', hv1, hca0⟩ := two_tp hv
    cases hv1
    refine ⟨NxM K H t ca "drop" nm ds qs, ⟨_, rfl, rfl, _, rfl, if_b (fun h => absurd (show decide (V.str ("drop" : Str) = V.str "add") = true from h) (by decide)) (fun _ => ⟨L, D, us, kvs, none, rfl, e3, hL3, hus3, hD3, hqs3, hL, hDn⟩)⟩, ?_⟩
    rintro _ H3 ⟨L, D, us, kvs, o6, rfl, e3, hL3, hus3, hD3, hqs3, hL, hDn⟩
    have hul := hus3.len
    have hkl := hqs3.len
    refine ⟨NxM K H t ca "drop" nm ds qs, ⟨_, rfl, rfl, _, rfl, if_b (fun h => absurd (show decide (V.str ("drop" : Str) = V.str "put") = true from h) (by decide)) (fun _ => ⟨L, D, us, kvs, o6, rfl, e3, hL3, hus3, hD3, hqs3, hL, hDn⟩)⟩, ?_⟩
    rintro _ H3 ⟨L, D, us, kvs, o6, rfl, e3, hL3, hus3, hD3, hqs3, hL, hDn⟩
    have hul := hus3.len
    have hkl := hqs3.len
    refine ⟨NxM K H t ca "drop" nm (ds.filter fun d => decide (nameOf d ≠ nm)) qs, ⟨_, rfl, rfl, _, rfl, if_b (fun _ => ?_) (fun h => absurd (show decide (V.str ("drop" : Str) = V.str "drop") = false from h) (by decide))⟩, ?_⟩
    · refine ⟨_, rfl, L, rfl, ⟨_, SqL.of hL3⟩, fun D2 hD2 => ?_⟩
      refine lc_filtD (j := 6) (fun d => decide (nameOf d ≠ nm)) hD2 (SqL.of hL3) hus3 (le_line (by omega)) (fun _ => rfl) ?_ (fun x H2 Q' h => ⟨_, rfl, h⟩) ?_
      · intro i x d H2 hx hd hxd e2 Qb k'
        obtain ⟨ta, r, rfl, hta⟩ := rul_tp hxd (hR d (List.mem_of_getElem? hd))
        refine ⟨_, rfl, ta, _, _, _, rfl, rfl, hta, at0, _, rfl, rfl, _, rfl, ?_⟩
        have ev : (!decide (V.str (nameOf d) = V.str nm)) = decide (nameOf d ≠ nm) := by
          rw [show decide (V.str (nameOf d) = V.str nm) = decide (nameOf d = nm) from decide_eq_decide.mpr ⟨fun e => V.str.inj e, fun e => by rw [e]⟩]
          simp
        have := k' H2 (Same.refl _)
        rw [← ev] at this
        exact this
      intro H4 us2 e4 hD4 hus4
      have e14 := e3.trans e4
      exact ⟨D2, D, us2, kvs, _, rfl, e14, hD4, hus4, e4 _ _ hD3, hqs3.up (Same.T e4), none_b e3 hD2, hDn⟩
    rintro _ H3 ⟨L, D, us, kvs, o6, rfl, e3, hL3, hus3, hD3, hqs3, hL, hDn⟩
    refine ⟨NxM K H t ca "drop" nm (ds.filter fun d => decide (nameOf d ≠ nm)) qs, ⟨_, rfl, rfl, _, rfl, if_b (fun h => absurd (show decide (V.str ("drop" : Str) = V.str "ask") = true from h) (by decide)) (fun _ => ⟨L, D, us, kvs, o6, rfl, e3, hL3, hus3, hD3, hqs3, hL, hDn⟩)⟩, ?_⟩
    rintro _ H3 ⟨L, D, us, kvs, o6, rfl, e3, hL3, hus3, hD3, hqs3, hL, hDn⟩
    refine ⟨NxM K H t ca "drop" nm (ds.filter fun d => decide (nameOf d ≠ nm)) qs, ⟨_, rfl, rfl, _, rfl, if_b (fun h => absurd (show decide (V.str ("drop" : Str) = V.str "forget") = true from h) (by decide)) (fun _ => ⟨L, D, us, kvs, o6, rfl, e3, hL3, hus3, hD3, hqs3, hL, hDn⟩)⟩, ?_⟩
    rintro _ H3 ⟨L, D, us, kvs, o6, rfl, e3, hL3, hus3, hD3, hqs3, hL, hDn⟩
    refine ⟨_, rfl, _, rfl, (by show 2 ≤ sizeLine; decide), fun p9 hp9 => ?_⟩
    have e9 := same_new hp9 (.tup [.ref L, .ref D])
    exact q p9 L D us kvs _ (e3.trans e9) ⟨SqT.of upd_same, e9 _ _ hL3, hus3.up (Same.T e9), e9 _ _ hD3, hqs3.up (Same.T e9)⟩
  | ask nm l r =>
    obtain ⟨ca', vl, vr, hv1, hca0, hvl, hvr⟩ := four_tp hv
    cases hv1
    refine ⟨NxM K H t ca "ask" nm ds qs, ⟨_, rfl, rfl, _, rfl, if_b (fun h => absurd (show decide (V.str ("ask" : Str) = V.str "add") = true from h) (by decide)) (fun _ => ⟨L, D, us, kvs, none, rfl, e3, hL3, hus3, hD3, hqs3, hL, hDn⟩)⟩, ?_⟩
    rintro _ H3 ⟨L, D, us, kvs, o6, rfl, e3, hL3, hus3, hD3, hqs3, hL, hDn⟩
    have hul := hus3.len
    have hkl := hqs3.len
    refine ⟨NxM K H t ca "ask" nm ds qs, ⟨_, rfl, rfl, _, rfl, if_b (fun h => absurd (show decide (V.str ("ask" : Str) = V.str "put") = true from h) (by decide)) (fun _ => ⟨L, D, us, kvs, o6, rfl, e3, hL3, hus3, hD3, hqs3, hL, hDn⟩)⟩, ?_⟩
    rintro _ H3 ⟨L, D, us, kvs, o6, rfl, e3, hL3, hus3, hD3, hqs3, hL, hDn⟩
    have hul := hus3.len
    have hkl := hqs3.len
    refine ⟨NxM K H t ca "ask" nm ds qs, ⟨_, rfl, rfl, _, rfl, if_b (fun h => absurd (show decide (V.str ("ask" : Str) = V.str "drop") = true from h) (by decide)) (fun _ => ⟨L, D, us, kvs, o6, rfl, e3, hL3, hus3, hD3, hqs3, hL, hDn⟩)⟩, ?_⟩
    rintro _ H3 ⟨L, D, us, kvs, o6, rfl, e3, hL3, hus3, hD3, hqs3, hL, hDn⟩
    have hul := hus3.len
    have hkl := hqs3.len
    refine ⟨NxM K H t ca "ask" nm ds (qs ++ [(nm, .tuple [l, r])]), ⟨_, rfl, rfl, _, rfl, if_b (fun _ => ?_) (fun h => absurd (show decide (V.str ("ask" : Str) = V.str "ask") = false from h) (by decide))⟩, ?_⟩
    · refine ⟨_, rfl, _, rfl, ca, _, rfl, up_t e3 hca0, by simp [HT.sIx], fun p2 hp2 => ?_⟩
      refine ⟨_, rfl, _, rfl, D, _, rfl, DPut.k (k := .inr nm) (same_new hp2 _ _ _ hD3) (lt_line (by omega)), ?_⟩
      have hsome : (valV kvs (.inr nm)).isSome = false := by rw [hqs3.isSome]; exact decide_eq_false hN
      rw [putK_snoc hsome, show cutV [V.str "ask", V.str nm, vl, vr] (some 2) none = [vl, vr] from by rw [cut_2] <;> rfl]
      have e5 := same_new hp2 (.tup [vl, vr])
      have e6 := keep_l hDn (e3.trans e5) (o := .dK (kvs ++ [(Sum.inr nm, V.ref p2)]))
      have np : p2 ≠ D := fun z => by rw [z, hD3] at hp2; cases hp2
      have nD : L ≠ D := fun z => by rw [z, hD3] at hL3; cases hL3
      have ht2 : (upd (upd H3 p2 (.tup [vl, vr])) D (.dK (kvs ++ [(Sum.inr nm, V.ref p2)]))) p2 = some (.tup [vl, vr]) := by rw [upd_ne np]; exact upd_same
      have e7 : SameT H3 (upd (upd H3 p2 (.tup [vl, vr])) D (.dK (kvs ++ [(Sum.inr nm, V.ref p2)]))) := fun b xs h => by
        rw [upd_ne (fun z => by rw [z, hD3] at h; cases h)]
        exact e5 _ _ h
      exact ⟨L, D, us, _, _, rfl, e6, by rw [upd_ne nD]; exact e5 _ _ hL3, hus3.up e7, upd_same, QsAll.snoc (.tup (.inl ht2) (.cons (hvl.up (Same.T e6)) (.cons (hvr.up (Same.T e6)) .nil))) (hqs3.up e7), hL, hDn⟩
    rintro _ H3 ⟨L, D, us, kvs, o6, rfl, e3, hL3, hus3, hD3, hqs3, hL, hDn⟩
    refine ⟨NxM K H t ca "ask" nm ds (qs ++ [(nm, .tuple [l, r])]), ⟨_, rfl, rfl, _, rfl, if_b (fun h => absurd (show decide (V.str ("ask" : Str) = V.str "forget") = true from h) (by decide)) (fun _ => ⟨L, D, us, kvs, o6, rfl, e3, hL3, hus3, hD3, hqs3, hL, hDn⟩)⟩, ?_⟩
    rintro _ H3 ⟨L, D, us, kvs, o6, rfl, e3, hL3, hus3, hD3, hqs3, hL, hDn⟩
    refine ⟨_, rfl, _, rfl, (by show 2 ≤ sizeLine; decide), fun p9 hp9 => ?_⟩
    have e9 := same_new hp9 (.tup [.ref L, .ref D])
    exact q p9 L D us kvs _ (e3.trans e9) ⟨SqT.of upd_same, e9 _ _ hL3, hus3.up (Same.T e9), e9 _ _ hD3, hqs3.up (Same.T e9)⟩
  | forget nm =>
    obtain ⟨ca', hv1, hca0⟩ := two_tp hv
    cases hv1
    refine ⟨NxM K H t ca "forget" nm ds qs, ⟨_, rfl, rfl, _, rfl, if_b (fun h => absurd (show decide (V.str ("forget" : Str) = V.str "add") = true from h) (by decide)) (fun _ => ⟨L, D, us, kvs, none, rfl, e3, hL3, hus3, hD3, hqs3, hL, hDn⟩)⟩, ?_⟩
    rintro _ H3 ⟨L, D, us, kvs, o6, rfl, e3, hL3, hus3, hD3, hqs3, hL, hDn⟩
    have hul := hus3.len
    have hkl := hqs3.len
    refine ⟨NxM K H t ca "forget" nm ds qs, ⟨_, rfl, rfl, _, rfl, if_b (fun h => absurd (show decide (V.str ("forget" : Str) = V.str "put") = true from h) (by decide)) (fun _ => ⟨L, D, us, kvs, o6, rfl, e3, hL3, hus3, hD3, hqs3, hL, hDn⟩)⟩, ?_⟩
    rintro _ H3 ⟨L, D, us, kvs, o6, rfl, e3, hL3, hus3, hD3, hqs3, hL, hDn⟩
    have hul := hus3.len
    have hkl := hqs3.len
    refine ⟨NxM K H t ca "forget" nm ds qs, ⟨_, rfl, rfl, _, rfl, if_b (fun h => absurd (show decide (V.str ("forget" : Str) = V.str "drop") = true from h) (by decide)) (fun _ => ⟨L, D, us, kvs, o6, rfl, e3, hL3, hus3, hD3, hqs3, hL, hDn⟩)⟩, ?_⟩
    rintro _ H3 ⟨L, D, us, kvs, o6, rfl, e3, hL3, hus3, hD3, hqs3, hL, hDn⟩
    have hul := hus3.len
    have hkl := hqs3.len
    refine ⟨NxM K H t ca "forget" nm ds qs, ⟨_, rfl, rfl, _, rfl, if_b (fun h => absurd (show decide (V.str ("forget" : Str) = V.str "ask") = true from h) (by decide)) (fun _ => ⟨L, D, us, kvs, o6, rfl, e3, hL3, hus3, hD3, hqs3, hL, hDn⟩)⟩, ?_⟩
    rintro _ H3 ⟨L, D, us, kvs, o6, rfl, e3, hL3, hus3, hD3, hqs3, hL, hDn⟩
    have hul := hus3.len
    have hkl := hqs3.len
    refine ⟨NxM K H t ca "forget" nm ds (qs.filter fun q => decide (q.1 ≠ nm)), ⟨_, rfl, rfl, _, rfl, if_b (fun _ => ?_) (fun h => absurd (show decide (V.str ("forget" : Str) = V.str "forget") = false from h) (by decide))⟩, ?_⟩
    · obtain ⟨g9, hg9⟩ := look_some hN
      obtain ⟨v9, hv9, _⟩ := hqs3.get hg9
      refine ⟨_, rfl, D, rfl, .inl ⟨kvs, .inl hD3⟩, _, rfl, kvs, .inr nm, v9, hD3, rfl, hv9, ?_⟩
      have e6 := keep_l hDn e3 (o := .dK (dropK kvs (Sum.inr nm)))
      have nD : L ≠ D := fun z => by rw [z, hD3] at hL3; cases hL3
      have e7 : SameT H3 (upd H3 D (.dK (dropK kvs (Sum.inr nm)))) := fun b xs h => by
        rw [upd_ne (fun z => by rw [z, hD3] at h; cases h)]
        exact h
      exact ⟨L, D, us, _, _, rfl, e6, by rw [upd_ne nD]; exact hL3, hus3.up e7, upd_same, (hqs3.up e7).filt, hL, hDn⟩
    rintro _ H3 ⟨L, D, us, kvs, o6, rfl, e3, hL3, hus3, hD3, hqs3, hL, hDn⟩
    refine ⟨_, rfl, _, rfl, (by show 2 ≤ sizeLine; decide), fun p9 hp9 => ?_⟩
    have e9 := same_new hp9 (.tup [.ref L, .ref D])
    exact q p9 L D us kvs _ (e3.trans e9) ⟨SqT.of upd_same, e9 _ _ hL3, hus3.up (Same.T e9), e9 _ _ hD3, hqs3.up (Same.T e9)⟩
end
end FF
/-! stores: the law's own count of terms, and what it refuses -/
namespace FF
open PySem PySem.Spec PyProof.Rows L2
def dueV : Option Nat → List V
  | some n => [.str "TooManyTerms", .int (n : Nat)]
  | none => [.str "", .non]
theorem pair_rul {d : PyData} (h : RulD d) : ∃ nm l r, d = .tuple [.str nm, l, r] ∧ pairOf d = (l, r) ∧ Drawn 4 l ∧ Drawn 4 r := by
  obtain ⟨nm, l, r, rfl, _, hl, hr⟩ := h
  exact ⟨nm, l, r, rfl, rfl, hl.1, hr.1⟩
theorem prs_rul {ds : List PyData} {g : PyData} (h : ∀ d ∈ ds, RulD d) (hl : ds.length ≤ 19) (hg : g = .none ∨ GolD g) : PrOk (prsOf ds g) := by
  refine ⟨by have := prs_len ds g; omega, fun p hp => ?_⟩
  rcases List.mem_append.mp hp with hp | hp
  · obtain ⟨d, hd, rfl⟩ := List.mem_map.mp hp
    obtain ⟨nm, l, r, rfl, e, h1, h2⟩ := pair_rul (h d hd)
    rw [e]
    exact ⟨h1, h2⟩
  · rcases hg with rfl | ⟨l, r, rfl, h1, h2⟩
    · cases hp
    · rw [List.mem_singleton.mp (show p ∈ [(l, r)] from hp)]
      exact ⟨h1.1, h2.1⟩
section
variable {P : Program} {w : World} {K : PySem.W.Frag} {mg : Str → Option Value} {base : Heap}
def spTDue (K : PySem.W.Frag) : Sp := fun vs H Q _ => ∃ (t rl qd : Addr) (us : List V) (kvs : List (Key × V)) (ds : List PyData) (qs : Qs), vs = [.ref t] ∧ ScV K H t rl qd us kvs ds qs ∧ (∀ d ∈ ds, RulD d) ∧ ds.length ≤ 19 ∧ (∀ q ∈ qs, GolD q.2) ∧ qs.length ≤ 1000 ∧
  ∀ p H', Same H H' → H' p = some (.tup (dueV (termsD ds qs))) → Q (.ref p) H'
theorem ok_terms_due {f : Addr} {fd : FuncData} (F : FunD K "_law_terms_due" "_law_terms_due" (defArgs s_law_terms_due) (defBody s_law_terms_due) (defScope s_law_terms_due) [] [] f fd) (hm : mg "_law_terms_due" = some (.ref f)) (T : Top K mg)
    (D_law_words : Def P w K mg base "_law_words" 11 ["_law_pairs"] (spWordsOf K)) : Def P w K mg base "_law_terms_due" 12 ["_law_state"] (spTDue K) := by
  refine def_mk F hm (F.bindsN fun _ _ _ _ _ _ us hl => match us, hl with | [_], _ => rfl) sc_law_terms_due (fun vs H Q E h => ?_) (fun cdv A outer s0 H vs Q E hr h => ?_)
  · obtain ⟨t, rl, qd, us, kvs, ds, qs, rfl, _⟩ := h
    rfl
  obtain ⟨t, rl, qd, us, kvs, ds, qs, rfl, hS, hR, hl1, hG, hl2, q⟩ := h
  have hul := hS.us.len
  refine ⟨_, (pss_cons (ps_asg (pv 0) (pg_tupK K (n := 2) rfl (pgs_cons (pg_name (i := 1) sc_law_terms_due.nd rfl (Or.inl rfl) (.inl rfl)) (pgs_cons (pg_name (i := 2) sc_law_terms_due.nd rfl (Or.inl rfl) (.inl rfl)) pgs_nil))))
  (pss_cons (ps_setLc (i := 3) (own := [("_law_one", 4)]) rfl sc_law_terms_due.nd rfl rfl (sw_true rfl rfl rfl (by kernel_rfl)) (pi_listK K (pv 1)) (blkOk_by (by kernel_rfl)) (fun _ _ _ _ _ => (pg_name (i := 4) sc_law_terms_due.nd rfl (Or.inl rfl) (.inr rfl))) (fun _ _ _ _ _ => pts_nil) (fun _ _ _ _ _ => (pe_slice (sl_tupK K) (pv 4) (po_some pe_int) po_none)))
  (pss_cons (ps_set (i := 5) sc_law_terms_due.nd rfl (Or.inl rfl) (pe_callB (call_lenK K) (by rfl) T.b_len (by decide +kernel) (pa_cons (pe_def D_law_words hr (by first | decide | omega) (pa_cons (pv 3) pa_nil)) pa_nil)))
  (pss_cons (ps_if (pt_cmpR op_gt (pv 5) pe_int (nomark _))
  (pss_one (ps_ret (pe_tup (pa_cons pe_str (pa_cons (pv 5) pa_nil)))))
  pss_nil)
  (pss_cons (ps_for PassesOwn.never rfl (pi_listK K (pe_callB (cr_sortedDA rfl) (by rfl) T.b_sorted (by decide +kernel) (pa_cons (pv 2) pa_nil))) (pg_name (i := 6) sc_law_terms_due.nd rfl (Or.inl rfl) (.inl rfl))
  (pss_cons (ps_set (i := 5) sc_law_terms_due.nd rfl (Or.inl rfl) (pe_callB (call_lenK K) (by rfl) T.b_len (by decide +kernel) (pa_cons (pe_def D_law_words hr (by first | decide | omega) (pa_cons (pe_op op_cat (pv 3) (pe_lst (pa_cons (pe_dget (hu_of hr) (pv 2) (pv 6) (fun _ _ => rfl)) pa_nil))) pa_nil)) pa_nil)))
  (pss_one (ps_if (pt_cmpR op_gt (pv 5) pe_int (nomark _))
  (pss_one (ps_ret (pe_tup (pa_cons pe_str (pa_cons (pv 5) pa_nil)))))
  pss_nil))))
  (pss_one (ps_ret (pe_tup (pa_cons pe_str (pa_cons pe_non pa_nil)))))))))), ?_⟩
  refine ⟨_, rfl, t, _, rfl, hS.at_, rfl, _, _, rfl, _, _, rfl, rfl, ?_⟩
  refine ⟨_, rfl, rl, rfl, ⟨_, SqL.of hS.rl⟩, fun D hD => ?_⟩
  refine lc_mapL (j := 4) (fun i y H' => ∃ d, ds[i]? = some d ∧ Tp K H' y (.tuple [(pairOf d).1, (pairOf d).2])) (fun i y Ha Hb e ⟨d, h1, h2⟩ => ⟨d, h1, h2.up e⟩) hD (SqL.of hS.rl) (le_line (by omega)) (fun _ => rfl) ?_ ?_
  · intro i x H2 hx e Q' k'
    obtain ⟨d, hd, hxd⟩ := hS.us.get hx
    obtain ⟨nm, l, r, rfl, hpr, _, _⟩ := pair_rul (hR d (List.mem_of_getElem? hd))
    obtain ⟨ta, us3, rfl, hta, hu3⟩ := tup_tp (hxd.up (Same.T e))
    cases hu3 with
    | @cons v1 _ _ _ h1 hu3 =>
    cases hu3 with
    | @cons v2 _ _ _ h2 hu3 =>
    cases hu3 with
    | @cons v3 _ _ _ h3 hu3 =>
    cases hu3
    refine ⟨_, rfl, _, rfl, ta, _, rfl, hta, by simp [HT.sIx], fun p hp => k' _ _ (same_new hp _) ⟨_, hd, ?_⟩⟩
    rw [show cutV [v1, v2, v3] (some 1) none = [v2, v3] from by rw [cut_1] <;> rfl, hpr]
    have e5 := same_new hp (.tup [v2, v3])
    exact .tup (.inl upd_same) (.cons (h2.up (Same.T e5)) (.cons (h3.up (Same.T e5)) .nil))
  intro H2 ys e2 hD2 hyl hy
  have hS2 := hS.up e2
  have hys : TpAll K H2 ys (prD (prsOf ds .none)) := by
    have e9 : prD (prsOf ds .none) = ds.map fun d => .tuple [(pairOf d).1, (pairOf d).2] := by
      show ((ds.map pairOf) ++ []).map _ = _
      rw [List.append_nil, List.map_map]
      rfl
    rw [e9]
    refine TpAll.of_get (by rw [List.length_map, hyl, hul]) fun i u d h1 h2 => ?_
    rw [List.getElem?_map] at h2
    obtain ⟨d0, h3, rfl⟩ := Option.map_eq_some_iff.mp h2
    obtain ⟨d1, h4, h5⟩ := hy i u h1
    rw [h3] at h4
    cases h4
    exact h5
  refine ⟨_, rfl, D, ys, prsOf ds .none, rfl, hD2, hys, prs_rul hR hl1 (.inl rfl), fun r rs H3 e3 hr0 hr3 hrs => ?_⟩
  have e23 := e2.trans e3
  have hS3 := hS.up e23
  have hD3 := e3 _ _ hD2
  have hys3 := hys.up (Same.T e3)
  refine ⟨.ref r, (vocD (prsOf ds .none)).length, rfl, .inl ⟨rs, SqL.of hr3, hrs.len.symm⟩, ?_⟩
  refine ⟨_, rfl, _, _, rfl, rfl, _, rfl, if_dec (fun hgt => ?_) (fun hle => ?_)⟩
  · have hgt : (vocD (prsOf ds .none)).length > 24 := by omega
    refine ⟨_, rfl, (by show 2 ≤ sizeLine; decide), fun p hp => q p _ (e23.trans (same_new hp _)) ?_⟩
    rw [upd_same]
    unfold termsD manyD
    rw [if_pos hgt]
    rfl
  have hn0 : manyD ds .none = none := by
    unfold manyD
    rw [if_neg (by omega)]
  refine ⟨_, rfl, qd, kvs, qs.map Prod.fst, rfl, hS3.qd, hS3.qs.keys, fun zs p hp hsd hpn => ?_⟩
  have hzs := sort_eq hp hsd
  subst hzs
  have e4 := same_new hpn (.lst ((sortT (qs.map Prod.fst)).map V.str))
  have hp4 : (upd H3 p (.lst ((sortT (qs.map Prod.fst)).map V.str))) p = some (.lst ((sortT (qs.map Prod.fst)).map V.str)) := upd_same
  have e04 := e23.trans e4
  have hD4 := e4 _ _ hD3
  have hys4 := hys3.up (Same.T e4)
  generalize upd H3 p (.lst ((sortT (qs.map Prod.fst)).map V.str)) = H4 at e4 hp4 e04 hD4 hys4 ⊢
  refine ⟨p, rfl, ⟨_, SqL.of hp4⟩, ?_⟩
  refine for_list (xs := (sortT (qs.map Prod.fst)).map V.str) (fun i σ H' => ∃ o4 o5 o6, σ = [some (.ref t), some (.ref rl), some (.ref qd), some (.ref D), o4, o5, o6] ∧ Same H4 H' ∧ manyQ ds qs ((sortT (qs.map Prod.fst)).take i) = none)
    ⟨none, _, none, rfl, Same.refl _, rfl⟩ (fun i σ H' _ ⟨_, _, _, _, e, _⟩ => SqL.of (e _ _ hp4)) ?_ ?_
  · rintro i x σ H5 hx ⟨o4, o5, o6, rfl, e5, hmq⟩
    rw [List.getElem?_map] at hx
    obtain ⟨z, hz, rfl⟩ := Option.map_eq_some_iff.mp hx
    have e05 := e04.trans e5
    have hS5 := hS.up e05
    obtain ⟨g, hg⟩ := look_some (mem_sort hz)
    obtain ⟨v, hv, htv⟩ := hS5.qs.get hg
    have hgol := hG (z, g) (mem_look hg)
    have htake : (sortT (qs.map Prod.fst)).take (i + 1) = (sortT (qs.map Prod.fst)).take i ++ [z] := by rw [List.take_add_one, hz] <;> rfl
    refine ⟨_, rfl, _, rfl, _, rfl, qd, v, rfl, by rw [← hv]; exact DGet.k (k := .inr z) hS5.qd, (by show 1 ≤ sizeLine; decide), fun p6 hp6 => ?_⟩
    have e6 := e5.trans (same_new hp6 (.lst [v]))
    have hp66 : (upd H5 p6 (.lst [v])) p6 = some (.lst [v]) := upd_same
    have htv6 := htv.up (Same.T (same_new hp6 (.lst [v])))
    generalize upd H5 p6 (.lst [v]) = H6 at e6 hp66 htv6 ⊢
    have hD6 := e6 _ _ hD4
    have hys6 := hys4.up (Same.T e6)
    refine ⟨D, p6, ys, [v], rfl, rfl, hD6, hp66, le_line (by rw [hyl, hul]; show ds.length + 1 ≤ 20000; omega), fun p7 hp7 => ?_⟩
    have e7 := e6.trans (same_new hp7 (.lst (ys ++ [v])))
    have hys7 : TpAll K (upd H6 p7 (.lst (ys ++ [v]))) (ys ++ [v]) (prD (prsOf ds g)) := by
      have e9 : prD (prsOf ds g) = prD (prsOf ds .none) ++ [g] := by
        obtain ⟨l, r, rfl, _, _⟩ := hgol
        show ((ds.map pairOf) ++ [(l, r)]).map _ = ((ds.map pairOf) ++ []).map _ ++ _
        rw [List.append_nil, List.map_append]
        rfl
      rw [e9]
      exact tpa_snoc (htv6.up (Same.T (same_new hp7 _))) (hys6.up (Same.T (same_new hp7 _)))
    refine ⟨p7, ys ++ [v], prsOf ds g, rfl, upd_same, hys7, prs_rul hR hl1 (.inr hgol), fun r8 rs8 H8 e8 _ hr8 hrs8 => ?_⟩
    have e48 := e7.trans e8
    refine ⟨.ref r8, (vocD (prsOf ds g)).length, rfl, .inl ⟨rs8, SqL.of hr8, hrs8.len.symm⟩, ?_⟩
    refine ⟨_, rfl, _, _, rfl, rfl, _, rfl, if_dec (fun hgt => ?_) (fun hle => ?_)⟩
    · have hgt : (vocD (prsOf ds g)).length > 24 := by omega
      refine ⟨_, rfl, (by show 2 ≤ sizeLine; decide), fun p9 hp9 => q p9 _ (e04.trans (e48.trans (same_new hp9 _))) ?_⟩
      rw [upd_same]
      unfold termsD
      rw [hn0]
      dsimp only
      have hsplit : sortT (qs.map Prod.fst) = (sortT (qs.map Prod.fst)).take i ++ z :: (sortT (qs.map Prod.fst)).drop (i + 1) := by
        have := List.take_append_drop (i + 1) (sortT (qs.map Prod.fst))
        rw [htake, List.append_assoc] at this
        exact this.symm
      rw [hsplit, manyQ_app _ _ _ _ hmq]
      unfold manyQ
      rw [hg]
      show some (HO.tup [.str "TooManyTerms", .int ((vocD (prsOf ds g)).length : Nat)]) = some (HO.tup (dueV (match manyD ds g with | some n => some n | none => _)))
      unfold manyD
      rw [if_pos hgt]
      rfl
    · refine ⟨_, _, _, rfl, e48, ?_⟩
      rw [htake, manyQ_app _ _ _ _ hmq]
      unfold manyQ
      rw [hg]
      show (match manyD ds g with | some n => some n | none => manyQ ds qs []) = none
      unfold manyD
      rw [if_neg (by omega)]
      rfl
  · rintro σ H5 ⟨o4, o5, o6, rfl, e5, hmq⟩
    rw [List.length_map, List.take_length] at hmq
    refine ⟨(by show 2 ≤ sizeLine; decide), fun p9 hp9 => q p9 _ (e04.trans (e5.trans (same_new hp9 _))) ?_⟩
    rw [upd_same]
    unfold termsD
    rw [hn0]
    dsimp only
    rw [hmq]
    rfl
end
end FF
/-! the reader of terms: what it computes, on lists of signs -/
namespace FF
open PySem PySem.Spec PyProof.Rows L2
abbrev isOpC (o : Nat) : Bool := o == 38 || o == 124
abbrev RdF : Type := List Nat → Option (PyData × List Nat)
def rPart (f : RdF) : RdF
  | [] => none
  | c :: r => if c ∈ lettersS.cps.toList then some (.str ⟨#[c]⟩, r) else if c = 40 then (match f r with
    | some (d, 41 :: r2) => if isLet d = true then none else some (d, r2)
    | _ => none) else none
def rTail (g : RdF) (o : Nat) : Nat → List Nat → Option (List PyData × List Nat)
  | 0, l => some ([], l)
  | k + 1, l => match l with
    | 32 :: p :: 32 :: r => if p = o then (match g r with
      | some (d, r2) => (match rTail g o k r2 with
        | some (ds, r3) => some (d :: ds, r3)
        | none => none)
      | none => none) else some ([], l)
    | _ => some ([], l)
def rAlone (d : PyData) (r : List Nat) : Option (PyData × List Nat) := if isLet d = true then some (d, r) else none
def rEnd (o : Nat) (d : PyData) : List PyData × List Nat → Option (PyData × List Nat)
  | ([], r2) => rAlone d r2
  | (e :: es, r2) => some (.tuple (.str ⟨#[o]⟩ :: d :: e :: es), r2)
def rSeq : Nat → RdF
  | 0, _ => none
  | n + 1, l => (rPart (rSeq n) l).bind fun x => match x.2[1]? with
    | some o => if isOpC o = true then (rTail (rPart (rSeq n)) o x.2.length x.2).bind (rEnd o x.1) else rAlone x.1 x.2
    | none => rAlone x.1 x.2
/-! ### what is left is a suffix; the data is nice -/
/-! ### texts at a place -/
end FF
/-! what rdr3 takes of rdr2 -/
namespace FF
open PySem PySem.Spec PyProof.Rows L2
theorem rPart_paren {f : RdF} {l : List Nat} : rPart f (40 :: l) = match f l with
    | some (d, 41 :: r2) => if isLet d = true then none else some (d, r2)
    | _ => none := by
  show (if 40 ∈ lettersS.cps.toList then some (PyData.str ⟨#[40]⟩, l) else if 40 = 40 then (match f l with
    | some (d, 41 :: r2) => if isLet d = true then none else some (d, r2)
    | _ => none) else none) = _
  rw [if_neg (by rw [lettersS_val]; decide), if_pos rfl]
theorem rTail_end {g : RdF} {o : Nat} : ∀ {k : Nat} {l : List Nat}, ¬ l.take 3 = [32, o, 32] → rTail g o k l = some ([], l)
  | 0, _, _ => rfl
  | k + 1, l, h => by
    unfold rTail
    split
    · rename_i p r
      rw [if_neg fun e => h (by rw [e] <;> rfl)]
    · rfl
theorem rTail_more {g : RdF} {o k : Nat} {l : List Nat} : rTail g o (k + 1) (32 :: o :: 32 :: l) = (g l).bind fun x => (rTail g o k x.2).map fun y => (x.1 :: y.1, y.2) := by
  show (if o = o then (match g l with
      | some (d, r2) => (match rTail g o k r2 with
        | some (ds, r3) => some (d :: ds, r3)
        | none => none)
      | none => none) else some ([], 32 :: o :: 32 :: l)) = _
  rw [if_pos rfl]
  cases g l with
  | none => rfl
  | some x =>
    obtain ⟨d, r2⟩ := x
    show (match rTail g o k r2 with
        | some (ds, r3) => some (d :: ds, r3)
        | none => none) = (rTail g o k r2).map _
    cases rTail g o k r2 <;> rfl
end FF
/-! the reader reads what the law writes -/
namespace FF
open PySem PySem.Spec PyProof.Rows L2
abbrev tl (z : Str) : List Nat := z.cps.toList
theorem tl_app (a b : Str) : tl (a ++ b) = tl a ++ tl b := by
  show (a.cps ++ b.cps).toList = _
  rw [Array.toList_append]
def tailL (o : Nat) (ps : List (List Nat)) : List Nat := ps.flatMap fun p => 32 :: o :: 32 :: p
theorem join_tl {o : Nat} {sep : Str} (hs : tl sep = [32, o, 32]) : ∀ (x : Str) (r : List Str), tl (Str.join sep (x :: r)) = tl x ++ tailL o (r.map tl)
  | x, [] => by
    show tl x = tl x ++ []
    rw [List.append_nil]
  | x, y :: r => by
    show tl (x ++ sep ++ Str.join sep (y :: r)) = _
    rw [tl_app, tl_app, hs, join_tl hs y r]
    show tl x ++ [32, o, 32] ++ (tl y ++ tailL o (r.map tl)) = tl x ++ ((32 :: o :: 32 :: tl y) ++ tailL o (r.map tl))
    rw [List.append_assoc] <;> rfl
theorem op_sign {o : Str} (h : isOp (.str o) = true) : ∃ c, o = ⟨#[c]⟩ ∧ isOpC c = true := by
  rcases op_shape h with h | h
  · exact ⟨38, (PyData.str.inj h).trans (by decide +kernel), by decide⟩
  · exact ⟨124, (PyData.str.inj h).trans (by decide +kernel), by decide⟩
theorem sep_tl {c : Nat} : tl ((" " : Str) ++ ⟨#[c]⟩ ++ (" " : Str)) = [32, c, 32] := by
  rw [tl_app, tl_app, show tl (" " : Str) = [32] by decide +kernel] <;> rfl
def Stop (l : List Nat) : Prop := l = [] ∨ ∃ r, l = 41 :: r
theorem part_let {f : RdF} {z : Str} (h : isLet (.str z) = true) (rest : List Nat) : rPart f (tl z ++ rest) = some (.str z, rest) := by
  obtain ⟨c, e, hc⟩ := let_shape h
  rw [PyData.str.inj e]
  exact if_pos hc
theorem text_tup {n c : Nat} {p : PyData} {ps : List PyData} : tl (textD (n + 1) (.tuple (.str ⟨#[c]⟩ :: p :: ps))) = tl (partT (textD n) p) ++ tailL c (ps.map fun q => tl (partT (textD n) q)) := by
  show tl (Txt.join ((" " : Str) ++ ⟨#[c]⟩ ++ " ") ((p :: ps).map (partT (textD n)))) = _
  rw [TL.join_eq, List.map_cons, join_tl sep_tl, List.map_map] <;> rfl
theorem par_tl (x : Str) : tl (("(" : Str) ++ x ++ ")") = 40 :: (tl x ++ [41]) := by
  rw [tl_app, tl_app, show tl ("(" : Str) = [40] by decide +kernel, show tl (")" : Str) = [41] by decide +kernel] <;> rfl
theorem rTail_all {g : RdF} {o : Nat} {f : PyData → List Nat} {rest : List Nat} (hr : Stop rest) : ∀ (ps : List PyData) (k : Nat), (∀ p ∈ ps, ∀ r, g (f p ++ r) = some (p, r)) → ps.length ≤ k → rTail g o k (tailL o (ps.map f) ++ rest) = some (ps, rest)
  | [], k, _, _ => by
    refine rTail_end ?_
    rcases hr with rfl | ⟨r, rfl⟩
    · exact fun z => by cases z
    · exact fun z => by
        have := List.head_eq_of_cons_eq z
        cases this
  | p :: ps, k, h, hk => by
    obtain ⟨j, rfl⟩ : ∃ j, k = j + 1 := ⟨k - 1, by rw [List.length_cons] at hk; omega⟩
    show rTail g o (j + 1) ((32 :: o :: 32 :: f p) ++ tailL o (ps.map f) ++ rest) = _
    rw [show (32 :: o :: 32 :: f p) ++ tailL o (ps.map f) ++ rest = 32 :: o :: 32 :: (f p ++ (tailL o (ps.map f) ++ rest)) by rw [List.append_assoc] <;> rfl]
    rw [rTail_more, h p List.mem_cons_self]
    show ((rTail g o j (tailL o (ps.map f) ++ rest)).map fun y => (p :: y.1, y.2)) = _
    rw [rTail_all hr ps j (fun q hq => h q (List.mem_cons_of_mem _ hq)) (by rw [List.length_cons] at hk; omega)] <;> rfl
theorem tail_len {o : Nat} : ∀ (ps : List (List Nat)), ps.length ≤ (tailL o ps).length
  | [] => Nat.le_refl _
  | p :: ps => by
    have := tail_len (o := o) ps
    show ps.length + 1 ≤ ((32 :: o :: 32 :: p) ++ tailL o ps).length
    rw [List.length_append, List.length_cons]
    omega
theorem read_seq : ∀ {n : Nat} {d : PyData}, Drawn n d → isTup d = true → ∀ rest, Stop rest → rSeq (n + 1) (tl (textD (n + 1) d) ++ rest) = some (d, rest) := by
  intro n
  induction n with
  | zero =>
    intro d h ht
    rcases drawn_shape h with ⟨z, rfl, _⟩ | ⟨_, _, _, _, _, _, _, e, _⟩
    · cases ht
    · cases e
  | succ n ih =>
    intro d h ht rest hr
    rcases drawn_shape h with ⟨z, rfl, _⟩ | ⟨o, ps, k, rfl, ho, l2, l4, e, hp⟩
    · cases ht
    cases e
    obtain ⟨c, rfl, hc⟩ := op_sign ho
    have part : ∀ p ∈ ps, ∀ r, rPart (rSeq (n + 1)) (tl (partT (textD (n + 1)) p) ++ r) = some (p, r) := fun p hpp r => by
      rcases drawn_shape (hp p hpp) with ⟨z, rfl, hz⟩ | ⟨o2, ps2, _, rfl, _⟩
      · exact part_let hz r
      · show rPart (rSeq (n + 1)) (tl (("(" : Str) ++ textD (n + 1) (.tuple (.str o2 :: ps2)) ++ ")") ++ r) = _
        rw [par_tl]
        show rPart (rSeq (n + 1)) (40 :: ((tl (textD (n + 1) (.tuple (.str o2 :: ps2))) ++ [41]) ++ r)) = _
        rw [List.append_assoc, rPart_paren, ih (hp _ hpp) rfl ([41] ++ r) (.inr ⟨r, rfl⟩)]
        rfl
    match ps, l2, part with
    | p :: q :: ps, _, part =>
    rw [text_tup, List.append_assoc]
    show (rPart (rSeq (n + 1)) (tl (partT (textD (n + 1)) p) ++ (tailL c ((q :: ps).map fun q => tl (partT (textD (n + 1)) q)) ++ rest))).bind _ = _
    rw [part p List.mem_cons_self]
    show (match (tailL c ((q :: ps).map fun q => tl (partT (textD (n + 1)) q)) ++ rest)[1]? with
      | some o => if isOpC o = true then (rTail (rPart (rSeq (n + 1))) o (tailL c ((q :: ps).map fun q => tl (partT (textD (n + 1)) q)) ++ rest).length (tailL c ((q :: ps).map fun q => tl (partT (textD (n + 1)) q)) ++ rest)).bind (rEnd o p) else rAlone p (tailL c ((q :: ps).map fun q => tl (partT (textD (n + 1)) q)) ++ rest)
      | none => rAlone p (tailL c ((q :: ps).map fun q => tl (partT (textD (n + 1)) q)) ++ rest)) = _
    have e1 : (tailL c ((q :: ps).map fun q => tl (partT (textD (n + 1)) q)) ++ rest)[1]? = some c := rfl
    rw [e1]
    show (if isOpC c = true then _ else _) = _
    rw [if_pos hc, rTail_all hr (q :: ps) _ (fun x hx => part x (List.mem_cons_of_mem _ hx)) ?_]
    · rfl
    · rw [List.length_append]
      have := tail_len (o := c) ((q :: ps).map fun q => tl (partT (textD (n + 1)) q))
      rw [List.length_map] at this
      omega
end FF
/-! a term's text tells the term (these stand in leq0, too: take one of the two) -/
namespace FF
open PySem PySem.Spec PyProof.Rows L2
theorem tl_inj {a b : Str} (h : tl a = tl b) : a = b := by
  obtain ⟨⟨x⟩⟩ := a
  obtain ⟨⟨y⟩⟩ := b
  have h : x = y := h
  rw [h]
theorem let_sign {z : Str} (h : isLet (.str z) = true) : ∃ c, tl z = [c] ∧ 97 ≤ c := by
  obtain ⟨c, e, hc⟩ := let_shape h
  rw [PyData.str.inj e]
  refine ⟨c, rfl, ?_⟩
  have : c ∈ [97, 98, 99, 100, 101, 102, 103, 104] := hc
  simp only [List.mem_cons, List.not_mem_nil, or_false] at this
  omega
theorem text_long {n : Nat} {d : PyData} (h : Drawn n d) (ht : isTup d = true) : 2 ≤ (tl (textD (n + 1) d)).length := by
  rcases drawn_shape h with ⟨z, rfl, _⟩ | ⟨o, ps, k, rfl, ho, h2, h4, rfl, hp⟩
  · cases ht
  obtain ⟨c, rfl, hc⟩ := op_sign ho
  match ps, h2 with
  | p :: q :: ps, _ =>
  rw [text_tup, List.length_append, List.map_cons]
  show 2 ≤ _ + ((32 :: c :: 32 :: _) ++ tailL c _).length
  rw [List.length_append, List.length_cons, List.length_cons]
  omega
theorem tup_or {n : Nat} {d : PyData} (h : Drawn n d) : (∃ z, d = .str z ∧ isLet d = true) ∨ isTup d = true := by
  rcases drawn_shape h with h | ⟨_, _, _, rfl, _⟩
  · exact .inl h
  · exact .inr rfl
theorem text_inj {d e : PyData} (hd : Drawn 4 d) (he : Drawn 4 e) (h : tl (textD 5 d) = tl (textD 5 e)) : d = e := by
  rcases tup_or hd with ⟨z, rfl, hz⟩ | hd1
  · rcases tup_or he with ⟨y, rfl, hy⟩ | he1
    · have h : tl z = tl y := h
      rw [tl_inj h]
    · have h1 := text_long he he1
      obtain ⟨c, e1, _⟩ := let_sign hz
      have h : tl z = tl (textD 5 e) := h
      rw [← h, e1] at h1
      cases h1 with
      | step h => cases h
  · rcases tup_or he with ⟨y, rfl, hy⟩ | he1
    · have h1 := text_long hd hd1
      obtain ⟨c, e1, _⟩ := let_sign hy
      have h : tl (textD 5 d) = tl y := h
      rw [h, e1] at h1
      cases h1 with
      | step h => cases h
    · have h1 := read_seq hd hd1 [] (.inl rfl)
      have h2 := read_seq he he1 [] (.inl rfl)
      rw [h, h2] at h1
      exact ((Prod.mk.inj (Option.some.inj h1)).1).symm
end FF
/-! the vocabulary: all words, each once, with their parts -/
namespace FF
open PySem PySem.Spec PyProof.Rows L2
theorem ddPut_keys (dd : DD) (k : Str) (v : PyData) : (ddPut dd k v).map (·.1) = if (dd.any fun e => decide (e.1 = k)) = true then dd.map (·.1) else dd.map (·.1) ++ [k] := by
  unfold ddPut
  split
  · rw [List.map_map]
    refine List.map_congr_left fun e _ => ?_
    show (if e.1 = k then (e.1, v) else e).1 = e.1
    split <;> rfl
  · rw [List.map_append] <;> rfl
theorem ddPut_in (dd : DD) (k : Str) (v : PyData) {j : Str} : j ∈ (ddPut dd k v).map (·.1) ↔ j ∈ dd.map (·.1) ∨ j = k := by
  rw [ddPut_keys]
  split
  · next h =>
    obtain ⟨e, he, hk⟩ := List.any_eq_true.mp h
    exact ⟨.inl, fun h => h.elim id fun q => by rw [q, ← of_decide_eq_true hk]; exact List.mem_map_of_mem he⟩
  · rw [List.mem_append, List.mem_singleton]
theorem ddPut_nodup {dd : DD} {k : Str} {v : PyData} (h : (dd.map (·.1)).Nodup) : ((ddPut dd k v).map (·.1)).Nodup := by
  rw [ddPut_keys]
  split
  · exact h
  · next hn =>
    rw [List.nodup_append]
    refine ⟨h, by simp, fun x hx y hy e => hn ?_⟩
    rw [List.mem_singleton.mp hy] at e
    subst e
    obtain ⟨e, h1, h2⟩ := List.mem_map.mp hx
    exact List.any_eq_true.mpr ⟨e, h1, decide_eq_true h2⟩
theorem dict_nodup {f : PyData → Str} : ∀ (ws : List PyData) (dd : DD), (dd.map (·.1)).Nodup → ((ws.foldl (fun dd w => ddPut dd (f w) w) dd).map (·.1)).Nodup
  | [], _, h => h
  | w :: ws, dd, h => dict_nodup ws (ddPut dd (f w) w) (ddPut_nodup h)
theorem dict_in {f : PyData → Str} : ∀ (ws : List PyData) (dd : DD) {j : Str}, j ∈ (ws.foldl (fun dd w => ddPut dd (f w) w) dd).map (·.1) ↔ j ∈ dd.map (·.1) ∨ ∃ w ∈ ws, f w = j
  | [], _, _ => ⟨.inl, fun h => h.elim id fun ⟨_, h, _⟩ => nomatch h⟩
  | w :: ws, dd, j => by
    refine (dict_in ws (ddPut dd (f w) w)).trans ?_
    rw [ddPut_in]
    constructor
    · rintro ((h | h) | ⟨x, h1, h2⟩)
      · exact .inl h
      · exact .inr ⟨w, List.mem_cons_self, h.symm⟩
      · exact .inr ⟨x, List.mem_cons_of_mem _ h1, h2⟩
    · rintro (h | ⟨x, h1, h2⟩)
      · exact .inl (.inl h)
      · rcases List.mem_cons.mp h1 with e | h1
        · subst e
          exact .inl (.inr h2.symm)
        · exact .inr ⟨x, h1, h2⟩
theorem dictT_key (f : PyData → Str) (ws : List PyData) {k : Str} {w : PyData} (h : ddGet (dictT f ws) k = some w) : f w = k ∧ w ∈ ws := by
  have h1 := dict_all (P := fun e => f e.2 = e.1 ∧ e.2 ∈ ws) (ws := ws) (dd := []) (fun e he => by cases he) (fun w hw => ⟨rfl, hw⟩) _ (get_in h)
  exact h1
theorem byText_keys (f : PyData → Str) (ws : List PyData) : (byText f ws).map f = sortT ((dictT f ws).map (·.1)) := by
  unfold byText
  rw [List.map_map]
  refine (List.map_congr_left fun t ht => ?_).trans (List.map_id _)
  have ht2 : t ∈ (dictT f ws).map (·.1) := (List.mergeSort_perm _ _).mem_iff.mp ht
  obtain ⟨w, hw⟩ := ddGet_mem ht2
  show f ((ddGet (dictT f ws) t).getD .none) = id t
  rw [hw]
  exact (dictT_key f ws hw).1
theorem byText_nodup (f : PyData → Str) (ws : List PyData) : (byText f ws).Nodup := by
  have h : ((byText f ws).map f).Nodup := by
    rw [byText_keys]
    exact (List.mergeSort_perm _ _).nodup_iff.mpr (dict_nodup ws [] List.nodup_nil)
  rw [List.Nodup, List.pairwise_map] at h
  exact h.imp fun h e => h (by rw [e])
theorem byText_all {f : PyData → Str} {ws : List PyData} (inj : ∀ a ∈ ws, ∀ b ∈ ws, f a = f b → a = b) {w : PyData} (h : w ∈ ws) : w ∈ byText f ws := by
  have hk : f w ∈ (byText f ws).map f := by
    rw [byText_keys]
    exact (List.mergeSort_perm _ _).mem_iff.mpr ((dict_in ws []).mpr (.inr ⟨w, h, rfl⟩))
  obtain ⟨x, hx, e⟩ := List.mem_map.mp hk
  rw [← inj x (byText_mem hx) w h e]
  exact hx
theorem voc_mem {prs : Prs} (h : PrOk prs) {x : PyData} : x ∈ vocD prs ↔ x ∈ wordsOf prs :=
  ⟨byText_mem, fun hx => byText_all (fun a ha b hb e => text_inj (words_drawn h a ha) (words_drawn h b hb) (congrArg tl e)) hx⟩
end FF
/-! stores (plain): fewer rules and questions have fewer terms -/
namespace FF
open PySem PySem.Spec PyProof.Rows L2
theorem sub_lenS {α : Type} [DecidableEq α] : ∀ (l D : List α), l.Nodup → (∀ x ∈ l, x ∈ D) → l.length ≤ D.length
  | [], _, _, _ => Nat.zero_le _
  | x :: l, D, nd, h => by
    obtain ⟨h1, h2⟩ := List.nodup_cons.mp nd
    have hx := h x List.mem_cons_self
    have := sub_lenS l (D.erase x) h2 fun y hy => (List.mem_erase_of_ne (fun e : y = x => h1 (e ▸ hy))).mpr (h y (List.mem_cons_of_mem _ hy))
    rw [List.length_erase_of_mem hx] at this
    have hp : 0 < D.length := List.length_pos_of_mem hx
    rw [List.length_cons]
    omega
theorem voc_sub_len {prs prs' : Prs} (ok : PrOk prs) (ok' : PrOk prs') (h : ∀ p ∈ prs', p ∈ prs) : (vocD prs').length ≤ (vocD prs).length := by
  haveI : DecidableEq PyData := fun a b => Classical.propDecidable (a = b)
  exact sub_lenS _ _ (byText_nodup (textD 5) (wordsOf prs')) fun x hx => by
    refine (voc_mem ok).mpr ?_
    obtain ⟨p, hp, hw⟩ := List.mem_flatMap.mp ((voc_mem ok').mp hx)
    exact List.mem_flatMap.mpr ⟨p, h p hp, hw⟩
theorem manyD_sub {ds ds' : List PyData} {g : PyData} (hR : ∀ d ∈ ds, RulD d) (hl : ds.length ≤ 19) (hg : g = .none ∨ GolD g) (hs : ∀ d ∈ ds', d ∈ ds) (hl' : ds'.length ≤ 19) (h : manyD ds g = none) : manyD ds' g = none := by
  have h1 := voc_sub_len (prs_rul hR hl hg) (prs_rul (fun d hd => hR d (hs d hd)) hl' hg) (fun p hp => by
    rcases List.mem_append.mp hp with hp | hp
    · obtain ⟨d, hd, rfl⟩ := List.mem_map.mp hp
      exact List.mem_append_left _ (List.mem_map.mpr ⟨d, hs d hd, rfl⟩)
    · exact List.mem_append_right _ hp)
  unfold manyD at h ⊢
  split at h
  · cases h
  · rw [if_neg (by omega)]
theorem manyQ_none {ds : List PyData} {qs : Qs} : ∀ {zs : List Str}, manyQ ds qs zs = none ↔ ∀ z ∈ zs, manyD ds ((qs.lookup z).getD .none) = none
  | [] => ⟨fun _ z hz => (nomatch hz), fun _ => rfl⟩
  | z :: zs => by
    unfold manyQ
    cases e : manyD ds ((qs.lookup z).getD .none) with
    | some n => exact ⟨fun h => (nomatch h), fun h => by rw [h z List.mem_cons_self] at e; cases e⟩
    | none =>
      dsimp only
      rw [manyQ_none]
      exact ⟨fun h y hy => (List.mem_cons.mp hy).elim (fun q => q ▸ e) (h y), fun h y hy => h y (List.mem_cons_of_mem _ hy)⟩
theorem termsD_none {ds : List PyData} {qs : Qs} : termsD ds qs = none ↔ manyD ds .none = none ∧ ∀ z ∈ qs.map Prod.fst, manyD ds ((qs.lookup z).getD .none) = none := by
  unfold termsD
  cases e : manyD ds .none with
  | some n => exact ⟨fun h => (nomatch h), fun h => (nomatch h.1)⟩
  | none =>
    dsimp only
    rw [manyQ_none]
    exact ⟨fun h => ⟨rfl, fun z hz => h z ((List.mergeSort_perm (qs.map Prod.fst) leS).mem_iff.mpr hz)⟩, fun h z hz => h.2 z ((List.mergeSort_perm (qs.map Prod.fst) leS).mem_iff.mp hz)⟩
theorem look_mem {z : Str} {g : PyData} {qs : Qs} (nd : (qs.map Prod.fst).Nodup) (h : (z, g) ∈ qs) : qs.lookup z = some g := by
  induction qs with
  | nil => cases h
  | cons a l ih =>
    obtain ⟨y, d⟩ := a
    rw [QsAll.get.lookup_cons]
    rw [List.map_cons] at nd
    obtain ⟨n1, n2⟩ := List.nodup_cons.mp nd
    rcases List.mem_cons.mp h with h | h
    · cases h; rw [if_pos rfl]
    · rw [if_neg (fun e : z = y => n1 (e ▸ List.mem_map.mpr ⟨(z, g), h, rfl⟩))]
      exact ih n2 h
theorem terms_drop {lim : Nat} {ds : List PyData} {qs : Qs} (hO : StOk lim ds qs) (hl : lim ≤ 12) (h : termsD ds qs = none) {ds' : List PyData} (hs : ds'.Sublist ds) : termsD ds' qs = none := by
  have hdl := hO.len
  have hl' := hs.length_le
  obtain ⟨h1, h2⟩ := termsD_none.mp h
  refine termsD_none.mpr ⟨manyD_sub hO.rul (by omega) (.inl rfl) (fun d hd => hs.subset hd) (by omega) h1, fun z hz => ?_⟩
  obtain ⟨g, hg⟩ := look_some hz
  have := h2 z hz
  rw [hg] at this ⊢
  exact manyD_sub hO.rul (by omega) (.inr (hO.gol (z, g) (mem_look hg))) (fun d hd => hs.subset hd) (by omega) this
theorem terms_forget {lim : Nat} {ds : List PyData} {qs : Qs} (hO : StOk lim ds qs) (h : termsD ds qs = none) {qs' : Qs} (hs : qs'.Sublist qs) : termsD ds qs' = none := by
  obtain ⟨h1, h2⟩ := termsD_none.mp h
  refine termsD_none.mpr ⟨h1, fun z hz => ?_⟩
  obtain ⟨g, hg⟩ := look_some hz
  have h3 := hs.subset (mem_look hg)
  have := h2 z (List.mem_map.mpr ⟨(z, g), h3, rfl⟩)
  rw [look_mem hO.nq h3] at this
  rw [hg]
  exact this
/-- what the law counts of the next state is what the command answers -/
theorem ref_next {lim : Nat} {ds : List PyData} {qs : Qs} (hO : StOk lim ds qs) (hl : lim ≤ 12) (h : termsD ds qs = none) {nm : Str} : dueV (termsD (ds.filter fun d => decide (nameOf d ≠ nm)) qs) = [.str "", .non] ∧ dueV (termsD ds (qs.filter fun q => decide (q.1 ≠ nm))) = [.str "", .non] := by
  rw [terms_drop hO hl h List.filter_sublist, terms_forget hO h List.filter_sublist]
  exact ⟨rfl, rfl⟩
/-- the terms of a next state are few -/
theorem terms_after {lim : Nat} {ds : List PyData} {qs : Qs} {c : Cmd} {st : Sc} (hO : StOk lim ds qs) (hl : lim ≤ 12) (h : termsD ds qs = none) (e : afterD lim ds qs c = .ok st) : termsD st.1 st.2 = none := by
  cases c with
  | add nm l r =>
    dsimp only [afterD] at e
    split at e
    · cases e
    · split at e
      · cases e
      · obtain ⟨rfl, h2⟩ := chkD_eq e
        exact h2
  | put nm l r =>
    dsimp only [afterD] at e
    split at e
    · obtain ⟨rfl, h2⟩ := chkD_eq e
      exact h2
    · cases e
  | drop nm =>
    dsimp only [afterD] at e
    split at e
    · cases e; exact terms_drop hO hl h List.filter_sublist
    · cases e
  | ask nm l r =>
    dsimp only [afterD] at e
    split at e
    · cases e
    · split at e
      · cases e
      · obtain ⟨rfl, h2⟩ := chkD_eq e
        exact h2
  | forget nm =>
    dsimp only [afterD] at e
    split at e
    · cases e; exact terms_forget hO h List.filter_sublist
    · cases e
end FF
/-! stores: what the law refuses -/
namespace FF
open PySem PySem.Spec PyProof.Rows L2
def refV : Except SErr Sc → List V
  | .ok _ => [.str "", .non]
  | .error e => [.str e.code, fldV e.fld]
theorem ref_chk (ds : List PyData) (qs : Qs) : refV (chkD ds qs) = dueV (termsD ds qs) := by
  unfold chkD
  cases termsD ds qs <;> rfl
abbrev szL : List (Key × V) := [(Sum.inr "add", V.int 4), (Sum.inr "put", V.int 4), (Sum.inr "drop", V.int 2), (Sum.inr "ask", V.int 4), (Sum.inr "forget", V.int 2)]
def Cmd.sz : Cmd → Nat
  | .add .. => 4
  | .put .. => 4
  | .drop .. => 2
  | .ask .. => 4
  | .forget .. => 2
theorem sz_val (c : Cmd) : valV (mergeK [] szL) (.inr c.wd) = some (.int (c.sz : Nat)) := by
  cases c with
  | add _ _ _ => exact (by decide +kernel : valV (mergeK [] szL) (.inr "add") = some (.int (4 : Nat)))
  | put _ _ _ => exact (by decide +kernel : valV (mergeK [] szL) (.inr "put") = some (.int (4 : Nat)))
  | drop _ => exact (by decide +kernel : valV (mergeK [] szL) (.inr "drop") = some (.int (2 : Nat)))
  | ask _ _ _ => exact (by decide +kernel : valV (mergeK [] szL) (.inr "ask") = some (.int (4 : Nat)))
  | forget _ => exact (by decide +kernel : valV (mergeK [] szL) (.inr "forget") = some (.int (2 : Nat)))
theorem sz_eqv (c : Cmd) : PyData.eqv (.int (c.sz : Nat)) (.int (c.sz : Nat)) = true := by cases c <;> rfl
theorem cmd_ne (c : Cmd) : PyData.eqv c.data (.tuple []) = false := by cases c <;> rfl
theorem cmd_nice {c : Cmd} (h : c.ok) : Nice 50 c.data := by
  have two : ∀ {a b : Str}, isNameS a = true → isNameS b = true → Nice 50 (.tuple [.str a, .str b]) := fun {a b} h1 h2 => by
    refine (Nice.tuple (n := 40) (by simp) fun x hx => ?_).mono (by decide)
    simp only [List.mem_cons, List.not_mem_nil, or_false] at hx
    rcases hx with rfl | rfl
    · exact (vname_nice h1).mono (by decide)
    · exact (vname_nice h2).mono (by decide)
  have four : ∀ {a b : Str} {l r : PyData}, isNameS a = true → isNameS b = true → TermD l → TermD r → Nice 50 (.tuple [.str a, .str b, l, r]) := fun {a b l r} h1 h2 h3 h4 => by
    refine (Nice.tuple (n := 40) (by simp) fun x hx => ?_).mono (by decide)
    simp only [List.mem_cons, List.not_mem_nil, or_false] at hx
    rcases hx with rfl | rfl | rfl | rfl
    · exact (vname_nice h1).mono (by decide)
    · exact (vname_nice h2).mono (by decide)
    · exact h3.2.2
    · exact h4.2.2
  cases c with
  | add nm l r => exact four (by decide) h.1 h.2.1 h.2.2
  | put nm l r => exact four (by decide) h.1 h.2.1 h.2.2
  | drop nm => exact two (by decide) h
  | ask nm l r => exact four (by decide) h.1 h.2.1 h.2.2
  | forget nm => exact two (by decide) h
theorem cmd_tpl {K : PySem.W.Frag} {H : Hp} {v : V} {c : Cmd} (h : Tp K H v c.data) : ∃ (ca : Addr) (rest : List V), v = .ref ca ∧ SqT K H ca (.str c.wd :: .str c.nm :: rest) ∧ (V.str c.wd :: V.str c.nm :: rest).length = c.sz := by
  cases c with
  | add nm l r => obtain ⟨ca, vl, vr, rfl, hca, _⟩ := four_tp h; exact ⟨ca, _, rfl, hca, rfl⟩
  | put nm l r => obtain ⟨ca, vl, vr, rfl, hca, _⟩ := four_tp h; exact ⟨ca, _, rfl, hca, rfl⟩
  | drop nm => obtain ⟨ca, rfl, hca⟩ := two_tp h; exact ⟨ca, _, rfl, hca, rfl⟩
  | ask nm l r => obtain ⟨ca, vl, vr, rfl, hca, _⟩ := four_tp h; exact ⟨ca, _, rfl, hca, rfl⟩
  | forget nm => obtain ⟨ca, rfl, hca⟩ := two_tp h; exact ⟨ca, _, rfl, hca, rfl⟩
theorem cmd_nm {c : Cmd} (h : c.ok) : isNameS c.nm = true := by
  cases c with
  | add nm l r => exact h.1
  | put nm l r => exact h.1
  | drop nm => exact h
  | ask nm l r => exact h.1
  | forget nm => exact h
theorem next_ok {lim : Nat} {ds : List PyData} {qs : Qs} {c : Cmd} (hO : StOk lim ds qs) (hl : lim ≤ 12) (hc : c.ok) : (∀ d ∈ (nextD ds qs c).1, RulD d) ∧ (nextD ds qs c).1.length ≤ 19 ∧ (∀ q ∈ (nextD ds qs c).2, GolD q.2) ∧ (nextD ds qs c).2.length ≤ 1000 := by
  have h1 := hO.len
  have h2 := hO.lq
  cases c with
  | add nm l r =>
    refine ⟨fun d hd => ?_, by show (ds ++ [_]).length ≤ 19; rw [List.length_append, List.length_singleton]; omega, hO.gol, by show qs.length ≤ 1000; omega⟩
    rcases List.mem_append.mp hd with hd | hd
    · exact hO.rul d hd
    · rw [List.mem_singleton.mp hd]; exact ⟨nm, l, r, rfl, hc.1, hc.2.1, hc.2.2⟩
  | put nm l r =>
    have h9 := hO.put hc.1 hc.2.1 hc.2.2
    have := h9.len
    exact ⟨h9.rul, Nat.le_trans this (by omega), hO.gol, by show qs.length ≤ 1000; omega⟩
  | drop nm =>
    have hs : (ds.filter fun d => decide (nameOf d ≠ nm)).Sublist ds := List.filter_sublist
    exact ⟨fun d hd => hO.rul d (hs.subset hd), Nat.le_trans hs.length_le (by omega), hO.gol, by show qs.length ≤ 1000; omega⟩
  | ask nm l r =>
    refine ⟨hO.rul, by show ds.length ≤ 19; omega, fun q hq => ?_, by show (qs ++ [_]).length ≤ 1000; rw [List.length_append, List.length_singleton]; omega⟩
    rcases List.mem_append.mp hq with hq | hq
    · exact hO.gol q hq
    · rw [List.mem_singleton.mp hq]; exact ⟨l, r, rfl, hc.2.1, hc.2.2⟩
  | forget nm =>
    have hs : (qs.filter fun q => decide (q.1 ≠ nm)).Sublist qs := List.filter_sublist
    exact ⟨hO.rul, by show ds.length ≤ 19; omega, fun q hq => hO.gol q (hs.subset hq), Nat.le_trans hs.length_le (by omega)⟩
section
variable {P : Program} {w : World} {K : PySem.W.Frag} {mg : Str → Option Value} {base : Heap}
def spRefusal (K : PySem.W.Frag) : Sp := fun vs H Q _ => ∃ (t rl qd : Addr) (us : List V) (kvs : List (Key × V)) (ds : List PyData) (qs : Qs) (lim : Nat) (v : V) (c : Cmd), vs = [.ref t, v, .int (lim : Nat)] ∧ ScV K H t rl qd us kvs ds qs ∧ StOk lim ds qs ∧ lim ≤ 12 ∧ termsD ds qs = none ∧ Tp K H v c.data ∧ c.ok ∧
  ∀ p H', Same H H' → H' p = some (.tup (refV (afterD lim ds qs c))) → Q (.ref p) H'
theorem ok_refusal {f : Addr} {fd : FuncData} (F : FunD K "_law_refusal" "_law_refusal" (defArgs s_law_refusal) (defBody s_law_refusal) (defScope s_law_refusal) [] [] f fd) (hm : mg "_law_refusal" = some (.ref f)) (T : Top K mg)
    (D_law_is_name : Def P w K mg base "_law_is_name" 1 ["_law_text_here"] (spName K)) (D_law_fits : Def P w K mg base "_law_fits" 13 ["_law_word"] (spFits K)) (D_law_terms_due : Def P w K mg base "_law_terms_due" 12 ["_law_state"] (spTDue K))
    (D_law_next : Def P w K mg base "_law_next" 1 ["_law_state", "_law_command"] (spNext K)) :
    Def P w K mg base "_law_refusal" 14 ["_law_state", "_law_command", "_law_most"] (spRefusal K) := by
  refine def_mk F hm (F.bindsN fun _ _ _ _ _ _ us hl => match us, hl with | [_, _, _], _ => rfl) sc_law_refusal (fun vs H Q E h => ?_) (fun cdv A outer s0 H vs Q E hr h => ?_)
  · obtain ⟨t, rl, qd, us, kvs, ds, qs, lim, v, c, rfl, _⟩ := h
    rfl
  obtain ⟨t, rl, qd, us, kvs, ds, qs, lim, v, c, rfl, hS, hO, hl12, hT, hv, hc, q⟩ := h
  obtain ⟨ca, rest, rfl, hca, hlen⟩ := cmd_tpl hv
  have hdl := hO.len
  have hlq := hO.lq
  have hul := hS.us.len
  have hkl := hS.qs.len
  refine ⟨_, (pss_cons (ps_asg (pv 0) (pg_tupK K (n := 2) rfl (pgs_cons (pg_name (i := 3) sc_law_refusal.nd rfl (Or.inl rfl) (.inl rfl)) (pgs_cons (pg_name (i := 4) sc_law_refusal.nd rfl (Or.inl rfl) (.inl rfl)) pgs_nil))))
  (pss_cons (ps_set (i := 5) sc_law_refusal.nd rfl (Or.inl rfl) (pe_disp (pps_cons pe_str pe_int (pps_cons pe_str pe_int (pps_cons pe_str pe_int (pps_cons pe_str pe_int (pps_cons pe_str pe_int pps_nil))))) (by rfl) (by rfl) (fun z => by cases z) (by decide)))
  (pss_cons (ps_if (PW.pt (pw_or (pt_cmpR (op_eqK K hr.units) (pv 1) (pe_tup pa_nil) (nomark _)) (pw_or (pt_cmp (pc_dnotin (hu_of hr) (pe_ix (ix_tupK K) (pv 1) pe_int (fun _ _ => rfl)) (pv 5)) (by rfl)) (pw_or1 (pt_cmpR (op_neK K hr.units) (pe_callB (call_lenK K) (by rfl) T.b_len (by decide +kernel) (pa_cons (pv 1) pa_nil)) (pe_dget (hu_of hr) (pv 5) (pe_ix (ix_tupK K) (pv 1) pe_int (fun _ _ => rfl)) (fun _ _ => rfl)) (nomark _))))))
  (pss_one (ps_ret (pe_tup (pa_cons pe_str (pa_cons (pe_ifExp (pt_cmpR (op_neK K hr.units) (pv 1) (pe_tup pa_nil) (nomark _)) (pe_ix (ix_tupK K) (pv 1) pe_int (fun _ _ => rfl)) pe_non) pa_nil)))))
  pss_nil)
  (pss_cons (ps_par (i := 6) (j := 7) (by rfl) sc_law_refusal.nd rfl rfl (by decide) rfl rfl (pa_cons (pe_ix (ix_tupK K) (pv 1) pe_int (fun _ _ => rfl)) (pa_cons (pe_ix (ix_tupK K) (pv 1) pe_int (fun _ _ => rfl)) pa_nil)) (by rfl))
  (pss_cons (ps_setLc (i := 8) (own := [("_law_one", 9)]) rfl sc_law_refusal.nd rfl rfl (sw_true rfl rfl rfl (by kernel_rfl)) (pi_listK K (pv 3)) (blkOk_by (by kernel_rfl)) (fun _ _ _ _ _ => (pg_name (i := 9) sc_law_refusal.nd rfl (Or.inl rfl) (.inr rfl))) (fun _ _ _ _ _ => pts_nil) (fun _ _ _ _ _ => (pe_ix (ix_tupK K) (pv 9) pe_int (fun _ _ => rfl))))
  (pss_cons (ps_if (PW.pt (pw_and (pt_cmpR (op_in_seqK K) (pv 6) (pe_tup (pa_cons pe_str (pa_cons pe_str pa_nil))) (by rfl)) (pw_and1 (pt_not (pt_val (pe_def D_law_is_name hr (by first | decide | omega) (pa_cons (pv 7) pa_nil)))))))
  (pss_one (ps_ret (pe_tup (pa_cons pe_str (pa_cons (pv 7) pa_nil)))))
  pss_nil)
  (pss_cons (ps_if (PW.pt (pw_or (PW.pt (pw_and (pt_cmpR op_eq (pv 6) pe_str (nomark _)) (pw_and1 (pt_cmpR (op_in_seqK K) (pv 7) (pv 8) (by rfl))))) (pw_or1 (PW.pt (pw_and (pt_cmpR op_eq (pv 6) pe_str (nomark _)) (pw_and1 (pt_cmp (pc_din (hu_of hr) (pv 7) (pv 4)) (by rfl))))))))
  (pss_one (ps_ret (pe_tup (pa_cons pe_str (pa_cons (pv 7) pa_nil)))))
  pss_nil)
  (pss_cons (ps_if (PW.pt (pw_and (pt_cmpR (op_in_seqK K) (pv 6) (pe_tup (pa_cons pe_str (pa_cons pe_str pa_nil))) (by rfl)) (pw_and1 (pt_cmpR (op_notIn_seqK K) (pv 7) (pv 8) (by rfl)))))
  (pss_one (ps_ret (pe_tup (pa_cons pe_str (pa_cons (pv 7) pa_nil)))))
  pss_nil)
  (pss_cons (ps_if (PW.pt (pw_and (pt_cmpR op_eq (pv 6) pe_str (nomark _)) (pw_and1 (pt_cmp (pc_dnotin (hu_of hr) (pv 7) (pv 4)) (by rfl)))))
  (pss_one (ps_ret (pe_tup (pa_cons pe_str (pa_cons (pv 7) pa_nil)))))
  pss_nil)
  (pss_cons (ps_if (PW.pt (pw_and (pt_cmpR op_eq (pe_callB (call_lenK K) (by rfl) T.b_len (by decide +kernel) (pa_cons (pv 1) pa_nil)) pe_int (nomark _)) (pw_and1 (pt_not (PW.pt (pw_and (pt_val (pe_def D_law_fits hr (by first | decide | omega) (pa_cons (pe_ix (ix_tupK K) (pv 1) pe_int (fun _ _ => rfl)) pa_nil))) (pw_and1 (pt_val (pe_def D_law_fits hr (by first | decide | omega) (pa_cons (pe_ix (ix_tupK K) (pv 1) pe_int (fun _ _ => rfl)) pa_nil))))))))))
  (pss_one (ps_ret (pe_tup (pa_cons pe_str (pa_cons pe_non pa_nil)))))
  pss_nil)
  (pss_cons (ps_if (PW.pt (pw_and (pt_cmpR op_eq (pv 6) pe_str (nomark _)) (pw_and1 (pt_cmpR op_ge (pe_callB (call_lenK K) (by rfl) T.b_len (by decide +kernel) (pa_cons (pv 3) pa_nil)) (pv 2) (nomark _)))))
  (pss_one (ps_ret (pe_tup (pa_cons pe_str (pa_cons (pv 2) pa_nil)))))
  pss_nil)
  (pss_cons (ps_if (PW.pt (pw_and (pt_cmpR op_eq (pv 6) pe_str (nomark _)) (pw_and1 (pt_cmpR op_ge (pe_callB L2.call_lenD (by rfl) T.b_len (by decide +kernel) (pa_cons (pv 4) pa_nil)) pe_int (nomark _)))))
  (pss_one (ps_ret (pe_tup (pa_cons pe_str (pa_cons pe_int pa_nil)))))
  pss_nil)
  (pss_one (ps_ret (pe_def D_law_terms_due hr (by first | decide | omega) (pa_cons (pe_def D_law_next hr (by first | decide | omega) (pa_cons (pv 0) (pa_cons (pv 1) pa_nil))) pa_nil)))))))))))))))), ?_⟩
  refine ⟨_, rfl, t, _, rfl, hS.at_, rfl, _, _, rfl, _, _, rfl, rfl, ?_⟩
  refine fun zd hzd => ⟨upd_same, [(.inr "add", .int 4), (.inr "put", .int 4), (.inr "drop", .int 2), (.inr "ask", .int 4), (.inr "forget", .int 2)], rfl, by decide, ?_⟩
  rw [upd_upd]
  have e1 := same_new hzd (.dK (mergeK [] szL))
  have hz1 : (upd H zd (.dK (mergeK [] szL))) zd = some (.dK (mergeK [] szL)) := upd_same
  generalize upd H zd (.dK (mergeK [] szL)) = H1 at e1 hz1 ⊢
  have hca1 := up_t e1 hca
  have hv1 := hv.up (Same.T e1)
  refine ⟨_, rfl, (by show 0 ≤ sizeLine; decide), fun p2 hp2 => ⟨c.data, .tuple [], (hv1.up (Same.T (same_new hp2 (.tup [])))).dp, .tup (SqT.of upd_same) .nil, (cmd_nice hc).shaped, rfl, _, rfl, ?_⟩⟩
  refine if_b (fun h => absurd ((cmd_ne c).symm.trans h) (by decide)) (fun _ => ?_)
  have e2 := e1.trans (same_new hp2 (.tup []))
  have hz2 := same_new hp2 (.tup []) _ _ hz1
  generalize upd H1 p2 (.tup []) = H2 at e2 hz2 ⊢
  have hca2 := up_t e2 hca
  refine ⟨_, rfl, ca, _, _, _, rfl, rfl, hca2, at0, _, rfl, zd, _, rfl, DGet.k (k := .inr c.wd) hz2, _, rfl, ?_⟩
  rw [sz_val]
  refine if_nb (fun h => absurd (show true = false from h) (by decide)) (fun _ => ?_)
  refine ⟨_, rfl, .ref ca, c.sz, rfl, .inr ⟨_, hca2, hlen.symm⟩, _, rfl, _, rfl, ca, _, _, _, rfl, rfl, hca2, at0, zd, .int (c.sz : Nat), rfl, by rw [← sz_val]; exact DGet.k (k := .inr c.wd) hz2, .int (c.sz : Nat), .int (c.sz : Nat), .int _, .int _, rfl, rfl, _, rfl, ?_⟩
  refine if_nb (fun h => absurd ((sz_eqv c).symm.trans h) (by decide)) (fun _ => ?_)
  refine ⟨_, rfl, ca, _, _, _, rfl, rfl, hca2, at0, _, rfl, ca, _, _, _, rfl, rfl, hca2, atI_nat (j := 1) rfl, _, _, rfl, ?_⟩
  have hS2 := hS.up e2
  refine ⟨_, rfl, rl, rfl, ⟨_, SqL.of hS2.rl⟩, fun D hD => ?_⟩
  refine lc_mapL (j := 9) (fun i y _ => ∃ d, ds[i]? = some d ∧ y = .str (nameOf d)) (fun _ _ _ _ _ h => h) hD (SqL.of hS2.rl) (le_line (by omega)) (fun _ => rfl) ?_ ?_
  · intro i x H3 hx e Q' k'
    obtain ⟨d, hd, hxd⟩ := hS2.us.get hx
    obtain ⟨ta, r, rfl, hta⟩ := rul_tp (hxd.up (Same.T e)) (hO.rul d (List.mem_of_getElem? hd))
    exact ⟨_, rfl, ta, _, _, _, rfl, rfl, hta, at0, k' _ _ (Same.refl _) ⟨d, hd, rfl⟩⟩
  intro H3 ys e23 hD3 hyl hy
  have hys : ys = (ds.map nameOf).map V.str := by
    rw [List.map_map]
    exact eq_map_of (by rw [hyl, hul]) hy
  subst hys
  have e3 := e2.trans e23
  have hz3 := e23 _ _ hz2
  clear e1 hz1 hca1 hv1 e2 hz2 hca2 hS2 hyl hy hD e23
  have hnm := cmd_nm hc
  cases c with
  | add nm l r =>
    obtain ⟨ca', vl, vr, hv1, hca0, hvl, hvr⟩ := four_tp hv
    cases hv1
    have hl := hc.2.1
    have hr2 := hc.2.2
    refine ⟨_, rfl, (by show 2 ≤ sizeLine; decide), fun p4 hp4 => ⟨p4, _, rfl, .inr (SqT.of upd_same), rfl, rfl, _, rfl, ?_⟩⟩
    refine if_b (fun _ => ?_) (fun h => absurd (show (inV (.str ("add" : Str)) [V.str "add", V.str "ask"]) = false from h) (by decide))
    have e4 := e3.trans (same_new hp4 (.tup [V.str "add", V.str "ask"]))
    have hD4 := same_new hp4 (.tup [V.str "add", V.str "ask"]) _ _ hD3
    generalize upd H3 p4 (.tup [V.str "add", V.str "ask"]) = H4 at e4 hD4 ⊢
    refine ⟨_, rfl, nm, rfl, name_len hnm, fun H5 f5 => ⟨_, rfl, ?_⟩⟩
    rw [show isNameS nm = true from hnm]
    refine if_nb (fun h => absurd h (by decide)) (fun _ => ?_)
    have e5 := e4.trans f5
    have hD5 := f5 _ _ hD4
    refine ⟨_, rfl, rfl, _, rfl, ?_⟩
    refine if_b (fun _ => ?_) (fun h => absurd (show decide (V.str ("add" : Str) = V.str "add") = false from h) (by decide))
    refine ⟨_, rfl, _, rfl, D, _, rfl, .inl (SqL.of hD5), rfl, flat_nms _, _, rfl, ?_⟩
    rw [inV_nms]
    refine if_b (fun hb => ?_) (fun hb => ?_)
    · have hin : nm ∈ ds.map nameOf := of_decide_eq_true hb
      exact ⟨_, rfl, (by show 2 ≤ sizeLine; decide), fun p9 hp9 => q p9 _ (e5.trans (same_new hp9 _)) (by rw [upd_same]; dsimp only [afterD]; rw [if_pos hin]; rfl)⟩
    have hno : nm ∉ ds.map nameOf := of_decide_eq_false hb
    refine ⟨_, rfl, rfl, _, rfl, ?_⟩
    refine if_b (fun h => absurd (show decide (V.str ("add" : Str) = V.str "ask") = true from h) (by decide)) (fun _ => ?_)
    refine if_b (fun h => absurd h (by decide)) (fun _ => ?_)
    refine ⟨_, rfl, (by show 2 ≤ sizeLine; decide), fun p6 hp6 => ⟨p6, _, rfl, .inr (SqT.of upd_same), rfl, rfl, _, rfl, ?_⟩⟩
    refine if_b (fun h => absurd (show (inV (.str ("add" : Str)) [V.str "put", V.str "drop"]) = true from h) (by decide)) (fun _ => ?_)
    have e6 := e5.trans (same_new hp6 (.tup [V.str "put", V.str "drop"]))
    have hD6 := same_new hp6 (.tup [V.str "put", V.str "drop"]) _ _ hD5
    generalize upd H5 p6 (.tup [V.str "put", V.str "drop"]) = H6 at e6 hD6 ⊢
    refine if_b (fun h => absurd h (by decide)) (fun _ => ?_)
    refine ⟨_, rfl, rfl, _, rfl, ?_⟩
    refine if_b (fun h => absurd (show decide (V.str ("add" : Str) = V.str "forget") = true from h) (by decide)) (fun _ => ?_)
    refine if_b (fun h => absurd h (by decide)) (fun _ => ?_)
    refine ⟨_, rfl, .ref ca, 4, rfl, .inr ⟨_, up_t e6 hca0, rfl⟩, rfl, _, rfl, ?_⟩
    refine if_b (fun _ => ?_) (fun h => absurd h (by decide))
    refine ⟨_, rfl, ca, _, _, _, rfl, rfl, up_t e6 hca0, (rfl : atI [V.str "add", V.str nm, vl, vr] 2 = some vl), vl, l, rfl, (hvl.up (Same.T e6)).dp, hl.2.2.mono (by decide), fun H7 f7 => ⟨_, rfl, ?_⟩⟩
    have e7 := e6.trans f7
    have hD7 := f7 _ _ hD6
    rw [show (decide (1 ≤ meas 5 l) && decide (meas 5 l ≤ 24)) = true from hl.2.1]
    refine if_b (fun _ => ?_) (fun h => absurd h (by decide))
    refine ⟨_, rfl, ca, _, _, _, rfl, rfl, up_t e7 hca0, (rfl : atI [V.str "add", V.str nm, vl, vr] 3 = some vr), vr, r, rfl, (hvr.up (Same.T e7)).dp, hr2.2.2.mono (by decide), fun H8 f8 => ⟨_, rfl, ?_⟩⟩
    have e8 := e7.trans f8
    have hD8 := f8 _ _ hD7
    rw [show (decide (1 ≤ meas 5 r) && decide (meas 5 r ≤ 24)) = true from hr2.2.1]
    refine if_nb (fun h => absurd h (by decide)) (fun _ => ?_)
    refine ⟨_, rfl, rfl, _, rfl, ?_⟩
    refine if_b (fun _ => ?_) (fun h => absurd (show decide (V.str ("add" : Str) = V.str "add") = false from h) (by decide))
    refine ⟨_, rfl, .ref rl, ds.length, rfl, .inl ⟨us, SqL.of (e8 _ _ hS.rl), hul.symm⟩, _, rfl, _, _, rfl, rfl, _, rfl, if_dec (fun hge => ?_) (fun hlt => ?_)⟩
    · have hge : lim ≤ ds.length := by omega
      exact ⟨_, rfl, (by show 2 ≤ sizeLine; decide), fun p9 hp9 => q p9 _ (e8.trans (same_new hp9 _)) (by rw [upd_same]; dsimp only [afterD]; rw [if_neg hno, if_pos hge]; rfl)⟩
    have hlt : ¬ lim ≤ ds.length := by omega
    refine ⟨_, rfl, rfl, _, rfl, ?_⟩
    refine if_b (fun h => absurd (show decide (V.str ("add" : Str) = V.str "ask") = true from h) (by decide)) (fun _ => ?_)
    refine if_b (fun h => absurd h (by decide)) (fun _ => ?_)
    have hSk := hS.up e8
    refine ⟨_, rfl, _, rfl, t, rl, qd, us, kvs, ds, qs, .ref ca, Cmd.add nm l r, rfl, hSk, hO.rul, hO.nq, by omega, by omega, hv.up (Same.T e8), trivial, fun t' rl' qd' us' kvs' HA eA hSA => ?_⟩
    obtain ⟨g1, g2, g3, g4⟩ := next_ok hO hl12 (c := Cmd.add nm l r) hc
    refine ⟨t', rl', qd', us', kvs', _, _, rfl, hSA, g1, g2, g3, g4, fun p9 HB eB hB => q p9 HB (e8.trans (eA.trans eB)) ?_⟩
    rw [hB]
    refine congrArg (fun xs => some (HO.tup xs)) ?_
    dsimp only [afterD]
    rw [if_neg hno, if_neg hlt]
    rw [ref_chk]
    rfl
  | put nm l r =>
    obtain ⟨ca', vl, vr, hv1, hca0, hvl, hvr⟩ := four_tp hv
    cases hv1
    have hl := hc.2.1
    have hr2 := hc.2.2
    refine ⟨_, rfl, (by show 2 ≤ sizeLine; decide), fun p4 hp4 => ⟨p4, _, rfl, .inr (SqT.of upd_same), rfl, rfl, _, rfl, ?_⟩⟩
    refine if_b (fun h => absurd (show (inV (.str ("put" : Str)) [V.str "add", V.str "ask"]) = true from h) (by decide)) (fun _ => ?_)
    have e4 := e3.trans (same_new hp4 (.tup [V.str "add", V.str "ask"]))
    have hD4 := same_new hp4 (.tup [V.str "add", V.str "ask"]) _ _ hD3
    generalize upd H3 p4 (.tup [V.str "add", V.str "ask"]) = H4 at e4 hD4 ⊢
    refine if_b (fun h => absurd h (by decide)) (fun _ => ?_)
    refine ⟨_, rfl, rfl, _, rfl, ?_⟩
    refine if_b (fun h => absurd (show decide (V.str ("put" : Str) = V.str "add") = true from h) (by decide)) (fun _ => ?_)
    refine ⟨_, rfl, rfl, _, rfl, ?_⟩
    refine if_b (fun h => absurd (show decide (V.str ("put" : Str) = V.str "ask") = true from h) (by decide)) (fun _ => ?_)
    refine if_b (fun h => absurd h (by decide)) (fun _ => ?_)
    refine ⟨_, rfl, (by show 2 ≤ sizeLine; decide), fun p5 hp5 => ⟨p5, _, rfl, .inr (SqT.of upd_same), rfl, rfl, _, rfl, ?_⟩⟩
    refine if_b (fun _ => ?_) (fun h => absurd (show (inV (.str ("put" : Str)) [V.str "put", V.str "drop"]) = false from h) (by decide))
    have e5 := e4.trans (same_new hp5 (.tup [V.str "put", V.str "drop"]))
    have hD5 := same_new hp5 (.tup [V.str "put", V.str "drop"]) _ _ hD4
    generalize upd H4 p5 (.tup [V.str "put", V.str "drop"]) = H5 at e5 hD5 ⊢
    refine ⟨_, rfl, _, rfl, D, _, rfl, .inl (SqL.of hD5), rfl, flat_nms _, _, rfl, ?_⟩
    rw [inV_nms]
    refine if_nb (fun hb => ?_) (fun hb => ?_)
    · have hno : nm ∉ ds.map nameOf := of_decide_eq_false hb
      exact ⟨_, rfl, (by show 2 ≤ sizeLine; decide), fun p9 hp9 => q p9 _ (e5.trans (same_new hp9 _)) (by rw [upd_same]; dsimp only [afterD]; rw [if_neg hno]; rfl)⟩
    have hin : nm ∈ ds.map nameOf := of_decide_eq_true hb
    refine ⟨_, rfl, rfl, _, rfl, ?_⟩
    refine if_b (fun h => absurd (show decide (V.str ("put" : Str) = V.str "forget") = true from h) (by decide)) (fun _ => ?_)
    refine if_b (fun h => absurd h (by decide)) (fun _ => ?_)
    refine ⟨_, rfl, .ref ca, 4, rfl, .inr ⟨_, up_t e5 hca0, rfl⟩, rfl, _, rfl, ?_⟩
    refine if_b (fun _ => ?_) (fun h => absurd h (by decide))
    refine ⟨_, rfl, ca, _, _, _, rfl, rfl, up_t e5 hca0, (rfl : atI [V.str "put", V.str nm, vl, vr] 2 = some vl), vl, l, rfl, (hvl.up (Same.T e5)).dp, hl.2.2.mono (by decide), fun H6 f6 => ⟨_, rfl, ?_⟩⟩
    have e6 := e5.trans f6
    have hD6 := f6 _ _ hD5
    rw [show (decide (1 ≤ meas 5 l) && decide (meas 5 l ≤ 24)) = true from hl.2.1]
    refine if_b (fun _ => ?_) (fun h => absurd h (by decide))
    refine ⟨_, rfl, ca, _, _, _, rfl, rfl, up_t e6 hca0, (rfl : atI [V.str "put", V.str nm, vl, vr] 3 = some vr), vr, r, rfl, (hvr.up (Same.T e6)).dp, hr2.2.2.mono (by decide), fun H7 f7 => ⟨_, rfl, ?_⟩⟩
    have e7 := e6.trans f7
    have hD7 := f7 _ _ hD6
    rw [show (decide (1 ≤ meas 5 r) && decide (meas 5 r ≤ 24)) = true from hr2.2.1]
    refine if_nb (fun h => absurd h (by decide)) (fun _ => ?_)
    refine ⟨_, rfl, rfl, _, rfl, ?_⟩
    refine if_b (fun h => absurd (show decide (V.str ("put" : Str) = V.str "add") = true from h) (by decide)) (fun _ => ?_)
    refine if_b (fun h => absurd h (by decide)) (fun _ => ?_)
    refine ⟨_, rfl, rfl, _, rfl, ?_⟩
    refine if_b (fun h => absurd (show decide (V.str ("put" : Str) = V.str "ask") = true from h) (by decide)) (fun _ => ?_)
    refine if_b (fun h => absurd h (by decide)) (fun _ => ?_)
    have hSk := hS.up e7
    refine ⟨_, rfl, _, rfl, t, rl, qd, us, kvs, ds, qs, .ref ca, Cmd.put nm l r, rfl, hSk, hO.rul, hO.nq, by omega, by omega, hv.up (Same.T e7), trivial, fun t' rl' qd' us' kvs' HA eA hSA => ?_⟩
    obtain ⟨g1, g2, g3, g4⟩ := next_ok hO hl12 (c := Cmd.put nm l r) hc
    refine ⟨t', rl', qd', us', kvs', _, _, rfl, hSA, g1, g2, g3, g4, fun p9 HB eB hB => q p9 HB (e7.trans (eA.trans eB)) ?_⟩
    rw [hB]
    refine congrArg (fun xs => some (HO.tup xs)) ?_
    dsimp only [afterD]
    rw [if_pos hin]
    rw [ref_chk]
    rfl
  | drop nm =>
    obtain ⟨ca', hv1, hca0⟩ := two_tp hv
    cases hv1
    refine ⟨_, rfl, (by show 2 ≤ sizeLine; decide), fun p4 hp4 => ⟨p4, _, rfl, .inr (SqT.of upd_same), rfl, rfl, _, rfl, ?_⟩⟩
    refine if_b (fun h => absurd (show (inV (.str ("drop" : Str)) [V.str "add", V.str "ask"]) = true from h) (by decide)) (fun _ => ?_)
    have e4 := e3.trans (same_new hp4 (.tup [V.str "add", V.str "ask"]))
    have hD4 := same_new hp4 (.tup [V.str "add", V.str "ask"]) _ _ hD3
    generalize upd H3 p4 (.tup [V.str "add", V.str "ask"]) = H4 at e4 hD4 ⊢
    refine if_b (fun h => absurd h (by decide)) (fun _ => ?_)
    refine ⟨_, rfl, rfl, _, rfl, ?_⟩
    refine if_b (fun h => absurd (show decide (V.str ("drop" : Str) = V.str "add") = true from h) (by decide)) (fun _ => ?_)
    refine ⟨_, rfl, rfl, _, rfl, ?_⟩
    refine if_b (fun h => absurd (show decide (V.str ("drop" : Str) = V.str "ask") = true from h) (by decide)) (fun _ => ?_)
    refine if_b (fun h => absurd h (by decide)) (fun _ => ?_)
    refine ⟨_, rfl, (by show 2 ≤ sizeLine; decide), fun p5 hp5 => ⟨p5, _, rfl, .inr (SqT.of upd_same), rfl, rfl, _, rfl, ?_⟩⟩
    refine if_b (fun _ => ?_) (fun h => absurd (show (inV (.str ("drop" : Str)) [V.str "put", V.str "drop"]) = false from h) (by decide))
    have e5 := e4.trans (same_new hp5 (.tup [V.str "put", V.str "drop"]))
    have hD5 := same_new hp5 (.tup [V.str "put", V.str "drop"]) _ _ hD4
    generalize upd H4 p5 (.tup [V.str "put", V.str "drop"]) = H5 at e5 hD5 ⊢
    refine ⟨_, rfl, _, rfl, D, _, rfl, .inl (SqL.of hD5), rfl, flat_nms _, _, rfl, ?_⟩
    rw [inV_nms]
    refine if_nb (fun hb => ?_) (fun hb => ?_)
    · have hno : nm ∉ ds.map nameOf := of_decide_eq_false hb
      exact ⟨_, rfl, (by show 2 ≤ sizeLine; decide), fun p9 hp9 => q p9 _ (e5.trans (same_new hp9 _)) (by rw [upd_same]; dsimp only [afterD]; rw [if_neg hno]; rfl)⟩
    have hin : nm ∈ ds.map nameOf := of_decide_eq_true hb
    refine ⟨_, rfl, rfl, _, rfl, ?_⟩
    refine if_b (fun h => absurd (show decide (V.str ("drop" : Str) = V.str "forget") = true from h) (by decide)) (fun _ => ?_)
    refine if_b (fun h => absurd h (by decide)) (fun _ => ?_)
    refine ⟨_, rfl, .ref ca, 2, rfl, .inr ⟨_, up_t e5 hca0, rfl⟩, rfl, _, rfl, ?_⟩
    refine if_b (fun h => absurd h (by decide)) (fun _ => ?_)
    refine if_b (fun h => absurd h (by decide)) (fun _ => ?_)
    refine ⟨_, rfl, rfl, _, rfl, ?_⟩
    refine if_b (fun h => absurd (show decide (V.str ("drop" : Str) = V.str "add") = true from h) (by decide)) (fun _ => ?_)
    refine if_b (fun h => absurd h (by decide)) (fun _ => ?_)
    refine ⟨_, rfl, rfl, _, rfl, ?_⟩
    refine if_b (fun h => absurd (show decide (V.str ("drop" : Str) = V.str "ask") = true from h) (by decide)) (fun _ => ?_)
    refine if_b (fun h => absurd h (by decide)) (fun _ => ?_)
    have hSk := hS.up e5
    refine ⟨_, rfl, _, rfl, t, rl, qd, us, kvs, ds, qs, .ref ca, Cmd.drop nm, rfl, hSk, hO.rul, hO.nq, by omega, by omega, hv.up (Same.T e5), trivial, fun t' rl' qd' us' kvs' HA eA hSA => ?_⟩
    obtain ⟨g1, g2, g3, g4⟩ := next_ok hO hl12 (c := Cmd.drop nm) hc
    refine ⟨t', rl', qd', us', kvs', _, _, rfl, hSA, g1, g2, g3, g4, fun p9 HB eB hB => q p9 HB (e5.trans (eA.trans eB)) ?_⟩
    rw [hB]
    refine congrArg (fun xs => some (HO.tup xs)) ?_
    dsimp only [afterD]
    rw [if_pos hin]
    exact (ref_next hO hl12 hT (nm := nm)).1
  | ask nm l r =>
    obtain ⟨ca', vl, vr, hv1, hca0, hvl, hvr⟩ := four_tp hv
    cases hv1
    have hl := hc.2.1
    have hr2 := hc.2.2
    refine ⟨_, rfl, (by show 2 ≤ sizeLine; decide), fun p4 hp4 => ⟨p4, _, rfl, .inr (SqT.of upd_same), rfl, rfl, _, rfl, ?_⟩⟩
    refine if_b (fun _ => ?_) (fun h => absurd (show (inV (.str ("ask" : Str)) [V.str "add", V.str "ask"]) = false from h) (by decide))
    have e4 := e3.trans (same_new hp4 (.tup [V.str "add", V.str "ask"]))
    have hD4 := same_new hp4 (.tup [V.str "add", V.str "ask"]) _ _ hD3
    generalize upd H3 p4 (.tup [V.str "add", V.str "ask"]) = H4 at e4 hD4 ⊢
    refine ⟨_, rfl, nm, rfl, name_len hnm, fun H5 f5 => ⟨_, rfl, ?_⟩⟩
    rw [show isNameS nm = true from hnm]
    refine if_nb (fun h => absurd h (by decide)) (fun _ => ?_)
    have e5 := e4.trans f5
    have hD5 := f5 _ _ hD4
    refine ⟨_, rfl, rfl, _, rfl, ?_⟩
    refine if_b (fun h => absurd (show decide (V.str ("ask" : Str) = V.str "add") = true from h) (by decide)) (fun _ => ?_)
    refine ⟨_, rfl, rfl, _, rfl, ?_⟩
    refine if_b (fun _ => ?_) (fun h => absurd (show decide (V.str ("ask" : Str) = V.str "ask") = false from h) (by decide))
    refine ⟨_, rfl, _, rfl, qd, _, rfl, DGet.k (k := .inr nm) (e5 _ _ hS.qd), _, rfl, ?_⟩
    rw [hS.qs.isSome]
    refine if_b (fun hb => ?_) (fun hb => ?_)
    · have hin : nm ∈ qs.map Prod.fst := of_decide_eq_true hb
      exact ⟨_, rfl, (by show 2 ≤ sizeLine; decide), fun p9 hp9 => q p9 _ (e5.trans (same_new hp9 _)) (by rw [upd_same]; dsimp only [afterD]; rw [if_pos hin]; rfl)⟩
    have hno : nm ∉ qs.map Prod.fst := of_decide_eq_false hb
    refine ⟨_, rfl, (by show 2 ≤ sizeLine; decide), fun p6 hp6 => ⟨p6, _, rfl, .inr (SqT.of upd_same), rfl, rfl, _, rfl, ?_⟩⟩
    refine if_b (fun h => absurd (show (inV (.str ("ask" : Str)) [V.str "put", V.str "drop"]) = true from h) (by decide)) (fun _ => ?_)
    have e6 := e5.trans (same_new hp6 (.tup [V.str "put", V.str "drop"]))
    have hD6 := same_new hp6 (.tup [V.str "put", V.str "drop"]) _ _ hD5
    generalize upd H5 p6 (.tup [V.str "put", V.str "drop"]) = H6 at e6 hD6 ⊢
    refine if_b (fun h => absurd h (by decide)) (fun _ => ?_)
    refine ⟨_, rfl, rfl, _, rfl, ?_⟩
    refine if_b (fun h => absurd (show decide (V.str ("ask" : Str) = V.str "forget") = true from h) (by decide)) (fun _ => ?_)
    refine if_b (fun h => absurd h (by decide)) (fun _ => ?_)
    refine ⟨_, rfl, .ref ca, 4, rfl, .inr ⟨_, up_t e6 hca0, rfl⟩, rfl, _, rfl, ?_⟩
    refine if_b (fun _ => ?_) (fun h => absurd h (by decide))
    refine ⟨_, rfl, ca, _, _, _, rfl, rfl, up_t e6 hca0, (rfl : atI [V.str "ask", V.str nm, vl, vr] 2 = some vl), vl, l, rfl, (hvl.up (Same.T e6)).dp, hl.2.2.mono (by decide), fun H7 f7 => ⟨_, rfl, ?_⟩⟩
    have e7 := e6.trans f7
    have hD7 := f7 _ _ hD6
    rw [show (decide (1 ≤ meas 5 l) && decide (meas 5 l ≤ 24)) = true from hl.2.1]
    refine if_b (fun _ => ?_) (fun h => absurd h (by decide))
    refine ⟨_, rfl, ca, _, _, _, rfl, rfl, up_t e7 hca0, (rfl : atI [V.str "ask", V.str nm, vl, vr] 3 = some vr), vr, r, rfl, (hvr.up (Same.T e7)).dp, hr2.2.2.mono (by decide), fun H8 f8 => ⟨_, rfl, ?_⟩⟩
    have e8 := e7.trans f8
    have hD8 := f8 _ _ hD7
    rw [show (decide (1 ≤ meas 5 r) && decide (meas 5 r ≤ 24)) = true from hr2.2.1]
    refine if_nb (fun h => absurd h (by decide)) (fun _ => ?_)
    refine ⟨_, rfl, rfl, _, rfl, ?_⟩
    refine if_b (fun h => absurd (show decide (V.str ("ask" : Str) = V.str "add") = true from h) (by decide)) (fun _ => ?_)
    refine if_b (fun h => absurd h (by decide)) (fun _ => ?_)
    refine ⟨_, rfl, rfl, _, rfl, ?_⟩
    refine if_b (fun _ => ?_) (fun h => absurd (show decide (V.str ("ask" : Str) = V.str "ask") = false from h) (by decide))
    refine ⟨_, rfl, qd, kvs, rfl, e8 _ _ hS.qd, _, _, rfl, rfl, _, rfl, if_dec (fun hge => ?_) (fun hlt => ?_)⟩
    · have hge : 8 ≤ qs.length := by omega
      exact ⟨(by show 2 ≤ sizeLine; decide), fun p9 hp9 => q p9 _ (e8.trans (same_new hp9 _)) (by rw [upd_same]; dsimp only [afterD]; rw [if_neg hno, if_pos hge]; rfl)⟩
    have hlt : ¬ 8 ≤ qs.length := by omega
    have hSk := hS.up e8
    refine ⟨_, rfl, _, rfl, t, rl, qd, us, kvs, ds, qs, .ref ca, Cmd.ask nm l r, rfl, hSk, hO.rul, hO.nq, by omega, by omega, hv.up (Same.T e8), hno, fun t' rl' qd' us' kvs' HA eA hSA => ?_⟩
    obtain ⟨g1, g2, g3, g4⟩ := next_ok hO hl12 (c := Cmd.ask nm l r) hc
    refine ⟨t', rl', qd', us', kvs', _, _, rfl, hSA, g1, g2, g3, g4, fun p9 HB eB hB => q p9 HB (e8.trans (eA.trans eB)) ?_⟩
    rw [hB]
    refine congrArg (fun xs => some (HO.tup xs)) ?_
    dsimp only [afterD]
    rw [if_neg hno, if_neg hlt]
    rw [ref_chk]
    rfl
  | forget nm =>
    obtain ⟨ca', hv1, hca0⟩ := two_tp hv
    cases hv1
    refine ⟨_, rfl, (by show 2 ≤ sizeLine; decide), fun p4 hp4 => ⟨p4, _, rfl, .inr (SqT.of upd_same), rfl, rfl, _, rfl, ?_⟩⟩
    refine if_b (fun h => absurd (show (inV (.str ("forget" : Str)) [V.str "add", V.str "ask"]) = true from h) (by decide)) (fun _ => ?_)
    have e4 := e3.trans (same_new hp4 (.tup [V.str "add", V.str "ask"]))
    have hD4 := same_new hp4 (.tup [V.str "add", V.str "ask"]) _ _ hD3
    generalize upd H3 p4 (.tup [V.str "add", V.str "ask"]) = H4 at e4 hD4 ⊢
    refine if_b (fun h => absurd h (by decide)) (fun _ => ?_)
    refine ⟨_, rfl, rfl, _, rfl, ?_⟩
    refine if_b (fun h => absurd (show decide (V.str ("forget" : Str) = V.str "add") = true from h) (by decide)) (fun _ => ?_)
    refine ⟨_, rfl, rfl, _, rfl, ?_⟩
    refine if_b (fun h => absurd (show decide (V.str ("forget" : Str) = V.str "ask") = true from h) (by decide)) (fun _ => ?_)
    refine if_b (fun h => absurd h (by decide)) (fun _ => ?_)
    refine ⟨_, rfl, (by show 2 ≤ sizeLine; decide), fun p5 hp5 => ⟨p5, _, rfl, .inr (SqT.of upd_same), rfl, rfl, _, rfl, ?_⟩⟩
    refine if_b (fun h => absurd (show (inV (.str ("forget" : Str)) [V.str "put", V.str "drop"]) = true from h) (by decide)) (fun _ => ?_)
    have e5 := e4.trans (same_new hp5 (.tup [V.str "put", V.str "drop"]))
    have hD5 := same_new hp5 (.tup [V.str "put", V.str "drop"]) _ _ hD4
    generalize upd H4 p5 (.tup [V.str "put", V.str "drop"]) = H5 at e5 hD5 ⊢
    refine if_b (fun h => absurd h (by decide)) (fun _ => ?_)
    refine ⟨_, rfl, rfl, _, rfl, ?_⟩
    refine if_b (fun _ => ?_) (fun h => absurd (show decide (V.str ("forget" : Str) = V.str "forget") = false from h) (by decide))
    refine ⟨_, rfl, _, rfl, qd, _, rfl, DGet.k (k := .inr nm) (e5 _ _ hS.qd), _, rfl, ?_⟩
    rw [hS.qs.isSome]
    refine if_nb (fun hb => ?_) (fun hb => ?_)
    · have hno : nm ∉ qs.map Prod.fst := of_decide_eq_false hb
      exact ⟨_, rfl, (by show 2 ≤ sizeLine; decide), fun p9 hp9 => q p9 _ (e5.trans (same_new hp9 _)) (by rw [upd_same]; dsimp only [afterD]; rw [if_neg hno]; rfl)⟩
    have hin : nm ∈ qs.map Prod.fst := of_decide_eq_true hb
    refine ⟨_, rfl, .ref ca, 2, rfl, .inr ⟨_, up_t e5 hca0, rfl⟩, rfl, _, rfl, ?_⟩
    refine if_b (fun h => absurd h (by decide)) (fun _ => ?_)
    refine if_b (fun h => absurd h (by decide)) (fun _ => ?_)
    refine ⟨_, rfl, rfl, _, rfl, ?_⟩
    refine if_b (fun h => absurd (show decide (V.str ("forget" : Str) = V.str "add") = true from h) (by decide)) (fun _ => ?_)
    refine if_b (fun h => absurd h (by decide)) (fun _ => ?_)
    refine ⟨_, rfl, rfl, _, rfl, ?_⟩
    refine if_b (fun h => absurd (show decide (V.str ("forget" : Str) = V.str "ask") = true from h) (by decide)) (fun _ => ?_)
    refine if_b (fun h => absurd h (by decide)) (fun _ => ?_)
    have hSk := hS.up e5
    refine ⟨_, rfl, _, rfl, t, rl, qd, us, kvs, ds, qs, .ref ca, Cmd.forget nm, rfl, hSk, hO.rul, hO.nq, by omega, by omega, hv.up (Same.T e5), hin, fun t' rl' qd' us' kvs' HA eA hSA => ?_⟩
    obtain ⟨g1, g2, g3, g4⟩ := next_ok hO hl12 (c := Cmd.forget nm) hc
    refine ⟨t', rl', qd', us', kvs', _, _, rfl, hSA, g1, g2, g3, g4, fun p9 HB eB hB => q p9 HB (e5.trans (eA.trans eB)) ?_⟩
    rw [hB]
    refine congrArg (fun xs => some (HO.tup xs)) ?_
    dsimp only [afterD]
    rw [if_pos hin]
    exact (ref_next hO hl12 hT (nm := nm)).2
end
end FF
/-! stores: wide terms, and what the law asks of a store -/
namespace FF
open PySem PySem.Spec PyProof.Rows L2
def wideZ : List Str := ["a", "b", "c", "d", "e", "f", "g", "h"]
def wideY (at_ : Nat) : List Str := if at_ = 0 then ["c", "d", "e", "f", "g", "h", "a", "b"] else ["e", "f", "g", "h", "a", "b", "c", "d"]
def wideP (at_ : Nat) : List PyData := (wideZ.zip (wideY at_)).map fun p => .tuple [.str (if at_ = 0 then "&" else "|"), .str p.1, .str p.2]
def wideD (at_ : Nat) : PyData := .tuple (.str (if at_ = 0 then "|" else "&") :: wideP at_)
theorem wide_let0 : ∀ p ∈ wideZ.zip (wideY 0), isLet (.str p.1) = true ∧ isLet (.str p.2) = true := by decide +kernel
theorem wide_let1 : ∀ p ∈ wideZ.zip (wideY 1), isLet (.str p.1) = true ∧ isLet (.str p.2) = true := by decide +kernel
theorem two_drawn {o x y : Str} (ho : isOp (.str o) = true) (hx : isLet (.str x) = true) (hy : isLet (.str y) = true) : Drawn 3 (.tuple [.str o, .str x, .str y]) := by
  refine .inr ⟨.str o, [.str x, .str y], rfl, ho, by simp, by simp, fun p hp => ?_⟩
  rcases List.mem_cons.mp hp with rfl | hp
  · exact .inl hx
  · rw [List.mem_singleton.mp hp]; exact .inl hy
theorem wide_ok : ∀ {at_ : Nat}, at_ < 2 → TermD (wideD at_)
  | 0, _ => by
    have hd : Drawn 4 (wideD 0) := .inr ⟨.str "|", wideP 0, rfl, by decide +kernel, by decide +kernel, by decide +kernel, fun p hp => by
      obtain ⟨q, hq, rfl⟩ := List.mem_map.mp hp
      exact two_drawn (by decide +kernel) (wide_let0 q hq).1 (wide_let0 q hq).2⟩
    exact ⟨hd, by decide +kernel, (drawn_nice hd).mono (by decide)⟩
  | 1, _ => by
    have hd : Drawn 4 (wideD 1) := .inr ⟨.str "&", wideP 1, rfl, by decide +kernel, by decide +kernel, by decide +kernel, fun p hp => by
      obtain ⟨q, hq, rfl⟩ := List.mem_map.mp hp
      exact two_drawn (by decide +kernel) (wide_let1 q hq).1 (wide_let1 q hq).2⟩
    exact ⟨hd, by decide +kernel, (drawn_nice hd).mono (by decide)⟩
theorem cut_all {n : Nat} (xs : List V) (h : xs.length = n) : cutV xs none (some (n : Int)) = xs := by
  unfold cutV
  rw [HT.sIx_none, show HT.sIx xs.length xs.length (some (n : Int)) = min n xs.length from HT.sIx_nat _ _ n, h]
  simp [← h]
section
variable {P : Program} {w : World} {K : PySem.W.Frag} {mg : Str → Option Value} {base : Heap}
def spWide (K : PySem.W.Frag) : Sp := fun vs H Q _ => ∃ at_ : Nat, vs = [.int (at_ : Nat)] ∧ at_ < 2 ∧ ∀ v H', Same H H' → Tp K H' v (wideD at_) → Q v H'
theorem ok_wide {f : Addr} {fd : FuncData} (F : FunD K "_law_wide" "_law_wide" (defArgs s_law_wide) (defBody s_law_wide) (defScope s_law_wide) [] [] f fd) (hm : mg "_law_wide" = some (.ref f)) (T : Top K mg) : Def P w K mg base "_law_wide" 1 ["_law_at"] (spWide K) := by
  refine def_mk F hm (F.bindsN fun _ _ _ _ _ _ us hl => match us, hl with | [_], _ => rfl) sc_law_wide (fun vs H Q E h => ?_) (fun cdv A outer s0 H0 vs Q E hr h => ?_)
  · obtain ⟨at_, rfl, _⟩ := h
    rfl
  obtain ⟨at_, rfl, hat, q⟩ := h
  refine ⟨_, (pss_cons (ps_setLc (i := 1) (own := [("_law_one", 2), ("_law_two", 3)]) rfl sc_law_wide.nd rfl rfl (sw_true rfl rfl rfl (by kernel_rfl)) (pi_zipK K (by rfl) T.b_zip (pa_cons (pe_callTy (call_list_s rfl) (by rfl) T.b_list (by decide +kernel) (pa_cons pe_str pa_nil)) (pa_cons (pe_callTy (call_list_s rfl) (by rfl) T.b_list (by decide +kernel) (pa_cons pe_str pa_nil)) pa_nil))) (blkOk_by (by kernel_rfl)) (fun _ _ _ _ _ => (pg_tupK K (n := 2) rfl (pgs_cons (pg_name (i := 2) sc_law_wide.nd rfl (Or.inl rfl) (.inr rfl)) (pgs_cons (pg_name (i := 3) sc_law_wide.nd rfl (Or.inl rfl) (.inr rfl)) pgs_nil)))) (fun _ _ _ _ _ => pts_nil) (fun _ _ _ _ _ => (pe_tup (pa_cons pe_str (pa_cons (pv 2) (pa_cons (pv 3) pa_nil))))))
  (pss_cons (ps_setLc (i := 4) (own := [("_law_one", 2), ("_law_two", 3)]) rfl sc_law_wide.nd rfl rfl (sw_true rfl rfl rfl (by kernel_rfl)) (pi_zipK K (by rfl) T.b_zip (pa_cons (pe_callTy (call_list_s rfl) (by rfl) T.b_list (by decide +kernel) (pa_cons pe_str pa_nil)) (pa_cons (pe_callTy (call_list_s rfl) (by rfl) T.b_list (by decide +kernel) (pa_cons pe_str pa_nil)) pa_nil))) (blkOk_by (by kernel_rfl)) (fun _ _ _ _ _ => (pg_tupK K (n := 2) rfl (pgs_cons (pg_name (i := 2) sc_law_wide.nd rfl (Or.inl rfl) (.inr rfl)) (pgs_cons (pg_name (i := 3) sc_law_wide.nd rfl (Or.inl rfl) (.inr rfl)) pgs_nil)))) (fun _ _ _ _ _ => pts_nil) (fun _ _ _ _ _ => (pe_tup (pa_cons pe_str (pa_cons (pv 2) (pa_cons (pv 3) pa_nil))))))
  (pss_one (ps_ret (pe_callTy (call_tuple_ofK K) (by rfl) T.b_tuple (by decide +kernel) (pa_cons (pe_op op_cat (pe_slice (sl_listK K) (pe_lst (pa_cons pe_str (pa_cons pe_str pa_nil))) (po_some (pv 0)) (po_some (pe_op op_add (pv 0) pe_int))) (pe_slice (sl_listK K) (pe_ix (ix_listK K) (pe_lst (pa_cons (pv 1) (pa_cons (pv 4) pa_nil))) (pv 0) (fun _ _ => rfl)) po_none (po_some pe_int))) pa_nil)))))), ?_⟩
  have hz : ("abcdefgh" : Str).cps.toList.map (fun c => V.str ⟨#[c]⟩) = wideZ.map V.str := by decide +kernel
  have hy0 : ("cdefghab" : Str).cps.toList.map (fun c => V.str ⟨#[c]⟩) = (wideY 0).map V.str := by decide +kernel
  have hy1 : ("efghabcd" : Str).cps.toList.map (fun c => V.str ⟨#[c]⟩) = (wideY 1).map V.str := by decide +kernel
  refine ⟨_, rfl, (by decide), fun a1 ha1 => ⟨_, rfl, (by decide), fun b1 hb1 => ⟨a1, b1, _, _, rfl, .inl ⟨SqL.of (same_new hb1 _ _ _ upd_same), SqL.of upd_same, fun D1 hD1 => ?_⟩⟩⟩⟩
  rw [hz] at hb1
  rw [hz, hy0] at hD1 ⊢
  have e1a := same_new ha1 (.lst (wideZ.map V.str))
  have e1b := e1a.trans (same_new hb1 (.lst ((wideY 0).map V.str)))
  have hx1 := same_new hb1 (.lst ((wideY 0).map V.str)) _ _ (upd_same (H := H0) (a := a1) (o := .lst (wideZ.map V.str)))
  have hw1 : (upd (upd H0 a1 (.lst (wideZ.map V.str))) b1 (.lst ((wideY 0).map V.str))) b1 = some (.lst ((wideY 0).map V.str)) := upd_same
  generalize upd (upd H0 a1 (.lst (wideZ.map V.str))) b1 (.lst ((wideY 0).map V.str)) = G1 at e1b hx1 hw1 hD1 ⊢
  refine lc_zipS (S := SqL K) (j := 2) (k := 3) (fun e h => up_l e h) (fun i u H' => ∃ p, (wideZ.zip (wideY 0))[i]? = some p ∧ Tp K H' u (.tuple [.str "&", .str p.1, .str p.2])) (fun i u Ha Hb e ⟨p, h1, h2⟩ => ⟨p, h1, h2.up e⟩) hD1 (SqL.of hx1) (SqL.of hw1) rfl (by show 8 ≤ sizeLine; decide) (fun _ _ => rfl) ?_ ?_
  · intro i x y H2 hx hy e Q' k'
    rw [List.getElem?_map] at hx hy
    obtain ⟨x', hx', rfl⟩ := Option.map_eq_some_iff.mp hx
    obtain ⟨y', hy', rfl⟩ := Option.map_eq_some_iff.mp hy
    exact ⟨_, rfl, _, rfl, (by show 3 ≤ sizeLine; decide), fun p hp => k' _ _ (same_new hp _) ⟨(x', y'), List.getElem?_zip_eq_some.mpr ⟨hx', hy'⟩, .tup (.inl upd_same) (.cons (.str _) (.cons (.str _) (.cons (.str _) .nil)))⟩⟩
  intro H1 us1 f1 hU1 hl1 hR1
  have e1 : Same H0 H1 := e1b.trans f1
  refine ⟨_, rfl, (by decide), fun a2 ha2 => ⟨_, rfl, (by decide), fun b2 hb2 => ⟨a2, b2, _, _, rfl, .inl ⟨SqL.of (same_new hb2 _ _ _ upd_same), SqL.of upd_same, fun D2 hD2 => ?_⟩⟩⟩⟩
  rw [hz] at hb2
  rw [hz, hy1] at hD2 ⊢
  have e2a := same_new ha2 (.lst (wideZ.map V.str))
  have e2b := e2a.trans (same_new hb2 (.lst ((wideY 1).map V.str)))
  have hx2 := same_new hb2 (.lst ((wideY 1).map V.str)) _ _ (upd_same (H := H1) (a := a2) (o := .lst (wideZ.map V.str)))
  have hw2 : (upd (upd H1 a2 (.lst (wideZ.map V.str))) b2 (.lst ((wideY 1).map V.str))) b2 = some (.lst ((wideY 1).map V.str)) := upd_same
  generalize upd (upd H1 a2 (.lst (wideZ.map V.str))) b2 (.lst ((wideY 1).map V.str)) = G2 at e2b hx2 hw2 hD2 ⊢
  refine lc_zipS (S := SqL K) (j := 2) (k := 3) (fun e h => up_l e h) (fun i u H' => ∃ p, (wideZ.zip (wideY 1))[i]? = some p ∧ Tp K H' u (.tuple [.str "|", .str p.1, .str p.2])) (fun i u Ha Hb e ⟨p, h1, h2⟩ => ⟨p, h1, h2.up e⟩) hD2 (SqL.of hx2) (SqL.of hw2) rfl (by show 8 ≤ sizeLine; decide) (fun _ _ => rfl) ?_ ?_
  · intro i x y H2 hx hy e Q' k'
    rw [List.getElem?_map] at hx hy
    obtain ⟨x', hx', rfl⟩ := Option.map_eq_some_iff.mp hx
    obtain ⟨y', hy', rfl⟩ := Option.map_eq_some_iff.mp hy
    exact ⟨_, rfl, _, rfl, (by show 3 ≤ sizeLine; decide), fun p hp => k' _ _ (same_new hp _) ⟨(x', y'), List.getElem?_zip_eq_some.mpr ⟨hx', hy'⟩, .tup (.inl upd_same) (.cons (.str _) (.cons (.str _) (.cons (.str _) .nil)))⟩⟩
  intro H2 us2 f2 hU2 hl2 hR2
  have e2 : Same H1 H2 := e2b.trans f2
  have hU1' := f2 _ _ (e2b _ _ hU1)
  have hat' : at_ = 0 ∨ at_ = 1 := by omega
  rcases hat' with rfl | rfl
  · refine ⟨(by show 2 ≤ sizeLine; decide), fun p3 hp3 => ⟨_, rfl, _, rfl, _, rfl, _, _, rfl, rfl, _, rfl, p3, _, rfl, SqL.of upd_same, fun p4 hp4 => ?_⟩⟩
    rw [show cutV [V.str "|", V.str "&"] (some ((0 : Nat) : Int)) (some (((0 : Nat) : Int) + 1)) = [V.str "|"] from by decide +kernel]
    have e3 := (same_new hp3 (.lst [V.str "|", V.str "&"])).trans (same_new hp4 (.lst [V.str "|"]))
    have hq4 : (upd (upd H2 p3 (.lst [V.str "|", V.str "&"])) p4 (.lst [V.str "|"])) p4 = some (.lst [V.str "|"]) := upd_same
    generalize upd (upd H2 p3 (.lst [V.str "|", V.str "&"])) p4 (.lst [V.str "|"]) = H4 at e3 hq4 ⊢
    refine ⟨_, rfl, _, rfl, (by show 2 ≤ sizeLine; decide), fun p5 hp5 => ?_⟩
    have e5 := e3.trans (same_new hp5 (.lst [.ref D1, .ref D2]))
    have hq5 := same_new hp5 (.lst [.ref D1, .ref D2]) _ _ hq4
    have hp55 : (upd H4 p5 (.lst [.ref D1, .ref D2])) p5 = some (.lst [.ref D1, .ref D2]) := upd_same
    generalize upd H4 p5 (.lst [.ref D1, .ref D2]) = H5 at e5 hq5 hp55 ⊢
    refine ⟨_, rfl, p5, _, _, .ref D1, rfl, rfl, SqL.of hp55, (rfl : atI [V.ref D1, V.ref D2] ((0 : Nat) : Int) = some (.ref D1)), _, rfl, D1, us1, rfl, SqL.of (e5 _ _ hU1'), fun p6 hp6 => ?_⟩
    rw [show cutV us1 none (some 8) = us1 from cut_all (n := 8) us1 hl1]
    refine ⟨p4, p6, _, _, rfl, rfl, same_new hp6 _ _ _ hq5, upd_same, le_line (by rw [show us1.length = 8 from hl1]; decide), fun p7 hp7 => ⟨p7, _, rfl, .inl ⟨SqL.of upd_same, fun p8 hp8 => ?_⟩⟩⟩
    have e8 := e5.trans ((same_new hp6 _).trans ((same_new hp7 _).trans (same_new hp8 (.tup ([V.str "|"] ++ us1)))))
    refine q _ _ (e1.trans (e2.trans e8)) (.tup (.inl upd_same) (.cons (.str _) (TpAll.of_get ((show ([].append us1).length = 8 from hl1).trans (by decide +kernel)) fun i u d h1 h2 => ?_)))
    obtain ⟨pr, h3, h4⟩ := hR1 i u h1
    have h5 : (wideP 0)[i]? = some d := h2
    unfold wideP at h5
    rw [List.getElem?_map, h3] at h5
    cases h5
    exact h4.up (Same.T (e2.trans e8))
  · refine ⟨(by show 2 ≤ sizeLine; decide), fun p3 hp3 => ⟨_, rfl, _, rfl, _, rfl, _, _, rfl, rfl, _, rfl, p3, _, rfl, SqL.of upd_same, fun p4 hp4 => ?_⟩⟩
    rw [show cutV [V.str "|", V.str "&"] (some ((1 : Nat) : Int)) (some (((1 : Nat) : Int) + 1)) = [V.str "&"] from by decide +kernel]
    have e3 := (same_new hp3 (.lst [V.str "|", V.str "&"])).trans (same_new hp4 (.lst [V.str "&"]))
    have hq4 : (upd (upd H2 p3 (.lst [V.str "|", V.str "&"])) p4 (.lst [V.str "&"])) p4 = some (.lst [V.str "&"]) := upd_same
    generalize upd (upd H2 p3 (.lst [V.str "|", V.str "&"])) p4 (.lst [V.str "&"]) = H4 at e3 hq4 ⊢
    refine ⟨_, rfl, _, rfl, (by show 2 ≤ sizeLine; decide), fun p5 hp5 => ?_⟩
    have e5 := e3.trans (same_new hp5 (.lst [.ref D1, .ref D2]))
    have hq5 := same_new hp5 (.lst [.ref D1, .ref D2]) _ _ hq4
    have hp55 : (upd H4 p5 (.lst [.ref D1, .ref D2])) p5 = some (.lst [.ref D1, .ref D2]) := upd_same
    generalize upd H4 p5 (.lst [.ref D1, .ref D2]) = H5 at e5 hq5 hp55 ⊢
    refine ⟨_, rfl, p5, _, _, .ref D2, rfl, rfl, SqL.of hp55, (rfl : atI [V.ref D1, V.ref D2] ((1 : Nat) : Int) = some (.ref D2)), _, rfl, D2, us2, rfl, SqL.of (e5 _ _ hU2), fun p6 hp6 => ?_⟩
    rw [show cutV us2 none (some 8) = us2 from cut_all (n := 8) us2 hl2]
    refine ⟨p4, p6, _, _, rfl, rfl, same_new hp6 _ _ _ hq5, upd_same, le_line (by rw [show us2.length = 8 from hl2]; decide), fun p7 hp7 => ⟨p7, _, rfl, .inl ⟨SqL.of upd_same, fun p8 hp8 => ?_⟩⟩⟩
    have e8 := e5.trans ((same_new hp6 _).trans ((same_new hp7 _).trans (same_new hp8 (.tup ([V.str "&"] ++ us2)))))
    refine q _ _ (e1.trans (e2.trans e8)) (.tup (.inl upd_same) (.cons (.str _) (TpAll.of_get ((show ([].append us2).length = 8 from hl2).trans (by decide +kernel)) fun i u d h1 h2 => ?_)))
    obtain ⟨pr, h3, h4⟩ := hR2 i u h1
    have h5 : (wideP 1)[i]? = some d := h2
    unfold wideP at h5
    rw [List.getElem?_map, h3] at h5
    cases h5
    exact h4.up (Same.T (e8))
end
end FF
/-! stores: the law looks at a store -/
namespace FF
open PySem PySem.Spec PyProof.Rows L2
theorem term_n4 {d : PyData} (h : TermD d) : Nice 4 d := drawn_nice h.1
theorem rul_n5 {d : PyData} (h : RulD d) : Nice 5 d := by
  obtain ⟨nm, l, r, rfl, hn, hl, hr⟩ := h
  refine Nice.tuple (n := 4) (by simp) fun x hx => ?_
  simp only [List.mem_cons, List.not_mem_nil, or_false] at hx
  rcases hx with rfl | rfl | rfl
  · exact (vname_nice hn).mono (by decide)
  · exact term_n4 hl
  · exact term_n4 hr
theorem qd_n5 {z : Str} {g : PyData} (hz : isNameS z = true) (h : GolD g) : Nice 5 (qdata (z, g)) := by
  obtain ⟨l, r, rfl, hl, hr⟩ := h
  refine Nice.tuple (n := 4) (by simp) fun x hx => ?_
  simp only [List.mem_cons, List.not_mem_nil, or_false] at hx
  rcases hx with rfl | rfl | rfl
  · exact (vname_nice hz).mono (by decide)
  · exact term_n4 hl
  · exact term_n4 hr
/-- what rules() and questions() answer -/
def lookD (st : Sc) : PyData := .list [.list st.1, .list ((sortT (st.2.map Prod.fst)).map fun z => qdata (z, (st.2.lookup z).getD .none))]
theorem sort_len (l : List Str) : (sortT l).length = l.length := (List.mergeSort_perm l leS).length_eq
theorem look_n7 {lim : Nat} {st : Sc} (hO : StOk lim st.1 st.2) (hl : lim ≤ 12) (hn : ∀ q ∈ st.2, isNameS q.1 = true) : Nice 7 (lookD st) := by
  have h1 := hO.len
  have h2 := hO.lq
  refine Nice.list (n := 6) (by simp) fun x hx => ?_
  simp only [List.mem_cons, List.not_mem_nil, or_false] at hx
  rcases hx with rfl | rfl
  · exact Nice.list (n := 5) (by omega) fun d hd => rul_n5 (hO.rul d hd)
  · refine Nice.list (n := 5) (by rw [List.length_map, sort_len, List.length_map]; omega) fun d hd => ?_
    obtain ⟨z, hz, rfl⟩ := List.mem_map.mp hd
    have hz' : z ∈ st.2.map Prod.fst := (List.mergeSort_perm _ leS).mem_iff.mp hz
    obtain ⟨g, hg⟩ := look_some hz'
    rw [hg]
    have hm := mem_look hg
    exact qd_n5 (hn _ hm) (hO.gol _ hm)
section
variable {P : Program} {w : World} {K : PySem.W.Frag} {mg : Str → Option Value} {base : Heap}
def spStoSo (K : PySem.W.Frag) : Sp := fun vs H Q _ => ∃ (A : SAd) (lim : Nat) (past fut : List Sc) (st : Sc) (t rl qd : Addr) (us : List V) (kvs : List (Key × V)), vs = [.ref A.c, .ref t] ∧ StoAt K H A lim past st fut ∧ StOk lim st.1 st.2 ∧ lim ≤ 12 ∧ (∀ q ∈ st.2, isNameS q.1 = true) ∧ ScV K H t rl qd us kvs st.1 st.2 ∧ ∀ H', Same H H' → Q (.bl true) H'
theorem ok_store_so {f : Addr} {fd : FuncData} (F : FunD K "_law_store_so" "_law_store_so" (defArgs s_law_store_so) (defBody s_law_store_so) (defScope s_law_store_so) [] [] f fd) (hm : mg "_law_store_so" = some (.ref f)) (T : Top K mg)
    (D_law_same : Def P w K mg base "_law_same" 12 ["_law_found", "_law_due"] (spSameV K 12)) (D_Store_rules : MethD P w K mg base "Store" "rules" 1 ["self"] (spRulesM K)) (D_Store_questions : MethD P w K mg base "Store" "questions" 1 ["self"] (spQuesM K))
    (D_Store___len__ : MethD P w K mg base "Store" "__len__" 1 ["self"] (spLenM K)) (D_Store___repr__ : MethD P w K mg base "Store" "__repr__" 1 ["self"] (spReprM K)) : Def P w K mg base "_law_store_so" 13 ["_law_place", "_law_state"] (spStoSo K) := by
  refine def_mk F hm (F.bindsN fun _ _ _ _ _ _ us hl => match us, hl with | [_, _], _ => rfl) sc_law_store_so (fun vs H Q E h => ?_) (fun cdv A0 outer s0 H vs Q E hr h => ?_)
  · obtain ⟨A, lim, past, fut, st, t, rl, qd, us, kvs, rfl, _⟩ := h
    rfl
  obtain ⟨A, lim, past, fut, st, t, rl, qd, us, kvs, rfl, hA, hO, hl12, hnq, hS, q⟩ := h
  have hdl := hO.len
  have hlq := hO.lq
  have hul := hS.us.len
  have hkl := hS.qs.len
  refine ⟨_, (pss_cons (ps_asg (pv 1) (pg_tupK K (n := 2) rfl (pgs_cons (pg_name (i := 2) sc_law_store_so.nd rfl (Or.inl rfl) (.inl rfl)) (pgs_cons (pg_name (i := 3) sc_law_store_so.nd rfl (Or.inr rfl) (.inl rfl)) pgs_nil))))
  (pss_cons (ps_set (i := 4) sc_law_store_so.nd rfl (Or.inl rfl) (pe_lst (pa_cons (pv 2) (pa_cons (pe_lc (own := [("_law_name", 5)]) rfl sc_law_store_so.nd (pi_listK K (pe_callB (cr_sortedDA rfl) (by rfl) T.b_sorted (by decide +kernel) (pa_cons (pv 3) pa_nil))) (blkOk_by (by kernel_rfl)) (fun _ _ _ _ _ => (pg_name (i := 5) sc_law_store_so.nd rfl (Or.inl rfl) (.inr rfl))) (fun _ _ _ _ _ => pts_nil) (fun _ _ _ _ _ => (pe_op (op_catTK K) (pe_tup (pa_cons (pv 5) pa_nil)) (pe_dget (hu_of hr) (pv 3) (pv 5) (fun _ _ => rfl))))) pa_nil))))
  (pss_cons (ps_if (PW.pt (pw_or (pt_not (pt_val (pe_def D_law_same hr (by first | decide | omega) (pa_cons (pe_lst (pa_cons (pe_methd0 D_Store_rules hr (by first | decide | omega) (pv 0)) (pa_cons (pe_methd0 D_Store_questions hr (by first | decide | omega) (pv 0)) pa_nil))) (pa_cons (pv 4) pa_nil))))) (pw_or1 (pt_cmpR op_ne (pe_callB (call_lenD D_Store___len__ hr (by first | decide | omega)) (by rfl) T.b_len (by decide +kernel) (pa_cons (pv 0) pa_nil)) (pe_callB (call_lenK K) (by rfl) T.b_len (by decide +kernel) (pa_cons (pv 2) pa_nil)) (nomark _)))))
  (pss_one (ps_ret pe_bl))
  pss_nil)
  (pss_cons (ps_set (i := 6) sc_law_store_so.nd rfl (Or.inl rfl) (pe_op op_add_str (pe_op op_add_str pe_str (pe_callTy call_str_int (by rfl) T.b_str (by decide +kernel) (pa_cons (pe_callB (call_lenK K) (by rfl) T.b_len (by decide +kernel) (pa_cons (pv 2) pa_nil)) pa_nil))) pe_str))
  (pss_one (ps_ret (pe_cmpR op_eq (pe_callB (call_reprD D_Store___repr__ hr (by first | decide | omega)) (by rfl) T.b_repr (by decide +kernel) (pa_cons (pv 0) pa_nil)) (pe_op op_add_str (pe_op op_add_str (pv 6) (pe_callTy call_str_int (by rfl) T.b_str (by decide +kernel) (pa_cons (pe_callB L2.call_lenD (by rfl) T.b_len (by decide +kernel) (pa_cons (pv 3) pa_nil)) pa_nil))) pe_str) (nomark _)))))))), ?_⟩
  refine ⟨_, rfl, t, _, rfl, hS.at_, rfl, _, _, rfl, _, _, rfl, rfl, ?_⟩
  refine ⟨_, rfl, _, rfl, qd, kvs, st.2.map Prod.fst, rfl, hS.qd, hS.qs.keys, fun ys p hp hsd hpn => ?_⟩
  have hys := sort_eq hp hsd
  subst hys
  have e1 := same_new hpn (.lst ((sortT (st.2.map Prod.fst)).map V.str))
  have hp1 : (upd H p (.lst ((sortT (st.2.map Prod.fst)).map V.str))) p = some (.lst ((sortT (st.2.map Prod.fst)).map V.str)) := upd_same
  generalize upd H p (.lst ((sortT (st.2.map Prod.fst)).map V.str)) = H1 at e1 hp1 ⊢
  have hlen : (sortT (st.2.map Prod.fst)).length = st.2.length := by rw [sort_len, List.length_map]
  refine ⟨p, rfl, ⟨_, SqL.of hp1⟩, fun D hD => ?_⟩
  refine lc_mapL (j := 5) (fun i y H' => ∃ z, (sortT (st.2.map Prod.fst))[i]? = some z ∧ Tp K H' y (qdata (z, (st.2.lookup z).getD .none))) (fun i y Ha Hb e ⟨z, h1, h2⟩ => ⟨z, h1, h2.up e⟩) hD (SqL.of hp1) (le_line (by rw [List.length_map, hlen]; omega)) (fun _ => rfl) ?_ ?_
  · intro i x H2 hx e2 Q' k'
    rw [List.getElem?_map] at hx
    obtain ⟨z, hz, rfl⟩ := Option.map_eq_some_iff.mp hx
    have e12 := e1.trans e2
    obtain ⟨g, hg⟩ := look_some (mem_sort hz)
    obtain ⟨l, r, rfl, hl, hr2⟩ := hO.gol (z, g) (mem_look hg)
    refine ⟨_, rfl, (by show 1 ≤ sizeLine; decide), fun p6 hp6 => ?_⟩
    have e13 := e12.trans (same_new hp6 (.tup [.str z]))
    have e23 := same_new hp6 (.tup [.str z])
    have hp66 : (upd H2 p6 (.tup [.str z])) p6 = some (.tup [.str z]) := upd_same
    generalize upd H2 p6 (.tup [.str z]) = H3 at e13 e23 hp66 ⊢
    have hS3 := hS.up e13
    obtain ⟨v, hv, htv⟩ := hS3.qs.get hg
    obtain ⟨ta, us2, rfl, hta, hus2⟩ := tup_tp htv
    have hul2 := hus2.len
    refine ⟨_, rfl, _, rfl, qd, .ref ta, rfl, by rw [← hv]; exact DGet.k (k := .inr z) hS3.qd, p6, ta, _, _, rfl, rfl, SqT.of hp66, hta, by simp, le_line (by rw [hul2]; show 1 + 2 ≤ 20000; decide), fun h => absurd (congrArg List.length h) (by rw [hul2]; show 2 ≠ 0; decide), fun _ p7 hp7 => k' _ _ ?_ ⟨z, hz, ?_⟩⟩
    · exact fun b u hb => same_new hp7 _ _ _ (e23 _ _ hb)
    · rw [hg]
      have e4 := same_new hp7 (.tup ([V.str z] ++ us2))
      exact .tup (.inl upd_same) (.cons (.str _) (hus2.up (Same.T e4)))
  intro H2 ys e2 hD2 hyl hy
  have hT2 : TpAll K H2 ys ((sortT (st.2.map Prod.fst)).map fun z => qdata (z, (st.2.lookup z).getD .none)) := TpAll.of_get (by rw [hyl, List.length_map, List.length_map]) fun i u d h1 h2 => by
    obtain ⟨z, h3, h4⟩ := hy i u h1
    rw [List.getElem?_map, h3] at h2
    cases h2
    exact h4
  have e02 := e1.trans e2
  refine ⟨(by show 2 ≤ sizeLine; decide), fun pd hpd => ?_⟩
  have e3 := e02.trans (same_new hpd (.lst [.ref rl, .ref D]))
  have e23 := same_new hpd (.lst [.ref rl, .ref D])
  have hpd3 : (upd H2 pd (.lst [.ref rl, .ref D])) pd = some (.lst [.ref rl, .ref D]) := upd_same
  generalize upd H2 pd (.lst [.ref rl, .ref D]) = H3 at e3 e23 hpd3 ⊢
  have hS3 := hS.up e3
  have hA3 := hA.up e3
  obtain ⟨dx, tv, ad, hi3, _, _⟩ := hA3.ins
  refine ⟨_, rfl, A.c, dx, _, rfl, hi3, rfl, A, lim, past, fut, st, rfl, hA3, fun p4 us4 H4 e4 _ hp4 hT4 => ?_⟩
  have hA4 := hA3.up e4
  refine ⟨_, rfl, A.c, dx, _, rfl, e4 _ _ hi3, rfl, A, lim, past, fut, st, rfl, hA4, hO, fun p5 us5 H5 e5 _ hp5 hT5 => ?_⟩
  have e45 := e4.trans e5
  refine ⟨(by show 2 ≤ sizeLine; decide), fun p6 hp6 => ?_⟩
  have e6 := e45.trans (same_new hp6 (.lst [.ref p4, .ref p5]))
  have e56 := same_new hp6 (.lst [.ref p4, .ref p5])
  have hp66 : (upd H5 p6 (.lst [.ref p4, .ref p5])) p6 = some (.lst [.ref p4, .ref p5]) := upd_same
  generalize upd H5 p6 (.lst [.ref p4, .ref p5]) = H6 at e6 e56 hp66 ⊢
  have hn := look_n7 hO hl12 hnq
  refine ⟨_, rfl, .ref p6, .ref pd, rfl, .inl ⟨lookD st, .lst (SqL.of hp66) (.cons (.lst (SqL.of (e56 _ _ (e5 _ _ hp4))) (hT4.up (Same.T (e5.trans e56))).dp) (.cons (.lst (SqL.of (e56 _ _ hp5)) (hT5.up (Same.T e56)).dp) .nil)),
    .lst (SqL.of (e6 _ _ hpd3)) (.cons (.lst (SqL.of (e6 _ _ hS3.rl)) (hS3.us.up (Same.T e6)).dp) (.cons (.lst (SqL.of (e6 _ _ (e23 _ _ hD2))) (hT2.up (Same.T (e23.trans e6))).dp) .nil)), hn.ok, Nat.lt_of_le_of_lt hn.dp (by decide)⟩, by decide, fun H7 e7 => ?_⟩
  refine ⟨_, rfl, ?_⟩
  refine if_nb (fun h => absurd h (by decide)) (fun _ => ?_)
  have e07 := e3.trans (e6.trans e7)
  have hA7 := hA.up e07
  have hS7 := hS.up e07
  obtain ⟨dx7, tv7, ad7, hi7, _, _⟩ := hA7.ins
  refine ⟨_, rfl, A.c, dx7, _, rfl, hi7, A, lim, past, fut, st, rfl, hA7, st.1.length, rfl, by omega, _, rfl, .ref rl, st.1.length, rfl, .inl ⟨us, SqL.of hS7.rl, hul.symm⟩, rfl, _, rfl, ?_⟩
  refine if_nb (fun h => absurd h (by simp)) (fun _ => ?_)
  have l1 : (toString ((st.1.length : Nat) : Int) : Str).length ≤ 100 := int_short _ (by omega)
  have l2 : (toString ((st.2.length : Nat) : Int) : Str).length ≤ 100 := int_short _ (by omega)
  have d1 : ("Store(" : Str).length = 6 := rfl
  have d2 : (" rules, " : Str).length = 8 := rfl
  have d3 : (" questions)" : Str).length = 11 := rfl
  refine ⟨_, rfl, .ref rl, st.1.length, rfl, .inl ⟨us, SqL.of hS7.rl, hul.symm⟩, _, rfl, int_log _ (by omega), _, _, rfl, rfl, le_line (by omega), _, _, rfl, rfl, le_line (by rw [str_len]; omega), ?_⟩
  have l3 : (toString ((kvs.length : Nat) : Int) : Str).length ≤ 100 := by rw [hkl]; exact l2
  refine ⟨_, rfl, A.c, dx7, _, rfl, hi7, A, lim, past, fut, st, rfl, hA7, by omega, by omega, _, rfl, _, rfl, _, rfl, qd, kvs, rfl, hS7.qd, _, rfl, by rw [hkl]; exact int_log _ (by omega), _, _, rfl, rfl, le_line (by rw [str_len, str_len]; omega), _, _, rfl, rfl, le_line (by rw [str_len, str_len, str_len]; omega), rfl, ?_⟩
  rw [hkl]
  have := q H7 e07
  rw [← show decide (V.str (reprS st.1.length st.2.length) = V.str (reprS st.1.length st.2.length)) = true from decide_eq_true rfl] at this
  exact this
end
end FF
/-! stores: a command told through a lambda -/
namespace FF
open PySem PySem.Spec PyProof.Rows L2
/-- all but a store, its two lists and tables of code stays -/
def KeptX (A : SAd) (H H' : Hp) : Prop := ∀ b u, b ≠ A.c → b ≠ A.ul → b ≠ A.rd → (∀ ps, u ≠ .tbl ps) → H b = some u → H' b = some u
theorem KeptX.of {A : SAd} {H H' : Hp} (e : LamX.ExtN H H') : KeptX A H H' := fun b u _ _ _ n h => e b u h n
theorem KeptX.nn {A : SAd} {H H' : Hp} (e : SameN A H H') : KeptX A H H' := fun b u n1 n2 n3 _ h => e b u n1 n2 n3 h
theorem KeptX.trans {A : SAd} {H H1 H2 : Hp} (x : KeptX A H H1) (y : KeptX A H1 H2) : KeptX A H H2 := fun b u n1 n2 n3 n4 h => y b u n1 n2 n3 n4 (x b u n1 n2 n3 n4 h)
theorem KeptN.x {H H' : Hp} (e : LamX.ExtN H H') : KeptN H H' := fun b u _ _ n h => e b u h n
theorem code_ne_hid {a : Addr} {q : Str} {g : List V → Prop} : LamX.CodeO a q ≠ hid g a := fun z => by
  have co : Obj := { cls := .type "code", data := .fields #[.none, .str q 0] }
  have hg : ((Heap.mk (Array.replicate a ({ cls := .type "code", data := .fields #[.none, .str q 0] } : Obj)) {}).push { cls := .type "code", data := .fields #[.none, .str q 0] }).get? a = some { cls := .type "code", data := .fields #[.none, .str q 0] } := by
    have := Heap.get?_push_size (Heap.mk (Array.replicate a ({ cls := .type "code", data := .fields #[.none, .str q 0] } : Obj)) {}) (o := { cls := .type "code", data := .fields #[.none, .str q 0] }) rfl
    rwa [show (Heap.mk (Array.replicate a ({ cls := .type "code", data := .fields #[.none, .str q 0] } : Obj)) {}).objs.size = a from Array.size_replicate] at this
  unfold LamX.CodeO hid at z
  have z1 := congrFun (HO.ext.inj z) ((Heap.mk (Array.replicate a ({ cls := .type "code", data := .fields #[.none, .str q 0] } : Obj)) {}).push { cls := .type "code", data := .fields #[.none, .str q 0] })
  obtain ⟨xs, its, n, _, _, _, h2⟩ := z1.mp ⟨_, _, 0, hg, rfl, rfl⟩
  rw [hg] at h2
  have h3 := congrArg Obj.data (Option.some.inj h2)
  cases h3
theorem hid_tbl {g : List V → Prop} {a : Addr} : ∀ ps, hid g a ≠ HO.tbl ps := fun _ => hid_ext fun _ z => nomatch z
section
variable {K : PySem.W.Frag} {H H' : Hp} {A : SAd} {lim : Nat} {past fut : List Sc} {now : Sc}
theorem StoAt.keepX (h : StoAt K H A lim past now fut) (e : KeptX A H H') : KeptN H H' := fun b u n1 n2 n3 hb => by
  refine e b u (fun z => ?_) (fun z => ?_) (fun z => ?_) n3 hb
  · obtain ⟨dx, t, ad, hi, _⟩ := h.ins
    rw [z, hi] at hb
    exact n1 _ _ _ (Option.some.inj hb).symm
  · obtain ⟨l, hl, _⟩ := h.und
    rw [z, hl] at hb
    exact hid_ext n2 (Option.some.inj hb)
  · obtain ⟨l, hl, _⟩ := h.red
    rw [z, hl] at hb
    exact hid_ext n2 (Option.some.inj hb)
theorem StoAt.x (h : StoAt K H A lim past now fut) (e : LamX.ExtN H H') : StoAt K H' A lim past now fut := by
  obtain ⟨⟨dx, t, ad, hi, hs, had⟩, ⟨lu, hu, hus⟩, ⟨lr, hr, hrs⟩, ne⟩ := h
  have k : KeptN H H' := .x e
  exact ⟨⟨dx, t, ad, e _ _ hi (fun _ z => nomatch z), hs.n k, k.dk had⟩, ⟨lu, e _ _ hu hid_tbl, hus.n k⟩, ⟨lr, e _ _ hr hid_tbl, hrs.n k⟩, ne⟩
/-- no address of B is one of A -/
def DisA (B A : SAd) : Prop := (B.c ≠ A.c ∧ B.c ≠ A.ul ∧ B.c ≠ A.rd) ∧ (B.ul ≠ A.c ∧ B.ul ≠ A.ul ∧ B.ul ≠ A.rd) ∧ (B.rd ≠ A.c ∧ B.rd ≠ A.ul ∧ B.rd ≠ A.rd)
/-- another store's change leaves this one -/
theorem StoAt.o {B : SAd} (h : StoAt K H B lim past now fut) (d : DisA B A) (e : KeptX A H H') (k : KeptN H H') : StoAt K H' B lim past now fut := by
  obtain ⟨⟨dx, t, ad, hi, hs, had⟩, ⟨lu, hu, hus⟩, ⟨lr, hr, hrs⟩, ne⟩ := h
  obtain ⟨h1, h2, h3⟩ := d
  exact ⟨⟨dx, t, ad, e _ _ h1.1 h1.2.1 h1.2.2 (fun _ z => nomatch z) hi, hs.n k, k.dk had⟩, ⟨lu, e _ _ h2.1 h2.2.1 h2.2.2 hid_tbl hu, hus.n k⟩, ⟨lr, e _ _ h3.1 h3.2.1 h3.2.2 hid_tbl hr, hrs.n k⟩, ne⟩
theorem DisA.rd {B : SAd} (h : StoAt K H B lim past now fut) (d : DisA B A) {rd : Addr} (n : ∀ b u, (∀ ps, u ≠ HO.tbl ps) → H b = some u → b ≠ rd) : DisA B ⟨A.c, A.ul, rd⟩ := by
  obtain ⟨⟨dx, t, ad, hi, hs, had⟩, ⟨lu, hu, hus⟩, ⟨lr, hr, hrs⟩, ne⟩ := h
  obtain ⟨h1, h2, h3⟩ := d
  exact ⟨⟨h1.1, h1.2.1, n _ _ (fun ps (z : HO.ins _ _ _ = HO.tbl ps) => nomatch z) hi⟩, ⟨h2.1, h2.2.1, n _ _ hid_tbl hu⟩, ⟨h3.1, h3.2.1, n _ _ hid_tbl hr⟩⟩
theorem tabs_nn {T : List (Addr × Str)} (h : StoAt K H A lim past now fut) (t : LamX.Tabs T H) (e : SameN A H H') : LamX.Tabs T H' := fun p hp => by
  obtain ⟨ps, h1, h2, h3⟩ := t p hp
  have hk : ∀ b o, (∀ C dx fs, o ≠ .ins C dx fs) → (∀ φ, o ≠ .ext φ) → H b = some o → H' b = some o := fun b o n1 n2 hb => e b o (fun z => by
      obtain ⟨dx, t, ad, hi, _⟩ := h.ins
      rw [z, hi] at hb
      exact n1 _ _ _ (Option.some.inj hb).symm) (fun z => by
      obtain ⟨l, hl, _⟩ := h.und
      rw [z, hl] at hb
      exact hid_ext n2 (Option.some.inj hb)) (fun z => by
      obtain ⟨l, hl, _⟩ := h.red
      rw [z, hl] at hb
      exact hid_ext n2 (Option.some.inj hb)) hb
  refine ⟨ps, hk _ _ (fun _ _ _ z => nomatch z) (fun _ z => nomatch z) h1, h2, fun pos cv hc => ?_⟩
  obtain ⟨c, e1, e2⟩ := h3 pos cv hc
  refine ⟨c, e1, e c _ (fun z => ?_) (fun z => ?_) (fun z => ?_) e2⟩
  · obtain ⟨dx, t, ad, hi, _⟩ := h.ins
    rw [z, hi] at e2
    cases e2
  · obtain ⟨l, hl, _⟩ := h.und
    rw [z, hl] at e2
    exact code_ne_hid (Option.some.inj e2).symm
  · obtain ⟨l, hl, _⟩ := h.red
    rw [z, hl] at e2
    exact code_ne_hid (Option.some.inj e2).symm
theorem Src.x {s : Addr} (hs : Src H s) (h : StoAt K H A lim past now fut) (n : s ≠ A.c ∧ s ≠ A.ul ∧ s ≠ A.rd) (e : KeptX A H H') : Src H' s := by
  obtain ⟨c, ns, h1, h2⟩ := hs
  exact ⟨c, ns, e _ _ n.1 n.2.1 n.2.2 hid_tbl h1, (h.keepX e).ls h2⟩
end
theorem cn1 : Nice 0 (.str "NameInUse") := ⟨by decide +kernel, by decide +kernel⟩
theorem cn2 : Nice 0 (.str "CapacityReached") := ⟨by decide +kernel, by decide +kernel⟩
theorem cn3 : Nice 0 (.str "TooManyTerms") := ⟨by decide +kernel, by decide +kernel⟩
theorem cn4 : Nice 0 (.str "UnknownRule") := ⟨by decide +kernel, by decide +kernel⟩
theorem cn5 : Nice 0 (.str "UnknownQuestion") := ⟨by decide +kernel, by decide +kernel⟩
theorem fld_of {lim : Nat} {ds : List PyData} {qs : Qs} {c : Cmd} {e : SErr} (h : afterD lim ds qs c = .error e) : FldOf e.code (fldN e.code) ∧ e.code ≠ "" ∧ Nice 0 (.str e.code) ∧ ((∃ z, e.fld = .str z ∧ z = c.nm) ∨ ∃ n : Nat, e.fld = .int n) := by
  have many : ∀ {ds qs}, chkD ds qs = .error e → FldOf e.code (fldN e.code) ∧ e.code ≠ "" ∧ Nice 0 (.str e.code) ∧ ((∃ z, e.fld = .str z ∧ z = c.nm) ∨ ∃ n : Nat, e.fld = .int n) := fun {ds qs} h => by
    unfold chkD at h
    cases z : termsD ds qs with
    | none => rw [z] at h; cases h
    | some n =>
      rw [z] at h
      cases h
      exact ⟨.TooManyTerms, (by decide : ("TooManyTerms" : Str) ≠ ""), cn3, .inr ⟨n, rfl⟩⟩
  cases c with
  | add nm l r =>
    dsimp only [afterD] at h
    split at h
    · cases h; exact ⟨.NameInUse, (by decide : ("NameInUse" : Str) ≠ ""), cn1, .inl ⟨_, rfl, rfl⟩⟩
    · split at h
      · cases h; exact ⟨.CapacityReached, (by decide : ("CapacityReached" : Str) ≠ ""), cn2, .inr ⟨_, rfl⟩⟩
      · exact many h
  | put nm l r =>
    dsimp only [afterD] at h
    split at h
    · exact many h
    · cases h; exact ⟨.UnknownRule, (by decide : ("UnknownRule" : Str) ≠ ""), cn4, .inl ⟨_, rfl, rfl⟩⟩
  | drop nm =>
    dsimp only [afterD] at h
    split at h
    · cases h
    · cases h; exact ⟨.UnknownRule, (by decide : ("UnknownRule" : Str) ≠ ""), cn4, .inl ⟨_, rfl, rfl⟩⟩
  | ask nm l r =>
    dsimp only [afterD] at h
    split at h
    · cases h; exact ⟨.NameInUse, (by decide : ("NameInUse" : Str) ≠ ""), cn1, .inl ⟨_, rfl, rfl⟩⟩
    · split at h
      · cases h; exact ⟨.CapacityReached, (by decide : ("CapacityReached" : Str) ≠ ""), cn2, .inr ⟨8, rfl⟩⟩
      · exact many h
  | forget nm =>
    dsimp only [afterD] at h
    split at h
    · cases h
    · cases h; exact ⟨.UnknownQuestion, (by decide : ("UnknownQuestion" : Str) ≠ ""), cn5, .inl ⟨_, rfl, rfl⟩⟩
/-- the datum of what is refused -/
def refD : Except SErr Sc → PyData
  | .ok _ => .tuple [.str "", .none]
  | .error e => .tuple [.str e.code, e.fld]
theorem ref_dp {K : PySem.W.Frag} {H : Hp} {lim : Nat} {ds : List PyData} {qs : Qs} {c : Cmd} {p : Addr} (h : H p = some (.tup (refV (afterD lim ds qs c)))) : Dp K H (.ref p) (refD (afterD lim ds qs c)) := by
  cases e : afterD lim ds qs c with
  | ok st => rw [e] at h; exact .tup (SqT.of h) (.cons (.str _) (.cons .non .nil))
  | error x =>
    rw [e] at h
    obtain ⟨_, _, _, hf⟩ := fld_of e
    refine .tup (SqT.of h) (.cons (.str _) (.cons ?_ .nil))
    obtain ⟨code, fld⟩ := x
    rcases hf with ⟨z, e2, _⟩ | ⟨n, e2⟩
    · cases e2; exact .str _
    · cases e2; exact .int _
theorem ref_nice {lim : Nat} {ds : List PyData} {qs : Qs} {c : Cmd} (hc : c.ok) : Nice 1 (refD (afterD lim ds qs c)) := by
  cases e : afterD lim ds qs c with
  | ok st => exact (⟨by decide +kernel, by decide +kernel⟩ : Nice 1 (.tuple [.str "", .none]))
  | error x =>
    obtain ⟨_, _, hn, hf⟩ := fld_of e
    obtain ⟨code, fld⟩ := x
    refine Nice.tuple (n := 0) (by simp) fun d hd => ?_
    simp only [List.mem_cons, List.not_mem_nil, or_false] at hd
    rcases hd with rfl | rfl
    · exact hn
    · rcases hf with ⟨z, e2, e3⟩ | ⟨n, e2⟩
      · cases e2; rw [e3]; exact vname_nice (cmd_nm hc)
      · cases e2; exact ⟨rfl, by simp [PyData.depth]⟩
section
variable {K : PySem.W.Frag} {H : Hp} {A : SAd} {past : List Sc} {st : Sc} {v : V} {c : Cmd} {T : List (Addr × Str)} {te tv : TE} {σ : L2.St} {Q : VK}
/-- refused_with(lambda: store.do(command)) -/
theorem do_told (hA : StoAt K H A 12 past st []) (hO : StOk 12 st.1 st.2) (hl : past.length < 10000) (hv : Tp K H v c.data) (hc : c.ok) (hT : LamX.Tabs T H) (h1 : ∀ H (R : VK), R (.ref A.c) H → te σ H R) (h2 : ∀ H (R : VK), R v H → tv σ H R)
    (qok : ∀ st', afterD 12 st.1 st.2 c = .ok st' → ∀ t0 H' rd, (∀ b u, (∀ ps, u ≠ HO.tbl ps) → H b = some u → b ≠ rd) → KeptX A H H' → LamX.Tabs T H' → StoAt K H' ⟨A.c, A.ul, rd⟩ 12 (past ++ [st]) st' [] → H' t0 = some (.tup (refV (.ok st'))) → Q (.ref t0) H')
    (qerr : ∀ e, afterD 12 st.1 st.2 c = .error e → ∀ p H', LamX.ExtN H H' → LamX.Tabs T H' → H' p = some (.tup (refV (.error e))) → Q (.ref p) H') :
    LamX.tLam T (TT_ref K) (fun E => tMeth (He.ga K "Store") "do" (spDo K) [] E te (tCons tv tNil)) σ H Q := by
  refine ⟨hT, fun H1 e1 t1 t0 ht0 => ?_⟩
  have e2 := e1.trans (sn_of (same_new ht0 (.tup [.str "", .non])))
  have t2 := t1.ext (same_new ht0 (.tup [.str "", .non]))
  have h02 : (upd H1 t0 (.tup [.str "", .non])) t0 = some (.tup [.str "", .non]) := upd_same
  show tMeth _ _ _ _ _ te (tCons tv tNil) σ (upd H1 t0 (.tup [.str "", .non])) _
  generalize upd H1 t0 (.tup [.str "", .non]) = H2 at e2 t2 h02 ⊢
  have hA2 := hA.x e2
  obtain ⟨dx, tt, ad, hi, _, _⟩ := hA2.ins
  refine h1 _ _ ⟨A.c, dx, _, rfl, hi, rfl, h2 _ _ ?_⟩
  refine ⟨A, 12, past, [], st, v, c, rfl, hA2, hO, Nat.le_refl _, hl, hv.up (KeptN.x e2).T, hc, fun st' he H' rd hrd eN hA' => ?_, fun e he => ?_⟩
  · have hrd0 : ∀ b u, (∀ ps, u ≠ HO.tbl ps) → H b = some u → b ≠ rd := fun b u n hb => ne_of_none (e2 _ _ hb n) hrd
    exact qok st' he t0 H' rd hrd0 ((KeptX.of e2).trans (KeptX.nn eN)) (tabs_nn hA2 t2 eN) hA' ((hA2.keep eN) _ _ (fun _ _ _ z => nomatch z) (fun _ z => nomatch z) (fun _ z => nomatch z) h02)
  · obtain ⟨hF, _, _, hf⟩ := fld_of he
    intro dd H' e' hd
    exact .inl ⟨e.code, fldN e.code, fldV e.fld, dd, hF, rfl, rfl, hd, fun p hp => qerr e he p _ (e2.trans (sn_of (e'.trans (same_new hp _)))) ((t2.ext e').ext (same_new hp _)) upd_same⟩
end
end FF
/-! k50: the law -/
namespace FF
open PySem PySem.Spec PyProof.Rows L2
def TBL (K : PySem.W.Frag) : List (Addr × Str) := [((He.cT K ("law", none)).2, (("law" : Str) ++ ".<locals>.") ++ "<lambda>")]
def spLaw (K : PySem.W.Frag) : Sp := fun vs H Q _ => ∃ (a : Addr) (ns : List Int), vs = [.ref a] ∧ SqL K H a (ns.map V.int) ∧ LamX.Tabs (TBL K) H ∧ ∀ H', Q (.bl true) H'
def CmdV (K : PySem.W.Frag) (H : Hp) (v : V) : Prop := ∃ c : Cmd, c.ok ∧ Tp K H v c.data
def CmdL (K : PySem.W.Frag) (H : Hp) (l : Addr) (n : Nat) : Prop := ∃ us : List V, H l = some (.lst us) ∧ us.length = n ∧ ∀ v ∈ us, CmdV K H v
section
variable {K : PySem.W.Frag} {H H' : Hp}
theorem CmdV.n {v : V} (h : CmdV K H v) (e : KeptN H H') : CmdV K H' v := let ⟨c, h1, h2⟩ := h; ⟨c, h1, h2.up e.T⟩
theorem CmdL.n {l : Addr} {n : Nat} (h : CmdL K H l n) (e : KeptN H H') : CmdL K H' l n := let ⟨us, h1, h2, h3⟩ := h; ⟨us, e.ls h1, h2, fun v hv => (h3 v hv).n e⟩
theorem CmdV.up {v : V} (h : CmdV K H v) (e : Same H H') : CmdV K H' v := h.n (.of e)
theorem CmdL.up {l : Addr} {n : Nat} (h : CmdL K H l n) (e : Same H H') : CmdL K H' l n := h.n (.of e)
theorem cut_take (xs : List V) (n : Nat) : cutV xs none (some (n : Int)) = xs.take n := by
  unfold cutV
  rw [show HT.sIx xs.length xs.length (some (n : Int)) = min n xs.length from HT.sIx_nat _ _ n, HT.sIx_none, List.drop_zero, Nat.sub_zero, List.take_eq_take_iff]
  omega
theorem cmd_two {p : Addr} {c : Cmd} {a b : Str} (h : H p = some (.tup [.str a, .str b])) (e : c.data = .tuple [.str a, .str b]) (ok : c.ok) : CmdV K H (.ref p) := ⟨c, ok, by rw [e]; exact .tup (.inl h) (.cons (.str _) (.cons (.str _) .nil))⟩
theorem cmd_four {p : Addr} {c : Cmd} {a b : Str} {vl vr : V} {l r : PyData} (h : H p = some (.tup [.str a, .str b, vl, vr])) (hl : Tp K H vl l) (hr : Tp K H vr r) (e : c.data = .tuple [.str a, .str b, l, r]) (ok : c.ok) : CmdV K H (.ref p) := ⟨c, ok, by rw [e]; exact .tup (.inl h) (.cons (.str _) (.cons (.str _) (.cons hl (.cons hr .nil))))⟩
end
theorem let_term {z : Str} (h : isLet (.str z) = true) (hf : fitsB (.str z) = true) : TermD (.str z) := ⟨.inl h, hf, (drawn_nice (n := 0) h).mono (by decide)⟩
theorem ta : TermD (.str "a") := let_term (by decide +kernel) (by decide +kernel)
theorem tb : TermD (.str "b") := let_term (by decide +kernel) (by decide +kernel)
theorem tc : TermD (.str "c") := let_term (by decide +kernel) (by decide +kernel)
theorem two_term {o x y : Str} (ho : isOp (.str o) = true) (hx : isLet (.str x) = true) (hy : isLet (.str y) = true) (hf : fitsB (.tuple [.str o, .str x, .str y]) = true) : TermD (.tuple [.str o, .str x, .str y]) := by
  have hd : Drawn 4 (.tuple [.str o, .str x, .str y]) := by
    refine .inr ⟨.str o, [.str x, .str y], rfl, ho, by simp, by simp, fun p hp => ?_⟩
    rcases List.mem_cons.mp hp with rfl | hp
    · exact .inl hx
    · rw [List.mem_singleton.mp hp]; exact .inl hy
  exact ⟨hd, hf, (drawn_nice hd).mono (by decide)⟩
theorem tab1 : TermD (.tuple [.str "&", .str "a", .str "b"]) := two_term (by decide +kernel) (by decide +kernel) (by decide +kernel) (by decide +kernel)
theorem tab2 : TermD (.tuple [.str "|", .str "a", .str "b"]) := two_term (by decide +kernel) (by decide +kernel) (by decide +kernel) (by decide +kernel)
theorem tah : TermD (.tuple [.str "&", .str "a", .str "h"]) := two_term (by decide +kernel) (by decide +kernel) (by decide +kernel) (by decide +kernel)
theorem thirteen : ∀ {ss : List Str}, ss.length = 13 → ∃ z0 z1 z2 z3 z4 z5 z6 z7 z8 z9 z10 z11 z12, ss = [z0, z1, z2, z3, z4, z5, z6, z7, z8, z9, z10, z11, z12]
  | [z0, z1, z2, z3, z4, z5, z6, z7, z8, z9, z10, z11, z12], _ => ⟨z0, z1, z2, z3, z4, z5, z6, z7, z8, z9, z10, z11, z12, rfl⟩
theorem zyx : isNameS "zyxwvu" = true := by decide +kernel
theorem st_zero : StOk 12 [] [] := ⟨fun _ h => (nomatch h), by simp, by simp, fun _ h => (nomatch h), by simp, by simp⟩
theorem few_zero : termsD [] [] = none := by decide +kernel
/-- a store and the law's own state of it -/
structure L50 (K : PySem.W.Frag) (H : Hp) (s : Addr) (A : SAd) (past : List Sc) (st : Sc) (t : Addr) : Prop where
  src : Src H s
  ne : s ≠ A.c ∧ s ≠ A.ul ∧ s ≠ A.rd
  sto : StoAt K H A 12 past st []
  ok : StOk 12 st.1 st.2
  few : termsD st.1 st.2 = none
  nm : ∀ q ∈ st.2, isNameS q.1 = true
  sc : ∃ rl qd us kvs, ScV K H t rl qd us kvs st.1 st.2
  tabs : LamX.Tabs (TBL K) H
theorem L50.up {K : PySem.W.Frag} {H H' : Hp} {s : Addr} {A : SAd} {past : List Sc} {st : Sc} {t : Addr} (h : L50 K H s A past st t) (e : Same H H') : L50 K H' s A past st t :=
  ⟨h.src.up e, h.ne, h.sto.up e, h.ok, h.few, h.nm, let ⟨rl, qd, us, kvs, g⟩ := h.sc; ⟨rl, qd, us, kvs, g.up e⟩, h.tabs.ext e⟩
theorem L50.x {K : PySem.W.Frag} {H H' : Hp} {s : Addr} {A : SAd} {past : List Sc} {st : Sc} {t : Addr} (h : L50 K H s A past st t) (e : LamX.ExtN H H') (tt : LamX.Tabs (TBL K) H') : L50 K H' s A past st t :=
  ⟨h.src.x h.sto h.ne (.of e), h.ne, h.sto.x e, h.ok, h.few, h.nm, let ⟨rl, qd, us, kvs, g⟩ := h.sc; ⟨rl, qd, us, kvs, g.n (.x e)⟩, tt⟩
/-- another store's step leaves it -/
theorem L50.o {K : PySem.W.Frag} {H H' : Hp} {s : Addr} {A B : SAd} {past past' : List Sc} {st st' : Sc} {t t' : Addr} (h : L50 K H s B past st t) (g : L50 K H s A past' st' t') (d : DisA B A) (e : KeptX A H H') (tt : LamX.Tabs (TBL K) H') : L50 K H' s B past st t :=
  ⟨g.src.x g.sto g.ne e, h.ne, h.sto.o d e (g.sto.keepX e), h.ok, h.few, h.nm, let ⟨rl, qd, us, kvs, z⟩ := h.sc; ⟨rl, qd, us, kvs, z.n (g.sto.keepX e)⟩, tt⟩
theorem ne_src {K : PySem.W.Frag} {H : Hp} {s : Addr} {A : SAd} {past : List Sc} {st : Sc} {t rd : Addr} (h : L50 K H s A past st t) (n : ∀ b u, (∀ ps, u ≠ HO.tbl ps) → H b = some u → b ≠ rd) : s ≠ rd := by
  obtain ⟨c, ns, h1, h2⟩ := h.src
  exact n _ _ hid_tbl h1
theorem names_after {lim : Nat} {ds : List PyData} {qs : Qs} {c : Cmd} {st : Sc} (hc : c.ok) (hn : ∀ q ∈ qs, isNameS q.1 = true) (e : afterD lim ds qs c = .ok st) : ∀ q ∈ st.2, isNameS q.1 = true := by
  obtain ⟨rfl, _⟩ := after_next e
  cases c with
  | add nm l r => exact hn
  | put nm l r => exact hn
  | drop nm => exact hn
  | ask nm l r =>
    intro q hq
    rcases List.mem_append.mp hq with hq | hq
    · exact hn q hq
    · rw [List.mem_singleton.mp hq]; exact hc.1
  | forget nm => exact fun q hq => hn q (List.mem_filter.mp hq).1
def PairV (K : PySem.W.Frag) (H : Hp) (v : V) : Prop := ∃ ga vl vr l r, v = .ref ga ∧ SqT K H ga [vl, vr] ∧ Tp K H vl l ∧ Tp K H vr r ∧ TermD l ∧ TermD r
theorem PairV.up {K : PySem.W.Frag} {H H' : Hp} {v : V} (h : PairV K H v) (e : Same H H') : PairV K H' v := by
  obtain ⟨ga, vl, vr, l, r, rfl, h1, h2, h3, h4, h5⟩ := h
  exact ⟨ga, vl, vr, l, r, rfl, up_t e h1, h2.up (Same.T e), h3.up (Same.T e), h4, h5⟩
theorem mem_cut {xs : List V} {lo hi : Option Int} {v : V} (h : v ∈ cutV xs lo hi) : v ∈ xs := List.mem_of_mem_drop (List.mem_of_mem_take h)
theorem dis_new {K : PySem.W.Frag} {H : Hp} {B : SAd} {lim : Nat} {past fut : List Sc} {now : Sc} {c ul rd : Addr} (h : StoAt K H B lim past now fut) (h1 : H c = none) (h2 : H ul = none) (h3 : H rd = none) : DisA B ⟨c, ul, rd⟩ := by
  obtain ⟨⟨dx, t, ad, hi, hs, had⟩, ⟨lu, hu, hus⟩, ⟨lr, hr, hrs⟩, ne⟩ := h
  exact ⟨⟨ne_of_none hi h1, ne_of_none hi h2, ne_of_none hi h3⟩, ⟨ne_of_none hu h1, ne_of_none hu h2, ne_of_none hu h3⟩, ⟨ne_of_none hr h1, ne_of_none hr h2, ne_of_none hr h3⟩⟩
theorem kn_same {H H' : Hp} (e : Same H H') : KeptN H H' := .of e
theorem mk_store {H1 H2 : Hp} {x dx ul : Addr} {o u : HO} (hx : H1 x = none) (hdx : H1 dx = none) (sB : SameB x (upd (upd H1 dx u) x o) H2) : Same H1 H2 := fun b v hb => sB b v (ne_of_none hb hx) (by rw [upd_ne (ne_of_none hb hx), upd_ne (ne_of_none hb hdx)]; exact hb)
theorem mk_none {H1 : Hp} {x dx ul : Addr} {o u : HO} (hx : H1 x = none) (hdx : H1 dx = none) (h : (upd (upd H1 dx u) x o) ul = none) : H1 ul = none := by
  cases z : H1 ul with
  | none => rfl
  | some v => rw [upd_ne (ne_of_none z hx), upd_ne (ne_of_none z hdx), z] at h; cases h
section
variable {P : Program} {w : World} {K : PySem.W.Frag} {mg : Str → Option Value} {base : Heap}
theorem ok_law {gR : Addr} {fd fdR : FuncData} (F : FunD K "law" "law" (defArgs s_law) (defBody s_law) (defScope s_law) [] [] (He.fAd K ("law", none)) fd) (T : Top K mg)
    (TB : LamX.TabB base mg (He.codeOf K ("law", none)) (He.cT K ("law", none)).2)
    (F_law_refused_with : FunD K "_law_refused_with" "_law_refused_with" (defArgs s_law_refused_with) (defBody s_law_refused_with) (defScope s_law_refused_with) [] [] gR fdR) (m_law_refused_with : mg "_law_refused_with" = some (.ref gR))
    (M_Store : MakeD P w K mg base "Store" 1 ["self"] (spStoInit K)) (D_Store_do : MethX P w K mg base "Store" "do" 22 ["self", "command"] (spDo K))
    (D_law_source : Def P w K mg base "_law_source" 1 ["_law_script"] (spSource K)) (D_law_names : Def P w K mg base "_law_names" 3 ["_law_source_here", "_law_many"] (spNamesG K)) (D_law_pick : Def P w K mg base "_law_pick" 2 ["_law_source_here", "_law_row"] (spPick K))
    (D_law_take : Def P w K mg base "_law_take" 1 ["_law_source_here", "_law_many"] spTake) (D_law_mixed : Def P w K mg base "_law_mixed" 2 ["_law_source_here", "_law_row"] (spMixed K))
    (D_law_wide : Def P w K mg base "_law_wide" 1 ["_law_at"] (spWide K)) (D_law_refusal : Def P w K mg base "_law_refusal" 14 ["_law_state", "_law_command", "_law_most"] (spRefusal K)) (D_law_next : Def P w K mg base "_law_next" 1 ["_law_state", "_law_command"] (spNext K))
    (D_law_same : Def P w K mg base "_law_same" 12 ["_law_found", "_law_due"] (spSameV K 12)) (D_law_store_so : Def P w K mg base "_law_store_so" 13 ["_law_place", "_law_state"] (spStoSo K)) :
    FnOk P w K mg base CX0 26 (He.fAd K ("law", none)) fd ["_law_script"] (spLaw K) := by
  have b_law_refused_with : Binds K fdR ["_law_ask"] [] := F_law_refused_with.bindsN fun _ _ _ _ _ _ us hl => match us, hl with | [_], _ => rfl
  refine fn_mkC F sc_law (fun vs H Q E h => ?_) (fun cdv A0 outer s H vs Q E ec hr h => ?_)
  · obtain ⟨a, ns, rfl, _⟩ := h
    rfl
  subst ec
  obtain ⟨a, ns, rfl, hS, hT, q⟩ := h
  refine ⟨_, (pss_cons (ps_set (i := 1) sc_law.nd rfl (Or.inr rfl) (pe_def D_law_source hr (by first | decide | omega) (pa_cons (pv 0) pa_nil)))
  (pss_cons (ps_asg (pe_tup (pa_cons (pe_mkd0 M_Store hr (by first | decide | omega)) (pa_cons (pe_tup (pa_cons (pe_lst pa_nil) (pa_cons pe_dnewK pa_nil))) pa_nil))) (pg_tupK K (n := 2) rfl (pgs_cons (pg_name (i := 2) sc_law.nd rfl (Or.inr rfl) (.inl rfl)) (pgs_cons (pg_name (i := 3) sc_law.nd rfl (Or.inl rfl) (.inl rfl)) pgs_nil))))
  (pss_cons (ps_set (i := 4) sc_law.nd rfl (Or.inl rfl) (pe_def D_law_names hr (by first | decide | omega) (pa_cons (pv 1) (pa_cons pe_int pa_nil))))
  (pss_cons (ps_set (i := 5) sc_law.nd rfl (Or.inr rfl) (pe_lst (pa_cons (pe_tup (pa_cons pe_str (pa_cons pe_str (pa_cons pe_str pa_nil)))) (pa_cons (pe_tup (pa_cons pe_str (pa_cons pe_str (pa_cons pe_str pa_nil)))) (pa_cons pe_str (pa_cons pe_str pa_nil))))))
  (pss_cons (ps_setLc (i := 6) (own := [("_law_name", 7)]) rfl sc_law.nd rfl rfl (sw_true rfl rfl rfl (by kernel_rfl)) (pi_listK K (pv 4)) (blkOk_by (by kernel_rfl)) (fun _ _ _ _ _ => (pg_name (i := 7) sc_law.nd rfl (Or.inl rfl) (.inr rfl))) (fun _ _ _ _ _ => pts_nil) (fun _ _ _ _ _ => (pe_tup (pa_cons pe_str (pa_cons (pv 7) (pa_cons (pe_def D_law_pick hr (by first | decide | omega) (pa_cons (pv 1) (pa_cons (pv 5) pa_nil))) (pa_cons (pe_def D_law_pick hr (by first | decide | omega) (pa_cons (pv 1) (pa_cons (pv 5) pa_nil))) pa_nil)))))))
  (pss_cons (ps_set (i := 6) sc_law.nd rfl (Or.inl rfl) (pe_op op_cat (pv 6) (pe_lc (own := [("_law_name", 7)]) rfl sc_law.nd (pi_listK K (pe_slice (sl_listK K) (pv 4) po_none (po_some pe_int))) (blkOk_by (by kernel_rfl)) (fun _ _ _ _ _ => (pg_name (i := 7) sc_law.nd rfl (Or.inl rfl) (.inr rfl))) (fun _ _ _ _ _ => pts_nil) (fun _ _ _ _ _ => (pe_tup (pa_cons pe_str (pa_cons (pv 7) (pa_cons (pe_def D_law_pick hr (by first | decide | omega) (pa_cons (pv 1) (pa_cons (pv 5) pa_nil))) (pa_cons (pe_def D_law_pick hr (by first | decide | omega) (pa_cons (pv 1) (pa_cons (pv 5) pa_nil))) pa_nil)))))))))
  (pss_cons (ps_set (i := 6) sc_law.nd rfl (Or.inl rfl) (pe_op op_cat (pv 6) (pe_lst (pa_cons (pe_tup (pa_cons pe_str (pa_cons pe_str (pa_cons (pe_def D_law_wide hr (by first | decide | omega) (pa_cons pe_int pa_nil)) (pa_cons (pe_def D_law_wide hr (by first | decide | omega) (pa_cons pe_int pa_nil)) pa_nil))))) (pa_cons (pe_tup (pa_cons pe_str (pa_cons (pe_ix (ix_listK K) (pv 4) pe_int (fun _ _ => rfl)) pa_nil))) (pa_cons (pe_tup (pa_cons pe_str (pa_cons (pe_ix (ix_listK K) (pv 4) pe_int (fun _ _ => rfl)) pa_nil))) pa_nil))))))
  (pss_cons (ps_set (i := 6) sc_law.nd rfl (Or.inl rfl) (pe_op op_cat (pv 6) (pe_lst (pa_cons (pe_tup (pa_cons pe_str (pa_cons (pe_ix (ix_listK K) (pv 4) pe_int (fun _ _ => rfl)) (pa_cons (pe_def D_law_wide hr (by first | decide | omega) (pa_cons pe_int pa_nil)) (pa_cons pe_str pa_nil))))) (pa_cons (pe_tup (pa_cons pe_str (pa_cons (pe_ix (ix_listK K) (pv 4) pe_int (fun _ _ => rfl)) (pa_cons (pe_def D_law_wide hr (by first | decide | omega) (pa_cons pe_int pa_nil)) (pa_cons pe_str pa_nil))))) (pa_cons (pe_tup (pa_cons pe_str (pa_cons pe_str (pa_cons pe_str (pa_cons pe_str pa_nil))))) pa_nil))))))
  (pss_cons (ps_set (i := 6) sc_law.nd rfl (Or.inl rfl) (pe_op op_cat (pv 6) (pe_lst (pa_cons (pe_tup (pa_cons pe_str (pa_cons (pe_ix (ix_listK K) (pv 4) pe_int (fun _ _ => rfl)) (pa_cons (pe_def D_law_wide hr (by first | decide | omega) (pa_cons pe_int pa_nil)) (pa_cons (pe_def D_law_wide hr (by first | decide | omega) (pa_cons pe_int pa_nil)) pa_nil))))) (pa_cons (pe_tup (pa_cons pe_str (pa_cons (pe_ix (ix_listK K) (pv 4) pe_int (fun _ _ => rfl)) pa_nil))) (pa_cons (pe_tup (pa_cons pe_str (pa_cons (pe_ix (ix_listK K) (pv 4) pe_int (fun _ _ => rfl)) (pa_cons (pe_def D_law_wide hr (by first | decide | omega) (pa_cons pe_int pa_nil)) (pa_cons pe_str pa_nil))))) pa_nil))))))
  (pss_cons (ps_set (i := 8) sc_law.nd rfl (Or.inl rfl) (pe_rev2 K (pe_lst (pa_cons (pe_tup (pa_cons (pe_def D_law_wide hr (by first | decide | omega) (pa_cons pe_int pa_nil)) (pa_cons pe_str pa_nil))) (pa_cons (pe_tup (pa_cons (pe_def D_law_wide hr (by first | decide | omega) (pa_cons pe_int pa_nil)) (pa_cons (pe_tup (pa_cons pe_str (pa_cons pe_str (pa_cons pe_str pa_nil)))) pa_nil))) pa_nil))) (po_some (pe_op op_sub pe_int (pe_op op_mul pe_int (pe_def D_law_take hr (by first | decide | omega) (pa_cons (pv 1) (pa_cons pe_int pa_nil))))))))
  (pss_cons (ps_asg (pe_tup (pa_cons (pe_mkd0 M_Store hr (by first | decide | omega)) (pa_cons (pe_tup (pa_cons (pe_lst pa_nil) (pa_cons pe_dnewK pa_nil))) pa_nil))) (pg_tupK K (n := 2) rfl (pgs_cons (pg_name (i := 9) sc_law.nd rfl (Or.inr rfl) (.inl rfl)) (pgs_cons (pg_name (i := 10) sc_law.nd rfl (Or.inl rfl) (.inl rfl)) pgs_nil))))
  (pss_cons (ps_for PassesOwn.never rfl (pi_listK K (pe_lst (pa_cons (pe_op op_catT (pe_tup (pa_cons pe_str (pa_cons (pe_ix (ix_listK K) (pv 4) pe_int (fun _ _ => rfl)) pa_nil))) (pe_ix (ix_listK K) (pv 8) pe_int (fun _ _ => rfl))) (pa_cons (pe_op op_catT (pe_tup (pa_cons pe_str (pa_cons (pe_ix (ix_listK K) (pv 4) pe_int (fun _ _ => rfl)) pa_nil))) (pe_ix (ix_listK K) (pv 8) pe_int (fun _ _ => rfl))) (pa_cons (pe_tup (pa_cons pe_str (pa_cons (pe_ix (ix_listK K) (pv 4) pe_int (fun _ _ => rfl)) (pa_cons (pe_def D_law_wide hr (by first | decide | omega) (pa_cons pe_int pa_nil)) (pa_cons pe_str pa_nil))))) pa_nil))))) (pg_name (i := 11) sc_law.nd rfl (Or.inr rfl) (.inl rfl))
  (pss_cons (ps_set (i := 12) sc_law.nd rfl (Or.inl rfl) (pe_def D_law_refusal hr (by first | decide | omega) (pa_cons (pv 10) (pa_cons (pv 11) (pa_cons pe_int pa_nil)))))
  (pss_cons (ps_if (pt_not (pt_val (pe_def D_law_same hr (by first | decide | omega) (pa_cons (pe_lamS (by rfl) m_law_refused_with F_law_refused_with b_law_refused_with sc_law_refused_with rfl (Or.inl rfl) (fun cdg => gives_law_refused_with T) TB rfl rfl hr (lam_by (st := s_law) rfl (by decide +kernel)) rfl (fun _ _ _ _ _ => rfl) (fun A1 outer1 s1 H1 E1 f1 c1 hr1 => (pe_methxK K (E := E1) D_Store_do (takes_of rfl rfl rfl rfl) (fun _ _ _ _ h => h) hr1 (by first | decide | omega) (pv 9) (pa_cons (pv 11) pa_nil)))) (pa_cons (pv 12) pa_nil)))))
  (pss_one (ps_ret pe_bl))
  pss_nil)
  (pss_one (ps_set (i := 10) sc_law.nd rfl (Or.inl rfl) (pe_ifExp (pt_cmpR op_eq (pe_ix (ix_tupK K) (pv 12) pe_int (fun _ _ => rfl)) pe_str (nomark _)) (pe_def D_law_next hr (by first | decide | omega) (pa_cons (pv 10) (pa_cons (pv 11) pa_nil))) (pv 10)))))))
  (pss_cons (ps_set (i := 13) sc_law.nd rfl (Or.inl rfl) (pe_def D_law_take hr (by first | decide | omega) (pa_cons (pv 1) (pa_cons pe_int pa_nil))))
  (pss_cons (ps_for PassesOwn.never rfl (pi_listK K (pe_op op_cat (pe_op op_cat (pe_slice (sl_listK K) (pv 6) po_none (po_some (pe_op op_add pe_int (pv 13)))) (pe_def D_law_mixed hr (by first | decide | omega) (pa_cons (pv 1) (pa_cons (pe_slice (sl_listK K) (pv 6) (po_some (pe_op op_add pe_int (pv 13))) po_none) pa_nil)))) (pe_slice (sl_listK K) (pv 6) (po_some (pe_un un_neg pe_int)) po_none))) (pg_name (i := 11) sc_law.nd rfl (Or.inr rfl) (.inl rfl))
  (pss_cons (ps_set (i := 12) sc_law.nd rfl (Or.inl rfl) (pe_def D_law_refusal hr (by first | decide | omega) (pa_cons (pv 3) (pa_cons (pv 11) (pa_cons pe_int pa_nil)))))
  (pss_cons (ps_if (pt_not (pt_val (pe_def D_law_same hr (by first | decide | omega) (pa_cons (pe_lamS (by rfl) m_law_refused_with F_law_refused_with b_law_refused_with sc_law_refused_with rfl (Or.inl rfl) (fun cdg => gives_law_refused_with T) TB rfl rfl hr (lam_by (st := s_law) rfl (by decide +kernel)) rfl (fun _ _ _ _ _ => rfl) (fun A1 outer1 s1 H1 E1 f1 c1 hr1 => (pe_methxK K (E := E1) D_Store_do (takes_of rfl rfl rfl rfl) (fun _ _ _ _ h => h) hr1 (by first | decide | omega) (pv 2) (pa_cons (pv 11) pa_nil)))) (pa_cons (pv 12) pa_nil)))))
  (pss_one (ps_ret pe_bl))
  pss_nil)
  (pss_cons (ps_set (i := 3) sc_law.nd rfl (Or.inl rfl) (pe_ifExp (pt_cmpR op_eq (pe_ix (ix_tupK K) (pv 12) pe_int (fun _ _ => rfl)) pe_str (nomark _)) (pe_def D_law_next hr (by first | decide | omega) (pa_cons (pv 3) (pa_cons (pv 11) pa_nil))) (pv 3)))
  (pss_one (ps_if (pt_not (pt_val (pe_def D_law_store_so hr (by first | decide | omega) (pa_cons (pv 2) (pa_cons (pv 3) pa_nil)))))
  (pss_one (ps_ret pe_bl))
  pss_nil))))))
  (pss_one (ps_ret pe_bl)))))))))))))))), ?_⟩
  refine ⟨_, rfl, a, ns, rfl, hS, fun s H1 e1 hs1 => ?_⟩
  refine fun x dx hx hdx hne => ⟨x, dx, rfl, upd_same, fun H2 ul rd sB hul hrd hA => ⟨rfl, ?_⟩⟩
  have e2 := mk_store (ul := ul) hx hdx sB
  have nul := mk_none hx hdx hul
  have nrd := mk_none hx hdx hrd
  have hs2 := hs1.up e2
  have ns : s ≠ x ∧ s ≠ ul ∧ s ≠ rd := by
    obtain ⟨c, ns, h1, h2⟩ := hs1
    exact ⟨ne_of_none h1 hx, ne_of_none h1 nul, ne_of_none h1 nrd⟩
  have hT2 := (hT.ext e1).ext e2
  clear sB hul hrd nul nrd hs1 hT hx hdx hne
  refine ⟨(by show 0 ≤ sizeLine; decide), fun L hL => fun D hD => ⟨(by show 2 ≤ sizeLine; decide), fun t ht => ⟨(by show 2 ≤ sizeLine; decide), fun p hp => ⟨p, _, rfl, SqT.of upd_same, rfl, _, _, rfl, _, _, rfl, rfl, ?_⟩⟩⟩⟩
  have g1 := same_new hL (.lst [])
  have g2 := same_new hD (.dK [])
  have g3 := same_new ht (.tup [V.ref L, V.ref D])
  have g4 := same_new hp (.tup [V.ref x, V.ref t])
  have sc3 : ScV K (upd (upd (upd (upd H2 L (.lst [])) D (.dK [])) t (.tup [V.ref L, V.ref D])) p (.tup [V.ref x, V.ref t])) t L D [] [] [] [] := ⟨SqT.of (g4 _ _ upd_same), g4 _ _ (g3 _ _ (g2 _ _ upd_same)), .nil, g4 _ _ (g3 _ _ upd_same), .nil⟩
  have g := g1.trans (g2.trans (g3.trans g4))
  generalize upd (upd (upd (upd H2 L (.lst [])) D (.dK [])) t (.tup [V.ref L, V.ref D])) p (.tup [V.ref x, V.ref t]) = H3 at sc3 g ⊢
  show tSeq _ _ _ [some (.ref a), some (.ref s), some (.ref x), some (.ref t), none, none, none, none, none, none, none, none, none, none] H3
  have X3 : L50 K H3 s ⟨x, ul, rd⟩ [] ([], []) t := ⟨hs2.up g, ns, hA.up g, st_zero, few_zero, fun _ h => (nomatch h), ⟨L, D, [], [], sc3⟩, hT2.ext g⟩
  clear sc3 g1 g2 g3 g4 g hL hD ht hp hA hs2 hT2 ns e2 e1
  refine ⟨_, rfl, s, 13, rfl, X3.src, by decide, fun r ss H4 e4 hn hr4 hl13 hnm hnd hz => ?_⟩
  have X4 := X3.up e4
  clear X3 e4 hn hz
  refine ⟨(by show 3 ≤ sizeLine; decide), fun t1 ht1 => ⟨(by show 3 ≤ sizeLine; decide), fun t2 ht2 => ⟨(by show 4 ≤ sizeLine; decide), fun sm hsm => ?_⟩⟩⟩
  have g1 := same_new ht1 (.tup [V.str "&", V.str "a", V.str "b"])
  have g2 := same_new ht2 (.tup [V.str "|", V.str "a", V.str "b"])
  have g3 := same_new hsm (.lst [V.ref t1, V.ref t2, V.str "a", V.str "b"])
  have g := g1.trans (g2.trans g3)
  have k1 := g3 _ _ (g2 _ _ (upd_same (H := H4) (a := t1) (o := .tup [V.str "&", V.str "a", V.str "b"])))
  have k2 := g3 _ _ (upd_same (H := upd H4 t1 (.tup [V.str "&", V.str "a", V.str "b"])) (a := t2) (o := .tup [V.str "|", V.str "a", V.str "b"]))
  have k3 : (upd (upd (upd H4 t1 (.tup [V.str "&", V.str "a", V.str "b"])) t2 (.tup [V.str "|", V.str "a", V.str "b"])) sm (.lst [V.ref t1, V.ref t2, V.str "a", V.str "b"])) sm = some (.lst [V.ref t1, V.ref t2, V.str "a", V.str "b"]) := upd_same
  have r5 := g _ _ hr4
  generalize upd (upd (upd H4 t1 (.tup [V.str "&", V.str "a", V.str "b"])) t2 (.tup [V.str "|", V.str "a", V.str "b"])) sm (.lst [V.ref t1, V.ref t2, V.str "a", V.str "b"]) = H5 at g k1 k2 k3 r5 ⊢
  have X5 := X4.up g
  have hsm5 : ∀ v ∈ [V.ref t1, V.ref t2, V.str "a", V.str "b"], ∃ d, TermD d ∧ Tp K H5 v d := fun v hv => by
    simp only [List.mem_cons, List.not_mem_nil, or_false] at hv
    rcases hv with rfl | rfl | rfl | rfl
    · exact ⟨_, tab1, .tup (.inl k1) (.cons (.str _) (.cons (.str _) (.cons (.str _) .nil)))⟩
    · exact ⟨_, tab2, .tup (.inl k2) (.cons (.str _) (.cons (.str _) (.cons (.str _) .nil)))⟩
    · exact ⟨_, ta, .str _⟩
    · exact ⟨_, tb, .str _⟩
  clear X4 g1 g2 g3 g k1 k2 hr4 ht1 ht2 hsm
  have pick : ∀ {H : Hp} {Q : VK}, Same H5 H → (∀ v d, TermD d → Tp K H v d → Q v H) → spPick K [.ref s, .ref sm] H Q E0 := fun {H Q} e k => ⟨s, sm, _, rfl, X5.src.up e, SqL.of (e _ _ k3), by simp, by simp, fun v hv => by
    obtain ⟨d, h1, h2⟩ := hsm5 v hv
    exact k v d h1 (h2.up (Same.T e))⟩
  refine ⟨_, rfl, r, rfl, ⟨_, SqL.of r5⟩, fun C1 hC1 => ?_⟩
  refine lc_mapL (j := 7) (fun i y H' => CmdV K H' y) (fun i y Ha Hb e ⟨c, h1, h2⟩ => ⟨c, h1, h2.up e⟩) hC1 (SqL.of r5) (le_line (by rw [List.length_map, hl13]; decide)) (fun _ => rfl) ?_ ?_
  · intro i y H' hy e Q' k'
    rw [List.getElem?_map] at hy
    obtain ⟨z, hz, rfl⟩ := Option.map_eq_some_iff.mp hy
    have hzn := hnm z (List.mem_of_getElem? hz)
    refine ⟨_, rfl, _, rfl, _, rfl, ?_⟩
    dsimp only [tNil]
    refine pick e fun v1 d1 hd1 ht1 => ⟨_, rfl, _, rfl, ?_⟩
    dsimp only [tNil]
    refine pick e fun v2 d2 hd2 ht2 => ⟨(by show 4 ≤ sizeLine; decide), fun p4 hp4 => k' _ _ (same_new hp4 _) (cmd_four (c := .add z d1 d2) upd_same (ht1.up (Same.T (same_new hp4 _))) (ht2.up (Same.T (same_new hp4 _))) rfl ⟨hzn, hd1, hd2⟩)⟩
  intro H6 us6 e6 hC6 hl6 hu6
  have r6 := e6 _ _ r5
  have hu6' : ∀ v ∈ us6, CmdV K H6 v := fun v hv => by
    obtain ⟨i, hi⟩ := List.getElem?_of_mem hv
    exact hu6 i v hi
  refine ⟨_, rfl, _, rfl, _, rfl, r, _, rfl, SqL.of r6, fun p9 hp9 => ?_⟩
  have e67 := same_new hp9 (.lst (cutV (ss.map V.str) none (some 9)))
  have e57 := e6.trans e67
  have h97 : (upd H6 p9 (.lst (cutV (ss.map V.str) none (some 9)))) p9 = some (.lst ((ss.take 9).map V.str)) := by rw [upd_same, show cutV (ss.map V.str) none (some 9) = (ss.map V.str).take 9 from cut_take _ 9, List.map_take]
  have hC7 := e67 _ _ hC6
  have r7 := e67 _ _ r6
  generalize upd H6 p9 (.lst (cutV (ss.map V.str) none (some 9))) = H7 at e67 e57 h97 hC7 r7 ⊢
  refine ⟨p9, rfl, ⟨_, SqL.of h97⟩, fun C2 hC2 => ?_⟩
  refine lc_mapL (j := 7) (fun i y H' => CmdV K H' y) (fun i y Ha Hb e ⟨c, h1, h2⟩ => ⟨c, h1, h2.up e⟩) hC2 (SqL.of h97) (le_line (by rw [List.length_map, List.length_take, hl13]; decide)) (fun _ => rfl) ?_ ?_
  · intro i y H' hy e Q' k'
    rw [List.getElem?_map] at hy
    obtain ⟨z, hz, rfl⟩ := Option.map_eq_some_iff.mp hy
    have hzn := hnm z (List.mem_of_mem_take (List.mem_of_getElem? hz))
    refine ⟨_, rfl, _, rfl, _, rfl, ?_⟩
    dsimp only [tNil]
    refine pick (e57.trans e) fun v1 d1 hd1 ht1 => ⟨_, rfl, _, rfl, ?_⟩
    dsimp only [tNil]
    refine pick (e57.trans e) fun v2 d2 hd2 ht2 => ⟨(by show 4 ≤ sizeLine; decide), fun p4 hp4 => k' _ _ (same_new hp4 _) (cmd_four (c := .ask z d1 d2) upd_same (ht1.up (Same.T (same_new hp4 _))) (ht2.up (Same.T (same_new hp4 _))) rfl ⟨hzn, hd1, hd2⟩)⟩
  intro H8 us8 e8 hC8 hl8 hu8
  have hu8' : ∀ v ∈ us8, CmdV K H8 v := fun v hv => by
    obtain ⟨i, hi⟩ := List.getElem?_of_mem hv
    exact hu8 i v hi
  have L6 : us6.length = 13 := by rw [hl6, List.length_map, hl13]
  have L8 : us8.length = 9 := by rw [hl8, List.length_map, List.length_take, hl13]; rfl
  refine ⟨C1, C2, us6, us8, rfl, rfl, e8 _ _ hC7, hC8, le_line (by rw [L6, L8]; decide), fun cl hcl => ?_⟩
  have e89 := same_new hcl (.lst (us6 ++ us8))
  have X9 := X5.up (e57.trans (e8.trans e89))
  have r9 := e89 _ _ (e8 _ _ r7)
  have Y9 : CmdL K (upd H8 cl (.lst (us6 ++ us8))) cl 22 := ⟨us6 ++ us8, upd_same, by rw [List.length_append, L6, L8], fun v hv => (List.mem_append.mp hv).elim (fun h => (((hu6' v h).up e67).up e8).up e89) fun h => (hu8' v h).up e89⟩
  clear pick k3 hsm5 X5 hC1 r5 hu6 r6 e6 hC6 hu6' hC7 r7 e67 e57 h97 hp9 hC2 hC8 hu8 hu8' e8 hl6 hl8 L6 L8
  generalize upd H8 cl (.lst (us6 ++ us8)) = H9 at e89 X9 r9 Y9 ⊢
  clear e89 hcl us6 us8 H8 H7 H6 H5 H4
  obtain ⟨z0, z1, z2, z3, z4, z5, z6, z7, z8, z9, z10, z11, z12, rfl⟩ := thirteen hl13
  have nz : ∀ z ∈ [z0, z1, z2, z3, z4, z5, z6, z7, z8, z9, z10, z11, z12], isNameS z = true := hnm
  have nz0 := nz z0 (by simp)
  have nz1 := nz z1 (by simp)
  have nz2 := nz z2 (by simp)
  have nz3 := nz z3 (by simp)
  have nz4 := nz z4 (by simp)
  have nz9 := nz z9 (by simp)
  have nz12 := nz z12 (by simp)
  have d9 : Same H9 H9 := Same.refl _
  refine ⟨_, rfl, ?_⟩
  try dsimp only [tNil]
  refine ⟨0, rfl, by decide, fun v10 H10 u10 hv10 => ?_⟩
  have d10 := d9.trans u10
  try dsimp only [tNil]
  refine ⟨1, rfl, by decide, fun v11 H11 u11 hv11 => ?_⟩
  have d11 := d10.trans u11
  replace hv10 := hv10.up (Same.T u11)
  refine ⟨(by show 4 ≤ sizeLine; decide), fun q12 hq12 => ?_⟩
  have u12 := same_new hq12 (.tup [V.str "add", V.str "zyxwvu", v10, v11])
  have d12 := d11.trans u12
  have c12 : CmdV K (upd H11 q12 (.tup [V.str "add", V.str "zyxwvu", v10, v11])) (.ref q12) := cmd_four (c := .add "zyxwvu" _ _) upd_same (hv10.up (Same.T u12)) (hv11.up (Same.T u12)) rfl ⟨zyx, wide_ok (at_ := 0) (by decide), wide_ok (at_ := 1) (by decide)⟩
  generalize upd H11 q12 (.tup [V.str "add", V.str "zyxwvu", v10, v11]) = H12 at u12 d12 c12  ⊢
  clear u12
  refine ⟨_, rfl, r, _, _, .str z2, rfl, rfl, SqL.of (d12 _ _ r9), rfl, ?_⟩
  refine ⟨(by show 2 ≤ sizeLine; decide), fun q13 hq13 => ?_⟩
  have u13 := same_new hq13 (.tup [V.str "drop", V.str z2])
  have d13 := d12.trans u13
  have c13 : CmdV K (upd H12 q13 (.tup [V.str "drop", V.str z2])) (.ref q13) := cmd_two (c := .drop z2) upd_same rfl nz2
  replace c12 := c12.up u13
  generalize upd H12 q13 (.tup [V.str "drop", V.str z2]) = H13 at u13 d13 c13 c12 ⊢
  clear u13
  refine ⟨_, rfl, r, _, _, .str z1, rfl, rfl, SqL.of (d13 _ _ r9), rfl, ?_⟩
  refine ⟨(by show 2 ≤ sizeLine; decide), fun q14 hq14 => ?_⟩
  have u14 := same_new hq14 (.tup [V.str "forget", V.str z1])
  have d14 := d13.trans u14
  have c14 : CmdV K (upd H13 q14 (.tup [V.str "forget", V.str z1])) (.ref q14) := cmd_two (c := .forget z1) upd_same rfl nz1
  replace c12 := c12.up u14
  replace c13 := c13.up u14
  generalize upd H13 q14 (.tup [V.str "forget", V.str z1]) = H14 at u14 d14 c14 c12 c13 ⊢
  clear u14
  refine ⟨(by show 3 ≤ sizeLine; decide), fun q15 hq15 => ?_⟩
  have u15 := same_new hq15 (.lst [V.ref q12, V.ref q13, V.ref q14])
  have d15 := d14.trans u15
  obtain ⟨us, hY, lY, cY⟩ := Y9
  have l15 : (upd H14 q15 (.lst [V.ref q12, V.ref q13, V.ref q14])) q15 = some (.lst [V.ref q12, V.ref q13, V.ref q14]) := upd_same
  replace hY := d15 _ _ hY
  have cY2 : ∀ v ∈ us ++ [V.ref q12, V.ref q13, V.ref q14], CmdV K (upd H14 q15 (.lst [V.ref q12, V.ref q13, V.ref q14])) v := fun v hv => by
    rcases List.mem_append.mp hv with hv | hv
    · exact (cY v hv).up d15
    · simp only [List.mem_cons, List.not_mem_nil, or_false] at hv
      rcases hv with rfl | rfl | rfl
      · exact c12.up u15
      · exact c13.up u15
      · exact c14.up u15
  generalize upd H14 q15 (.lst [V.ref q12, V.ref q13, V.ref q14]) = H15 at u15 d15 l15 hY cY2 ⊢
  refine ⟨cl, q15, us, _, rfl, rfl, hY, l15, le_line (by rw [lY]; exact Nat.le_of_ble_eq_true rfl), fun cm hcm => ?_⟩
  have w30 := same_new hcm (.lst (us ++ [V.ref q12, V.ref q13, V.ref q14]))
  have X30 := X9.up (d15.trans w30)
  have r30 := w30 _ _ (d15 _ _ r9)
  have Y30 : CmdL K (upd H15 cm (.lst (us ++ [V.ref q12, V.ref q13, V.ref q14]))) cm 25 := ⟨_, upd_same, by rw [List.length_append, lY]; rfl, fun v hv => (cY2 v hv).up w30⟩
  generalize upd H15 cm (.lst (us ++ [V.ref q12, V.ref q13, V.ref q14])) = H30 at w30 X30 r30 Y30 ⊢
  clear cY cY2 hY lY us d15 w30 hcm X9 r9
  have d30 : Same H30 H30 := Same.refl _
  refine ⟨_, rfl, ?_⟩
  refine ⟨_, rfl, r, _, _, .str z9, rfl, rfl, SqL.of (d30 _ _ r30), rfl, ?_⟩
  try dsimp only [tNil]
  refine ⟨0, rfl, by decide, fun v31 H31 u31 hv31 => ?_⟩
  have d31 := d30.trans u31
  refine ⟨(by show 4 ≤ sizeLine; decide), fun q32 hq32 => ?_⟩
  have u32 := same_new hq32 (.tup [V.str "ask", V.str z9, v31, V.str "a"])
  have d32 := d31.trans u32
  have c32 : CmdV K (upd H31 q32 (.tup [V.str "ask", V.str z9, v31, V.str "a"])) (.ref q32) := cmd_four (c := .ask z9 _ _) upd_same (hv31.up (Same.T u32)) (.str _) rfl ⟨nz9, wide_ok (at_ := 0) (by decide), ta⟩
  generalize upd H31 q32 (.tup [V.str "ask", V.str z9, v31, V.str "a"]) = H32 at u32 d32 c32  ⊢
  clear u32
  refine ⟨_, rfl, r, _, _, .str z12, rfl, rfl, SqL.of (d32 _ _ r30), rfl, ?_⟩
  try dsimp only [tNil]
  refine ⟨1, rfl, by decide, fun v33 H33 u33 hv33 => ?_⟩
  have d33 := d32.trans u33
  replace c32 := c32.up u33
  refine ⟨(by show 4 ≤ sizeLine; decide), fun q34 hq34 => ?_⟩
  have u34 := same_new hq34 (.tup [V.str "add", V.str z12, v33, V.str "c"])
  have d34 := d33.trans u34
  have c34 : CmdV K (upd H33 q34 (.tup [V.str "add", V.str z12, v33, V.str "c"])) (.ref q34) := cmd_four (c := .add z12 _ _) upd_same (hv33.up (Same.T u34)) (.str _) rfl ⟨nz12, wide_ok (at_ := 1) (by decide), tc⟩
  replace c32 := c32.up u34
  generalize upd H33 q34 (.tup [V.str "add", V.str z12, v33, V.str "c"]) = H34 at u34 d34 c34 c32 ⊢
  clear u34
  refine ⟨(by show 4 ≤ sizeLine; decide), fun q35 hq35 => ?_⟩
  have u35 := same_new hq35 (.tup [V.str "add", V.str "zyxwvu", V.str "a", V.str "b"])
  have d35 := d34.trans u35
  have c35 : CmdV K (upd H34 q35 (.tup [V.str "add", V.str "zyxwvu", V.str "a", V.str "b"])) (.ref q35) := cmd_four (c := .add "zyxwvu" _ _) upd_same (.str _) (.str _) rfl ⟨zyx, ta, tb⟩
  replace c32 := c32.up u35
  replace c34 := c34.up u35
  generalize upd H34 q35 (.tup [V.str "add", V.str "zyxwvu", V.str "a", V.str "b"]) = H35 at u35 d35 c35 c32 c34 ⊢
  clear u35
  refine ⟨(by show 3 ≤ sizeLine; decide), fun q36 hq36 => ?_⟩
  have u36 := same_new hq36 (.lst [V.ref q32, V.ref q34, V.ref q35])
  have d36 := d35.trans u36
  obtain ⟨us, hY, lY, cY⟩ := Y30
  have l36 : (upd H35 q36 (.lst [V.ref q32, V.ref q34, V.ref q35])) q36 = some (.lst [V.ref q32, V.ref q34, V.ref q35]) := upd_same
  replace hY := d36 _ _ hY
  have cY2 : ∀ v ∈ us ++ [V.ref q32, V.ref q34, V.ref q35], CmdV K (upd H35 q36 (.lst [V.ref q32, V.ref q34, V.ref q35])) v := fun v hv => by
    rcases List.mem_append.mp hv with hv | hv
    · exact (cY v hv).up d36
    · simp only [List.mem_cons, List.not_mem_nil, or_false] at hv
      rcases hv with rfl | rfl | rfl
      · exact c32.up u36
      · exact c34.up u36
      · exact c35.up u36
  generalize upd H35 q36 (.lst [V.ref q32, V.ref q34, V.ref q35]) = H36 at u36 d36 l36 hY cY2 ⊢
  refine ⟨cm, q36, us, _, rfl, rfl, hY, l36, le_line (by rw [lY]; exact Nat.le_of_ble_eq_true rfl), fun cn hcn => ?_⟩
  have w50 := same_new hcn (.lst (us ++ [V.ref q32, V.ref q34, V.ref q35]))
  have X50 := X30.up (d36.trans w50)
  have r50 := w50 _ _ (d36 _ _ r30)
  have Y50 : CmdL K (upd H36 cn (.lst (us ++ [V.ref q32, V.ref q34, V.ref q35]))) cn 28 := ⟨_, upd_same, by rw [List.length_append, lY]; rfl, fun v hv => (cY2 v hv).up w50⟩
  generalize upd H36 cn (.lst (us ++ [V.ref q32, V.ref q34, V.ref q35])) = H50 at w50 X50 r50 Y50 ⊢
  clear cY cY2 hY lY us d36 w50 hcn X30 r30
  have d50 : Same H50 H50 := Same.refl _
  refine ⟨_, rfl, ?_⟩
  refine ⟨_, rfl, r, _, _, .str z3, rfl, rfl, SqL.of (d50 _ _ r50), rfl, ?_⟩
  try dsimp only [tNil]
  refine ⟨0, rfl, by decide, fun v51 H51 u51 hv51 => ?_⟩
  have d51 := d50.trans u51
  try dsimp only [tNil]
  refine ⟨1, rfl, by decide, fun v52 H52 u52 hv52 => ?_⟩
  have d52 := d51.trans u52
  replace hv51 := hv51.up (Same.T u52)
  refine ⟨(by show 4 ≤ sizeLine; decide), fun q53 hq53 => ?_⟩
  have u53 := same_new hq53 (.tup [V.str "put", V.str z3, v51, v52])
  have d53 := d52.trans u53
  have c53 : CmdV K (upd H52 q53 (.tup [V.str "put", V.str z3, v51, v52])) (.ref q53) := cmd_four (c := .put z3 _ _) upd_same (hv51.up (Same.T u53)) (hv52.up (Same.T u53)) rfl ⟨nz3, wide_ok (at_ := 0) (by decide), wide_ok (at_ := 1) (by decide)⟩
  generalize upd H52 q53 (.tup [V.str "put", V.str z3, v51, v52]) = H53 at u53 d53 c53  ⊢
  clear u53
  refine ⟨_, rfl, r, _, _, .str z3, rfl, rfl, SqL.of (d53 _ _ r50), rfl, ?_⟩
  refine ⟨(by show 2 ≤ sizeLine; decide), fun q54 hq54 => ?_⟩
  have u54 := same_new hq54 (.tup [V.str "drop", V.str z3])
  have d54 := d53.trans u54
  have c54 : CmdV K (upd H53 q54 (.tup [V.str "drop", V.str z3])) (.ref q54) := cmd_two (c := .drop z3) upd_same rfl nz3
  replace c53 := c53.up u54
  generalize upd H53 q54 (.tup [V.str "drop", V.str z3]) = H54 at u54 d54 c54 c53 ⊢
  clear u54
  refine ⟨_, rfl, r, _, _, .str z4, rfl, rfl, SqL.of (d54 _ _ r50), rfl, ?_⟩
  try dsimp only [tNil]
  refine ⟨1, rfl, by decide, fun v55 H55 u55 hv55 => ?_⟩
  have d55 := d54.trans u55
  replace c53 := c53.up u55
  replace c54 := c54.up u55
  refine ⟨(by show 4 ≤ sizeLine; decide), fun q56 hq56 => ?_⟩
  have u56 := same_new hq56 (.tup [V.str "put", V.str z4, v55, V.str "a"])
  have d56 := d55.trans u56
  have c56 : CmdV K (upd H55 q56 (.tup [V.str "put", V.str z4, v55, V.str "a"])) (.ref q56) := cmd_four (c := .put z4 _ _) upd_same (hv55.up (Same.T u56)) (.str _) rfl ⟨nz4, wide_ok (at_ := 1) (by decide), ta⟩
  replace c53 := c53.up u56
  replace c54 := c54.up u56
  generalize upd H55 q56 (.tup [V.str "put", V.str z4, v55, V.str "a"]) = H56 at u56 d56 c56 c53 c54 ⊢
  clear u56
  refine ⟨(by show 3 ≤ sizeLine; decide), fun q57 hq57 => ?_⟩
  have u57 := same_new hq57 (.lst [V.ref q53, V.ref q54, V.ref q56])
  have d57 := d56.trans u57
  obtain ⟨us, hY, lY, cY⟩ := Y50
  have l57 : (upd H56 q57 (.lst [V.ref q53, V.ref q54, V.ref q56])) q57 = some (.lst [V.ref q53, V.ref q54, V.ref q56]) := upd_same
  replace hY := d57 _ _ hY
  have cY2 : ∀ v ∈ us ++ [V.ref q53, V.ref q54, V.ref q56], CmdV K (upd H56 q57 (.lst [V.ref q53, V.ref q54, V.ref q56])) v := fun v hv => by
    rcases List.mem_append.mp hv with hv | hv
    · exact (cY v hv).up d57
    · simp only [List.mem_cons, List.not_mem_nil, or_false] at hv
      rcases hv with rfl | rfl | rfl
      · exact c53.up u57
      · exact c54.up u57
      · exact c56.up u57
  generalize upd H56 q57 (.lst [V.ref q53, V.ref q54, V.ref q56]) = H57 at u57 d57 l57 hY cY2 ⊢
  refine ⟨cn, q57, us, _, rfl, rfl, hY, l57, le_line (by rw [lY]; exact Nat.le_of_ble_eq_true rfl), fun co hco => ?_⟩
  have w70 := same_new hco (.lst (us ++ [V.ref q53, V.ref q54, V.ref q56]))
  have X70 := X50.up (d57.trans w70)
  have r70 := w70 _ _ (d57 _ _ r50)
  have Y70 : CmdL K (upd H57 co (.lst (us ++ [V.ref q53, V.ref q54, V.ref q56]))) co 31 := ⟨_, upd_same, by rw [List.length_append, lY]; rfl, fun v hv => (cY2 v hv).up w70⟩
  generalize upd H57 co (.lst (us ++ [V.ref q53, V.ref q54, V.ref q56])) = H70 at w70 X70 r70 Y70 ⊢
  clear cY cY2 hY lY us d57 w70 hco X50 r50
  -- the displays end
  obtain ⟨usC, hC, lC, cC⟩ := Y70
  have Y70 : CmdL K H70 co 31 := ⟨usC, hC, lC, cC⟩
  clear hC lC cC
  try dsimp only [tNil]
  refine ⟨0, rfl, by decide, fun v1 HA ea hv1 => ⟨(by show 2 ≤ sizeLine; decide), fun q1 hq1 => ?_⟩⟩
  have u1 := same_new hq1 (.tup [v1, V.str "a"])
  have d1 := ea.trans u1
  have P1 : PairV K (upd HA q1 (.tup [v1, V.str "a"])) (.ref q1) := ⟨q1, _, _, _, _, rfl, SqT.of upd_same, hv1.up (Same.T u1), .str _, wide_ok (at_ := 0) (by decide), ta⟩
  generalize upd HA q1 (.tup [v1, V.str "a"]) = HB at u1 d1 P1 ⊢
  try dsimp only [tNil]
  refine ⟨0, rfl, by decide, fun v2 HC ec hv2 => ⟨(by show 3 ≤ sizeLine; decide), fun q2 hq2 => ⟨(by show 2 ≤ sizeLine; decide), fun q3 hq3 => ?_⟩⟩⟩
  have u2 := same_new hq2 (.tup [V.str "&", V.str "a", V.str "h"])
  have u3 := same_new hq3 (.tup [v2, V.ref q2])
  have d3 := d1.trans (ec.trans (u2.trans u3))
  have P1' := P1.up (ec.trans (u2.trans u3))
  have P3 : PairV K (upd (upd HC q2 (.tup [V.str "&", V.str "a", V.str "h"])) q3 (.tup [v2, V.ref q2])) (.ref q3) := ⟨q3, _, _, _, _, rfl, SqT.of upd_same, hv2.up (Same.T (u2.trans u3)), .tup (.inl (u3 _ _ upd_same)) (.cons (.str _) (.cons (.str _) (.cons (.str _) .nil))), wide_ok (at_ := 0) (by decide), tah⟩
  generalize upd (upd HC q2 (.tup [V.str "&", V.str "a", V.str "h"])) q3 (.tup [v2, V.ref q2]) = HD at u3 d3 P1' P3 ⊢
  refine ⟨(by show 2 ≤ sizeLine; decide), fun q4 hq4 => ?_⟩
  have u4 := same_new hq4 (.lst [V.ref q1, V.ref q3])
  have d4 := d3.trans u4
  have h4 : (upd HD q4 (.lst [V.ref q1, V.ref q3])) q4 = some (.lst [V.ref q1, V.ref q3]) := upd_same
  replace P1' := P1'.up u4
  replace P3 := P3.up u4
  generalize upd HD q4 (.lst [V.ref q1, V.ref q3]) = HE at u4 d4 h4 P1' P3 ⊢
  clear u4 d3 u3 d1 u1 P1 hv1 hv2 ea ec u2
  have XE := X70.up d4
  refine ⟨_, rfl, s, 2, rfl, by decide, by decide, XE.src, fun n n0 n2 => ?_⟩
  have hn : n = 0 ∨ n = 1 := by omega
  have hrev : some (1 - 2 * n) = some (1 : Int) ∨ some (1 - 2 * n) = some (-1 : Int) := by
    rcases hn with rfl | rfl
    · exact .inl rfl
    · exact .inr rfl
  refine ⟨_, _, rfl, rfl, .inl ⟨by decide, by decide⟩, _, _, rfl, rfl, _, rfl, q4, _, rfl, SqL.of h4, hrev, fun ys tw htw hys => ?_⟩
  obtain ⟨y0, y1, hy, Q0, Q1⟩ : ∃ y0 y1, ys = [y0, y1] ∧ PairV K HE y0 ∧ PairV K HE y1 := by
    rcases hys with rfl | rfl
    · exact ⟨_, _, rfl, P1', P3⟩
    · exact ⟨_, _, rfl, P3, P1'⟩
  subst hy
  have u5 := same_new htw (.lst [y0, y1])
  have d5 := d4.trans u5
  have h5 : (upd HE tw (.lst [y0, y1])) tw = some (.lst [y0, y1]) := upd_same
  replace Q0 := Q0.up u5
  replace Q1 := Q1.up u5
  generalize upd HE tw (.lst [y0, y1]) = HF at u5 d5 h5 Q0 Q1 ⊢
  have XF := X70.up d5
  have rF := d5 _ _ r70
  have CF := Y70.up d5
  clear hys P1' P3 XE h4 d4 u5 hn hrev n0 n2
  refine fun x2 dx2 hx2 hdx2 hne2 => ⟨x2, dx2, rfl, upd_same, fun HG ul2 rd2 sB2 hul2 hrd2 hA2 => ⟨rfl, ?_⟩⟩
  have eG := mk_store (ul := ul2) hx2 hdx2 sB2
  have nul2 := mk_none hx2 hdx2 hul2
  have nrd2 := mk_none hx2 hdx2 hrd2
  have dis := dis_new XF.sto hx2 nul2 nrd2
  have ns2 : s ≠ x2 ∧ s ≠ ul2 ∧ s ≠ rd2 := by
    obtain ⟨c, ns, h1, h2⟩ := XF.src
    exact ⟨ne_of_none h1 hx2, ne_of_none h1 nul2, ne_of_none h1 nrd2⟩
  have XG := XF.up eG
  clear sB2 hul2 hrd2 nul2 nrd2 hx2 hdx2 hne2
  refine ⟨(by show 0 ≤ sizeLine; decide), fun L2 hL2 => fun D2 hD2 => ⟨(by show 2 ≤ sizeLine; decide), fun t2 ht2 => ⟨(by show 2 ≤ sizeLine; decide), fun p2 hp2 => ⟨p2, _, rfl, SqT.of upd_same, rfl, _, _, rfl, _, _, rfl, rfl, ?_⟩⟩⟩⟩
  have g1 := same_new hL2 (.lst [])
  have g2 := same_new hD2 (.dK [])
  have g3 := same_new ht2 (.tup [V.ref L2, V.ref D2])
  have g4 := same_new hp2 (.tup [V.ref x2, V.ref t2])
  have sc3 : ScV K (upd (upd (upd (upd HG L2 (.lst [])) D2 (.dK [])) t2 (.tup [V.ref L2, V.ref D2])) p2 (.tup [V.ref x2, V.ref t2])) t2 L2 D2 [] [] [] [] := ⟨SqT.of (g4 _ _ upd_same), g4 _ _ (g3 _ _ (g2 _ _ upd_same)), .nil, g4 _ _ (g3 _ _ upd_same), .nil⟩
  have g := g1.trans (g2.trans (g3.trans g4))
  generalize upd (upd (upd (upd HG L2 (.lst [])) D2 (.dK [])) t2 (.tup [V.ref L2, V.ref D2])) p2 (.tup [V.ref x2, V.ref t2]) = HI at sc3 g ⊢
  show tSeq _ _ _ [some (.ref a), some (.ref s), some (.ref x), some (.ref t), some (.ref r), some (.ref sm), some (.ref co), none, some (.ref tw), some (.ref x2), some (.ref t2), none, none, none] HI
  have XI := XG.up g
  have WI : L50 K HI s ⟨x2, ul2, rd2⟩ [] ([], []) t2 := ⟨XI.src, ns2, hA2.up g, st_zero, few_zero, fun _ h => (nomatch h), ⟨L2, D2, [], [], sc3⟩, XI.tabs⟩
  have eI := eG.trans g
  have hI := eI _ _ h5
  have rI := eI _ _ rF
  have CI := CF.up eI
  replace Q0 := Q0.up eI
  replace Q1 := Q1.up eI
  clear sc3 g1 g2 g3 g4 g hL2 hD2 ht2 hp2 hA2 XG eG ns2 XF rF CF h5 d5
  obtain ⟨ga, vl, vr, l, r0, rfl, hga, hvl, hvr, hl, hr0⟩ := Q0
  obtain ⟨gb, wl, wr, l', r1, rfl, hgb, hwl, hwr, hl', hr1⟩ := Q1
  refine ⟨_, rfl, r, _, _, .str z0, rfl, rfl, SqL.of rI, rfl, (by show 2 ≤ sizeLine; decide), fun b1 hb1 => ⟨_, rfl, tw, _, _, .ref ga, rfl, rfl, SqL.of (same_new hb1 _ _ _ hI), at0, b1, ga, _, _, rfl, rfl, SqT.of upd_same, up_t (same_new hb1 _) hga, by simp, (by show 4 ≤ sizeLine; decide), fun h => (nomatch h), fun _ b2 hb2 => ?_⟩⟩
  have u1 := same_new hb1 (.tup [V.str "ask", V.str z0])
  have u2 := same_new hb2 (.tup ([V.str "ask", V.str z0] ++ [vl, vr]))
  have d2 := u1.trans u2
  have c1 : CmdV K (upd (upd HI b1 (.tup [V.str "ask", V.str z0])) b2 (.tup ([V.str "ask", V.str z0] ++ [vl, vr]))) (.ref b2) := cmd_four (c := .ask z0 _ _) upd_same (hvl.up (Same.T d2)) (hvr.up (Same.T d2)) rfl ⟨nz0, hl, hr0⟩
  generalize upd (upd HI b1 (.tup [V.str "ask", V.str z0])) b2 (.tup ([V.str "ask", V.str z0] ++ [vl, vr])) = HJ at u2 d2 c1 ⊢
  refine ⟨_, rfl, r, _, _, .str z1, rfl, rfl, SqL.of (d2 _ _ rI), rfl, (by show 2 ≤ sizeLine; decide), fun b3 hb3 => ⟨_, rfl, tw, _, _, .ref gb, rfl, rfl, SqL.of (same_new hb3 _ _ _ (d2 _ _ hI)), rfl, b3, gb, _, _, rfl, rfl, SqT.of upd_same, up_t (same_new hb3 _) (up_t d2 hgb), by simp, (by show 4 ≤ sizeLine; decide), fun h => (nomatch h), fun _ b4 hb4 => ?_⟩⟩
  have u3 := same_new hb3 (.tup [V.str "ask", V.str z1])
  have u4 := same_new hb4 (.tup ([V.str "ask", V.str z1] ++ [wl, wr]))
  have d4 := d2.trans (u3.trans u4)
  have c2 : CmdV K (upd (upd HJ b3 (.tup [V.str "ask", V.str z1])) b4 (.tup ([V.str "ask", V.str z1] ++ [wl, wr]))) (.ref b4) := cmd_four (c := .ask z1 _ _) upd_same (hwl.up (Same.T d4)) (hwr.up (Same.T d4)) rfl ⟨nz1, hl', hr1⟩
  replace c1 := c1.up (u3.trans u4)
  generalize upd (upd HJ b3 (.tup [V.str "ask", V.str z1])) b4 (.tup ([V.str "ask", V.str z1] ++ [wl, wr])) = HK at u4 d4 c1 c2 ⊢
  refine ⟨_, rfl, r, _, _, .str z2, rfl, rfl, SqL.of (d4 _ _ rI), rfl, ?_⟩
  try dsimp only [tNil]
  refine ⟨1, rfl, by decide, fun v5 HL u5 hv5 => ⟨(by show 4 ≤ sizeLine; decide), fun b5 hb5 => ?_⟩⟩
  have u6 := same_new hb5 (.tup [V.str "add", V.str z2, v5, V.str "a"])
  have d6 := d4.trans (u5.trans u6)
  have c3 : CmdV K (upd HL b5 (.tup [V.str "add", V.str z2, v5, V.str "a"])) (.ref b5) := cmd_four (c := .add z2 _ _) upd_same (hv5.up (Same.T u6)) (.str _) rfl ⟨nz2, wide_ok (at_ := 1) (by decide), ta⟩
  replace c1 := c1.up (u5.trans u6)
  replace c2 := c2.up (u5.trans u6)
  generalize upd HL b5 (.tup [V.str "add", V.str z2, v5, V.str "a"]) = HM at u6 d6 c1 c2 c3 ⊢
  refine ⟨(by show 3 ≤ sizeLine; decide), fun l3 hl3 => ⟨l3, rfl, ⟨_, SqL.of upd_same⟩, ?_⟩⟩
  have u7 := same_new hl3 (.lst [V.ref b2, V.ref b4, V.ref b5])
  have d7 := d6.trans u7
  have k7 : (upd HM l3 (.lst [V.ref b2, V.ref b4, V.ref b5])) l3 = some (.lst [V.ref b2, V.ref b4, V.ref b5]) := upd_same
  have cs7 : ∀ v ∈ [V.ref b2, V.ref b4, V.ref b5], CmdV K (upd HM l3 (.lst [V.ref b2, V.ref b4, V.ref b5])) v := fun v hv => by
    simp only [List.mem_cons, List.not_mem_nil, or_false] at hv
    rcases hv with rfl | rfl | rfl
    · exact c1.up u7
    · exact c2.up u7
    · exact c3.up u7
  generalize upd HM l3 (.lst [V.ref b2, V.ref b4, V.ref b5]) = HN at u7 d7 k7 cs7 ⊢
  have XN := XI.up d7
  have WN := WI.up d7
  have CN := CI.up d7
  clear u1 u2 d2 u3 u4 d4 u5 u6 d6 u7 d7 c1 c2 c3 XI WI CI rI hI eI hga hgb hvl hvr hwl hwr hb1 hb2 hb3 hb4 hb5 hl3 hv5 X70 Y70 r70
  refine for_list (D := ⟨_, _, fun _ _ => False, fun _ _ => False⟩) (xs := [V.ref b2, V.ref b4, V.ref b5]) (fun i σ H' => ∃ A past st t2 o11 o12, σ = [some (.ref a), some (.ref s), some (.ref x), some (.ref t), some (.ref r), some (.ref sm), some (.ref co), none, some (.ref tw), some (.ref A.c), some (.ref t2), o11, o12, none] ∧ L50 K H' s A past st t2 ∧ past.length ≤ i ∧ L50 K H' s ⟨x, ul, rd⟩ [] ([], []) t ∧ DisA ⟨x, ul, rd⟩ A ∧ CmdL K H' co 31 ∧ H' l3 = some (.lst [V.ref b2, V.ref b4, V.ref b5]) ∧ ∀ v ∈ [V.ref b2, V.ref b4, V.ref b5], CmdV K H' v)
    ⟨⟨x2, ul2, rd2⟩, [], ([], []), t2, none, none, rfl, WN, Nat.le_refl _, XN, dis, CN, k7, cs7⟩ (fun i σ H' _ ⟨_, _, _, _, _, _, _, _, _, _, _, _, h, _⟩ => SqL.of h) ?_ ?_
  · rintro i v σ H5 hx ⟨A, past, st, t3, o11, o12, rfl, X5, hpl, B5, dis5, C5, k5, cs5⟩
    have hi3 := (List.getElem?_eq_some_iff.mp hx).1
    have hi3' : i < 3 := hi3
    obtain ⟨rl5, qd5, us5, kvs5, hS5⟩ := X5.sc
    obtain ⟨c, hc, hv⟩ := cs5 v (List.mem_of_getElem? hx)
    have hdl := X5.ok.len
    have hlq := X5.ok.lq
    refine ⟨_, rfl, _, rfl, t3, rl5, qd5, us5, kvs5, st.1, st.2, 12, _, c, rfl, hS5, X5.ok, Nat.le_refl _, X5.few, hv, hc, fun p5 H6 e6 hp6 => ?_⟩
    have X6 := X5.up e6
    refine do_told X6.sto X6.ok (by omega) (hv.up (Same.T e6)) hc X6.tabs (fun H R h => ⟨_, rfl, h⟩) (fun H R h => ⟨_, rfl, h⟩) (fun st9 he t0 H7 rd7 hrd k7 t7 hA7 h07 => ?_) (fun e9 he p9 H7 x7 t7 hp9 => ?_)
    · have kn7 := X6.sto.keepX k7
      have h57 := kn7.T _ _ hp6
      rw [he] at h57
      have hd1 : Dp K H7 (.ref t0) (refD (.ok st9)) := .tup (SqT.of h07) (.cons (.str _) (.cons .non .nil))
      have hd2 : Dp K H7 (.ref p5) (refD (.ok st9)) := .tup (SqT.of h57) (.cons (.str _) (.cons .non .nil))
      have hn9 : Nice 1 (refD (.ok st9)) := (⟨by decide +kernel, by decide +kernel⟩ : Nice 1 (.tuple [.str "", .none]))
      refine ⟨_, rfl, .ref t0, .ref p5, rfl, .inl ⟨_, hd1, hd2, hn9.ok, Nat.lt_of_le_of_lt hn9.dp (by decide)⟩, by decide, fun H8 e8 => ⟨_, rfl, if_nb (fun h => absurd h (by decide)) (fun _ => ?_)⟩⟩
      have hS8 := (hS5.up e6).n kn7 |>.up e8
      obtain ⟨en, on⟩ := after_next he
      refine ⟨_, rfl, p5, _, _, .str "", rfl, rfl, SqT.of (e8 _ _ h57), at0, rfl, _, rfl, if_b (fun _ => ?_) (fun h => absurd h (by decide))⟩
      refine ⟨_, rfl, _, rfl, t3, rl5, qd5, us5, kvs5, st.1, st.2, _, c, rfl, hS8, X6.ok.rul, X6.ok.nq, by omega, by omega, ((hv.up (Same.T e6)).up kn7.T).up (Same.T e8), on, fun t6 rl6 qd6 us6 kvs6 H9 e9 hS9 => ?_⟩
      rw [← en] at hS9
      have hA9 := (hA7.up e8).up e9
      have hs9 := ((X6.src.x X6.sto X6.ne k7).up e8).up e9
      have hO9 := X6.ok.after hc (show afterD 12 st.1 st.2 c = .ok (st9.1, st9.2) from he)
      have Z9 : L50 K H9 s ⟨A.c, A.ul, rd7⟩ (past ++ [st]) st9 t6 := ⟨hs9, ⟨X6.ne.1, X6.ne.2.1, ne_src X6 hrd⟩, hA9, hO9, terms_after X6.ok (Nat.le_refl _) X6.few he, names_after hc X6.nm he, ⟨rl6, qd6, us6, kvs6, hS9⟩, (t7.ext e8).ext e9⟩
      have B6 := B5.up e6
      have kz := (kn_same e6).trans (kn7.trans ((kn_same e8).trans (kn_same e9)))
      refine ⟨⟨A.c, A.ul, rd7⟩, _, st9, t6, _, _, rfl, Z9, by rw [List.length_append, List.length_singleton]; omega, ((B6.o X6 dis5 k7 t7).up e8).up e9, dis5.rd B6.sto hrd, C5.n kz, kz.ls k5, fun v hv => (cs5 v hv).n kz⟩
    · have x67 : KeptN H6 H7 := .x x7
      have h57 := x67.T _ _ hp6
      have hd1 : Dp K H7 (.ref p9) (refD (afterD 12 st.1 st.2 c)) := ref_dp (by rw [he]; exact hp9)
      have hd2 : Dp K H7 (.ref p5) (refD (afterD 12 st.1 st.2 c)) := ref_dp h57
      have hn9 := ref_nice (lim := 12) (ds := st.1) (qs := st.2) hc
      refine ⟨_, rfl, .ref p9, .ref p5, rfl, .inl ⟨_, hd1, hd2, hn9.ok, Nat.lt_of_le_of_lt hn9.dp (by decide)⟩, by decide, fun H8 e8 => ⟨_, rfl, if_nb (fun h => absurd h (by decide)) (fun _ => ?_)⟩⟩
      rw [he] at h57
      obtain ⟨_, hcd, _, _⟩ := fld_of he
      refine ⟨_, rfl, p5, _, _, .str e9.code, rfl, rfl, SqT.of (e8 _ _ h57), at0, rfl, _, rfl, if_b (fun h => absurd (V.str.inj (of_decide_eq_true h)) hcd) (fun _ => ?_)⟩
      have Z8 := (X6.x x7 t7).up e8
      have kz := (kn_same e6).trans (x67.trans (kn_same e8))
      exact ⟨_, rfl, A, past, st, t3, _, _, rfl, Z8, Nat.le_succ_of_le hpl, ((B5.up e6).x x7 t7).up e8, dis5, C5.n kz, kz.ls k5, fun v hv => (cs5 v hv).n kz⟩
  rintro σ H5 ⟨A, past, st, t3, o11, o12, rfl, X5, hpl, B5, dis5, C5, k5, cs5⟩
  clear X5 hpl dis5 k5 cs5 XN WN CN dis k7 cs7
  refine ⟨_, rfl, s, 3, rfl, by decide, by decide, B5.src, fun n n0 n3 => ?_⟩
  obtain ⟨us5, hc5, hl5, hm5⟩ := C5
  refine ⟨_, rfl, _, rfl, _, _, rfl, rfl, _, rfl, co, us5, rfl, SqL.of hc5, fun f1 hf1 => ?_⟩
  have w1 := same_new hf1 (.lst (cutV us5 none (some (14 + n))))
  have m1 : (upd H5 f1 (.lst (cutV us5 none (some (14 + n))))) f1 = some (.lst (cutV us5 none (some (14 + n)))) := upd_same
  generalize upd H5 f1 (.lst (cutV us5 none (some (14 + n)))) = HP at w1 m1 ⊢
  refine ⟨_, rfl, _, rfl, _, rfl, _, _, rfl, rfl, _, rfl, co, us5, rfl, SqL.of (w1 _ _ hc5), fun f2 hf2 => ?_⟩
  have w2 := same_new hf2 (.lst (cutV us5 (some (14 + n)) none))
  have m2 : (upd HP f2 (.lst (cutV us5 (some (14 + n)) none))) f2 = some (.lst (cutV us5 (some (14 + n)) none)) := upd_same
  generalize upd HP f2 (.lst (cutV us5 (some (14 + n)) none)) = HQ at w2 m2 ⊢
  have w12 := w1.trans w2
  have lq := cutV_length us5 (some (14 + n)) none
  have lp := cutV_length us5 none (some (14 + n))
  have lr := cutV_length us5 (some (-3)) none
  dsimp only [tNil]
  refine ⟨s, f2, _, rfl, B5.src.up w12, SqL.of m2, by omega, fun p3 HR ys hp3 eR hys hperm => ?_⟩
  have hyl := hperm.length_eq
  have w13 := w12.trans eR
  refine ⟨f1, p3, _, _, rfl, rfl, eR _ _ (w2 _ _ m1), hys, le_line (by omega), fun p4 hp4 => ?_⟩
  have w4 := same_new hp4 (.lst (cutV us5 none (some (14 + n)) ++ ys))
  have m4 : (upd HR p4 (.lst (cutV us5 none (some (14 + n)) ++ ys))) p4 = some (.lst (cutV us5 none (some (14 + n)) ++ ys)) := upd_same
  generalize upd HR p4 (.lst (cutV us5 none (some (14 + n)) ++ ys)) = HT9 at w4 m4 ⊢
  have w14 := w13.trans w4
  refine ⟨_, rfl, _, rfl, _, rfl, co, us5, rfl, SqL.of (w14 _ _ hc5), fun p5 hp5 => ?_⟩
  have w5 := same_new hp5 (.lst (cutV us5 (some (-3)) none))
  have m5 : (upd HT9 p5 (.lst (cutV us5 (some (-3)) none))) p5 = some (.lst (cutV us5 (some (-3)) none)) := upd_same
  generalize upd HT9 p5 (.lst (cutV us5 (some (-3)) none)) = HU at w5 m5 ⊢
  have w15 := w14.trans w5
  refine ⟨p4, p5, _, _, rfl, rfl, w5 _ _ m4, m5, le_line (by rw [List.length_append]; omega), fun p6 hp6 => ⟨p6, rfl, ⟨_, SqL.of upd_same⟩, ?_⟩⟩
  have w6 := same_new hp6 (.lst ((cutV us5 none (some (14 + n)) ++ ys) ++ cutV us5 (some (-3)) none))
  have m6 : (upd HU p6 (.lst ((cutV us5 none (some (14 + n)) ++ ys) ++ cutV us5 (some (-3)) none))) p6 = some (.lst ((cutV us5 none (some (14 + n)) ++ ys) ++ cutV us5 (some (-3)) none)) := upd_same
  have w16 := w15.trans w6
  have BV := B5.up w16
  have cs6 : ∀ v ∈ (cutV us5 none (some (14 + n)) ++ ys) ++ cutV us5 (some (-3)) none, CmdV K (upd HU p6 (.lst ((cutV us5 none (some (14 + n)) ++ ys) ++ cutV us5 (some (-3)) none))) v := fun v hv => by
    have : v ∈ us5 := by
      rcases List.mem_append.mp hv with hv | hv
      · rcases List.mem_append.mp hv with hv | hv
        · exact mem_cut hv
        · exact mem_cut (hperm.mem_iff.mp hv)
      · exact mem_cut hv
    exact (hm5 v this).up w16
  have l6 : ((cutV us5 none (some (14 + n)) ++ ys) ++ cutV us5 (some (-3)) none).length ≤ 100 := by rw [List.length_append, List.length_append]; omega
  generalize hzs : (cutV us5 none (some (14 + n)) ++ ys) ++ cutV us5 (some (-3)) none = zs at w6 m6 w16 BV cs6 l6 ⊢
  generalize upd HU p6 (.lst zs) = HV at w6 m6 w16 BV cs6 ⊢
  clear hzs w6 w16 w15 w5 m5 w14 w4 m4 w13 eR hys w12 w2 m2 w1 m1 hf1 hf2 hp3 hp4 hp5 hp6 B5 hc5 hm5 hl5 lq lp lr hyl hperm
  refine for_list (D := ⟨_, _, fun _ _ => False, fun _ _ => False⟩) (xs := zs) (fun i σ H' => ∃ A past st t4 o9 o10 o11 o12, σ = [some (.ref a), some (.ref s), some (.ref A.c), some (.ref t4), some (.ref r), some (.ref sm), some (.ref co), none, some (.ref tw), o9, o10, o11, o12, some (.int n)] ∧ L50 K H' s A past st t4 ∧ past.length ≤ i ∧ H' p6 = some (.lst zs) ∧ ∀ v ∈ zs, CmdV K H' v)
    ⟨⟨x, ul, rd⟩, [], ([], []), t, _, _, o11, o12, rfl, BV, Nat.le_refl _, m6, cs6⟩ (fun i σ H' _ ⟨_, _, _, _, _, _, _, _, _, _, _, h, _⟩ => SqL.of h) ?_ ?_
  · rintro i v σ H5 hx ⟨A, past, st, t3, o9, o10, o11, o12, rfl, X5, hpl, k5, cs5⟩
    have hi3 := (List.getElem?_eq_some_iff.mp hx).1
    have hi3' : i < 100 := Nat.lt_of_lt_of_le hi3 l6
    obtain ⟨rl5, qd5, us5, kvs5, hS5⟩ := X5.sc
    obtain ⟨c, hc, hv⟩ := cs5 v (List.mem_of_getElem? hx)
    have hdl := X5.ok.len
    have hlq := X5.ok.lq
    refine ⟨_, rfl, _, rfl, t3, rl5, qd5, us5, kvs5, st.1, st.2, 12, _, c, rfl, hS5, X5.ok, Nat.le_refl _, X5.few, hv, hc, fun p5 H6 e6 hp6 => ?_⟩
    have X6 := X5.up e6
    refine do_told X6.sto X6.ok (by omega) (hv.up (Same.T e6)) hc X6.tabs (fun H R h => ⟨_, rfl, h⟩) (fun H R h => ⟨_, rfl, h⟩) (fun st9 he t0 H7 rd7 hrd k7 t7 hA7 h07 => ?_) (fun e9 he p9 H7 x7 t7 hp9 => ?_)
    · have kn7 := X6.sto.keepX k7
      have h57 := kn7.T _ _ hp6
      rw [he] at h57
      have hd1 : Dp K H7 (.ref t0) (refD (.ok st9)) := .tup (SqT.of h07) (.cons (.str _) (.cons .non .nil))
      have hd2 : Dp K H7 (.ref p5) (refD (.ok st9)) := .tup (SqT.of h57) (.cons (.str _) (.cons .non .nil))
      have hn9 : Nice 1 (refD (.ok st9)) := (⟨by decide +kernel, by decide +kernel⟩ : Nice 1 (.tuple [.str "", .none]))
      refine ⟨_, rfl, .ref t0, .ref p5, rfl, .inl ⟨_, hd1, hd2, hn9.ok, Nat.lt_of_le_of_lt hn9.dp (by decide)⟩, by decide, fun H8 e8 => ⟨_, rfl, if_nb (fun h => absurd h (by decide)) (fun _ => ?_)⟩⟩
      have hS8 := (hS5.up e6).n kn7 |>.up e8
      obtain ⟨en, on⟩ := after_next he
      refine ⟨_, rfl, p5, _, _, .str "", rfl, rfl, SqT.of (e8 _ _ h57), at0, rfl, _, rfl, if_b (fun _ => ?_) (fun h => absurd h (by decide))⟩
      refine ⟨_, rfl, _, rfl, t3, rl5, qd5, us5, kvs5, st.1, st.2, _, c, rfl, hS8, X6.ok.rul, X6.ok.nq, by omega, by omega, ((hv.up (Same.T e6)).up kn7.T).up (Same.T e8), on, fun t6 rl6 qd6 us6 kvs6 H9 e9 hS9 => ?_⟩
      rw [← en] at hS9
      have hA9 := (hA7.up e8).up e9
      have hs9 := ((X6.src.x X6.sto X6.ne k7).up e8).up e9
      have hO9 := X6.ok.after hc (show afterD 12 st.1 st.2 c = .ok (st9.1, st9.2) from he)
      have Z9 : L50 K H9 s ⟨A.c, A.ul, rd7⟩ (past ++ [st]) st9 t6 := ⟨hs9, ⟨X6.ne.1, X6.ne.2.1, ne_src X6 hrd⟩, hA9, hO9, terms_after X6.ok (Nat.le_refl _) X6.few he, names_after hc X6.nm he, ⟨rl6, qd6, us6, kvs6, hS9⟩, (t7.ext e8).ext e9⟩
      have kz := (kn_same e6).trans (kn7.trans ((kn_same e8).trans (kn_same e9)))
      obtain ⟨rl8, qd8, us8, kvs8, hS8'⟩ := Z9.sc
      refine ⟨_, rfl, _, rfl, ⟨A.c, A.ul, rd7⟩, 12, _, [], _, t6, rl8, qd8, us8, kvs8, rfl, Z9.sto, Z9.ok, Nat.le_refl _, Z9.nm, hS8', fun H10 e10 => ⟨_, rfl, if_nb (fun h => absurd h (by decide)) (fun _ => ?_)⟩⟩
      have kz := kz.trans (kn_same e10)
      exact ⟨⟨A.c, A.ul, rd7⟩, _, st9, t6, _, _, _, _, rfl, Z9.up e10, by rw [List.length_append, List.length_singleton]; omega, kz.ls k5, fun v hv => (cs5 v hv).n kz⟩
    · have x67 : KeptN H6 H7 := .x x7
      have h57 := x67.T _ _ hp6
      have hd1 : Dp K H7 (.ref p9) (refD (afterD 12 st.1 st.2 c)) := ref_dp (by rw [he]; exact hp9)
      have hd2 : Dp K H7 (.ref p5) (refD (afterD 12 st.1 st.2 c)) := ref_dp h57
      have hn9 := ref_nice (lim := 12) (ds := st.1) (qs := st.2) hc
      refine ⟨_, rfl, .ref p9, .ref p5, rfl, .inl ⟨_, hd1, hd2, hn9.ok, Nat.lt_of_le_of_lt hn9.dp (by decide)⟩, by decide, fun H8 e8 => ⟨_, rfl, if_nb (fun h => absurd h (by decide)) (fun _ => ?_)⟩⟩
      rw [he] at h57
      obtain ⟨_, hcd, _, _⟩ := fld_of he
      refine ⟨_, rfl, p5, _, _, .str e9.code, rfl, rfl, SqT.of (e8 _ _ h57), at0, rfl, _, rfl, if_b (fun h => absurd (V.str.inj (of_decide_eq_true h)) hcd) (fun _ => ?_)⟩
      have Z8 := (X6.x x7 t7).up e8
      have kz := (kn_same e6).trans (x67.trans (kn_same e8))
      refine ⟨_, rfl, ?_⟩
      obtain ⟨rl8, qd8, us8, kvs8, hS8'⟩ := Z8.sc
      refine ⟨_, rfl, _, rfl, A, 12, _, [], _, t3, rl8, qd8, us8, kvs8, rfl, Z8.sto, Z8.ok, Nat.le_refl _, Z8.nm, hS8', fun H10 e10 => ⟨_, rfl, if_nb (fun h => absurd h (by decide)) (fun _ => ?_)⟩⟩
      have kz := kz.trans (kn_same e10)
      exact ⟨A, past, st, t3, _, _, _, _, rfl, Z8.up e10, Nat.le_succ_of_le hpl, kz.ls k5, fun v hv => (cs5 v hv).n kz⟩
  rintro σ H5 ⟨A, past, st, t3, o9, o10, o11, o12, rfl, X5, hpl, k5, cs5⟩
  exact q H5
end
end FF

namespace FF
open PySem PySem.Spec PyProof.Rows L2
theorem facts {P : Program} {w : World} {K : PySem.W.Frag} {h : Heap} {mg : Str → Option Value} {f : Addr} (X : K.In h) (G : h.Ns mainGlobals mg) (hfa : mg ("law" : Str) = some (.ref f)) (cx : SaysV fa fn fp kts [("law", none)] ex w h K) :
    ∃ fd : FuncData, (∀ (s : Shared) (v : Value), BindsTo s fd ⟨[v], []⟩ [("_law_script", v)]) ∧ ∀ base : Heap, K.In base → base.Ns mainGlobals mg → (∀ p ∈ [He.cT K ("law", none)], LamX.TabB base mg p.1 p.2) → FnOk P w K mg base CX0 26 f fd ["_law_script"] (spLaw K) := by
  have c := cx.z.x.t.d
  have T := top_of X G c cx.z.x.more
  obtain ⟨fd_wall, F_wall⟩ := c.def_ 0 (d := d_wall) rfl
  have m_wall := He.glo_ok X G (c.fact 115 (f := .glo "_wall") rfl)
  obtain ⟨fd_is_letter, F_is_letter⟩ := c.def_ 1 (d := d_is_letter) rfl
  have m_is_letter := He.glo_ok X G (c.fact 116 (f := .glo "is_letter") rfl)
  obtain ⟨fd_measured, F_measured⟩ := c.def_ 2 (d := d_measured) rfl
  have m_measured := He.glo_ok X G (c.fact 117 (f := .glo "measured") rfl)
  obtain ⟨fd_is_term, F_is_term⟩ := c.def_ 3 (d := d_is_term) rfl
  have m_is_term := He.glo_ok X G (c.fact 118 (f := .glo "is_term") rfl)
  obtain ⟨fd_need_term, F_need_term⟩ := c.def_ 4 (d := d_need_term) rfl
  have m_need_term := He.glo_ok X G (c.fact 119 (f := .glo "need_term") rfl)
  obtain ⟨fd_parts_of, F_parts_of⟩ := c.def_ 5 (d := d_parts_of) rfl
  have m_parts_of := He.glo_ok X G (c.fact 120 (f := .glo "parts_of") rfl)
  obtain ⟨fd_walked, F_walked⟩ := c.def_ 6 (d := d_walked) rfl
  have m_walked := He.glo_ok X G (c.fact 121 (f := .glo "walked") rfl)
  obtain ⟨fd_is_name, F_is_name⟩ := c.def_ 7 (d := d_is_name) rfl
  have m_is_name := He.glo_ok X G (c.fact 122 (f := .glo "is_name") rfl)
  obtain ⟨fd_text_of, F_text_of⟩ := c.def_ 8 (d := d_text_of) rfl
  have m_text_of := He.glo_ok X G (c.fact 123 (f := .glo "text_of") rfl)
  obtain ⟨fd_is_goal, F_is_goal⟩ := c.def_ 9 (d := d_is_goal) rfl
  have m_is_goal := He.glo_ok X G (c.fact 124 (f := .glo "is_goal") rfl)
  obtain ⟨fd_is_rule, F_is_rule⟩ := c.def_ 10 (d := d_is_rule) rfl
  have m_is_rule := He.glo_ok X G (c.fact 125 (f := .glo "is_rule") rfl)
  obtain ⟨fd_words_of, F_words_of⟩ := c.def_ 11 (d := d_words_of) rfl
  have m_words_of := He.glo_ok X G (c.fact 126 (f := .glo "words_of") rfl)
  obtain ⟨fd_pairs_in, F_pairs_in⟩ := c.def_ 12 (d := d_pairs_in) rfl
  have m_pairs_in := He.glo_ok X G (c.fact 127 (f := .glo "pairs_in") rfl)
  obtain ⟨fd_need_list, F_need_list⟩ := c.def_ 13 (d := d_need_list) rfl
  have m_need_list := He.glo_ok X G (c.fact 128 (f := .glo "need_list") rfl)
  obtain ⟨fd_checked_words, F_checked_words⟩ := c.def_ 14 (d := d_checked_words) rfl
  have m_checked_words := He.glo_ok X G (c.fact 129 (f := .glo "checked_words") rfl)
  obtain ⟨fd_check_rules, F_check_rules⟩ := c.def_ 15 (d := d_check_rules) rfl
  have m_check_rules := He.glo_ok X G (c.fact 130 (f := .glo "check_rules") rfl)
  obtain ⟨fd_names_in, F_names_in⟩ := c.def_ 16 (d := d_names_in) rfl
  have m_names_in := He.glo_ok X G (c.fact 131 (f := .glo "names_in") rfl)
  obtain ⟨fd_need_terms, F_need_terms⟩ := c.def_ 17 (d := d_need_terms) rfl
  have m_need_terms := He.glo_ok X G (c.fact 132 (f := .glo "need_terms") rfl)
  obtain ⟨fd_checked, F_checked⟩ := c.def_ 18 (d := d_checked) rfl
  have m_checked := He.glo_ok X G (c.fact 133 (f := .glo "checked") rfl)
  obtain ⟨fd_with_rule, F_with_rule⟩ := c.def_ 19 (d := d_with_rule) rfl
  have m_with_rule := He.glo_ok X G (c.fact 134 (f := .glo "with_rule") rfl)
  obtain ⟨fd_with_other_rule, F_with_other_rule⟩ := c.def_ 20 (d := d_with_other_rule) rfl
  have m_with_other_rule := He.glo_ok X G (c.fact 135 (f := .glo "with_other_rule") rfl)
  obtain ⟨fd_without_rule, F_without_rule⟩ := c.def_ 21 (d := d_without_rule) rfl
  have m_without_rule := He.glo_ok X G (c.fact 136 (f := .glo "without_rule") rfl)
  obtain ⟨fd_with_question, F_with_question⟩ := c.def_ 22 (d := d_with_question) rfl
  have m_with_question := He.glo_ok X G (c.fact 137 (f := .glo "with_question") rfl)
  obtain ⟨fd_without_question, F_without_question⟩ := c.def_ 23 (d := d_without_question) rfl
  have m_without_question := He.glo_ok X G (c.fact 138 (f := .glo "without_question") rfl)
  obtain ⟨fd_after, F_after⟩ := c.def_ 24 (d := d_after) rfl
  have m_after := He.glo_ok X G (c.fact 139 (f := .glo "after") rfl)
  obtain ⟨fd_law_source, F_law_source⟩ := c.def_ 25 (d := d_law_source) rfl
  have m_law_source := He.glo_ok X G (c.fact 140 (f := .glo "_law_source") rfl)
  obtain ⟨fd_law_take, F_law_take⟩ := c.def_ 26 (d := d_law_take) rfl
  have m_law_take := He.glo_ok X G (c.fact 141 (f := .glo "_law_take") rfl)
  obtain ⟨fd_law_pick, F_law_pick⟩ := c.def_ 27 (d := d_law_pick) rfl
  have m_law_pick := He.glo_ok X G (c.fact 142 (f := .glo "_law_pick") rfl)
  obtain ⟨fd_law_mixed, F_law_mixed⟩ := c.def_ 28 (d := d_law_mixed) rfl
  have m_law_mixed := He.glo_ok X G (c.fact 143 (f := .glo "_law_mixed") rfl)
  obtain ⟨fd_law_same, F_law_same⟩ := c.def_ 29 (d := d_law_same) rfl
  have m_law_same := He.glo_ok X G (c.fact 144 (f := .glo "_law_same") rfl)
  obtain ⟨fd_law_parts, F_law_parts⟩ := c.def_ 30 (d := d_law_parts) rfl
  have m_law_parts := He.glo_ok X G (c.fact 145 (f := .glo "_law_parts") rfl)
  obtain ⟨fd_law_text, F_law_text⟩ := c.def_ 31 (d := d_law_text) rfl
  have m_law_text := He.glo_ok X G (c.fact 146 (f := .glo "_law_text") rfl)
  obtain ⟨fd_law_walk, F_law_walk⟩ := c.def_ 32 (d := d_law_walk) rfl
  have m_law_walk := He.glo_ok X G (c.fact 147 (f := .glo "_law_walk") rfl)
  obtain ⟨fd_law_by_text, F_law_by_text⟩ := c.def_ 33 (d := d_law_by_text) rfl
  have m_law_by_text := He.glo_ok X G (c.fact 148 (f := .glo "_law_by_text") rfl)
  obtain ⟨fd_law_words, F_law_words⟩ := c.def_ 34 (d := d_law_words) rfl
  have m_law_words := He.glo_ok X G (c.fact 149 (f := .glo "_law_words") rfl)
  obtain ⟨fd_law_names, F_law_names⟩ := c.def_ 35 (d := d_law_names) rfl
  have m_law_names := He.glo_ok X G (c.fact 150 (f := .glo "_law_names") rfl)
  obtain ⟨fd_law_measure, F_law_measure⟩ := c.def_ 36 (d := d_law_measure) rfl
  have m_law_measure := He.glo_ok X G (c.fact 151 (f := .glo "_law_measure") rfl)
  obtain ⟨fd_law_fits, F_law_fits⟩ := c.def_ 37 (d := d_law_fits) rfl
  have m_law_fits := He.glo_ok X G (c.fact 152 (f := .glo "_law_fits") rfl)
  obtain ⟨fd_law_is_name, F_law_is_name⟩ := c.def_ 38 (d := d_law_is_name) rfl
  have m_law_is_name := He.glo_ok X G (c.fact 153 (f := .glo "_law_is_name") rfl)
  obtain ⟨fd_law_next, F_law_next⟩ := c.def_ 39 (d := d_law_next) rfl
  have m_law_next := He.glo_ok X G (c.fact 154 (f := .glo "_law_next") rfl)
  obtain ⟨fd_law_terms_due, F_law_terms_due⟩ := c.def_ 40 (d := d_law_terms_due) rfl
  have m_law_terms_due := He.glo_ok X G (c.fact 155 (f := .glo "_law_terms_due") rfl)
  obtain ⟨fd_law_refusal, F_law_refusal⟩ := c.def_ 41 (d := d_law_refusal) rfl
  have m_law_refusal := He.glo_ok X G (c.fact 156 (f := .glo "_law_refusal") rfl)
  obtain ⟨fd_law_refused_with, F_law_refused_with⟩ := c.def_ 42 (d := d_law_refused_with) rfl
  have m_law_refused_with := He.glo_ok X G (c.fact 157 (f := .glo "_law_refused_with") rfl)
  obtain ⟨fd_law_wide, F_law_wide⟩ := c.def_ 43 (d := d_law_wide) rfl
  have m_law_wide := He.glo_ok X G (c.fact 158 (f := .glo "_law_wide") rfl)
  obtain ⟨fd_law_store_so, F_law_store_so⟩ := c.def_ 44 (d := d_law_store_so) rfl
  have m_law_store_so := He.glo_ok X G (c.fact 159 (f := .glo "_law_store_so") rfl)
  obtain ⟨fd_law, F_law⟩ := c.def_ 45 (d := d_law) rfl
  have m_law := He.glo_ok X G (c.fact 160 (f := .glo "law") rfl)
  obtain ⟨fd_FaultError_init, F_FaultError_init⟩ := c.def_ 46 (d := d_FaultError_init) rfl
  obtain ⟨fd_Missing_init, F_Missing_init⟩ := c.def_ 47 (d := d_Missing_init) rfl
  obtain ⟨fd_InvalidTerm_init, F_InvalidTerm_init⟩ := c.def_ 48 (d := d_InvalidTerm_init) rfl
  obtain ⟨fd_InvalidName_init, F_InvalidName_init⟩ := c.def_ 49 (d := d_InvalidName_init) rfl
  obtain ⟨fd_InvalidRules_init, F_InvalidRules_init⟩ := c.def_ 50 (d := d_InvalidRules_init) rfl
  obtain ⟨fd_InvalidGoal_init, F_InvalidGoal_init⟩ := c.def_ 51 (d := d_InvalidGoal_init) rfl
  obtain ⟨fd_TooManyTerms_init, F_TooManyTerms_init⟩ := c.def_ 52 (d := d_TooManyTerms_init) rfl
  obtain ⟨fd_NameInUse_init, F_NameInUse_init⟩ := c.def_ 53 (d := d_NameInUse_init) rfl
  obtain ⟨fd_CapacityReached_init, F_CapacityReached_init⟩ := c.def_ 54 (d := d_CapacityReached_init) rfl
  obtain ⟨fd_InvalidCommand_init, F_InvalidCommand_init⟩ := c.def_ 55 (d := d_InvalidCommand_init) rfl
  obtain ⟨fd_UnknownRule_init, F_UnknownRule_init⟩ := c.def_ 56 (d := d_UnknownRule_init) rfl
  obtain ⟨fd_UnknownQuestion_init, F_UnknownQuestion_init⟩ := c.def_ 57 (d := d_UnknownQuestion_init) rfl
  obtain ⟨fd_NothingLeft_init, F_NothingLeft_init⟩ := c.def_ 58 (d := d_NothingLeft_init) rfl
  have t_LENGTHS : KTab K w (He.ga K "LENGTHS") kt_LENGTHS := cx.tab 0 (t := ("LENGTHS", kt_LENGTHS)) (by have e := cx.z.x.more; simp only [ex, Bool.and_eq_true] at e; simp only [e])
  obtain ⟨fd_Store___init__, F_Store___init__⟩ := c.def_ 59 (d := d_Store___init__) rfl
  obtain ⟨fd_Store_show, F_Store_show⟩ := c.def_ 60 (d := d_Store_show) rfl
  obtain ⟨fd_Store_advance, F_Store_advance⟩ := c.def_ 61 (d := d_Store_advance) rfl
  obtain ⟨fd_Store_do, F_Store_do⟩ := c.def_ 62 (d := d_Store_do) rfl
  obtain ⟨fd_Store_rules, F_Store_rules⟩ := c.def_ 63 (d := d_Store_rules) rfl
  obtain ⟨fd_Store_questions, F_Store_questions⟩ := c.def_ 64 (d := d_Store_questions) rfl
  obtain ⟨fd_Store___len__, F_Store___len__⟩ := c.def_ 65 (d := d_Store___len__) rfl
  obtain ⟨fd_Store___repr__, F_Store___repr__⟩ := c.def_ 66 (d := d_Store___repr__) rfl
  have e := hfa.symm.trans m_law
  cases e
  have b := FunD.bindsA (ps := ["_law_script"]) F_law fun _ _ _ _ _ _ us hl => match us, hl with | [_], _ => rfl
  refine ⟨fd_law, fun s v => b s [v] rfl, fun base _ _ hTB => ?_⟩
  have D_take : Def P w K mg base "_law_take" 1 ["_law_source_here", "_law_many"] spTake := take_hid (ok_take F_law_take m_law_take T)
  have D_source : Def P w K mg base "_law_source" 1 ["_law_script"] (spSource K) := ok_source F_law_source m_law_source T
  have D_pick : Def P w K mg base "_law_pick" 2 ["_law_source_here", "_law_row"] (spPick K) := ok_pick F_law_pick m_law_pick T D_take
  have D_mixed : Def P w K mg base "_law_mixed" 2 ["_law_source_here", "_law_row"] (spMixed K) := ok_mixed F_law_mixed m_law_mixed T D_take
  have D_let : Def P w K mg base "is_letter" 1 ["value"] (spIsLetter K) := ok_is_letter F_is_letter m_is_letter T
  have D_measured : ∀ n, Def P w K mg base "measured" (n + 1) ["value", "max_depth"] (spMeasured K n) := fun n => by
    induction n with
    | zero => exact (def_none F_measured m_measured (F_measured.bindsN fun _ _ _ _ _ _ us hl => match us, hl with | [_, _], _ => rfl) fun vs H Q E ⟨_, _, _, _, _, _, h, _⟩ => by omega).mono (Nat.zero_le _)
    | succ n ih => exact ok_measured_step F_measured m_measured T D_let ih
  have b_fe : Binds K fd_FaultError_init ["self", "code"] [] := F_FaultError_init.bindsN fun _ _ _ _ _ _ us hl => match us, hl with | [_, _], _ => rfl
  have FE : FnOk P w K mg base CX0 1 (He.ma K (He.ga K "FaultError") "__init__") fd_FaultError_init ["self", "code"] (spFE K) := fn_fe F_FaultError_init T
  have R_goal : RaiseD P w K mg base "InvalidGoal" "FaultError" 2 "InvalidGoal" := ⟨T.x_InvalidGoal, T.c_InvalidGoal, fd_InvalidGoal_init, fn_InvalidGoal F_InvalidGoal_init T FE b_fe, F_InvalidGoal_init.bindsN fun _ _ _ _ _ _ us hl => match us, hl with | [_], _ => rfl⟩
  have R_rules : RaiseD1 P w K mg base "InvalidRules" "FaultError" 2 "InvalidRules" "index" := ⟨T.x_InvalidRules, T.n_InvalidRules_index, T.c_InvalidRules, fd_InvalidRules_init, fn_InvalidRules F_InvalidRules_init T FE b_fe, F_InvalidRules_init.bindsN fun _ _ _ _ _ _ us hl => match us, hl with | [_, _], _ => rfl⟩
  have R_terms : RaiseD1 P w K mg base "TooManyTerms" "FaultError" 2 "TooManyTerms" "count" := ⟨T.x_TooManyTerms, T.n_TooManyTerms_count, T.c_TooManyTerms, fd_TooManyTerms_init, fn_TooManyTerms F_TooManyTerms_init T FE b_fe, F_TooManyTerms_init.bindsN fun _ _ _ _ _ _ us hl => match us, hl with | [_, _], _ => rfl⟩
  have R_term : RaiseD P w K mg base "InvalidTerm" "FaultError" 2 "InvalidTerm" := ⟨T.x_InvalidTerm, T.c_InvalidTerm, fd_InvalidTerm_init, fn_InvalidTerm F_InvalidTerm_init T FE b_fe, F_InvalidTerm_init.bindsN fun _ _ _ _ _ _ us hl => match us, hl with | [_], _ => rfl⟩
  have R_InvalidName : RaiseD1 P w K mg base "InvalidName" "FaultError" 2 "InvalidName" "name" := ⟨T.x_InvalidName, T.n_InvalidName_name, T.c_InvalidName, fd_InvalidName_init, fn_InvalidName F_InvalidName_init T FE b_fe, F_InvalidName_init.bindsN fun _ _ _ _ _ _ us hl => match us, hl with | [_, _], _ => rfl⟩
  have R_NameInUse : RaiseD1 P w K mg base "NameInUse" "FaultError" 2 "NameInUse" "name" := ⟨T.x_NameInUse, T.n_NameInUse_name, T.c_NameInUse, fd_NameInUse_init, fn_NameInUse F_NameInUse_init T FE b_fe, F_NameInUse_init.bindsN fun _ _ _ _ _ _ us hl => match us, hl with | [_, _], _ => rfl⟩
  have R_CapacityReached : RaiseD1 P w K mg base "CapacityReached" "FaultError" 2 "CapacityReached" "limit" := ⟨T.x_CapacityReached, T.n_CapacityReached_limit, T.c_CapacityReached, fd_CapacityReached_init, fn_CapacityReached F_CapacityReached_init T FE b_fe, F_CapacityReached_init.bindsN fun _ _ _ _ _ _ us hl => match us, hl with | [_, _], _ => rfl⟩
  have R_InvalidCommand : RaiseD1 P w K mg base "InvalidCommand" "FaultError" 2 "InvalidCommand" "word" := ⟨T.x_InvalidCommand, T.n_InvalidCommand_word, T.c_InvalidCommand, fd_InvalidCommand_init, fn_InvalidCommand F_InvalidCommand_init T FE b_fe, F_InvalidCommand_init.bindsN fun _ _ _ _ _ _ us hl => match us, hl with | [_, _], _ => rfl⟩
  have b_mi : Binds K fd_Missing_init ["self", "code"] [] := F_Missing_init.bindsN fun _ _ _ _ _ _ us hl => match us, hl with | [_, _], _ => rfl
  have ME : FnOk P w K mg base CX0 1 (He.ma K (He.ga K "Missing") "__init__") fd_Missing_init ["self", "code"] (spFG lkB K) := fn_Missing F_Missing_init T
  have R_UnknownRule : RaiseG1 P w K mg base lkB "UnknownRule" 2 "UnknownRule" "name" := ⟨T.x_UnknownRule, T.n_UnknownRule_name, T.c_UnknownRule, fd_UnknownRule_init, fn_UnknownRule F_UnknownRule_init T ME b_mi, F_UnknownRule_init.bindsN fun _ _ _ _ _ _ us hl => match us, hl with | [_, _], _ => rfl⟩
  have R_UnknownQuestion : RaiseG1 P w K mg base lkB "UnknownQuestion" 2 "UnknownQuestion" "name" := ⟨T.x_UnknownQuestion, T.n_UnknownQuestion_name, T.c_UnknownQuestion, fd_UnknownQuestion_init, fn_UnknownQuestion F_UnknownQuestion_init T ME b_mi, F_UnknownQuestion_init.bindsN fun _ _ _ _ _ _ us hl => match us, hl with | [_, _], _ => rfl⟩
  have D_to : ∀ n, Def P w K mg base "text_of" n ["term"] (spText K n) := fun n => by
    induction n with
    | zero => exact def_none F_text_of m_text_of (F_text_of.bindsN fun _ _ _ _ _ _ us hl => match us, hl with | [_], _ => rfl) fun vs H Q E ⟨_, _, _, _, _, _, h, _⟩ => by omega
    | succ n ih => exact ok_text_of_step F_text_of m_text_of T ih
  have D_lt : ∀ n, Def P w K mg base "_law_text" n ["_law_word"] (spText K n) := fun n => by
    induction n with
    | zero => exact def_none F_law_text m_law_text (F_law_text.bindsN fun _ _ _ _ _ _ us hl => match us, hl with | [_], _ => rfl) fun vs H Q E ⟨_, _, _, _, _, _, h, _⟩ => by omega
    | succ n ih => exact ok_law_text_step F_law_text m_law_text T ih
  have D_measure : ∀ n, Def P w K mg base "_law_measure" n ["_law_word", "_law_deep"] (spMeasure K n) := fun n => by
    induction n with
    | zero => exact def_none F_law_measure m_law_measure (F_law_measure.bindsN fun _ _ _ _ _ _ us hl => match us, hl with | [_, _], _ => rfl) fun vs H Q E ⟨_, _, _, _, _, _, h, _⟩ => by omega
    | succ n ih => exact ok_law_measure_step F_law_measure m_law_measure T ih
  have D_parts : Def P w K mg base "parts_of" 1 ["term"] (spParts K) := ok_parts_of F_parts_of m_parts_of T
  have D_lparts : Def P w K mg base "_law_parts" 1 ["_law_word"] (spPartsL K) := ok_law_parts F_law_parts m_law_parts T
  have D_walked : ∀ n, Def P w K mg base "walked" (n + 1) ["term"] (spWalked K n) := fun n => by
    induction n with
    | zero => exact (def_none F_walked m_walked (F_walked.bindsN fun _ _ _ _ _ _ us hl => match us, hl with | [_], _ => rfl) fun vs H Q E ⟨_, _, _, _, _, _, h, _⟩ => by omega).mono (Nat.zero_le _)
    | succ n ih => exact ok_walked_step F_walked m_walked T D_parts ih
  have D_walk : ∀ n, Def P w K mg base "_law_walk" (n + 1) ["_law_word"] (spWalked K n) := fun n => by
    induction n with
    | zero => exact (def_none F_law_walk m_law_walk (F_law_walk.bindsN fun _ _ _ _ _ _ us hl => match us, hl with | [_], _ => rfl) fun vs H Q E ⟨_, _, _, _, _, _, h, _⟩ => by omega).mono (Nat.zero_le _)
    | succ n ih => exact ok_law_walk_step F_law_walk m_law_walk T D_lparts ih
  have D_wo : Def P w K mg base "words_of" 10 ["pairs"] (spWordsOf K) := ok_words_of F_words_of m_words_of T (D_walked 6) (D_to 7)
  have D_bt : Def P w K mg base "_law_by_text" 10 ["_law_row"] (spByText K) := ok_by_text F_law_by_text m_law_by_text T (D_lt 7)
  have D_lw : Def P w K mg base "_law_words" 11 ["_law_pairs"] (spWordsOf K) := ok_law_words F_law_words m_law_words T (D_walk 6) D_bt
  have D_name : Def P w K mg base "is_name" 1 ["text"] (spName K) := ok_is_name F_is_name m_is_name T
  have D_lname : Def P w K mg base "_law_is_name" 1 ["_law_text_here"] (spName K) := ok_law_is_name F_law_is_name m_law_is_name T
  have D_goal : Def P w K mg base "is_goal" 14 ["value"] (spGoal K) := ok_is_goal F_is_goal m_is_goal T F_is_term m_is_term (fn_is_term F_is_term T (D_measured 11))
  have D_rule : Def P w K mg base "is_rule" 15 ["value"] (spRule K) := ok_is_rule F_is_rule m_is_rule T D_name D_goal
  have D_nl : DefX P w K mg base "need_list" 16 ["rules"] (spNeedList K) := ok_need_list F_need_list m_need_list T D_rule R_rules
  have D_pi : Def P w K mg base "pairs_in" 1 ["rules", "goal"] (spPairsIn K) := ok_pairs_in F_pairs_in m_pairs_in T
  have D_cw : DefX P w K mg base "checked_words" 17 ["rules", "goal"] (spChecked K) := ok_checked F_checked_words m_checked_words T D_nl D_goal D_pi D_wo R_goal R_terms
  have D_fits : Def P w K mg base "_law_fits" 13 ["_law_word"] (spFits K) := ok_fits F_law_fits m_law_fits T (D_measure 12)
  have D_names : Def P w K mg base "_law_names" 3 ["_law_source_here", "_law_many"] (spNamesG K) := ok_namesG F_law_names m_law_names T D_take D_pick
  have D_same : ∀ n, Def P w K mg base "_law_same" n ["_law_found", "_law_due"] (spSameV K n) := fun n => by
    induction n with
    | zero => exact same_noneV F_law_same m_law_same
    | succ n ih => exact ok_sameV F_law_same m_law_same T ih
  have D_nt : DefX P w K mg base "need_term" 14 ["value"] (spNeed K) := ok_need_term F_need_term m_need_term T F_is_term m_is_term (fn_is_term F_is_term T (D_measured 11)) R_term
  have D_nts : DefX P w K mg base "need_terms" 15 ["left", "right"] (spNeeds K) := ok_need_terms F_need_terms m_need_terms T D_nt
  have D_ni : Def P w K mg base "names_in" 1 ["scene"] (spNamesIn K) := ok_names_in F_names_in m_names_in T
  have D_ck : DefX P w K mg base "checked" 19 ["scene"] (spChk K) := ok_checkedS F_checked m_checked T F_check_rules m_check_rules (fn_check_rules F_check_rules T D_cw)
  have D_wr : DefX P w K mg base "with_rule" 20 ["scene", "command", "limit"] (spWRule K) := ok_with_rule F_with_rule m_with_rule T D_name D_ni D_nts D_ck R_InvalidName R_NameInUse R_CapacityReached
  have D_wor : DefX P w K mg base "with_other_rule" 20 ["scene", "command"] (spWOther K) := ok_with_other F_with_other_rule m_with_other_rule T D_ni D_nts D_ck R_UnknownRule
  have D_wo2 : DefX P w K mg base "without_rule" 4 ["scene", "name"] (spWoRule K) := ok_without_rule F_without_rule m_without_rule T D_ni R_UnknownRule
  have D_wq : DefX P w K mg base "with_question" 20 ["scene", "command"] (spWQues K) := ok_with_question F_with_question m_with_question T D_name D_nts D_ck R_InvalidName R_NameInUse R_CapacityReached
  have D_woq : DefX P w K mg base "without_question" 4 ["scene", "name"] (spWoQ K) := ok_without_question F_without_question m_without_question T R_UnknownQuestion
  have D_after : DefX P w K mg base "after" 21 ["scene", "command", "limit"] (spAfter K) := ok_after F_after m_after T t_LENGTHS D_wr D_wor D_wo2 D_wq D_woq R_InvalidCommand
  have M_Sto : MakeD P w K mg base "Store" 1 ["self"] (spStoInit K) := ok_store_init F_Store___init__ T
  have D_show := ok_show (P := P) (w := w) (base := base) F_Store_show T
  have D_adv := ok_advance (P := P) (w := w) (base := base) F_Store_advance T D_show
  have D_do := ok_do F_Store_do T D_adv D_after
  have D_rulesM := ok_rulesM (P := P) (w := w) (base := base) F_Store_rules T
  have D_quesM := ok_quesM (P := P) (w := w) (base := base) F_Store_questions T
  have D_lenM := ok_lenM (P := P) (w := w) (base := base) F_Store___len__ T
  have D_reprM := ok_reprM (P := P) (w := w) (base := base) F_Store___repr__ T
  have D_next := ok_nextL (P := P) (w := w) (base := base) F_law_next m_law_next T
  have D_td := ok_terms_due F_law_terms_due m_law_terms_due T D_lw
  have D_ref := ok_refusal F_law_refusal m_law_refusal T D_lname D_fits D_td D_next
  have D_wide := ok_wide (P := P) (w := w) (base := base) F_law_wide m_law_wide T
  have D_so := ok_store_so F_law_store_so m_law_store_so T (D_same 12) D_rulesM D_quesM D_lenM D_reprM
  exact ok_law F_law T (hTB (He.cT K ("law", none)) (List.mem_singleton.mpr rfl)) F_law_refused_with m_law_refused_with M_Sto D_do D_source D_names D_pick D_take D_mixed D_wide D_ref D_next (D_same 12) D_so
end FF
open PySem PySem.W PySem.Calls PyProof.Rows
set_option maxRecDepth 100000 in
set_option maxHeartbeats 0 in
theorem PySem.Challenge.cw_fivefault_k50_capacities_of_a_store_holds : PySem.Challenge.rw_fivefault_k50_capacities_of_a_store.Holds := by
  w_on; o_law
  refine HandSHeadRun.head_any (r := PySem.W.OpenLaw.row PySem.Challenge.rw_fivefault_k50_capacities_of_a_store) (q := PySem.W.view (PySem.W.OpenLaw.row PySem.Challenge.rw_fivefault_k50_capacities_of_a_store).prog [76]) (H := FF.hk) (ob := FF.ob) (M := 20000) (loose := FF.loose) (d := HandSHeadRun.topDef (PySem.W.OpenLaw.row PySem.Challenge.rw_fivefault_k50_capacities_of_a_store).prog 76) (kwd := []) FF.ob_eq
    (by kernel_rfl) (fun s => by kernel_rfl) FF.run (by kernel_rfl) (by kernel_rfl) (by kernel_rfl) (by rfl) (by first | assumption | decide +kernel) (by decide +kernel) ⟨rfl, rfl, rfl, rfl, rfl, by decide +kernel⟩ ?hw ?hc
  case hw => w_witness2
  case hc =>
    refine LamX.walk_ofTsE (l := PySem.Challenge.rw_fivefault_k50_capacities_of_a_store) (n := 63) (k := 26) (x := "_law_script") (CX := fun _ => L2.CX0) rfl (by decide) (by kernel_rfl) ⟨rfl, by decide, by decide⟩ ?F (fun _ _ _ _ _ z => z)
    intro w mg fa h Y G hmg0
    obtain ⟨K, KX, c⟩ := Y
    have hmg : mg ("law" : PySem.Str) = some (.ref fa) := by
      have e : (HandSHeadRun.topDef (PySem.W.OpenLaw.row PySem.Challenge.rw_fivefault_k50_capacities_of_a_store).prog 76).name = ("law" : PySem.Str) := by kernel_rfl
      rw [← e]
      exact hmg0
    obtain ⟨fd, hb, hF⟩ := FF.facts (P := (PySem.Challenge.rw_fivefault_k50_capacities_of_a_store).prog) (w := w) KX G hmg c
    refine ⟨K, KX, fd, [He.cT K ("law", none)], FF.spLaw K, fun p hp => ?_, fun p hp => ?_, fun p hp => ?_, hb, fun H a ns hl _ hT hS => ⟨a, ns, rfl, hS, fun p hp => ?_, fun _ => rfl⟩, hF⟩
    · exact List.mem_singleton.mp hp ▸ c.z.x.empty ("law", none) (by simp)
    · exact List.mem_singleton.mp hp ▸ c.z.x.out ("law", none) (by simp)
    · exact List.mem_singleton.mp hp ▸ PySem.W.codeHd_of_K KX (c.z.x.hd ("law", none) (by simp))
    · exact List.mem_singleton.mp hp ▸ LamX.TabS.nil (hT (He.cT K ("law", none)) (by simp))

