import PyProof.Rows.All
import Wide.All
import OpenK.AllK
import Wide.FinOn
import HandS.ForMost
import HandS.IsInst
import HandS.Deep
import HandS.Zip
import HandS.Defaults
import HandS.More
import HandS.Conv
import HandS.Style
import HandS.Codes
import HandS.ExcInit
import HandS.ExcField
import HandS.TryMany
import HandS.ClsMeth
import HandS.Lambda
import HandS.EndTab
import HandS.HeadWalk
import HandS.WordsExc
import PyProof.P3Eq
import HandS.HeadHook4
import HandS.Head2
import HandS.HeadEnd
import PyProof.P3In
import PyProof.ListStr
import HandS.Star
import HandS.DictComp
import HandS.FStr
import HandS.StrMore
import PyProof.Rows.SortShellSt
import KE.GoesMore
import HandS.Walk
import HandS.SetKeys
import HandS.IntHex
import HandS.OwnEq
import HandS.DictSub
import HandS.MakeKwOnly
import KE.DataCmp
import HandS.Property
import HandS.MethStar
import HandS.SetFor
import HandS.SetBool
import HandS.Strs
import HandS.TupAny
import HandS.GenYield
import HandS.GenList
import HandS.IterVal
import HandS.SortKw
import HandS.SortRule
import KE.DatumOrd
import KE.KeyNested
import KE.KDictKeyed
import HandS.Flow
import KE.KSuperObj
import HandS.More
import KE.KCallOwn
import KE.KEqNest
import HandS.WordsDict
import HandS.Finally
import KE.KExcInit
import HandS.ExcIs
import PySem.Challenge.RW_fivefault_k08_expressions_with_operators
set_option Elab.async false
set_option linter.all false
set_option maxRecDepth 100000
set_option maxHeartbeats 2000000
/-! Fivefault, part 1: heaps that grow, data, the draws' source. -/
namespace FF
open PySem PySem.Spec PyProof.Rows L2

/-! ### heaps that grow -/
theorem same_new {H : Hp} {p : Addr} (h : H p = none) (o : HO) : Same H (upd H p o) := fun b u q => by rw [upd_ne (ne_of_none q h)]; exact q
theorem same_rd {H H' : Hp} {a : Addr} {u : HO} (e : Same H H') (h : Rd H a u) : Rd H' a u := by
  rcases h with h | ⟨o, h⟩
  · exact .inl (e _ _ h)
  · exact .inr ⟨o, e _ _ h⟩
theorem up_l {K : PySem.W.Frag} {H H' : Hp} {a : Addr} {xs : List V} (e : Same H H') (h : SqL K H a xs) : SqL K H' a xs := by
  rcases h with h | h
  · exact .inl (same_rd e h)
  · exact .inr h
theorem up_t {K : PySem.W.Frag} {H H' : Hp} {a : Addr} {xs : List V} (e : Same H H') (h : SqT K H a xs) : SqT K H' a xs := by
  rcases h with h | h
  · exact .inl (same_rd e h)
  · exact .inr h
mutual
theorem up_d {K : PySem.W.Frag} {H H' : Hp} (e : Same H H') : ∀ {v : V} {d : PyData}, Dp K H v d → Dp K H' v d
  | _, _, .non => .non
  | _, _, .bl b => .bl b
  | _, _, .int i => .int i
  | _, _, .str x => .str x
  | _, _, .lst h a => .lst (up_l e h) (up_da e a)
  | _, _, .tup h a => .tup (up_t e h) (up_da e a)
theorem up_da {K : PySem.W.Frag} {H H' : Hp} (e : Same H H') : ∀ {vs : List V} {ds : List PyData}, DpAll K H vs ds → DpAll K H' vs ds
  | _, _, .nil => .nil
  | _, _, .cons h a => .cons (up_d e h) (up_da e a)
end
theorem da_get {K : PySem.W.Frag} {H : Hp} : ∀ {vs : List V} {ds : List PyData} {i : Nat} {v : V}, DpAll K H vs ds → vs[i]? = some v → ∃ d, ds[i]? = some d ∧ Dp K H v d
  | _, _, 0, _, .cons h _, e => by cases e; exact ⟨_, rfl, h⟩
  | _, _, i + 1, _, .cons _ t, e => da_get (i := i) t e
theorem da_len {K : PySem.W.Frag} {H : Hp} : ∀ {vs : List V} {ds : List PyData}, DpAll K H vs ds → vs.length = ds.length
  | _, _, .nil => rfl
  | _, _, .cons _ t => congrArg Nat.succ (da_len t)
theorem da_app {K : PySem.W.Frag} {H : Hp} : ∀ {vs ws : List V} {ds es : List PyData}, DpAll K H vs ds → DpAll K H ws es → DpAll K H (vs ++ ws) (ds ++ es)
  | _, _, _, _, .nil, r => r
  | _, _, _, _, .cons h t, r => .cons h (da_app t r)
/-! ### what data is -/
def tyN : PyData → String
  | .none => "NoneType"
  | .bool _ => "bool"
  | .int _ => "int"
  | .str _ => "str"
  | .list _ => "list"
  | .tuple _ => "tuple"
  | .dict _ => "dict"
theorem dp_ty {K : PySem.W.Frag} {H : Hp} {v : V} {d : PyData} (h : Dp K H v d) : TyX K H v (.type (tyN d)) := by
  cases h with
  | non => exact .base .non
  | bl b => exact .base (.bl b)
  | int i => exact .base (.int i)
  | str x => exact .base (.str x)
  | lst h _ =>
    rcases h with (h | ⟨o, h⟩) | ⟨o, _, _, h, c, _⟩
    · exact .base (.lst h)
    · exact .base (.frz h)
    · exact .kList h c
  | tup h _ =>
    rcases h with (h | ⟨o, h⟩) | ⟨o, _, _, h, c, _⟩
    · exact .base (.tup h)
    · exact .fTuple h
    · exact .kTuple h c
def isStr : PyData → Bool
  | .str _ => true
  | _ => false
def isTup : PyData → Bool
  | .tuple _ => true
  | _ => false
def isLst : PyData → Bool
  | .list _ => true
  | _ => false
def isBool : PyData → Bool
  | .bool _ => true
  | _ => false
def isInt : PyData → Bool
  | .bool _ => true
  | .int _ => true
  | _ => false
def isDict : PyData → Bool
  | .dict _ => true
  | _ => false
theorem kb_str (d : PyData) : kitB (tyN d) "str" = some (isStr d) := by cases d <;> kernel_rfl
theorem kb_tup (d : PyData) : kitB (tyN d) "tuple" = some (isTup d) := by cases d <;> kernel_rfl
theorem kb_lst (d : PyData) : kitB (tyN d) "list" = some (isLst d) := by cases d <;> kernel_rfl
theorem kb_bool (d : PyData) : kitB (tyN d) "bool" = some (isBool d) := by cases d <;> kernel_rfl
theorem kb_int (d : PyData) : kitB (tyN d) "int" = some (isInt d) := by cases d <;> kernel_rfl
theorem kb_dict (d : PyData) : kitB (tyN d) "dict" = some (isDict d) := by cases d <;> kernel_rfl
/-- isinstance(x, T) over data -/
def rIsD (K : PySem.W.Frag) (T : String) (f : PyData → Bool) : List V → Hp → VK → Prop := fun xs H Q => ∃ (x : V) (d : PyData), xs = [x, .ty T] ∧ Dp K H x d ∧ Q (.bl (f d)) H
theorem call_isD {X : Cx} {T : String} {f : PyData → Bool} (hk : ∀ d, kitB (tyN d) T = some (f d)) : CallR X (.builtin "isinstance") (rIsD X.K T f) := by
  intro pins s σ H xs us Q I r h
  obtain ⟨x, d, rfl, hd, q⟩ := h
  exact call_isi pins s σ H _ us Q I r ⟨x, .ty T, _, _, _, rfl, .ty T, dp_ty hd, kit_ty (hk d), q⟩

/-! ### defs of the text -/
/-- the def x of the top keeps the promise sp at level k -/
structure Def (P : Program) (w : World) (K : PySem.W.Frag) (mg : Str → Option Value) (base : Heap) (x : Str) (k : Nat) (ps : List Str) (sp : Sp) : Prop where
  ex : ∃ (f : Addr) (fd : FuncData), FnOk P w K mg base CX0 k f fd ps sp ∧ mg x = some (.ref f) ∧ PySem.W.keepIn K (.ref f) = true ∧ Binds K fd ps []
theorem pe_def {X : Cx} {x : Str} {k j : Nat} {ps : List Str} {sp : Sp} {e : Expr} {es : List Expr} {p pos : Pos} {t : TA} (D : Def X.prog X.w X.K X.mg X.base x k ps sp) (hr : Room j X.A) (hkj : k ≤ j) (ha : PA X (e :: es) t)
    (hg : Gl X x := by rfl) (hdb : (x == ("__debug__" : Str)) = false := by decide) (he : starEach (e :: es) X.env = (false, eval e X.env) :: starEach es X.env := by rfl) (hpl : (backTo pos (starEach es X.env)).any (·.1) = false := by rfl) :
    PE X (.Call (.Name x p) (e :: es) [] pos) (tCall sp [] E0 t) := by
  obtain ⟨f, fd, F, hm, hk, hb⟩ := D.ex
  exact pe_call F (hr.mono hkj) hg hm hk hb .nil pass0 ha hdb he hpl
theorem Def.imp {P : Program} {w : World} {K : PySem.W.Frag} {mg : Str → Option Value} {base : Heap} {x : Str} {k : Nat} {ps : List Str} {sp sp' : Sp} (D : Def P w K mg base x k ps sp) (h : ∀ vs H Q E, sp' vs H Q E → sp vs H Q E) : Def P w K mg base x k ps sp' := by
  obtain ⟨f, fd, F, r⟩ := D.ex
  exact ⟨f, fd, F.imp h, r⟩
theorem Def.mono {P : Program} {w : World} {K : PySem.W.Frag} {mg : Str → Option Value} {base : Heap} {x : Str} {j k : Nat} {ps : List Str} {sp : Sp} (D : Def P w K mg base x j ps sp) (h : j ≤ k) : Def P w K mg base x k ps sp := by
  obtain ⟨f, fd, F, r⟩ := D.ex
  exact ⟨f, fd, F.mono h, r⟩

/-! ### a list that is hidden: its state is some good one -/
/-- at a stands a list whose items are good -/
def hid (good : List V → Prop) (a : Addr) : HO := .ext fun h => ∃ (xs : List V) (its : List Value) (n : Nat), good xs ∧ xs.length ≤ sizeLine ∧ Vals xs its ∧ h.get? a = some { cls := .type "list", data := .seq its.toArray n }
section
variable {P : Program} {w : World} {K : PySem.W.Frag} {mg : Str → Option Value} {base : Heap}
theorem upd_back {H : Hp} {a : Addr} {o u : HO} (h : H a = some u) : upd (upd H a o) a u = H := by
  funext b
  unfold upd
  split
  · next e => rw [e, h]
  · rfl
theorem hok_open {H : Hp} {h : Heap} {a : Addr} {good : List V → Prop} (hs : H a = some (hid good a)) (ok : HOk P w H h) : ∃ xs, good xs ∧ HOk P w (upd H a (.lst xs)) h := by
  obtain ⟨⟨xs, its, n, hg, hz, hv, he⟩, _, _⟩ := ok a _ hs
  refine ⟨xs, hg, fun b o e => ?_⟩
  by_cases hb : b = a
  · subst hb
    rw [upd_same] at e
    cases e
    exact ⟨hz, its, n, hv, he⟩
  · rw [upd_ne hb] at e
    refine (ok b o e).stay (fun _ _ _ q => q) (fun c q => ?_) (fun c ys q => ?_)
    · have hc : c ≠ a := by
        intro z
        rw [z, hs] at q
        cases q
      rw [upd_ne hc]
      exact q
    · have hc : c ≠ a := by
        intro z
        rw [z, hs] at q
        cases q
      rw [upd_ne hc]
      exact q
theorem hok_shut {H : Hp} {h : Heap} {a : Addr} {good : List V → Prop} {xs : List V} (hs : H a = some (.lst xs)) (hg : good xs) (ok : HOk P w H h) : HOk P w (upd H a (hid good a)) h := by
  obtain ⟨hz, its, n, hv, he⟩ := ok a _ hs
  intro b o e
  by_cases hb : b = a
  · subst hb
    rw [upd_same] at e
    cases e
    refine ⟨⟨xs, its, n, hg, hz, hv, he⟩, ⟨_, he⟩, fun h1 h2 ⟨xs1, its1, n1, g1, z1, v1, e1⟩ hk => ⟨xs1, its1, n1, g1, z1, v1, hk _ e1⟩⟩
  · rw [upd_ne hb] at e
    refine (ok b o e).stay (fun _ _ _ q => q) (fun c q => ?_) (fun c ys q => ?_)
    · have hc : c ≠ a := by
        intro z
        rw [z, hs] at q
        cases q
      rw [upd_ne hc]
      exact q
    · have hc : c ≠ a := by
        intro z
        rw [z, hs] at q
        cases q
      rw [upd_ne hc]
      exact q
/-- the list at a opened: what its items are the body may read and change; behind it the list is hidden again -/
theorem FnOk.open_ {k : Nat} {f : Addr} {fd : FuncData} {ps : List Str} {sp sp' : Sp} (F : FnOk P w K mg base CX0 k f fd ps sp) (len : ∀ vs H Q E, sp' vs H Q E → vs.length = ps.length)
    (h : ∀ vs H Q E, sp' vs H Q E → ∃ (a : Addr) (good : List V → Prop), H a = some (hid good a) ∧
      ∀ xs, good xs → sp vs (upd H a (.lst xs)) (fun v H' => ∃ ys, H' a = some (.lst ys) ∧ good ys ∧ Q v (upd H' a (hid good a))) E) : FnOk P w K mg base CX0 k f fd ps sp' := by
  refine ⟨len, fun A outer s H args us vs Q E hr e0 hb hv hsp => ?_⟩
  obtain ⟨a, good, ha, hq⟩ := h vs H Q E hsp
  obtain ⟨xs, hg, ok⟩ := hok_open ha e0.hok
  have dom : ∀ {b}, H b = none → (upd H a (.lst xs)) b = none := fun {b} n => by
    rw [upd_ne (fun z => by rw [z, ha] at n; cases n)]
    exact n
  have e1 : Env0 P w K mg base A outer s (upd H a (.lst xs)) := ⟨e0.frames, e0.mod, fun b o e => ⟨(e0.bs b o e).1, dom (e0.bs b o e).2⟩, e0.bsz, e0.funs, fun b hb => dom (e0.frf b hb), ok, e0.bare⟩
  refine codeAny_mono (F.run A outer s _ args us vs _ E hr e1 hb hv (hq xs hg)) fun r s' hc => ?_
  cases r with
  | error e => exact hc
  | ok fl =>
    cases fl with
    | ret u =>
      obtain ⟨v, H', os, bare, un, hok, rv, ys, hy, gy, q⟩ := hc
      refine ⟨v, _, os, bare, ?_, hok_shut hy gy hok, rv, q⟩
      have back : ∀ {b o}, H b = some o → b ≠ a → (upd H a (.lst xs)) b = some o := fun {b o} e hb => by rw [upd_ne hb]; exact e
      have notA : ∀ {b}, H b = none → b ≠ a := fun {b} n z => by rw [z, ha] at n; cases n
      refine ⟨fun b o e n h1 h2 => un.keep b o e (dom n) h1 h2, fun b o e n h1 h2 => un.slot b o e (dom n) h1 h2, fun b o e n h1 => ?_, un.there, fun b ys' e => ?_, fun b o u' e => ?_, fun b ps' e => ?_⟩
      · rw [upd_ne (notA n)]
        exact un.free b o e (dom n) h1
      · have hb : b ≠ a := fun z => by rw [z, ha] at e; cases e
        rw [upd_ne hb]
        exact un.tups b ys' (back e hb)
      · have hb : b ≠ a := fun z => by rw [z, ha] at e; cases e
        rw [upd_ne hb]
        exact un.frzs b o u' (back e hb)
      · have hb : b ≠ a := fun z => by rw [z, ha] at e; cases e
        rw [upd_ne hb]
        exact un.tbls b ps' (back e hb)
    | next => exact hc
    | brk => exact hc
    | cont => exact hc
/-- behind the body the list at a is hidden -/
theorem FnOk.shut_ {k : Nat} {f : Addr} {fd : FuncData} {ps : List Str} {sp sp' : Sp} (F : FnOk P w K mg base CX0 k f fd ps sp) (len : ∀ vs H Q E, sp' vs H Q E → vs.length = ps.length)
    (h : ∀ vs H Q E, sp' vs H Q E → sp vs H (fun v H' => ∃ (a : Addr) (good : List V → Prop) (ys : List V), H a = none ∧ H' a = some (.lst ys) ∧ good ys ∧ Q v (upd H' a (hid good a))) E) : FnOk P w K mg base CX0 k f fd ps sp' := by
  refine ⟨len, fun A outer s H args us vs Q E hr e0 hb hv hsp => ?_⟩
  refine codeAny_mono (F.run A outer s _ args us vs _ E hr e0 hb hv (h vs H Q E hsp)) fun r s' hc => ?_
  cases r with
  | error e => exact hc
  | ok fl =>
    cases fl with
    | ret u =>
      obtain ⟨v, H', os, bare, un, hok, rv, a, good, ys, hn, hy, gy, q⟩ := hc
      refine ⟨v, _, os, bare, ?_, hok_shut hy gy hok, rv, q⟩
      refine ⟨un.keep, un.slot, fun b o e n h1 => ?_, un.there, fun b ys' e => ?_, fun b o u' e => ?_, fun b ps' e => ?_⟩
      · have hb : b ≠ a := fun z => by
          have q1 := un.free b o e n h1
          rw [z, hy] at q1
          cases q1
        rw [upd_ne hb]
        exact un.free b o e n h1
      · rw [upd_ne (ne_of_none e hn)]
        exact un.tups b ys' e
      · rw [upd_ne (ne_of_none e hn)]
        exact un.frzs b o u' e
      · rw [upd_ne (ne_of_none e hn)]
        exact un.tbls b ps' e
    | next => exact hc
    | brk => exact hc
    | cont => exact hc
end
end FF
/-! Fivefault, part 2: defs by their bodies, names of the top, the draws' source. -/
namespace FF
open PySem PySem.Spec PyProof.Rows L2

/-! ### names of the top -/
section
variable {X : Cx} {x : Str} {pos : Pos}
theorem pe_gi {i : Int} (h : ∃ t, X.mg x = some (.int i t)) (hg : Gl X x := by rfl) (hd : (x == ("__debug__" : Str)) = false := by decide) : PE X (.Name x pos) (tC (.int i)) := by
  obtain ⟨t, h⟩ := h
  exact pe_glob hg h ⟨t, rfl⟩ hd
theorem pe_gs {z : Str} (h : ∃ t, X.mg x = some (.str z t)) (hg : Gl X x := by rfl) (hd : (x == ("__debug__" : Str)) = false := by decide) : PE X (.Name x pos) (tC (.str z)) := by
  obtain ⟨t, h⟩ := h
  exact pe_glob hg h ⟨t, rfl⟩ hd
theorem pe_gT {a : Addr} (h : X.mg x = some (.ref a)) (hg : Gl X x := by rfl) (hd : (x == ("__debug__" : Str)) = false := by decide) : PE X (.Name x pos) (tC (.ref a)) := pe_glob (v := .ref a) hg h rfl hd
end
/-! ### a def by its body -/
section
variable {P : Program} {w : World} {K : PySem.W.Frag} {mg : Str → Option Value} {base : Heap}
theorem def_mk {x : Str} {st : Stmt} {f : Addr} {fd : FuncData} {dvs : List V} {kws : List (Str × V)} {N ps : List Str} {k : Nat} {sp : Sp} (F : FunD K x x (defArgs st) (defBody st) (defScope st) dvs kws f fd) (hm : mg x = some (.ref f)) (hb : Binds K fd ps [])
    (S : FnScope N ps (defScope st)) (len : ∀ vs H Q E, sp vs H Q E → vs.length = ps.length)
    (body : ∀ (cdv : Value) (A : Around) (outer : List Env) (s : Shared) (H : Hp) (vs : List V) (Q : VK) (E : XK), Room k (A.deeper (envOfC x (defScope st) s.heap.objs.size f cdv)) → sp vs H Q E →
      ∃ t, PSs (cxOf CX0 P w K mg base N x (defScope st) f cdv A outer s H E).nox (defBody st) t ∧ t { nx := fun _ H' => Q .non H', rt := Q } (start N vs) H) : Def P w K mg base x (k + 1) ps sp :=
  ⟨f, fd, FunD.ok F S len (fun cdv A outer s H vs Q E hr h => let ⟨t, a, b⟩ := body cdv A outer s H vs Q E hr h; ⟨t, PSs.nox a, b⟩), hm, F.kp, hb⟩
/-- two more ways to say it: the list at an address hidden -/
theorem Def.open_ {x : Str} {k : Nat} {ps : List Str} {sp sp' : Sp} (D : Def P w K mg base x k ps sp) (len : ∀ vs H Q E, sp' vs H Q E → vs.length = ps.length)
    (h : ∀ vs H Q E, sp' vs H Q E → ∃ (a : Addr) (good : List V → Prop), H a = some (hid good a) ∧
      ∀ xs, good xs → sp vs (upd H a (.lst xs)) (fun v H' => ∃ ys, H' a = some (.lst ys) ∧ good ys ∧ Q v (upd H' a (hid good a))) E) : Def P w K mg base x k ps sp' := by
  obtain ⟨f, fd, F, r⟩ := D.ex
  exact ⟨f, fd, FnOk.open_ F len h, r⟩
theorem Def.shut_ {x : Str} {k : Nat} {ps : List Str} {sp sp' : Sp} (D : Def P w K mg base x k ps sp) (len : ∀ vs H Q E, sp' vs H Q E → vs.length = ps.length)
    (h : ∀ vs H Q E, sp' vs H Q E → sp vs H (fun v H' => ∃ (a : Addr) (good : List V → Prop) (ys : List V), H a = none ∧ H' a = some (.lst ys) ∧ good ys ∧ Q v (upd H' a (hid good a))) E) : Def P w K mg base x k ps sp' := by
  obtain ⟨f, fd, F, r⟩ := D.ex
  exact ⟨f, fd, FnOk.shut_ F len h, r⟩
end
/-! ### list of a text -/
theorem vals_at : ∀ {xs : List V} {us : List Value}, xs.length = us.length → (∀ (i : Nat) (x : V), xs[i]? = some x → ∃ u, us[i]? = some u ∧ RelV x u) → Vals xs us
  | [], [], _, _ => .nil
  | [], _ :: _, h, _ => by cases h
  | _ :: _, [], h, _ => by cases h
  | x :: xs, u :: us, h, k => by
    obtain ⟨u', e, r⟩ := k 0 x rfl
    cases e
    exact .cons r (vals_at (Nat.succ.inj h) fun i y hy => k (i + 1) y hy)
theorem items_signs {z : Str} {us : Array Value} (h : ItemsOf (SignAt z) us z.cps.size) : Vals (z.cps.toList.map fun c => V.str ⟨#[c]⟩) us.toList := by
  obtain ⟨h1, h2⟩ := h
  refine vals_at (by simp [h1]) fun i x hx => ?_
  rw [List.getElem?_map] at hx
  cases e : z.cps.toList[i]? with
  | none => rw [e] at hx; cases hx
  | some c =>
    rw [e] at hx
    cases hx
    have hi : i < us.size := by
      have := (List.getElem?_eq_some_iff.mp e).1
      simp at this
      omega
    obtain ⟨c', u, e1, e2⟩ := h2 i us[i] (Array.getElem?_eq_getElem hi)
    have e3 : z.cps.toList[i]? = some c' := by simpa using e1
    rw [e] at e3
    cases e3
    exact ⟨us[i], by simp [hi], u, e2⟩
def rListS : List V → Hp → VK → Prop := fun xs H Q => ∃ z : Str, xs = [.str z] ∧ z.length ≤ sizeLine ∧ ∀ l, H l = none → Q (.ref l) (upd H l (.lst (z.cps.toList.map fun c => V.str ⟨#[c]⟩)))
theorem call_list_s {X : Cx} (hc : X.calm = true) : CallR X (.type "list") rListS := by
  intro pins s σ H xs us Q I r h
  obtain ⟨z, rfl, hz, q⟩ := h
  obtain ⟨u, rfl, t, rfl⟩ := Vals.one r
  refine call_list_str (I.ok.hd hc) z t (fun h' tk acc' c' hk hl hi => ?_) hz
  have hv := items_signs hi
  exact ⟨.ref _, _, I.laid (t' := tk) (o := .lst (z.cps.toList.map fun c => V.str ⟨#[c]⟩)) hk (Nat.le_refl _) ⟨by rw [List.length_map]; exact hz, acc'.toList, c', hv, by simpa using hl⟩, rfl, q _ (I.hok.fresh (Nat.le_refl _))⟩
end FF
/-! Fivefault, part 3: data that is well formed; in, not in; measures of values. -/
namespace FF
open PySem PySem.Spec PyProof.Rows L2

/-! ### data that is well formed: texts are short, nested at most 60 deep -/
mutual
def nice : PyData → Bool
  | .none => true
  | .bool _ => true
  | .int _ => true
  | .str x => decide (x.length ≤ 20000) && PyData.strOk x
  | .list xs => decide (xs.length ≤ 20000) && niceAll xs
  | .tuple xs => decide (xs.length ≤ 20000) && niceAll xs
  | .dict _ => false
def niceAll : List PyData → Bool
  | [] => true
  | x :: xs => nice x && niceAll xs
end
mutual
theorem nice_lay : ∀ d : PyData, nice d = true → d.canLay0 = true
  | .none, _ => rfl
  | .bool _, _ => rfl
  | .int _, _ => rfl
  | .str x, h => by
    simp only [nice, Bool.and_eq_true] at h
    simp only [PyData.canLay0]
    exact h.2
  | .list xs, h => by
    simp only [nice, Bool.and_eq_true] at h
    simp only [PyData.canLay0]
    exact niceAll_lay xs h.2
  | .tuple xs, h => by
    simp only [nice, Bool.and_eq_true] at h
    simp only [PyData.canLay0]
    exact niceAll_lay xs h.2
  | .dict _, h => by simp [nice] at h
theorem niceAll_lay : ∀ ds : List PyData, niceAll ds = true → PyData.canLayAll0 ds = true
  | [], _ => rfl
  | x :: xs, h => by
    simp only [niceAll, Bool.and_eq_true] at h
    simp only [PyData.canLayAll0, nice_lay x h.1, niceAll_lay xs h.2, Bool.and_self]
end
theorem niceAll_mem : ∀ {ds : List PyData} {d : PyData}, niceAll ds = true → d ∈ ds → nice d = true
  | x :: xs, d, h, m => by
    simp only [niceAll, Bool.and_eq_true] at h
    rcases List.mem_cons.mp m with e | m
    · rw [e]; exact h.1
    · exact niceAll_mem h.2 m
theorem niceAll_of : ∀ {ds : List PyData}, (∀ d ∈ ds, nice d = true) → niceAll ds = true
  | [], _ => rfl
  | x :: xs, h => by
    simp only [niceAll, Bool.and_eq_true]
    exact ⟨h x (List.mem_cons_self ..), niceAll_of fun d m => h d (List.mem_cons_of_mem _ m)⟩
theorem depthAll_mem : ∀ {ds : List PyData} {d : PyData}, d ∈ ds → d.depth ≤ PyData.depthAll ds
  | x :: xs, d, m => by
    rw [PyData.depthAll]
    rcases List.mem_cons.mp m with e | m
    · rw [e]; omega
    · have := depthAll_mem m; omega
theorem depthAll_of : ∀ {ds : List PyData} {n : Nat}, (∀ d ∈ ds, d.depth ≤ n) → PyData.depthAll ds ≤ n
  | [], _, _ => by rw [PyData.depthAll]; omega
  | x :: xs, n, h => by
    rw [PyData.depthAll]
    have h1 := h x (List.mem_cons_self ..)
    have h2 := depthAll_of fun d m => h d (List.mem_cons_of_mem x m)
    omega
/-- nested at most n deep, with short texts -/
structure Nice (n : Nat) (d : PyData) : Prop where
  ok : nice d = true
  dp : d.depth ≤ n
theorem Nice.shaped {n : Nat} {d : PyData} (h : Nice n d) (hn : n ≤ 64 := by decide) : SeqAt.shaped d = true := by
  have h1 := nice_lay d h.ok
  have h2 : d.depth ≤ 64 := Nat.le_trans h.dp hn
  show (d.canLay0 && decide (d.depth ≤ 64)) = true
  rw [h1, decide_eq_true h2] <;> rfl
theorem Nice.mono {m n : Nat} {d : PyData} (h : Nice m d) (hm : m ≤ n) : Nice n d := ⟨h.ok, Nat.le_trans h.dp hm⟩
theorem Nice.itemT {n : Nat} {ds : List PyData} {d : PyData} (h : Nice n (.tuple ds)) (m : d ∈ ds) : Nice n d := by
  obtain ⟨h1, h2⟩ := h
  simp only [nice, Bool.and_eq_true] at h1
  simp only [PyData.depth] at h2
  have := depthAll_mem m
  exact ⟨niceAll_mem h1.2 m, by omega⟩
theorem Nice.tuple {n : Nat} {ds : List PyData} (hl : ds.length ≤ 20000) (h : ∀ d ∈ ds, Nice n d) : Nice (n + 1) (.tuple ds) := by
  refine ⟨by simp only [nice, Bool.and_eq_true, decide_eq_true_eq]; exact ⟨hl, niceAll_of fun d m => (h d m).ok⟩, ?_⟩
  simp only [PyData.depth]
  have := depthAll_of (n := n) fun d m => (h d m).dp
  omega
theorem Nice.list {n : Nat} {ds : List PyData} (hl : ds.length ≤ 20000) (h : ∀ d ∈ ds, Nice n d) : Nice (n + 1) (.list ds) := by
  refine ⟨by simp only [nice, Bool.and_eq_true, decide_eq_true_eq]; exact ⟨hl, niceAll_of fun d m => (h d m).ok⟩, ?_⟩
  simp only [PyData.depth]
  have := depthAll_of (n := n) fun d m => (h d m).dp
  omega
theorem nice_str {z : Str} (h : nice (.str z) = true) : z.length ≤ sizeLine := by
  simp only [nice, Bool.and_eq_true, decide_eq_true_eq] at h
  exact Nat.le_trans h.1 (by decide)

theorem nice_tl {ds : List PyData} (h : nice (.tuple ds) = true) : ds.length ≤ 20000 := by
  simp only [nice, Bool.and_eq_true, decide_eq_true_eq] at h
  exact h.1
theorem nice_ll {ds : List PyData} (h : nice (.list ds) = true) : ds.length ≤ 20000 := by
  simp only [nice, Bool.and_eq_true, decide_eq_true_eq] at h
  exact h.1
theorem nice_ti {ds : List PyData} {d : PyData} (h : nice (.tuple ds) = true) (m : d ∈ ds) : nice d = true := by
  simp only [nice, Bool.and_eq_true, decide_eq_true_eq] at h
  exact niceAll_mem h.2 m
theorem nice_li {ds : List PyData} {d : PyData} (h : nice (.list ds) = true) (m : d ∈ ds) : nice d = true := by
  simp only [nice, Bool.and_eq_true, decide_eq_true_eq] at h
  exact niceAll_mem h.2 m
theorem le_line {n : Nat} (h : n ≤ 20000) : n ≤ sizeLine := Nat.le_trans h (by decide)
theorem lt_line {n : Nat} (h : n ≤ 20000) : n < sizeLine := Nat.lt_of_le_of_lt h (by decide)

/-! ### x in a written tuple or list, for any data -/
def rInDs (K : PySem.W.Frag) (neg : Bool) : R2 := fun x y H Q => ∃ d ds, Dp K H x d ∧ (Dp K H y (.list ds) ∨ Dp K H y (.tuple ds)) ∧ SeqAt.shaped d = true ∧ SeqAt.shaped (.list ds) = true ∧ Q (.bl (if neg then !(ds.any fun z => PyData.eqv z d) else (ds.any fun z => PyData.eqv z d))) H
theorem op_notInDs {X : Cx} (hu : X.A.units + 65 < cLine) : OpR X (compareOp .NotIn) (rInDs X.K true) := by
  intro pins s σ H x y v u Q I rx ry h
  obtain ⟨d, ds, hd, he | he, sd, se, q⟩ := h
  · obtain ⟨as, r1⟩ := Dp.reads I d x v hd rx
    obtain ⟨bs, r2⟩ := Dp.reads I (.list ds) y u he ry
    exact SeqAt.notIn_list_reads r2 r1 (SeqAt.canLay_of_shaped se) (SeqAt.canLay_of_shaped sd) (room_in_shaped sd hu) ⟨.bl _, H, I, rfl, q⟩
  · obtain ⟨as, r1⟩ := Dp.reads I d x v hd rx
    obtain ⟨bs, r2⟩ := Dp.reads I (.tuple ds) y u he ry
    exact SeqAt.notIn_tuple_reads r2 r1 (SeqAt.canLay_of_shaped se) (SeqAt.canLay_of_shaped sd) (room_in_shaped sd hu) ⟨.bl _, H, I, rfl, q⟩

/-! ### letters and measures -/
abbrev lettersS : Str := "abcdefgh"
def isLetS (z : Str) : Bool := match z.cps.toList with
  | [c] => decide (c ∈ lettersS.cps.toList)
  | _ => false
def isLet : PyData → Bool
  | .str z => isLetS z
  | _ => false
def isOp : PyData → Bool
  | .str z => decide (z = ("&" : Str)) || decide (z = ("|" : Str))
  | _ => false
theorem len1 {z : Str} (h : z.length = 1) : ∃ c, z = ⟨#[c]⟩ := by
  obtain ⟨⟨l⟩⟩ := z
  match l, h with
  | [c], _ => exact ⟨c, rfl⟩
theorem isLetS_one {c : Nat} : isLetS ⟨#[c]⟩ = decide (c ∈ lettersS.cps.toList) := rfl
theorem isLetS_no {z : Str} (h : z.length ≠ 1) : isLetS z = false := by
  obtain ⟨⟨l⟩⟩ := z
  match l, h with
  | [], _ => rfl
  | [c], h => exact absurd rfl h
  | _ :: _ :: _, _ => rfl
/-- what stands in a tuple of the form of a term -/
def measP (f : PyData → Int) : PyData → Int
  | .tuple (x :: y :: z :: r) => if isOp x = true then (if (0 : Int) ∈ ((y :: z :: r).map f) then 0 else ((y :: z :: r).map f).sum) else 0
  | _ => 0
/-- the size of a value of the form of a term, at most n deep, or 0 -/
def meas : Nat → PyData → Int
  | 0, _ => 0
  | n + 1, d => if isLet d = true then 1 else if n = 0 then 0 else measP (meas n) d
theorem meas_let {n : Nat} {d : PyData} (h : isLet d = true) : meas n d = if 0 < n then 1 else 0 := by
  cases n with
  | zero => rfl
  | succ n =>
    show (if isLet d = true then (1 : Int) else _) = _
    rw [if_pos h, if_pos (Nat.succ_pos n)]
theorem meas_low {n : Nat} {d : PyData} (h : isLet d = false) (hn : n < 2) : meas n d = 0 := by
  match n, hn with
  | 0, _ => rfl
  | 1, _ =>
    show (if isLet d = true then (1 : Int) else if 0 = 0 then 0 else _) = _
    rw [if_neg (by rw [h]; decide), if_pos rfl]
theorem meas_up {n : Nat} {d : PyData} (h : isLet d = false) (hn : 0 < n) : meas (n + 1) d = measP (meas n) d := by
  show (if isLet d = true then (1 : Int) else if n = 0 then 0 else measP (meas n) d) = _
  rw [if_neg (by rw [h]; decide), if_neg (by omega)]
end FF
/-! Fivefault, part 4: hidden lists read and stored; calls with keywords; tests. -/
namespace FF
open PySem PySem.Spec PyProof.Rows L2

section
variable {X : Cx} {pins : List (Addr × Obj)} {σ : L2.St} {H : Hp} {s : Shared} {a : Addr} {good : List V → Prop}
end
/-! ### calls with keywords -/
section
variable {K : PySem.W.Frag} {x qual : Str} {params : Arguments} {body : List Stmt} {scope : Scope} {kws : List (Str × V)} {f : Addr} {fd : FuncData} {ps : List Str}
end
section
variable {X : Cx} {CX : CXT} {k n : Nat} {f : Addr} {fd : FuncData} {ps ks : List Str} {sp : Sp} {E : XK} {x : Str} {p pos : Pos} {kws : List Keyword} {tk : TA} {g : List Value → List Value → List Value} {gV : List V → List V → List V}
end

/-! ### tests -/
theorem if_int {a b : Int} {A B : Prop} (h1 : a = b → A) (h2 : a ≠ b → B) : if decide (V.int a = V.int b) = true then A else B := by
  by_cases h : a = b
  · rw [decide_eq_true (congrArg V.int h)]
    exact iteT (h1 h)
  · rw [decide_eq_false (fun z => h (V.int.inj z))]
    exact iteF (h2 h)
theorem if_dec {p : Prop} [Decidable p] {A B : Prop} (h1 : p → A) (h2 : ¬ p → B) : if decide p = true then A else B := by
  by_cases h : p
  · rw [decide_eq_true h]
    exact iteT (h1 h)
  · rw [decide_eq_false h]
    exact iteF (h2 h)
theorem if_b {b : Bool} {A B : Prop} (h1 : b = true → A) (h2 : b = false → B) : if b = true then A else B := by
  cases b
  · exact iteF (h2 rfl)
  · exact iteT (h1 rfl)
theorem if_nb {b : Bool} {A B : Prop} (h1 : b = false → A) (h2 : b = true → B) : if (!b) = true then A else B := by
  cases b
  · exact iteT (h1 rfl)
  · exact iteF (h2 rfl)
theorem qi {Q : VK} {H : Hp} {a b : Int} (h : Q (.int a) H) (e : a = b) : Q (.int b) H := e ▸ h
theorem qb {Q : VK} {H : Hp} {a b : Bool} (h : Q (.bl a) H) (e : a = b) : Q (.bl b) H := e ▸ h
theorem r65 {k : Nat} {A : Around} (hr : Room k A) : A.units + 65 < cLine := by have := hr.un; omega
theorem at0 {α : Type} {x : α} {xs : List α} : atI (x :: xs) 0 = some x := atI_nat (j := 0) rfl
end FF
/-! Fivefault, part 5: tuples never change; comprehensions that map; slices. -/
namespace FF
open PySem PySem.Spec PyProof.Rows L2

/-! ### tuples stay -/
def SameT (H H' : Hp) : Prop := ∀ b xs, H b = some (.tup xs) → H' b = some (.tup xs)
theorem SameT.refl (H : Hp) : SameT H H := fun _ _ h => h
theorem SameT.trans {H H1 H2 : Hp} (a : SameT H H1) (b : SameT H1 H2) : SameT H H2 := fun c o h => b c o (a c o h)
theorem Same.T {H H' : Hp} (e : Same H H') : SameT H H' := fun b xs h => e b _ h
theorem SameT.upd {H H' : Hp} {p : Addr} {o : HO} (e : SameT H H') (h : ∀ xs, H' p ≠ some (.tup xs)) : SameT H (upd H' p o) := fun b xs q => by
  have := e b xs q
  rw [upd_ne (fun z => h xs (by rw [← z]; exact this))]
  exact this
theorem SameT.updL {H H' : Hp} {p : Addr} {o : HO} {ys : List V} (e : SameT H H') (h : H' p = some (.lst ys)) : SameT H (L2.upd H' p o) := e.upd fun xs z => by rw [h] at z; cases z
def SqU (K : PySem.W.Frag) (H : Hp) (a : Addr) (xs : List V) : Prop :=
  H a = some (.tup xs) ∨ ∃ (o : Obj) (its : Array Value) (n : Nat), K.lookup a = some o ∧ o.cls = .type "tuple" ∧ o.data = .seq its n ∧ its.size ≤ sizeLine ∧ Vals xs its.toList
theorem SqU.sqT {K : PySem.W.Frag} {H : Hp} {a : Addr} {xs : List V} (h : SqU K H a xs) : SqT K H a xs := by
  rcases h with h | h
  · exact .inl (.inl h)
  · exact .inr h
theorem SqU.up {K : PySem.W.Frag} {H H' : Hp} {a : Addr} {xs : List V} (e : SameT H H') (h : SqU K H a xs) : SqU K H' a xs := by
  rcases h with h | h
  · exact .inl (e _ _ h)
  · exact .inr h
mutual
/-- data of tuples, texts and the like: no lists -/
inductive Tp (K : PySem.W.Frag) (H : Hp) : V → PyData → Prop
  | non : Tp K H .non .none
  | bl (b : Bool) : Tp K H (.bl b) (.bool b)
  | int (i : Int) : Tp K H (.int i) (.int i)
  | str (x : Str) : Tp K H (.str x) (.str x)
  | tup {a : Addr} {xs : List V} {ds : List PyData} : SqU K H a xs → TpAll K H xs ds → Tp K H (.ref a) (.tuple ds)
inductive TpAll (K : PySem.W.Frag) (H : Hp) : List V → List PyData → Prop
  | nil : TpAll K H [] []
  | cons {v : V} {vs : List V} {d : PyData} {ds : List PyData} : Tp K H v d → TpAll K H vs ds → TpAll K H (v :: vs) (d :: ds)
end
section
variable {K : PySem.W.Frag} {H H' : Hp}
mutual
theorem Tp.dp : ∀ {v : V} {d : PyData}, Tp K H v d → Dp K H v d
  | _, _, .non => .non
  | _, _, .bl b => .bl b
  | _, _, .int i => .int i
  | _, _, .str x => .str x
  | _, _, .tup h a => .tup h.sqT a.dp
theorem TpAll.dp : ∀ {vs : List V} {ds : List PyData}, TpAll K H vs ds → DpAll K H vs ds
  | _, _, .nil => .nil
  | _, _, .cons h a => .cons h.dp a.dp
end
mutual
theorem Tp.up (e : SameT H H') : ∀ {v : V} {d : PyData}, Tp K H v d → Tp K H' v d
  | _, _, .non => .non
  | _, _, .bl b => .bl b
  | _, _, .int i => .int i
  | _, _, .str x => .str x
  | _, _, .tup h a => .tup (h.up e) (a.up e)
theorem TpAll.up (e : SameT H H') : ∀ {vs : List V} {ds : List PyData}, TpAll K H vs ds → TpAll K H' vs ds
  | _, _, .nil => .nil
  | _, _, .cons h a => .cons (h.up e) (a.up e)
end
theorem TpAll.len : ∀ {vs : List V} {ds : List PyData}, TpAll K H vs ds → vs.length = ds.length
  | _, _, .nil => rfl
  | _, _, .cons _ t => congrArg Nat.succ (TpAll.len t)
theorem TpAll.get : ∀ {vs : List V} {ds : List PyData} {i : Nat} {v : V}, TpAll K H vs ds → vs[i]? = some v → ∃ d, ds[i]? = some d ∧ Tp K H v d
  | _, _, 0, _, .cons h _, e => by cases e; exact ⟨_, rfl, h⟩
  | _, _, i + 1, _, .cons _ t, e => TpAll.get (i := i) t e
theorem TpAll.app : ∀ {vs ws : List V} {ds es : List PyData}, TpAll K H vs ds → TpAll K H ws es → TpAll K H (vs ++ ws) (ds ++ es)
  | _, _, _, _, .nil, r => r
  | _, _, _, _, .cons h t, r => .cons h (t.app r)
end

/-! ### slices t[1:] -/
theorem cut1 {x : V} {xs : List V} : cutV (x :: xs) (some 1) none = xs := by
  show (((x :: xs).drop (HT.sIx (xs.length + 1) 0 (some ((1 : Nat) : Int)))).take (HT.sIx (xs.length + 1) (xs.length + 1) none - HT.sIx (xs.length + 1) 0 (some ((1 : Nat) : Int)))) = xs
  rw [HT.sIx_nat, HT.sIx_none, show min 1 (xs.length + 1) = 1 by omega]
  show xs.take (xs.length + 1 - 1) = xs
  rw [Nat.add_sub_cancel, List.take_length]
theorem notWhole1 {x : V} {xs : List V} : ¬ (HT.sIx (x :: xs).length 0 (some 1) = 0 ∧ HT.sIx (x :: xs).length (x :: xs).length none = (x :: xs).length) := by
  rintro ⟨h, _⟩
  have : HT.sIx (xs.length + 1) 0 (some ((1 : Nat) : Int)) = 0 := h
  rw [HT.sIx_nat] at this
  omega

/-! ### [e for x in xs] -/
section
variable {K : PySem.W.Frag} {a : Addr} {xs : List V} {te : TE} {vs : List Nat} {σ : L2.St} {H1 : Hp} {D : Addr} {Qd : Hp → Prop} {j : Nat}
/-- what a step of the loop over the list gives -/
theorem lc_turn {i : Nat} {H : Hp} {x : V} {R : Nat → V → Hp → Prop} (mono : ∀ i y H H', SameT H H' → R i y H → R i y H') (hD : H1 D = none)
    (p : Same H1 H ∧ ∃ ys, H D = some (.lst ys) ∧ ys.length = i ∧ ∀ m y, ys[m]? = some y → R m y H) (hi : i < sizeLine)
    (st : ∀ Q' : VK, (∀ y H3, Same H H3 → R i y H3 → Q' y H3) → te ((wipe σ vs).set j (some x)) H Q') :
    te ((wipe σ vs).set j (some x)) H fun y H4 => ∃ acc, H4 D = some (.lst acc) ∧ acc.length < sizeLine ∧ (Same H1 (upd H4 D (.lst (acc ++ [y]))) ∧ ∃ ys, (upd H4 D (.lst (acc ++ [y]))) D = some (.lst ys) ∧ ys.length = i + 1 ∧ ∀ m y', ys[m]? = some y' → R m y' (upd H4 D (.lst (acc ++ [y])))) := by
  obtain ⟨e1, ys, h2, h3, h4⟩ := p
  refine st _ fun y H3 e3 r => ?_
  have hd := e3 _ _ h2
  refine ⟨ys, hd, by omega, fun b o q => ?_, ys ++ [y], upd_same, by simp [h3], fun m y' q => ?_⟩
  · rw [upd_ne (ne_of_none q hD)]
    exact e3 _ _ (e1 _ _ q)
  · have eT : SameT H3 (upd H3 D (.lst (ys ++ [y]))) := (SameT.refl H3).updL hd
    by_cases hm : m < ys.length
    · rw [List.getElem?_append_left hm] at q
      exact mono _ _ _ _ ((Same.T e3).trans eT) (h4 m y' q)
    · have : m = ys.length := by
        have := (List.getElem?_eq_some_iff.mp q).1
        simp at this
        omega
      subst this
      rw [List.getElem?_append_right (Nat.le_refl _), Nat.sub_self] at q
      cases q
      rw [h3]
      exact mono _ _ _ _ eT r
theorem lc_mapT (R : Nat → V → Hp → Prop) (mono : ∀ i y H H', SameT H H' → R i y H → R i y H') (hD : H1 D = none) (hs : SqT K H1 a xs) (hz : xs.length ≤ sizeLine)
    (hw : ∀ x, wipe ((wipe σ vs).set j (some x)) vs = wipe σ vs)
    (step : ∀ i x H2, xs[i]? = some x → Same H1 H2 → ∀ Q' : VK, (∀ y H3, Same H2 H3 → R i y H3 → Q' y H3) → te ((wipe σ vs).set j (some x)) H2 Q')
    (done : ∀ H2 ys, Same H1 H2 → H2 D = some (.lst ys) → ys.length = xs.length → (∀ (i : Nat) (y : V), ys[i]? = some y → R i y H2) → Qd H2) :
    ∃ W : Nat → Nat → Hp → Prop, (∃ m, W 0 m (upd H1 D (.lst []))) ∧ ∀ i m H, W i m H →
      ((Itt K a).stop i H ∧ Qd H) ∨ ((Itt K a).go i H ∧ ∃ Nx : Hp → Prop, (∀ H', Nx H' → ∃ m', m' < m ∧ W (i + 1) m' H') ∧ ∀ x H', (Itt K a).yld i H x H' → gName j x (wipe σ vs) H' fun σ2 H2 => wipe σ2 vs = wipe σ vs ∧ tYes σ2 H2 fun b H3 =>
        if b = true then te σ2 H3 fun y H4 => ∃ acc, H4 D = some (.lst acc) ∧ acc.length < sizeLine ∧ Nx (upd H4 D (.lst (acc ++ [y]))) else Nx H3) :=
  lc_tup (fun i H => Same H1 H ∧ ∃ ys, H D = some (.lst ys) ∧ ys.length = i ∧ ∀ m y, ys[m]? = some y → R m y H)
    ⟨same_new hD _, [], upd_same, rfl, fun m y q => by simp at q⟩ (fun i H _ p => up_t p.1 hs)
    (fun i x H hx p => ⟨hw x, lc_turn mono hD p (Nat.lt_of_lt_of_le (List.getElem?_eq_some_iff.mp hx).1 hz) (step i x H hx p.1)⟩)
    fun H ⟨e, ys, h1, h2, h3⟩ => done H ys e h1 h2 h3
theorem lc_mapL (R : Nat → V → Hp → Prop) (mono : ∀ i y H H', SameT H H' → R i y H → R i y H') (hD : H1 D = none) (hs : SqL K H1 a xs) (hz : xs.length ≤ sizeLine)
    (hw : ∀ x, wipe ((wipe σ vs).set j (some x)) vs = wipe σ vs)
    (step : ∀ i x H2, xs[i]? = some x → Same H1 H2 → ∀ Q' : VK, (∀ y H3, Same H2 H3 → R i y H3 → Q' y H3) → te ((wipe σ vs).set j (some x)) H2 Q')
    (done : ∀ H2 ys, Same H1 H2 → H2 D = some (.lst ys) → ys.length = xs.length → (∀ (i : Nat) (y : V), ys[i]? = some y → R i y H2) → Qd H2) :
    ∃ W : Nat → Nat → Hp → Prop, (∃ m, W 0 m (upd H1 D (.lst []))) ∧ ∀ i m H, W i m H →
      ((Itl K a).stop i H ∧ Qd H) ∨ ((Itl K a).go i H ∧ ∃ Nx : Hp → Prop, (∀ H', Nx H' → ∃ m', m' < m ∧ W (i + 1) m' H') ∧ ∀ x H', (Itl K a).yld i H x H' → gName j x (wipe σ vs) H' fun σ2 H2 => wipe σ2 vs = wipe σ vs ∧ tYes σ2 H2 fun b H3 =>
        if b = true then te σ2 H3 fun y H4 => ∃ acc, H4 D = some (.lst acc) ∧ acc.length < sizeLine ∧ Nx (upd H4 D (.lst (acc ++ [y]))) else Nx H3) :=
  lc_list (fun i H => Same H1 H ∧ ∃ ys, H D = some (.lst ys) ∧ ys.length = i ∧ ∀ m y, ys[m]? = some y → R m y H)
    ⟨same_new hD _, [], upd_same, rfl, fun m y q => by simp at q⟩ (fun i H _ p => up_l p.1 hs)
    (fun i x H hx p => ⟨hw x, lc_turn mono hD p (Nat.lt_of_lt_of_le (List.getElem?_eq_some_iff.mp hx).1 hz) (step i x H hx p.1)⟩)
    fun H ⟨e, ys, h1, h2, h3⟩ => done H ys e h1 h2 h3
/-- the lists' items told by a function of the place -/
theorem eq_map_of {α : Type} {ys : List V} {ds : List α} {f : α → V} (hl : ys.length = ds.length) (h : ∀ (i : Nat) (y : V), ys[i]? = some y → ∃ d, ds[i]? = some d ∧ y = f d) : ys = ds.map f := by
  refine List.ext_getElem? fun i => ?_
  rw [List.getElem?_map]
  cases e : ys[i]? with
  | none =>
    have : ds.length ≤ i := by rw [← hl]; exact List.getElem?_eq_none_iff.mp e
    rw [List.getElem?_eq_none_iff.mpr this] <;> rfl
  | some y =>
    obtain ⟨d, h1, h2⟩ := h i y e
    rw [h1, h2] <;> rfl
end
end FF
/-! Fivefault, part 6: comprehensions over zip. -/
namespace FF
open PySem PySem.Spec PyProof.Rows L2
def ItS (S : Hp → Addr → List V → Prop) (a b : Addr) : It :=
  ⟨fun i H => ∃ (xs ys : List V) (x y : V), S H a xs ∧ S H b ys ∧ xs[i]? = some x ∧ ys[i]? = some y,
    fun i H v H' => ∃ T x y, v = .ref T ∧ H T = none ∧ H' = upd H T (.tup [x, y]) ∧ (∀ xs, S H a xs → xs[i]? = some x) ∧ ∀ ys, S H b ys → ys[i]? = some y,
    fun i H => ∃ xs ys : List V, S H a xs ∧ S H b ys ∧ (xs.length ≤ i ∨ ys.length ≤ i)⟩
section
variable {K : PySem.W.Frag} {S : Hp → Addr → List V → Prop} {a b : Addr} {xs ys : List V} {te : TE} {vs : List Nat} {σ : L2.St} {H1 : Hp} {D : Addr} {Qd : Hp → Prop} {j k : Nat}
theorem lc_zipS (up : ∀ {H H' a xs}, Same H H' → S H a xs → S H' a xs) (R : Nat → V → Hp → Prop) (mono : ∀ i y H H', SameT H H' → R i y H → R i y H') (hD : H1 D = none) (hx : S H1 a xs) (hy : S H1 b ys) (hl : xs.length = ys.length) (hz : xs.length ≤ sizeLine)
    (hw : ∀ x y, wipe (((wipe σ vs).set j (some x)).set k (some y)) vs = wipe σ vs)
    (step : ∀ i x y H2, xs[i]? = some x → ys[i]? = some y → Same H1 H2 → ∀ Q' : VK, (∀ u H3, Same H2 H3 → R i u H3 → Q' u H3) → te (((wipe σ vs).set j (some x)).set k (some y)) H2 Q')
    (done : ∀ H2 us, Same H1 H2 → H2 D = some (.lst us) → us.length = xs.length → (∀ (i : Nat) (u : V), us[i]? = some u → R i u H2) → Qd H2) :
    ∃ W : Nat → Nat → Hp → Prop, (∃ m, W 0 m (upd H1 D (.lst []))) ∧ ∀ i m H, W i m H →
      ((ItS S a b).stop i H ∧ Qd H) ∨ ((ItS S a b).go i H ∧ ∃ Nx : Hp → Prop, (∀ H', Nx H' → ∃ m', m' < m ∧ W (i + 1) m' H') ∧ ∀ x H', (ItS S a b).yld i H x H' → gTup K 2 (gCons (gName j) (gCons (gName k) gNil)) x (wipe σ vs) H' fun σ2 H2 => wipe σ2 vs = wipe σ vs ∧ tYes σ2 H2 fun b H3 =>
        if b = true then te σ2 H3 fun y H4 => ∃ acc, H4 D = some (.lst acc) ∧ acc.length < sizeLine ∧ Nx (upd H4 D (.lst (acc ++ [y]))) else Nx H3) := by
  let Pv : Nat → Hp → Prop := fun i H => Same H1 H ∧ ∃ us, H D = some (.lst us) ∧ us.length = i ∧ ∀ (m : Nat) (u : V), us[m]? = some u → R m u H
  refine ⟨fun i m H => m = xs.length - i ∧ i ≤ xs.length ∧ Pv i H, ⟨xs.length, by simp, Nat.zero_le _, same_new hD _, [], upd_same, rfl, fun m u q => by simp at q⟩, ?_⟩
  rintro i m H ⟨rfl, hi, e, us, h2, h3, h4⟩
  by_cases hlt : i < xs.length
  · refine .inr ⟨⟨xs, ys, xs[i], ys[i]'(by omega), up e hx, up e hy, by simp [hlt], by simp [show i < ys.length by omega]⟩, Pv (i + 1), fun H' p' => ⟨xs.length - (i + 1), by omega, rfl, hlt, p'⟩, ?_⟩
    rintro v H' ⟨T, x, y, rfl, nT, rfl, qx, qy⟩
    refine ⟨T, [x, y], rfl, SqT.of upd_same, rfl, x, [y], rfl, y, [], rfl, rfl, hw x y, ?_⟩
    have eT := same_new nT (.tup [x, y])
    have e' := e.trans eT
    show te (((wipe σ vs).set j (some x)).set k (some y)) (upd H T (.tup [x, y])) _
    refine step i x y _ (qx xs (up e hx)) (qy ys (up e hy)) e' _ fun u H3 e3 r => ?_
    have hd := e3 _ _ (eT _ _ h2)
    refine ⟨us, hd, by omega, fun b o q => ?_, us ++ [u], upd_same, by simp [h3], fun m u' q => ?_⟩
    · rw [upd_ne (ne_of_none q hD)]
      exact e3 _ _ (e' _ _ q)
    · have eD : SameT H3 (upd H3 D (.lst (us ++ [u]))) := (SameT.refl H3).updL hd
      by_cases hm : m < us.length
      · rw [List.getElem?_append_left hm] at q
        exact mono _ _ _ _ (((Same.T eT).trans (Same.T e3)).trans eD) (h4 m u' q)
      · have : m = us.length := by
          have := (List.getElem?_eq_some_iff.mp q).1
          simp at this
          omega
        subst this
        rw [List.getElem?_append_right (Nat.le_refl _), Nat.sub_self] at q
        cases q
        rw [h3]
        exact mono _ _ _ _ eD r
  · have hi2 : i = xs.length := by omega
    exact .inl ⟨⟨xs, ys, up e hx, up e hy, .inl (by omega)⟩, done H us e h2 (by omega) h4⟩
end
theorem all_true : ∀ (n : Nat), (List.replicate n true).all id = true
  | 0 => rfl
  | n + 1 => by rw [List.replicate_succ, List.all_cons, all_true n]; rfl
end FF
/-! Fivefault, part 7: what an expression over data gives (displays of constants and names). -/
namespace FF
open PySem PySem.Spec PyProof.Rows L2
section
variable {K : PySem.W.Frag} {σ : L2.St} {H : Hp}
def EvD (K : PySem.W.Frag) (te : TE) (σ : L2.St) (H : Hp) (d : PyData) : Prop := ∀ H1, Same H H1 → ∀ Q : VK, (∀ v H2, Same H1 H2 → Dp K H2 v d → Q v H2) → te σ H1 Q
def EvDs (K : PySem.W.Frag) (ta : TA) (σ : L2.St) (H : Hp) (ds : List PyData) : Prop := ∀ H1, Same H H1 → ∀ Q : List V → Hp → Prop, (∀ vs H2, Same H1 H2 → DpAll K H2 vs ds → Q vs H2) → ta σ H1 Q
def EvDl (K : PySem.W.Frag) (te : TE) (σ : L2.St) (H : Hp) (ds : List PyData) : Prop := ∀ H1, Same H H1 → ∀ Q : VK, (∀ p vs H2, H1 p = none → Same H1 H2 → H2 p = some (.lst vs) → DpAll K H2 vs ds → Q (.ref p) H2) → te σ H1 Q
theorem ev_non : EvD K (tC .non) σ H .none := fun H1 _ Q q => q .non H1 (Same.refl H1) .non
theorem ev_bl {b : Bool} : EvD K (tC (.bl b)) σ H (.bool b) := fun H1 _ Q q => q _ H1 (Same.refl H1) (.bl b)
theorem ev_int {i : Int} : EvD K (tC (.int i)) σ H (.int i) := fun H1 _ Q q => q _ H1 (Same.refl H1) (.int i)
theorem ev_str {z : Str} : EvD K (tC (.str z)) σ H (.str z) := fun H1 _ Q q => q _ H1 (Same.refl H1) (.str z)
theorem ev_var {i : Nat} {v : V} {d : PyData} (h : σ[i]? = some (some v)) (hd : Dp K H v d) : EvD K (tVar i) σ H d := fun H1 e Q q => ⟨v, h, q v H1 (Same.refl H1) (up_d e hd)⟩
theorem evs_nil : EvDs K tNil σ H [] := fun H1 _ Q q => q [] H1 (Same.refl H1) .nil
theorem evs_cons {te : TE} {ta : TA} {d : PyData} {ds : List PyData} (h : EvD K te σ H d) (t : EvDs K ta σ H ds) : EvDs K (tCons te ta) σ H (d :: ds) := fun H1 e Q q =>
  h H1 e _ fun v H2 e2 hd => t H2 (e.trans e2) _ fun vs H3 e3 hs => q (v :: vs) H3 (e2.trans e3) (.cons (up_d e3 hd) hs)
theorem ev_tup {ta : TA} {ds : List PyData} (h : EvDs K ta σ H ds) (hl : ds.length ≤ 20000) : EvD K (tTup ta) σ H (.tuple ds) := fun H1 e Q q =>
  h H1 e _ fun vs H2 e2 hs => ⟨by rw [da_len hs]; exact le_line hl, fun p hp => q _ _ (e2.trans (same_new hp _)) (.tup (SqT.of upd_same) (up_da (same_new hp _) hs))⟩
theorem ev_lst {ta : TA} {ds : List PyData} (h : EvDs K ta σ H ds) (hl : ds.length ≤ 20000) : EvD K (tLst ta) σ H (.list ds) := fun H1 e Q q =>
  h H1 e _ fun vs H2 e2 hs => ⟨by rw [da_len hs]; exact le_line hl, fun p hp => q _ _ (e2.trans (same_new hp _)) (.lst (SqL.of upd_same) (up_da (same_new hp _) hs))⟩
theorem evl_lst {ta : TA} {ds : List PyData} (h : EvDs K ta σ H ds) (hl : ds.length ≤ 20000) : EvDl K (tLst ta) σ H ds := fun H1 e Q q =>
  h H1 e _ fun vs H2 e2 hs => ⟨by rw [da_len hs]; exact le_line hl, fun p hp => q p vs _ ((Same.trans e2 (Same.refl _)).free hp) (e2.trans (same_new hp _)) upd_same (up_da (same_new hp _) hs)⟩
end
theorem da_mem {K : PySem.W.Frag} {H : Hp} : ∀ {vs : List V} {ds : List PyData} {v : V}, DpAll K H vs ds → v ∈ vs → ∃ d, d ∈ ds ∧ Dp K H v d
  | _, _, _, .cons h t, m => by
    rcases List.mem_cons.mp m with e | m
    · rw [e]; exact ⟨_, List.mem_cons_self .., h⟩
    · obtain ⟨d, h1, h2⟩ := da_mem t m
      exact ⟨d, List.mem_cons_of_mem _ h1, h2⟩
end FF
/-! Fivefault, part 8: the rules that name the written part, with K said outright (for comprehensions' blocks). -/
namespace FF
open PySem PySem.Spec PyProof.Rows L2
section
variable (K : PySem.W.Frag) {X : Cx}
theorem ix_listK (h : X.K = K := by rfl) : IxR X (rIxL K) := by subst h; exact ix_list
theorem ix_tupK (h : X.K = K := by rfl) : IxR X (rIxT K) := by subst h; exact ix_tup
theorem call_lenK (h : X.K = K := by rfl) : CallR X (.builtin "len") (fun xs H Q => ∃ x n, xs = [x] ∧ LenV K x H n ∧ Q (.int n) H) := by subst h; exact call_len
theorem call_isK {T : String} {f : PyData → Bool} (hk : ∀ d, kitB (tyN d) T = some (f d)) (h : X.K = K := by rfl) : CallR X (.builtin "isinstance") (rIsD K T f) := by subst h; exact call_isD hk
theorem op_eqK (hu : X.A.units + 64 < cLine) (h : X.K = K := by rfl) : OpR X (compareOp .Eq) (rEqD K) := by subst h; exact op_eqD hu
theorem op_neK (hu : X.A.units + 64 < cLine) (h : X.K = K := by rfl) : OpR X (compareOp .NotEq) (rNeD K) := by subst h; exact op_neD hu
theorem op_notInK (hu : X.A.units + 65 < cLine) (h : X.K = K := by rfl) : OpR X (compareOp .NotIn) (rInDs K true) := by subst h; exact op_notInDs hu
theorem op_in_seqK (h : X.K = K := by rfl) : OpR X (compareOp .In) (rIn K false) := by subst h; exact op_in_seq
theorem op_notIn_seqK (h : X.K = K := by rfl) : OpR X (compareOp .NotIn) (rIn K true) := by subst h; exact op_notIn_seq
theorem sl_tupK (h : X.K = K := by rfl) : SlR X (rSlT K) := by subst h; exact sl_tup
theorem sl_listK (h : X.K = K := by rfl) : SlR X (rSlL K) := by subst h; exact sl_list
theorem call_list_ofK (h : X.K = K := by rfl) : CallR X (.type "list") (fun xs H Q => ∃ p ys, xs = [.ref p] ∧ (SqL K H p ys ∨ SqT K H p ys) ∧ ∀ l, H l = none → Q (.ref l) (upd H l (.lst ys))) := by subst h; exact call_list_of
theorem call_tuple_ofK (h : X.K = K := by rfl) : CallR X (.type "tuple") (fun xs H Q => ∃ p ys, xs = [.ref p] ∧ ((SqL K H p ys ∧ ∀ l, H l = none → Q (.ref l) (upd H l (.tup ys))) ∨ (SqT K H p ys ∧ Q (.ref p) H))) := by subst h; exact call_tuple_of
theorem cr_sumK (hc : X.calm = true) (h : X.K = K := by rfl) : CallR X (.builtin "sum") (rSum K) := by subst h; exact cr_sum hc
theorem cr_allK (hc : X.calm = true) (h : X.K = K := by rfl) : CallR X (.builtin "all") (rAll K) := by subst h; exact cr_all hc
theorem pg_tupK {es : List Expr} {k : Nat} {t : TGs} {n : Nat} {pos : Pos} (hc : X.calm = true) (h : PGs X es t) (hk : X.K = K := by rfl)
    (hn : (assignEach es X.env).length = n := by rfl) (hst : (assignEach es X.env).findIdx? (·.1) = none := by rfl) : PG X (.Tuple es k pos) (gTup K n t) := by subst hk; exact pg_tup hc h hn hst
theorem pi_listK {tg l : Expr} {tl : TE} (hl : PE X l tl) (h : X.K = K := by rfl) : PI X tg l (iList K tl) := by subst h; exact pi_list hl
theorem pi_tupK {tg l : Expr} {tl : TE} (hl : PE X l tl) (h : X.K = K := by rfl) : PI X tg l (iTup K tl) := by subst h; exact pi_tup hl
theorem pi_zipK {e e2 : Expr} {ta : TA} {p pos tpos : Pos} {elts : List Expr} {kk : Nat} (hg : Gl X "zip") (hm : X.mg "zip" = none) (ha : PA X [e, e2] ta) (h : X.K = K := by rfl)
    (hs : starEach [e, e2] X.env = (false, eval e X.env) :: starEach [e2] X.env := by rfl) (hpl : (backTo pos (starEach [e2] X.env)).any (·.1) = false := by rfl) :
    PI X (.Tuple elts kk tpos) (.Call (.Name "zip" p) [e, e2] [] pos) (RZ.iZipA K ta) := by subst h; exact RZ.pi_zipA hg hm ha hs hpl
theorem pe_bmK {T name id : String} {r : V → List V → Hp → VK → Prop} {o e : Expr} {es : List Expr} {to : TE} {t : TA} {apos cpos : Pos} (pa : PlainAttrs T) (slot : Slot T name id) (hty : typeOf (.builtin id) = pure (.type "method_descriptor")) (hm : MtR X id r) (ho : PE X o to) (ha : PA X (e :: es) t) (h : X.K = K := by rfl)
    (hbase : attributeBase o name X.env (eval o X.env) = eval o X.env := by rfl)
    (hfew : ((backTo cpos (starEach (e :: es) X.env)).all (fun x => !x.1) && (backToKw cpos (keywordEach [] X.env)).all (fun x => x.1.isSome)
      && decide ((e :: es).length + ([] : List Keyword).length + (if ([] : List Keyword).isEmpty then 0 else 1) < 30)) = true := by rfl)
    (hline : (apos.endLine == cpos.line) = true := by rfl) (hs : starEach (e :: es) X.env = (false, eval e X.env) :: starEach es X.env := by rfl) (hplain : (backTo cpos (starEach es X.env)).any (·.1) = false := by rfl) :
    PE X (.Call (.Attribute o name apos) (e :: es) [] cpos) (tBM K T r to t) := by subst h; exact pe_bm pa slot hty hm ho ha hbase hfew hline hs hplain
end
end FF
namespace FF
open L2
theorem seq_asg {te : TE} {i : Nat} {u : TS} {D : Ends} {σ : L2.St} {H : Hp} (h : te σ H fun x H1 => u D (σ.set i (some x)) H1) : tSeq (tAsg te (gName i)) u D σ H := h
theorem op_of {r : R2} {ta tb : TE} {σ : L2.St} {H : Hp} {Q : VK} (h : ta σ H fun x H1 => tb σ H1 fun y H2 => r x y H2 Q) : tOp r ta tb σ H Q := h
end FF
namespace FF
open PySem PySem.Spec PyProof.Rows L2
theorem fn_mk {P : Program} {w : World} {K : PySem.W.Frag} {mg : Str → Option Value} {base : Heap} {x : Str} {st : Stmt} {f : Addr} {fd : FuncData} {dvs : List V} {kws : List (Str × V)} {N ps : List Str} {k : Nat} {sp : Sp} (F : FunD K x x (defArgs st) (defBody st) (defScope st) dvs kws f fd)
    (S : FnScope N ps (defScope st)) (len : ∀ vs H Q E, sp vs H Q E → vs.length = ps.length)
    (body : ∀ (cdv : Value) (A : Around) (outer : List Env) (s : Shared) (H : Hp) (vs : List V) (Q : VK) (E : XK), Room k (A.deeper (envOfC x (defScope st) s.heap.objs.size f cdv)) → sp vs H Q E →
      ∃ t, PSs (cxOf CX0 P w K mg base N x (defScope st) f cdv A outer s H E).nox (defBody st) t ∧ t { nx := fun _ H' => Q .non H', rt := Q } (start N vs) H) : FnOk P w K mg base CX0 (k + 1) f fd ps sp :=
  FunD.ok F S len fun cdv A outer s H vs Q E hr h => let ⟨t, a, b⟩ := body cdv A outer s H vs Q E hr h; ⟨t, PSs.nox a, b⟩
end FF
namespace FF
open PySem PySem.Spec PyProof.Rows L2
end FF
namespace FF
open PySem PySem.Spec PyProof.Rows L2
/-- a promise that is never asked -/
theorem def_none {P : Program} {w : World} {K : PySem.W.Frag} {mg : Str → Option Value} {base : Heap} {x qual : Str} {params : Arguments} {body : List Stmt} {scope : Scope} {dvs : List V} {kws : List (Str × V)} {f : Addr} {fd : FuncData} {ps : List Str} {sp : Sp}
    (F : FunD K x qual params body scope dvs kws f fd) (hm : mg x = some (.ref f)) (hb : Binds K fd ps []) (no : ∀ vs H Q E, ¬ sp vs H Q E) : Def P w K mg base x 0 ps sp :=
  ⟨f, fd, ⟨fun vs H Q E h => absurd h (no vs H Q E), fun A outer s H args us vs Q E _ _ _ _ h => absurd h (no vs H Q E)⟩, hm, F.kp, hb⟩
end FF
/-! Fivefault, part 9: exceptions with own __init__s that call the base's; clauses with names; f(lambda: ..). -/
namespace FF
open PySem PySem.Spec PyProof.Rows L2
/-! ### C.m(self, ..), m a def of the class C -/
section
variable {X : Cx} {CX : CXT} {k : Nat} {C g : Addr} {mc : Value} {fd : FuncData} {ps : List Str} {sp : Sp} {E : XK} {x m : Str} {p1 p2 pos : Pos} {e : Expr} {es : List Expr} {t : TA}
theorem pe_clsfn {pl : Sem Bool} (hg : Gl X x) (hm : X.mg x = some (.ref C)) (r : ClX.CRead X.K C mc) (c : ClX.CVal X.K C mc m (.ref g) (.ref g)) (F : FnOk X.prog X.w X.K X.mg X.base CX k g fd ps sp) (hr : Room k X.A) (hk : PySem.W.keepIn X.K (.ref g) = true) (hb : Binds X.K fd ps []) (hx : Passes CX X E)
    (ha : PA X (e :: es) t) (hd : (x == ("__debug__" : Str)) = false := by decide)
    (hc : eval (.Call (.Attribute (.Name x p1) m p2) (e :: es) [] pos) X.env = (do
      let ov ← eval (.Name x p1) X.env
      standAt p2.atName
      let (f, first) ← holding [ov] (getMethod ov m pl)
      callWith pos f first (backTo pos (starEach (e :: es) X.env)) (backToKw pos (keywordEach [] X.env))) := by rfl)
    (he : starEach (e :: es) X.env = (false, eval e X.env) :: starEach es X.env := by rfl) (hpl : (backTo pos (starEach es X.env)).any (·.1) = false := by rfl) :
    PE X (.Call (.Attribute (.Name x p1) m p2) (e :: es) [] pos) (tCall sp [] E t) := by
  refine ⟨fun pins s σ H Q I h => ?_⟩
  refine PySem.W.methodCall_KW (pl := pl) (ld_glob I hg hm ?_ hd) hc
  refine PySem.W.method_cls I.kIn r.ga (ClX.getcval_ok I r c fun s' I' => ?_)
  refine PySem.W.callWith_K (h₀ := X.base) I.ok.mod.kin hk (thn (ha.run pos pins s' σ H _ I' h) fun us s1 ⟨vs, H1, I1, r1, q⟩ => ⟨I1.kIn, ?_⟩) he hpl
  exact run_fn F hr hb .nil hx I1 r1 q
end
/-! ### C(): an own exception without arguments -/
section
variable {X : Cx} {p pos : Pos}
theorem pmk_oex0 {CX : CXT} {x : Str} {C fI : Addr} {k : Nat} {fd : FuncData} {ps : List Str} {sp : Sp} (T : OexC X.K C) (iC : PySem.W.findIn X.K (.ref C) "__init__" = some (some (.ref fI))) (tI : PySem.W.typeIn X.K (.ref fI) = some (.type "function"))
    (F1 : FnOk X.prog X.w X.K X.mg X.base CX k fI fd ps sp) (hr : Room (k + 1) X.A) (hb : Binds X.K fd ps []) (hx : Passes CX X (fun _ _ _ => False)) (hg : Gl X x) (hm : X.mg x = some (.ref C)) (hdb : (x == ("__debug__" : Str)) = false := by decide) :
    PMk X (.Call (.Name x p) [] [] pos) (tMkO C sp [] tNil) := by
  intro pins s σ H Q I h
  obtain ⟨nm, q, N, bs, bm, sn, sub, ab, col, dd, k0, k1, k2, k3, k5, hC, hbm⟩ := T.cls
  refine wpAny_Call_Name_kw (ld_glob I hg hm ?_ hdb)
  refine PySem.W.callWith_K0 (first := []) I.kIn T.kC ?_
  obtain ⟨hz, q1⟩ := h
  show wpAny _ _ (call (.ref C) []) _ _ _
  obtain ⟨hp, g, dr, tk, os⟩ := s
  have hsz : hp.objs.size ≤ hp.objs.size + 1 := Nat.le_succ _
  have hn : H (hp.objs.size + 1) = none := I.hok.fresh hsz
  have hq := q1 (hp.objs.size + 1) hn
  have kk : ∀ b o, hp.get? b = some o → ((hp.push (PySem.W.kdv_tup [])).push (PySem.HandSPX.excO C hp.objs.size)).get? b = some o := fun b o e => Heap.get?_push_of_some _ (Heap.get?_push_of_some _ e)
  have hget : ((hp.push (PySem.W.kdv_tup [])).push (PySem.HandSPX.excO C hp.objs.size)).get? (hp.objs.size + 1) = some (PySem.HandSPX.excO C hp.objs.size) := by heap_get
  have I2 : Inv X pins σ (upd H (hp.objs.size + 1) (exo (hp.objs.size + 1) C none)) ⟨(hp.push (PySem.W.kdv_tup [])).push (PySem.HandSPX.excO C hp.objs.size), g, dr, tk, os⟩ :=
    I.laid (t' := tk) (a := hp.objs.size + 1) (o := exo (hp.objs.size + 1) C none) (h' := (hp.push (PySem.W.kdv_tup [])).push (PySem.HandSPX.excO C hp.objs.size)) kk hsz (exo_ok hget)
  have r2 : Vals [V.ref (hp.objs.size + 1)] [Value.ref (hp.objs.size + 1)] := .cons rfl .nil
  have hl : ([Value.ref (hp.objs.size + 1)] ++ ([] : List Value)).length = ps.length := by
    have e := F1.len _ _ _ _ hq
    show 1 = ps.length
    exact e
  refine wpAny_call (PySem.HandSPX.call_own F.excBase_ValueError (fun Y => PySem.HandSPX.refsVE_contains Y bm hbm) (I.kIn _ _ hC) (PySem.W.looks_findIn I.kIn iC) (fun self => PySem.W.bind_fn I.kIn self tI) (Nat.zero_le _)
    (codeAny_mono (F1.run _ X.stack _ _ ⟨[Value.ref (hp.objs.size + 1)], []⟩ [Value.ref (hp.objs.size + 1)] _ _ (fun _ _ _ => False) (hr.make C [] []) (I2.env0.make C [] []) (hb _ [Value.ref (hp.objs.size + 1)] I2.kIn hl) r2 hq) fun r s' hq' => ?_))
  cases r with
  | error er => exact hx pins σ _ _ er s' I2 hq'
  | ok fl =>
    cases fl with
    | ret u =>
      obtain ⟨v, H2, os2, bare2, un2, hok2, rv, ev, d, fs, ea, ed, hd1, q2⟩ := hq'
      subst ev
      obtain ⟨h2, g2, d2, t2, os'⟩ := s'
      exact ⟨rv, mk_end (raises_own T.exC T.tyC) I hsz kk un2 hok2 os2 bare2 ea ed hd1 q2⟩
    | next => exact False.elim hq'
    | brk => exact False.elim hq'
    | cont => exact False.elim hq'
end
/-! ### try .. except A as e: .. except B as e: .. -/
abbrev asEnds (i : Nat) (D : Ends) : Ends := { nx := fun σ' H' => D.nx (σ'.set i none) H', rt := D.rt, bk := fun σ' H' => D.bk (σ'.set i none) H', ct := fun σ' H' => D.ct (σ'.set i none) H' }
def wManyA (K : PySem.W.Frag) (i : Nat) (Wout : WX) (D : Ends) : List (Value × (Addr → Value → Option Addr → TS)) → WX
  | [] => Wout
  | (c, ts) :: r => fun cls d σ H => ∃ b, PySem.W.exmOne K cls c = some b ∧ (b = true → ∀ a, H a = none → ts a cls d (asEnds i D) (σ.set i (some (.ref a))) H) ∧ (b = false → wManyA K i Wout D r cls d σ H)
inductive HdsA (X : Cx) (n : Str) : List ExceptHandler → List (Value × (Addr → Value → Option Addr → TS)) → Prop
  | nil : HdsA X n [] []
  | cons {x : Str} {c : Value} {ts : Addr → Value → Option Addr → TS} {b₀ : Stmt} {suite : List Stmt} {np pos' : Pos} {hds : List ExceptHandler} {l : List (Value × (Addr → Value → Option Addr → TS))} (hc : Names X x c)
      (hsu : ∀ (a : Addr) (oe : Obj) (cls : Value) (d : Option Addr) (pn : List (Addr × Obj)), Zc cls d oe → (∃ vs, oe.data = .fields vs) → PSs (X.suite a ((a, oe) :: pn)) (b₀ :: suite) (ts a cls d)) (r : HdsA X n hds l) :
      HdsA X n (.ExceptHandler (some (.Name x np)) (some n) (b₀ :: suite) pos' :: hds) ((c, ts) :: l)
section
variable {X : Cx} {n : Str} {i : Nat} {body : List Stmt} {h₀ : ExceptHandler} {hds : List ExceptHandler} {l : List (Value × (Addr → Value → Option Addr → TS))} {pos : Pos} {tb : WX → TS} {Wout : WX}
theorem ps_try_manyA (hs : X.stack = X.env :: X.outer) (hf : X.env.frame = some X.env.locals) (hN : X.N.Nodup) (hi : X.N[i]? = some n) (hln : X.env.kindOf n = some .local) (tk : Takes X Wout)
    (hb : ∀ (W : WX) (pn : List (Addr × Obj)) (xe : Value → Shared → Prop), Takes (X.tr pn xe) W → PassesOwn (model X.prog X.w) X.A X.env xe → PSs (X.tr pn xe) body (tb W))
    (hh : HdsA X n (h₀ :: hds) l) : PS X (.Try body (h₀ :: hds) [] [] pos) (fun D σ H => tb (wManyA X.K i Wout D l) D σ H) := by
  refine ⟨fun pins s σ H D I h => ?_⟩
  have ok := I.ok
  have hfr : X.A.frames = some (X.env :: X.outer) := by rw [ok.frames, hs]
  have hloc : Loc X.env.scope n := .inl hln
  refine wpAny_Try_except ?_
  refine wpAny_mono ((hb (wManyA X.K i Wout D l) (X.pn ++ pins) (fun e s₁ => wpAny (model X.prog X.w) X.A (noteFrame e X.env) (fun _ s₂ => wpAny (model X.prog X.w) X.A (setFlight e none) (fun _ s₃ =>
    wpAny (model X.prog X.w) X.A (handleBy e X.env (h₀ :: hds)) (SP X pins D) X.xe s₃) X.xe s₂) X.xe s₁) (fun u s' xx => ?_) PassesOwn.looking).run [] s σ H D (I.toTry _) h) (fun f s1 hsp => ?_) (fun e s1 he => he)
  · obtain ⟨a, B, sI, pins', σ', H', cls, d, rfl, J', nb, up, sky, na, os, ag, w⟩ := xx
    have J : Inv X pins σ' H' sI := J'.ofTry ok
    have sky' : Sky B (X.env :: X.outer) a (Zc cls d) X.env.locals s'.heap := by rw [← hs]; exact sky
    show wpAny (model X.prog X.w) X.A (noteFrame (.ref a) X.env) _ _ _
    refine Sky.land Zc.steady hfr hf sky' fun h3 fl3 up3 => ?_
    have J3 : Inv X pins σ' H' { s' with heap := h3 } := J.landed nb fl3.1 (up.trans up3) os ag
    obtain ⟨oe3, vs3, he3, hz3, hd3⟩ := fl3.there
    have notFr : ∀ {h : Heap} {o : Obj} {vs : Array Value}, h.FunFrames B (X.env :: X.outer) → h.get? a = some o → o.data = .fields vs → a ∉ frs (X.env :: X.outer) := fun {h o vs} ff e dd hm => by
      obtain ⟨_, o', e', hnf⟩ := ff.mem hm
      rw [e] at e'; cases e'
      exact hnf _ dd
    have nfr := notFr fl3.2.2.1 he3 hd3
    have nL : a ≠ X.env.locals := fun z => nfr (List.mem_filterMap.mpr ⟨X.env, List.mem_cons_self, by rw [hf, z]⟩)
    have nF : a ∉ X.fs := fun hm => by
      obtain ⟨e, he, q⟩ := List.mem_filterMap.mp hm
      exact nfr (List.mem_filterMap.mpr ⟨e, List.mem_cons_of_mem _ he, q⟩)
    have S3 := J3.suite he3 hd3 na nL nF
    have go : ∀ {hds' : List ExceptHandler} {l' : List (Value × (Addr → Value → Option Addr → TS))}, HdsA X n hds' l' → wManyA X.K i Wout D l' cls d σ' H' →
        wpAny (model X.prog X.w) X.A (handleBy (.ref a) X.env hds') (SP X pins D) X.xe { s' with heap := h3 } := by
      intro hds' l' hk
      induction hk with
      | nil =>
        intro w
        refine wpAny_handleBy_nil ?_
        obtain ⟨k1, k2, k3, oe, vs, T, oT, ts', he, hz, hd, h1, hr⟩ := id fl3
        unfold PySem.passOn
        refine wpAny_bind (wpAny_field he hd h1 ?_)
        rw [if_neg (show ¬ ((Value.ref T == Value.none) = true) from by simp)]
        have fin : wpAny (model X.prog X.w) X.A (setFlight (.ref a) X.env.frame) (fun _ s4 => wpAny (model X.prog X.w) X.A (throw (.ref a) : Sem Flow) (SP X pins D) X.xe s4) X.xe { s' with heap := h3 } := by
          rw [hf]
          refine HandSPX.setFlight_upZ fl3 fun h4 hh4 up4 => wpAny_throw (tk _ _ ?_)
          exact ⟨a, B, sI, pins, σ', H', cls, d, rfl, J, nb, (up.trans up3).trans up4, .inr (.inr (by rw [hs]; exact hh4)), na, os, ag, w⟩
        first
          | exact wpAny_bind (wpAny_pure (wpAny_bind fin))
          | exact wpAny_bind fin
      | @cons x c ts b₀ suite np pos' hds2 l2 hc hsu r ih =>
        intro w
        obtain ⟨b, hb1, hyes, hno⟩ := w
        refine wpAny_handleBy_cons (codeAny_handlers_test ?_) (by intro q; cases q)
        have LT : PySem.W.Looks (model X.prog X.w) h3 (typeOf (.ref a)) cls := fun A Q E s k q => wpAny_typeOf_ref (k _ _ he3) (by rw [hz3.1]; exact q)
        have LM := PySem.W.exm_one (M := model X.prog X.w) (J3.kIn) LT hb1
        have test : ∀ {Q : Value → Shared → Prop} {E : Value → Shared → Prop}, Q c { s' with heap := h3 } → wpAny (model X.prog X.w) (X.A.mark (some (.ref a))) (eval (.Name x np) X.env) Q E { s' with heap := h3 } := fun {Q E} q => by
          obtain ⟨hg, hdbg, hm | ⟨hm, hv, hnn⟩⟩ := hc
          · exact ld_glob (X := X.suite a ((a, oe3) :: (X.pn ++ pins))) S3 hg hm q hdbg
          · exact ld_blt (X := X.suite a ((a, oe3) :: (X.pn ++ pins))) S3 hg hm hv q hnn hdbg
        refine test (LM.here ?_)
        cases b with
        | true =>
          refine codeAny_handlers_suite_as ?_
          refine HandSPX.lands_againZ fl3 fun h4 fl4 up4 => ?_
          have J4 : Inv X pins σ' H' { s' with heap := h4 } := J.landed nb fl4.1 ((up.trans up3).trans up4) os ag
          obtain ⟨oe4, vs4, he4, hz4, hd4⟩ := fl4.there
          have S4 := J4.suite he4 hd4 na nL nF
          refine store_ok (X := X.suite a ((a, oe4) :: (X.pn ++ pins))) (v := .ref a) S4 hN hi hloc rfl (fun s5 S5 => ?_) (.inr hln)
          refine wpAny_mono ((hsu a oe4 cls d (X.pn ++ pins) hz4 ⟨_, hd4⟩).run [] s5 _ H' _ S5 (hyes rfl a na)) (fun f s6 hsp => ?_) (fun _ _ z => False.elim z)
          have end_ : ∀ {σ6 : L2.St} {H6 : Hp} {Q : Shared → Prop}, Inv (X.suite a ((a, oe4) :: (X.pn ++ pins))) [] σ6 H6 s6 → (∀ s7, Inv X pins (σ6.set i none) H6 s7 → Q s7) →
              wpAny (model X.prog X.w) X.A (do bindName X.env n .none; unbindBehindTheSuite X.env n pos') (fun _ s7 => Q s7) X.xe s6 := fun {σ6 H6 Q} S6 hq => gone_ok (S6.unsuite ok) hN hi hln hq
          cases f with
          | next =>
            obtain ⟨σ6, H6, S6, q6⟩ := hsp
            exact end_ S6 fun s7 J7 => ⟨_, _, J7, q6⟩
          | brk =>
            obtain ⟨σ6, H6, S6, q6⟩ := hsp
            exact end_ S6 fun s7 J7 => ⟨_, _, J7, q6⟩
          | cont =>
            obtain ⟨σ6, H6, S6, q6⟩ := hsp
            exact end_ S6 fun s7 J7 => ⟨_, _, J7, q6⟩
          | ret u =>
            obtain ⟨v6, σ6, H6, S6, r6, q6⟩ := hsp
            exact end_ S6 fun s7 J7 => ⟨_, _, _, J7, r6, q6⟩
        | false =>
          show wpAny _ X.A (handleBy (.ref a) X.env hds2) _ _ _
          exact ih (hno rfl)
    exact go hh w
  · cases f with
    | next =>
      obtain ⟨σ', H', J', q⟩ := hsp
      exact wpAny_execs_nil ⟨σ', H', J'.ofTry ok, q⟩
    | brk =>
      obtain ⟨σ', H', J', q⟩ := hsp
      exact ⟨σ', H', J'.ofTry ok, q⟩
    | cont =>
      obtain ⟨σ', H', J', q⟩ := hsp
      exact ⟨σ', H', J'.ofTry ok, q⟩
    | ret u =>
      obtain ⟨v, σ', H', J', r, q⟩ := hsp
      exact ⟨v, σ', H', J'.ofTry ok, r, q⟩
end
theorem pss_ex {X : Cx} {st : List Stmt} {α : Type} {p : α → Prop} {t : α → TS} (h : ∀ c, p c → PSs X st (t c)) : PSs X st (fun D σ H => ∃ c, p c ∧ t c D σ H) :=
  ⟨fun pins s σ H D I ⟨c, hc, q⟩ => (h c hc).run pins s σ H D I q⟩
end FF
/-! Fivefault, part 10: own exceptions told of, defs that raise, f(lambda: ..) caught by clauses. -/
namespace FF
open PySem PySem.Spec PyProof.Rows L2
/-! ### what the written part says of an own class of exceptions, by a Bool -/
def oexB (K : PySem.W.Frag) (C : Addr) : Bool := match K.lookup C with
  | some ⟨.type "type", _, .cls cd, sl⟩ => (match cd.mro, sl.toList with
    | .ref C' :: bm, [_, _, _, _, some (.builtin n), _] => C' == C && n == "ValueError.__new__" && !cd.hasDel && cd.hasDict && PySem.HandSPX.refsVE bm
    | _, _ => false)
  | _ => false
theorem oexB_ok {K : PySem.W.Frag} {C : Addr} (q : oexB K C = true) : ∃ nm q N bs bm sn sub ab col dd k0 k1 k2 k3 k5, K.lookup C = some (excClassObj nm q C N bs bm true sn sub ab col dd k0 k1 k2 k3 k5 "ValueError.__new__") ∧ PySem.HandSPX.refsVE bm = true := by
  unfold oexB at q
  split at q
  · rename_i dd cd sl ho
    split at q
    · rename_i C' bm k0 k1 k2 k3 n k5 hm hs
      simp only [Bool.and_eq_true, beq_iff_eq, Bool.not_eq_true'] at q
      obtain ⟨⟨⟨⟨rfl, rfl⟩, hdel⟩, hdict⟩, ht⟩ := q
      obtain ⟨nm, bs, mro, ns, qn, hd, sn, sub, ab, col, del⟩ := cd
      dsimp only at hm hdel hdict
      subst hm hdel hdict
      have hsl : sl = #[k0, k1, k2, k3, some (.builtin "ValueError.__new__"), k5] := by
        obtain ⟨l⟩ := sl
        simp only at hs
        rw [hs]
      subst hsl
      exact ⟨nm, qn, ns, bs, bm, sn, sub, ab, col, dd, k0, k1, k2, k3, k5, ho, ht⟩
    · cases q
  · cases q
/-- an own class C of exceptions: raised, caught, its code read -/
structure OwnC (K : PySem.W.Frag) (C : Addr) : Prop where
  o : OexC K C
  xf : XfC K C
  noc : PySem.W.findIn K (.ref C) "code" = some none
def ownCB (K : PySem.W.Frag) (C : Addr) : Bool := oexB K C && (He.eqO (PySem.W.findIn K (.ref C) "__setattr__") (some (some (.builtin "object.__setattr__"))) && (decide (PySem.W.subIn K (.ref C) (.type "BaseException") = some true) && (decide (PySem.W.typeIn K (.ref C) = some (.type "type")) &&
  (PySem.W.keepIn K (.ref C) && (xfB K C && He.eqO (PySem.W.findIn K (.ref C) "code") (some none))))))
theorem ownCB_ok {K : PySem.W.Frag} {C : Addr} (h : ownCB K C = true) : OwnC K C := by
  obtain ⟨h1, h⟩ := He.ba h
  obtain ⟨h2, h⟩ := He.ba h
  obtain ⟨h3, h⟩ := He.ba h
  obtain ⟨h4, h⟩ := He.ba h
  obtain ⟨h5, h⟩ := He.ba h
  obtain ⟨h6, h7⟩ := He.ba h
  exact ⟨⟨oexB_ok h1, He.eqO_ok h2, of_decide_eq_true h3, of_decide_eq_true h4, h5⟩, xfB_ok h6, He.eqO_ok h7⟩
/-- the class x: an own class whose own __init__ is a def; caught as y -/
structure OwnX (K : PySem.W.Frag) (x y : Str) : Prop where
  c : OwnC K (He.ga K x)
  ini : PySem.W.findIn K (.ref (He.ga K x)) "__init__" = some (some (.ref (He.ma K (He.ga K x) "__init__")))
  tyI : PySem.W.typeIn K (.ref (He.ma K (He.ga K x) "__init__")) = some (.type "function")
  exm : PySem.W.exmOne K (.ref (He.ga K x)) (.ref (He.ga K y)) = some true
def ownXB (K : PySem.W.Frag) (x y : Str) : Bool := ownCB K (He.ga K x) && (He.eqO (PySem.W.findIn K (.ref (He.ga K x)) "__init__") (some (some (.ref (He.ma K (He.ga K x) "__init__")))) && (decide (PySem.W.typeIn K (.ref (He.ma K (He.ga K x) "__init__")) = some (.type "function")) &&
  decide (PySem.W.exmOne K (.ref (He.ga K x)) (.ref (He.ga K y)) = some true)))
theorem ownXB_ok {K : PySem.W.Frag} {x y : Str} (h : ownXB K x y = true) : OwnX K x y := by
  obtain ⟨h1, h⟩ := He.ba h
  obtain ⟨h2, h⟩ := He.ba h
  obtain ⟨h3, h4⟩ := He.ba h
  exact ⟨ownCB_ok h1, He.eqO_ok h2, of_decide_eq_true h3, of_decide_eq_true h4⟩
/-- x.__init__ read from the class x; ValueError.__init__ -/
structure FeC (K : PySem.W.Frag) (x : Str) : Prop where
  rd : ClX.CRead K (He.ga K x) (.type "type")
  at_ : PySem.W.findCls K (.ref (He.ga K x)) (.type "type") "__init__" = some (.val (.ref (He.ma K (He.ga K x) "__init__")))
  kp : PySem.W.keepIn K (.ref (He.ma K (He.ga K x) "__init__")) = true
  ve : PySem.W.findCls K (.type "ValueError") (.type "type") "__init__" = some (.val (.builtin "ValueError.__init__"))
def fcl (o : Option PySem.W.CFound) (v : Value) : Bool := match o with
  | some (.val u) => decide (u = v)
  | _ => false
theorem fcl_ok {o : Option PySem.W.CFound} {v : Value} (h : fcl o v = true) : o = some (.val v) := by
  cases o with
  | none => cases h
  | some f =>
    cases f with
    | val u => rw [of_decide_eq_true (show decide (u = v) = true from h)]
    | _ => cases h
def feCB (K : PySem.W.Frag) (x : Str) : Bool := PySem.W.readsIn K (He.ga K x) (.type "type") && (He.eqO (PySem.W.specialIn K (.ref (He.ga K x)) "__getattribute__") (some (some (.builtin "type.__getattribute__"))) && (fcl (PySem.W.findCls K (.ref (He.ga K x)) (.type "type") "__init__") (.ref (He.ma K (He.ga K x) "__init__")) &&
  (PySem.W.keepIn K (.ref (He.ma K (He.ga K x) "__init__")) && fcl (PySem.W.findCls K (.type "ValueError") (.type "type") "__init__") (.builtin "ValueError.__init__"))))
theorem feCB_ok {K : PySem.W.Frag} {x : Str} (h : feCB K x = true) : FeC K x := by
  obtain ⟨h1, h⟩ := He.ba h
  obtain ⟨h2, h⟩ := He.ba h
  obtain ⟨h3, h⟩ := He.ba h
  obtain ⟨h4, h5⟩ := He.ba h
  exact ⟨⟨h1, He.eqO_ok h2⟩, fcl_ok h3, h4, fcl_ok h5⟩
/-! ### the __init__s -/
def spFE (K : PySem.W.Frag) : Sp := fun vs H Q _ => ∃ (a C : Addr) (z : V), vs = [.ref a, z] ∧ OexC K C ∧ PySem.W.findIn K (.ref C) "code" = some none ∧ H a = some (exo a C none) ∧
  ∀ dx, H dx = none → dx ≠ a → Q .non (upd (upd H dx (exd dx [("code", z)])) a (exo a C (some dx)))
def spIni (K : PySem.W.Frag) (z : Str) : Sp := fun vs H Q _ => ∃ (a C : Addr), vs = [.ref a] ∧ OexC K C ∧ PySem.W.findIn K (.ref C) "code" = some none ∧ H a = some (exo a C none) ∧
  ∀ dx, H dx = none → dx ≠ a → Q .non (upd (upd H dx (exd dx [("code", .str z)])) a (exo a C (some dx)))
/-- an exception in the air: its dict d, its code z -/
def Thr (z : Str) (d : Option Addr) (H : Hp) : Prop := ∃ (dd : Addr) (fs : List (Str × V)), d = some dd ∧ H dd = some (.xd fs) ∧ fs.lookup ("code" : Str) = some (V.str z)
/-- the class x raised: x() makes an exception with the code z -/
structure RaiseD (P : Program) (w : World) (K : PySem.W.Frag) (mg : Str → Option Value) (base : Heap) (x y : Str) (k : Nat) (z : Str) : Prop where
  own : OwnX K x y
  hm : mg x = some (.ref (He.ga K x))
  ini : ∃ fd, FnOk P w K mg base CX0 k (He.ma K (He.ga K x) "__init__") fd ["self"] (spIni K z) ∧ Binds K fd ["self"] []
def tOwn (K : PySem.W.Frag) (x z : Str) : L2.St → Hp → XK → Prop := fun _ H Q => ∀ d H', Same H H' → Thr z d H' → Q (.ref (He.ga K x)) d H'
theorem pmk_imp {X : Cx} {e : Expr} {t t' : L2.St → Hp → XK → Prop} (h : PMk X e t) (i : ∀ σ H Q, t' σ H Q → t σ H Q) : PMk X e t' := fun pins s σ H Q I q => h pins s σ H Q I (i _ _ _ q)
theorem pmk_raise {X : Cx} {x y z : Str} {k j : Nat} {p pos : Pos} (D : RaiseD X.prog X.w X.K X.mg X.base x y k z) (hr : Room j X.A) (hkj : k + 1 ≤ j) (hg : Gl X x := by rfl) (hdb : (x == ("__debug__" : Str)) = false := by decide) : PMk X (.Call (.Name x p) [] [] pos) (tOwn X.K x z) := by
  obtain ⟨fd, F, hb⟩ := D.ini
  refine pmk_imp (pmk_oex0 D.own.c.o D.own.ini D.own.tyI F (hr.mono hkj) hb pass0 hg D.hm hdb) fun σ H Q q => ?_
  refine ⟨by simp [sizeLine], fun a ha => ⟨a, He.ga X.K x, rfl, D.own.c.o, D.own.c.noc, upd_same, fun dx hdx hne => ⟨rfl, dx, [("code", .str z)], upd_same, ?_, ?_, ?_⟩⟩⟩
  · rw [upd_ne hne, upd_same]
  · rwa [upd_ne hne] at hdx
  · have hdx2 : H dx = none := by rwa [upd_ne hne] at hdx
    refine q _ _ (fun b u hb => ?_) ⟨dx, _, rfl, upd_same, rfl⟩
    have b1 : b ≠ dx := ne_of_none hb hdx2
    have b2 : b ≠ a := ne_of_none hb ha
    rw [upd_ne b1, del_ne b2, upd_ne b2, upd_ne b1, upd_ne b2]
    exact hb
/-! ### defs that may raise -/
structure DefX (P : Program) (w : World) (K : PySem.W.Frag) (mg : Str → Option Value) (base : Heap) (x : Str) (k : Nat) (ps : List Str) (sp : Sp) : Prop where
  ex : ∃ (f : Addr) (fd : FuncData), FnOk P w K mg base (L2.CX P w) k f fd ps sp ∧ mg x = some (.ref f) ∧ PySem.W.keepIn K (.ref f) = true ∧ Binds K fd ps []
theorem DefX.mono {P : Program} {w : World} {K : PySem.W.Frag} {mg : Str → Option Value} {base : Heap} {x : Str} {j k : Nat} {ps : List Str} {sp : Sp} (D : DefX P w K mg base x j ps sp) (h : j ≤ k) : DefX P w K mg base x k ps sp := by
  obtain ⟨f, fd, F, r⟩ := D.ex
  exact ⟨f, fd, F.mono h, r⟩
/-- called where an exception is taken -/
theorem pe_defx {X : Cx} {W : WX} {E : XK} {x : Str} {k j : Nat} {ps : List Str} {sp : Sp} {e : Expr} {es : List Expr} {p pos : Pos} {t : TA} (D : DefX X.prog X.w X.K X.mg X.base x k ps sp) (tk : Takes X W) (hW : ∀ cls d σ' H', E cls d H' → W cls d σ' H') (hr : Room j X.A) (hkj : k ≤ j) (ha : PA X (e :: es) t)
    (hg : Gl X x := by rfl) (hdb : (x == ("__debug__" : Str)) = false := by decide) (he : starEach (e :: es) X.env = (false, eval e X.env) :: starEach es X.env := by rfl) (hpl : (backTo pos (starEach es X.env)).any (·.1) = false := by rfl) :
    PE X (.Call (.Name x p) (e :: es) [] pos) (tCall sp [] E t) := by
  obtain ⟨f, fd, F, hm, hk, hb⟩ := D.ex
  exact pe_call F (hr.mono hkj) hg hm hk hb .nil (passes_call tk hW) ha hdb he hpl
theorem passN {X : Cx} : Passes (L2.CX X.prog X.w) X (fun _ _ _ => False) := fun _ _ _ _ _ _ _ h => by
  obtain ⟨_, _, _, _, _, _, _, _, _, _, _, _, z⟩ := h
  exact z.elim
theorem defx_mk {P : Program} {w : World} {K : PySem.W.Frag} {mg : Str → Option Value} {base : Heap} {x : Str} {st : Stmt} {f : Addr} {fd : FuncData} {dvs : List V} {kws : List (Str × V)} {N ps : List Str} {k : Nat} {sp : Sp} (F : FunD K x x (defArgs st) (defBody st) (defScope st) dvs kws f fd) (hm : mg x = some (.ref f)) (hb : Binds K fd ps [])
    (S : FnScope N ps (defScope st)) (len : ∀ vs H Q E, sp vs H Q E → vs.length = ps.length)
    (body : ∀ (cdv : Value) (A : Around) (outer : List Env) (s : Shared) (H : Hp) (vs : List V) (Q : VK) (E : XK), Room k (A.deeper (envOfC x (defScope st) s.heap.objs.size f cdv)) → sp vs H Q E →
      (Takes (cxOf (L2.CX P w) P w K mg base N x (defScope st) f cdv A outer s H E) fun cls d _ H => E cls d H) →
      ∃ t, PSs (cxOf (L2.CX P w) P w K mg base N x (defScope st) f cdv A outer s H E) (defBody st) t ∧ t { nx := fun _ H' => Q .non H', rt := Q } (start N vs) H) : DefX P w K mg base x (k + 1) ps sp :=
  ⟨f, fd, FunD.ok F S len (fun cdv A outer s H vs Q E hr h => body cdv A outer s H vs Q E hr h (takes_of rfl rfl rfl rfl)), hm, F.kp, hb⟩
/-! ### _law_call -/
/-- the first clause's class is FE -/
def TTc (K : PySem.W.Frag) (FE : Addr) : (XK → Hp → VK → Prop) → Hp → VK → Prop := fun tl H Q =>
  tl (fun cls d H' => ∃ (C : Addr) (z : Str), cls = .ref C ∧ OwnC K C ∧ PySem.W.exmOne K (.ref C) (.ref FE) = some true ∧ Thr z d H' ∧ ∀ p, H' p = none → Q (.ref p) (upd H' p (.tup [.non, .str z])))
    H (fun v H' => ∀ p, H' p = none → Q (.ref p) (upd H' p (.tup [v, .str ""])))
end FF
/-! Fivefault, part 11: f(lambda: ..), the promise of an exception told of the slots at the call. -/
namespace FF
open PySem PySem.Spec PyProof.Rows L2 LamX
section
variable {X : Cx} {pins : List (Addr × Obj)} {σ : L2.St} {H HZ : Hp} {s s1 : Shared}
theorem pe_actS {CXg : CXT} {Eg : XK} {Ng : List Str} {qg : Str} {sg : Scope} {g f c' : Addr} {cdg pm ctv : Value} {params : Arguments} {body : Expr} {scope : Scope} {k i : Nat} {a : Str} {pn : List (Addr × Obj)} {xe : Value → Shared → Prop} {W : WX} {tb : XK → TE} {p1 p2 : Pos}
    (I : Inv X pins σ H s) (L : LamS X.env.scope scope) (hf : s.heap.get? f = some (PySem.W.kla_obj "<lambda>" (X.env.qual ++ "<lambda>") params body scope (cloFrom X.env.cells scope.names []) pm c' ctv)) (hfn : H f = none) (hfr : f ∉ frs X.stack)
    (hbind : bindArgs (PySem.W.kla_fn "<lambda>" (X.env.qual ++ "<lambda>") params body scope (cloFrom X.env.cells scope.names []) pm (.ref c') ctv) ⟨[], []⟩ = pure [])
    (tk : Takes ((cxOf CXg X.prog X.w X.K X.mg X.base Ng qg sg g cdg X.A X.stack s H Eg).tr pn xe) W) (hr : Room (k + 1) (X.A.deeper (envOfC qg sg s.heap.objs.size g cdg)))
    (hbody : ∀ (A : Around) (outer : List Env) (s : Shared) (H : Hp) (E : XK), Room k (A.deeper (lamEnv X scope s.heap.objs.size f c')) → PE (lamCx X A outer s H E scope f c') body (tb E))
    (hN : Ng[i]? = some a) (hv : Vis sg a) (hd : (a == ("__debug__" : Str)) = false := by decide) (hcd : (a == ("__classdict__" : Str)) = false := by decide) :
    PE ((cxOf CXg X.prog X.w X.K X.mg X.base Ng qg sg g cdg X.A X.stack s H Eg).tr pn xe) (.Call (.Name a p1) [] [] p2)
      (fun σZ HZ Q => σZ[i]? = some (some (.ref f)) ∧ HZ c' = some (CodeO c' (X.env.qual ++ "<lambda>")) ∧ ∃ E : XK, (∀ cls d H', E cls d H' → W cls d σZ H') ∧ tb E σ HZ Q) := by
  refine ⟨fun pinsZ sZ σZ HZ Q IZ h => ?_⟩
  obtain ⟨hs, hc, E, hW, ht⟩ := h
  refine wpAny_Call_Name_kw (thn ((pe_var (pos := p1) (i := i) hN hv hd hcd).run pinsZ sZ σZ HZ (fun v H1 => v = .ref f ∧ H1 = HZ) IZ ⟨.ref f, hs, rfl, rfl⟩) fun u s1 ⟨v, H1, I1, r1, q1⟩ => ?_)
  obtain ⟨ev, eH⟩ := q1
  subst ev
  rw [eH] at I1
  obtain rfl : u = Value.ref f := r1
  have of1 := I1.base.keep f _ hf hfn hfr (fun z => nomatch (show f ∈ ([] : List Addr) from z))
  refine PySem.W.callWith_F0 ⟨_, _, _, _, of1⟩ ?_
  have un : Un (frs X.stack) [] H HZ s.heap s1.heap := I1.base
  obtain ⟨⟨oc, vs, t, hoc, hdc, hvc⟩, _, _⟩ := I1.hok c' _ hc
  have rc : codeAny (model X.prog X.w) (X.A.deeper (envOfC qg sg s.heap.objs.size g cdg)) (.call (.ref f) ⟨[], []⟩) (CR (L2.CX X.prog X.w) (envOfC qg sg s.heap.objs.size g cdg :: X.stack) X.prog X.w HZ s1 Q E) s1 := by
    refine PySem.W.kla_callFunE hr.depth of1 rfl L.co L.gen rfl ⟨c', oc, vs, t, rfl, hoc, hdc, hvc⟩ ?_
    rw [hbind]
    refine wpAny_pure (wpAny_newFunctionEnv (fun y hy => (L.own y hy).2) (fun y hy => absurd hy (by simp)) (fun h₁ hns hsb => ⟨I1.nolimit.fresh _ hsb, ?_⟩) L.kind)
    show codeAny _ _ (.expr body (lamEnv X scope s1.heap.objs.size f c')) _ _
    have kp : ∀ b o, s1.heap.get? b = some o → h₁.get? b = some o := fun b o e => hsb.extBut b o (Nat.ne_of_lt (Heap.lt_size e)) (Heap.get?_push_of_some _ e)
    have J := lam_start2 (f := f) (c' := c') (E := E) (tk := s1.toks + ([] : List (Str × Value)).length) I L I1.env0 hr.hd un hns kp
    refine PySem.W.kla_codeExpr (wpAny_mono ((hbody _ _ s1 HZ E (hr.deeper _)).run [] _ _ HZ Q J ht) (fun v s' hq => ?_) fun e s' hq => hq)
    obtain ⟨w', H', J', rv, q⟩ := hq
    exact ⟨w', H', J'.os, J'.bare, J'.base, J'.hok, rv, q⟩
  refine wpAny_call (codeAny_mono rc fun r s' hq => ?_)
  cases r with
  | error e => exact tk e s' (XE.of_call I1 (fun cls d H' h => hW cls d H' h) hq)
  | ok fl =>
    cases fl with
    | ret u => exact I1.after hq
    | next => exact False.elim hq
    | brk => exact False.elim hq
    | cont => exact False.elim hq
end
/-- the def that calls what it got -/
def GivesS (X : Cx) (Ng : List Str) (x : Str) (sg : Scope) (g : Addr) (cdg : Value) (bg : List Stmt) (a : Str) (q : Str) (TT : (XK → Hp → VK → Prop) → Hp → VK → Prop) : Prop :=
  ∀ (f c' : Addr) (s : Shared) (H : Hp) (Q : VK) (tl : XK → Hp → VK → Prop),
    (∀ (W : WX) (pn : List (Addr × Obj)) (xe : Value → Shared → Prop) (p1 p2 : Pos), Takes ((cxOf C8.CX0 X.prog X.w X.K X.mg X.base Ng x sg g cdg X.A X.stack s H C8.E0).tr pn xe) W →
      PE ((cxOf C8.CX0 X.prog X.w X.K X.mg X.base Ng x sg g cdg X.A X.stack s H C8.E0).tr pn xe) (.Call (.Name a p1) [] [] p2) (fun σZ HZ Q => σZ[0]? = some (some (.ref f)) ∧ HZ c' = some (CodeO c' q) ∧ ∃ E : XK, (∀ cls d H', E cls d H' → W cls d σZ H') ∧ tl E HZ Q)) →
    H c' = some (CodeO c' q) → TT tl H Q →
    ∃ t, PSs (cxOf C8.CX0 X.prog X.w X.K X.mg X.base Ng x sg g cdg X.A X.stack s H C8.E0).nox bg t ∧ t { nx := fun _ H' => Q .non H', rt := Q } (L2.start Ng [.ref f]) H
/-- x(lambda: body), x a def of the top -/
theorem pe_lamS {X : Cx} {T : List (Addr × Str)} {TT : (XK → Hp → VK → Prop) → Hp → VK → Prop} {x a : Str} {g c P : Addr} {k : Nat} {st : Stmt} {fd : FuncData} {Ng : List Str} {params : Arguments} {body : Expr} {scope : Scope} {t : XK → TE} {p lpos pos : Pos}
    (hg : Gl X x) (hm : X.mg x = some (.ref g)) (F : FunD X.K x x (defArgs st) (defBody st) (defScope st) [] [] g fd) (hb : L2.Binds X.K fd [a] []) (Sg : FnScope Ng [a] (defScope st)) (hNg : Ng[0]? = some a) (hva : Vis (defScope st) a)
    (hG : ∀ cdg, GivesS X Ng x (defScope st) g cdg (defBody st) a (X.env.qual ++ "<lambda>") TT)
    (TB : TabB X.base X.mg c P) (hcode : X.env.code = .ref c) (hT : T = [(P, X.env.qual ++ "<lambda>")]) (hr : Room (k + 2) X.A) (L : LamS X.env.scope scope) (hdef : defaultsOf params X.env = ([], []))
    (hbind : ∀ (q : Str) (cl : List (Str × Addr)) (pm cv ctv : Value), bindArgs (PySem.W.kla_fn "<lambda>" q params body scope cl pm cv ctv) ⟨[], []⟩ = pure [])
    (hbody : ∀ (A : Around) (outer : List Env) (s : Shared) (H : Hp) (E : XK) (f c' : Addr), Room k (A.deeper (lamEnv X scope s.heap.objs.size f c')) → PE (lamCx X A outer s H E scope f c') body (t E))
    (hdb : (x == ("__debug__" : Str)) = false := by decide) (hd : (a == ("__debug__" : Str)) = false := by decide) (hcd : (a == ("__classdict__" : Str)) = false := by decide) :
    PE X (.Call (.Name x p) [.Lambda params body scope lpos] [] pos) (tLam T TT t) := by
  obtain ⟨oc, od, dV, kV, doc, pm, an, cdv, ct, osl, rfl, lk, hcg, _, _⟩ := F.ex
  refine ⟨fun pins s σ H Q I h => ?_⟩
  obtain ⟨hTs, h⟩ := h
  refine wpAny_Call_Name_kw (ld_glob I hg hm ?_ hdb)
  refine PySem.W.callWith_K (h₀ := X.base) I.ok.mod.kin F.kp ?_ (by rfl) (by rfl)
  show wpAny _ _ (spliced ((false, eval (.Lambda params body scope lpos) X.env) :: backTo pos (starEach [] X.env))) _ _ s
  have hmT : (P, X.env.qual ++ "<lambda>") ∈ T := by rw [hT]; exact List.mem_singleton.mpr rfl
  have hu : ∀ p ∈ T, p.1 = P → p.2 = X.env.qual ++ "<lambda>" := fun p hp _ => by rw [hT] at hp; rw [List.mem_singleton.mp hp]
  refine Calls.spliced_cons (lam_make2 I TB hcode hmT hu hTs hdef (L.has I.ok) fun f c' pm' ctv H1 s' I1 eN T1 hf hfn hfr hco => ?_)
  refine Calls.spliced_nil ⟨I1.kIn, ?_⟩
  have rc : codeAny (model X.prog X.w) X.A (.call (.ref g) ⟨[.ref f], []⟩) (CR C8.CX0 X.stack X.prog X.w H1 s' Q C8.E0) s' := by
    refine run_ofS (N := Ng) (ps := [a]) (us := [.ref f]) (vs := [.ref f]) lk hcg Sg hr I1.env0 (hb s' [.ref f] I1.kIn rfl) (.cons rfl .nil) rfl fun hr' => ?_
    obtain ⟨t', ht', hq'⟩ := hG cdv f c' s' H1 Q (fun E H' Q' => t E σ H' Q') (fun W pn xe p1 p2 tk => pe_actS (i := 0) I1 L hf hfn hfr (hbind _ _ _ _ _) tk hr' (fun A outer s H E hr2 => hbody A outer s H E f c' hr2) hNg hva hd hcd) hco (h H1 eN T1)
    exact ⟨t', ht'.nox, hq'⟩
  refine wpAny_call (codeAny_mono rc fun r s2 hq => ?_)
  cases r with
  | error e => exact (show False from hq).elim
  | ok fl =>
    cases fl with
    | ret u => exact I1.after hq
    | next => exact False.elim hq
    | brk => exact False.elim hq
    | cont => exact False.elim hq
/-- a def told with its code object -/
theorem fn_mkC {P : Program} {w : World} {K : PySem.W.Frag} {mg : Str → Option Value} {base : Heap} {x : Str} {st : Stmt} {fd : FuncData} {dvs : List V} {kws : List (Str × V)} {N ps : List Str} {k : Nat} {sp : Sp} {p : He.Defn} (F : FunD K x x (defArgs st) (defBody st) (defScope st) dvs kws (He.fAd K p) fd)
    (S : FnScope N ps (defScope st)) (len : ∀ vs H Q E, sp vs H Q E → vs.length = ps.length)
    (body : ∀ (cdv : Value) (A : Around) (outer : List Env) (s : Shared) (H : Hp) (vs : List V) (Q : VK) (E : XK), cdv = .ref (He.codeOf K p) → Room k (A.deeper (envOfC x (defScope st) s.heap.objs.size (He.fAd K p) cdv)) → sp vs H Q E →
      ∃ t, PSs (cxOf CX0 P w K mg base N x (defScope st) (He.fAd K p) cdv A outer s H E).nox (defBody st) t ∧ t { nx := fun _ H' => Q .non H', rt := Q } (start N vs) H) : FnOk P w K mg base CX0 (k + 1) (He.fAd K p) fd ps sp := by
  obtain ⟨oc, od, dV, kV, doc, pm, an, cdv, ct, osl, rfl, lk, hcd, _, _⟩ := F.ex
  obtain ⟨c, ec⟩ := He.codeIn_ref hcd
  have e : cdv = .ref (He.codeOf K p) := by rw [ec, He.codeOf_eq lk (show (PySem.W.fnOf x x (defArgs st) (defBody st) (defScope st) dV kV doc pm an cdv ct).code = .ref c from ec)]
  exact fn_of lk hcd S len fun A outer s H vs Q E hr hsp => let ⟨t, a, b⟩ := body cdv A outer s H vs Q E e hr hsp; ⟨t, PSs.nox a, b⟩
/-! ### heaps in which all but the tables stay -/
theorem sn_rd {H H' : Hp} {a : Addr} {u : HO} (e : ExtN H H') (h : Rd H a u) (n : ∀ ps, u ≠ .tbl ps) : Rd H' a u := by
  rcases h with h | ⟨o, h⟩
  · exact .inl (e _ _ h n)
  · exact .inr ⟨o, e _ _ h fun ps z => by cases z⟩
theorem sn_l {K : PySem.W.Frag} {H H' : Hp} {a : Addr} {xs : List V} (e : ExtN H H') (h : SqL K H a xs) : SqL K H' a xs := by
  rcases h with h | h
  · exact .inl (sn_rd e h fun ps z => by cases z)
  · exact .inr h
theorem sn_t {K : PySem.W.Frag} {H H' : Hp} {a : Addr} {xs : List V} (e : ExtN H H') (h : SqT K H a xs) : SqT K H' a xs := by
  rcases h with h | h
  · exact .inl (sn_rd e h fun ps z => by cases z)
  · exact .inr h
mutual
theorem sn_d {K : PySem.W.Frag} {H H' : Hp} (e : ExtN H H') : ∀ {v : V} {d : PyData}, Dp K H v d → Dp K H' v d
  | _, _, .non => .non
  | _, _, .bl b => .bl b
  | _, _, .int i => .int i
  | _, _, .str x => .str x
  | _, _, .lst h a => .lst (sn_l e h) (sn_da e a)
  | _, _, .tup h a => .tup (sn_t e h) (sn_da e a)
theorem sn_da {K : PySem.W.Frag} {H H' : Hp} (e : ExtN H H') : ∀ {vs : List V} {ds : List PyData}, DpAll K H vs ds → DpAll K H' vs ds
  | _, _, .nil => .nil
  | _, _, .cons h a => .cons (sn_d e h) (sn_da e a)
end
end FF
/-! Fivefault, part 12: defs with *v alone. -/
namespace FF
open PySem PySem.Spec PyProof.Rows L2 StX
structure DefS (P : Program) (w : World) (K : PySem.W.Frag) (mg : Str → Option Value) (base : Heap) (x : Str) (k : Nat) (sp : Sp) : Prop where
  ex : ∃ f : Addr, FnR P w K mg base (L2.CX P w) k f sp ∧ mg x = some (.ref f) ∧ PySem.W.keepIn K (.ref f) = true
section
variable {X : Cx} {W : WX} {E : XK} {x : Str} {k j : Nat} {sp : Sp} {e : Expr} {es : List Expr} {p pos : Pos} {t : TA}
end
/-- a reading with a wish that is stronger -/
theorem pe_mono {X : Cx} {e : Expr} {t : TE} (h : PE X e t) : PE X e (fun σ H Q => ∃ Q' : VK, (∀ v H', Q' v H' → Q v H') ∧ t σ H Q') :=
  ⟨fun pins s σ H Q I ⟨Q', hq, ht⟩ => thn (h.run pins s σ H Q' I ht) fun u s1 ⟨v, H1, I1, r, q⟩ => ⟨v, H1, I1, r, hq v H1 q⟩⟩
theorem lam_by {X : Cx} {scope : Scope} (st : Stmt) (h : X.env.scope = defScope st) (hb : LamX.lamSB (defScope st) scope = true) : LamX.LamS X.env.scope scope := by
  rw [h]
  exact LamX.lamS_by hb
end FF
/-! Fivefault, part 13: a list that stands aside during a call. -/
namespace FF
open PySem PySem.Spec PyProof.Rows L2
section
variable {P : Program} {w : World} {K : PySem.W.Frag} {mg : Str → Option Value} {base : Heap}
end
theorem hid_lst {good : List V → Prop} {a : Addr} {xs : List V} : hid good a ≠ .lst xs := fun z => by unfold hid at z; cases z
/-- all but the object at a stays -/
def SameB (a : Addr) (H H' : Hp) : Prop := ∀ b u, b ≠ a → H b = some u → H' b = some u
theorem sameT_b {a : Addr} {H H' : Hp} {xs : List V} (ha : H a = some (.lst xs)) (e : SameB a H H') : SameT H H' := fun b ys h => e b _ (fun z => by rw [z, ha] at h; cases h) h
end FF
/-! Fivefault, part 14: the Hook, with the interpreter's own statics in sight. -/
namespace FF
open PySem PySem.Spec PyProof.Rows L2
theorem saysY_of {fa : List He.Fa} {fn : List He.DefD} {tf : List He.Defn} {ex : PySem.W.Frag → Bool} {w : World} {h : Heap} {l : List Addr} (e : ((He.obsT fa fn [] (He.frT h.get? l), ex (He.frT h.get? l) && He.tabsB h.get? tf (He.frT h.get? l)) : He.AlX) = He.valX fn [] w) : He.SaysX fa fn [] tf ex w h (He.frT h.get? l) := by
  have e1 : He.obsT fa fn [] (He.frT h.get? l) = He.valT fn [] w := congrArg (fun z : He.AlX => z.1) e
  have e2 : (ex (He.frT h.get? l) && He.tabsB h.get? tf (He.frT h.get? l)) = true := congrArg (fun z : He.AlX => z.2) e
  obtain ⟨h1, h2⟩ := He.ba e2
  have key := fun p hp => He.ba (List.all_eq_true.mp h2 p hp)
  have tab : ∀ p ∈ tf, ∃ o, h.get? (He.cT (He.frT h.get? l) p).2 = some o ∧ He.emptyTab o = true := fun p hp => by
    have h4 := (key p hp).2
    cases q : h.get? (He.cT (He.frT h.get? l) p).2 with
    | none =>
      rw [q] at h4
      cases h4
    | some o =>
      rw [q] at h4
      exact ⟨o, rfl, h4⟩
  exact ⟨e1, h1, fun p hp => (key p hp).1, fun p hp => let ⟨_, q, z⟩ := tab p hp; He.frT_none q z, fun p hp => by
    obtain ⟨_, q, z⟩ := tab p hp
    rw [q, He.emptyTab_eq z]⟩
end FF
/-! Fivefault, part 15: comprehensions with a test, over a text; dicts made of pairs. -/
namespace FF
open PySem PySem.Spec PyProof.Rows L2
section
variable {K : PySem.W.Frag} {a D : Addr} {xs : List V} {tt : TT} {te : TE} {vs : List Nat} {j : Nat} {σ : L2.St} {H1 : Hp} {Qd : Hp → Prop}
theorem same_at {H H1 : Hp} {D : Addr} {o : HO} (hD : H1 D = none) (e : Same H1 H) : Same H1 (upd H D o) := fun b u hb => by
  rw [upd_ne (ne_of_none hb hD)]
  exact e _ _ hb
end
/-! ### dicts made of pairs -/
end FF
/-! Fivefault, part 16: keywords gathered in a dict (def f(a, .., **d), called with keywords). -/
namespace FF
open PySem PySem.Spec PyProof.Rows L2
section
variable {prog : Program} {w : World} {A : Around} {E : Value → Shared → Prop} {d : Addr}
end
end FF
/-! Fivefault, part 17: defs with **d, called with keywords. -/
namespace FF
open PySem PySem.Spec PyProof.Rows L2 StX
def FnKw (P : Program) (w : World) (K : PySem.W.Frag) (mg : Str → Option Value) (base : Heap) (CX : CXT) (k : Nat) (f : Addr) (n : Nat) (ks : List Str) (sp : Sp) : Prop :=
  ∀ (A : Around) (outer : List Env) (s : Shared) (H : Hp) (us ws : List Value) (vs zs : List V) (Q : VK) (E : XK), Room k A → Env0 P w K mg base A outer s H → Vals vs us → Vals zs ws → vs.length = n → zs.length = ks.length → sp (vs ++ zs) H Q E →
    codeAny (model P w) A (.call (.ref f) ⟨us, ks.zip ws⟩) (CR CX outer P w H s Q E) s
structure DefK (P : Program) (w : World) (K : PySem.W.Frag) (mg : Str → Option Value) (base : Heap) (x : Str) (k n : Nat) (ks : List Str) (sp : Sp) : Prop where
  ex : ∃ f : Addr, FnKw P w K mg base (L2.CX P w) k f n ks sp ∧ mg x = some (.ref f) ∧ PySem.W.keepIn K (.ref f) = true
end FF
/-! Fivefault, part 18: own exceptions with one field. -/
namespace FF
open PySem PySem.Spec PyProof.Rows L2
/-- C.__init__(self, y): the code z, the field f -/
def spIni1 (K : PySem.W.Frag) (z f : Str) : Sp := fun vs H Q _ => ∃ (a C : Addr) (y : V), vs = [.ref a, y] ∧ OexC K C ∧ PySem.W.findIn K (.ref C) "code" = some none ∧ PySem.W.findIn K (.ref C) f = some none ∧ H a = some (exo a C none) ∧
  ∀ dx, H dx = none → dx ≠ a → Q .non (upd (upd (upd H dx (exd dx [("code", .str z)])) a (exo a C (some dx))) dx (exd dx [(f, y), ("code", .str z)]))
structure RaiseD1 (P : Program) (w : World) (K : PySem.W.Frag) (mg : Str → Option Value) (base : Heap) (x y : Str) (k : Nat) (z f : Str) : Prop where
  own : OwnX K x y
  nof : PySem.W.findIn K (.ref (He.ga K x)) f = some none
  hm : mg x = some (.ref (He.ga K x))
  ini : ∃ fd, FnOk P w K mg base CX0 k (He.ma K (He.ga K x) "__init__") fd ["self", f] (spIni1 K z f) ∧ Binds K fd ["self", f] []
def tOwn1 (K : PySem.W.Frag) (x z f : Str) (ta : TA) : L2.St → Hp → XK → Prop := fun σ H Q => ta σ H fun vs H1 => ∃ y, vs = [y] ∧ ∀ dd H', Same H1 H' → H' dd = some (.xd [(f, y), ("code", .str z)]) → Q (.ref (He.ga K x)) (some dd) H'
theorem pmk_raise1 {X : Cx} {x y z f : Str} {k j : Nat} {e : Expr} {p pos : Pos} {ta : TA} (D : RaiseD1 X.prog X.w X.K X.mg X.base x y k z f) (hr : Room j X.A) (hkj : k + 1 ≤ j) (ha : PA X [e] ta) (hg : Gl X x := by rfl) (hdb : (x == ("__debug__" : Str)) = false := by decide)
    (he : starEach [e] X.env = (false, eval e X.env) :: starEach [] X.env := by rfl) (hpl : (backTo pos (starEach [] X.env)).any (·.1) = false := by rfl) (mono : ∀ σ H (Q Q' : List V → Hp → Prop), (∀ vs H1, Q vs H1 → Q' vs H1) → ta σ H Q → ta σ H Q') :
    PMk X (.Call (.Name x p) [e] [] pos) (tOwn1 X.K x z f ta) := by
  obtain ⟨fd, F, hb⟩ := D.ini
  refine pmk_imp (pmk_oex D.own.c.o D.own.ini D.own.tyI F (hr.mono hkj) hb .nil pass0 hg D.hm ha hdb he hpl) fun σ H Q q => ?_
  refine mono σ H _ _ (fun vs H1 ⟨y, ev, q⟩ => ?_) q
  subst ev
  refine ⟨by simp, fun a ha => ⟨a, He.ga X.K x, y, rfl, D.own.c.o, D.own.c.noc, D.nof, upd_same, fun dx hdx hne => ⟨rfl, dx, [(f, y), ("code", .str z)], ?_, upd_same, ?_, ?_⟩⟩⟩
  · rw [upd_ne (Ne.symm hne), upd_same]
  · rwa [upd_ne hne] at hdx
  · have hdx2 : H1 dx = none := by rwa [upd_ne hne] at hdx
    refine q dx _ (fun b u hb => ?_) upd_same
    have b1 : b ≠ dx := ne_of_none hb hdx2
    have b2 : b ≠ a := ne_of_none hb ha
    rw [upd_ne b1, del_ne b2, upd_ne b1, upd_ne b2, upd_ne b1, upd_ne b2]
    exact hb
end FF
/-! Fivefault, part 19: a, *b = t. -/
namespace FF
open PySem PySem.Spec PyProof.Rows L2
theorem tup_tail {prog : Program} {w : World} {A : Around} (hh : A.handled = none) (I ax : Addr) (hne : ax ≠ I) (x : Value) (items : List Value) :
    Walks prog w A I [I, ax] [I] items.length (fun i v => items[i]? = some v) (fun i h => h.IsTupleIter I ax (i + 1) ∧ h.IsTuple ax (x :: items).toArray) :=
  let W := Walks.tuple (prog := prog) (w := w) hh I ax hne (x :: items).toArray
  { sub := W.sub
    frame := fun i h h' st hk => W.frame (i + 1) h h' st hk
    item := fun i s Q E hi st hQ => W.item (i + 1) s Q E (by simpa using hi) st fun v h' tk hP st' hk => hQ v h' tk (by simpa using hP) st' hk
    done := fun s Q E st hQ => W.done s Q E (by simpa using st) hQ
    self := fun i s Q E st hQ => W.self (i + 1) s Q E st hQ }
theorem unpack_star {prog : Program} {w : World} {A : Around} {E : Value → Shared → Prop} {s : Shared} {t : Addr} {x : Value} {items : List Value} {Q : List Value → Shared → Prop} (hh : A.handled = none) (ht : s.heap.IsTuple t (x :: items).toArray) (hz : items.length ≤ sizeLine)
    (hQ : ∀ (h' : Heap) (tk : Nat), (∀ b o, s.heap.get? b = some o → h'.get? b = some o) → Q [x, .ref h'.objs.size] { s with heap := h'.push { cls := .type "list", data := .seq items.toArray }, toks := tk }) :
    wpAny (model prog w) A (unpackItems (.ref t) 2 (some 1)) Q E s := by
  have hlt : t ≠ s.heap.objs.size := by obtain ⟨o, ho, _⟩ := ht; exact Nat.ne_of_lt (Heap.lt_size ho)
  unfold unpackItems
  refine wpAny_bind ?_
  unfold notIterableAtAll
  refine wpAny_bind (wpAny_specialOf ht.typeIs PySem.F.slot_tuple_iter.lookup ?_)
  refine wpAny_pure ?_
  simp only [Bool.false_eq_true, if_false]
  refine wpAny_bind (wpAny_holding (wpAny_pyIter_tuple ht ?_))
  refine wpAny_bind (wpAny_holding (wpAny_draw_tuple hlt 1 0 _ _ ⟨_, Heap.get?_push_size _ rfl, rfl, rfl⟩ (ht.push _) (by simp) fun h₁ hit₁ hs₁ => ?_))
  have e1 : List.take 1 (List.drop 0 (x :: items).toArray.toList) = [x] := by simp
  rw [e1, if_neg (by simp)]
  have ht₁ : h₁.IsTuple t (x :: items).toArray := (ht.push _).extBut hs₁.extBut hlt
  have k1 : ∀ b o, s.heap.get? b = some o → h₁.get? b = some o := fun b o e => hs₁.extBut b o (Nat.ne_of_lt (Heap.lt_size e)) (Heap.get?_push_of_some _ e)
  have hin : s.heap.objs.size < h₁.objs.size := by
    obtain ⟨o, ho, _⟩ := hit₁
    exact Heap.lt_size ho
  have htn : t < h₁.objs.size := by
    obtain ⟨o, ho, _⟩ := ht₁
    exact Heap.lt_size ho
  refine wpAny_bind (wpAny_holding (wpAny_collect_iter (T := "tuple_iterator") (.inr (.inr (.inr rfl))) (Walks.toS (tup_tail (A := A.in1) hh s.heap.objs.size t hlt x items)) (fun i s st => st.1.typeIs) ⟨hit₁, ht₁⟩ (fun b hb => ?_) (by simp) (fun s' acc mv it => ?_) hz))
  · simp only [List.mem_cons, List.not_mem_nil, or_false] at hb
    rcases hb with rfl | rfl
    · exact hin
    · exact htn
  have ea : acc.toList = items := by
    apply List.ext_getElem?
    intro j
    rw [Array.getElem?_toList]
    cases h : acc[j]? with
    | some v => exact (it.2 j v h).symm
    | none =>
      have := Array.getElem?_eq_none_iff.mp h
      rw [it.1] at this
      exact (List.getElem?_eq_none this).symm
  rw [ea, if_neg (by omega)]
  have em : List.take (items.length - (2 - 1 - 1)) items = items := by simp
  have ed : List.drop (items.length - (2 - 1 - 1)) items = [] := by simp
  rw [em, ed]
  obtain ⟨h2, g2, d2, t2, o2⟩ := s'
  obtain ⟨mh, mg, md, mo, mt⟩ := mv
  have mg : g2 = s.gens := mg
  have md : d2 = s.drawn := md
  have mo : o2 = s.os := mo
  subst mg md mo
  refine wpAny_bind (wpAny_newList (wpAny_pure (hQ h2 t2 fun b o e => mh b o (fun hm => ?_) (k1 b o e))) hz)
  rw [List.mem_singleton.mp hm] at e
  exact Nat.lt_irrefl _ (Heap.lt_size e)
/-- a, *b = t -/
theorem pg_star2 {X : Cx} {e1 e2 : Expr} {p3 pos : Pos} {k : Nat} {t : TGs} (hc : X.calm = true) (h : PGs X [e1, e2] t) (hm : (assignEach [e1, .Starred e2 p3] X.env).map (·.2) = (assignEach [e1, e2] X.env).map (·.2) := by rfl)
    (hn : (assignEach [e1, .Starred e2 p3] X.env).length = 2 := by rfl) (hst : (assignEach [e1, .Starred e2 p3] X.env).findIdx? (·.1) = some 1 := by rfl) :
    PG X (.Tuple [e1, .Starred e2 p3] k pos) (fun v σ H Q => ∃ a x0 xs, v = .ref a ∧ SqT X.K H a (x0 :: xs) ∧ ∀ p, H p = none → t [x0, .ref p] σ (upd H p (.lst xs)) Q) := by
  refine ⟨fun pins s σ H v u Q I r hw => ?_⟩
  obtain ⟨a, x0, xs, rfl, hq, hw⟩ := hw
  cases r
  obtain ⟨its, rv, ht, hz⟩ := I.tuple hq
  cases rv with
  | @cons _ u0 _ us r0 rs =>
  have hl : us.length ≤ sizeLine := by
    have := rs.length
    rw [List.length_cons] at hz
    omega
  rw [PyProof.Rows.assign_Tuple]
  refine wpAny_bind (wpAny_standAt ?_)
  unfold unpack
  rw [hn, hst, hm]
  refine wpAny_bind (wpAny_holding (unpack_star (I.ok.hd hc) ht hl fun h' tk kp => ?_))
  have I1 : Inv X pins σ H { s with heap := h', toks := tk } := I.kept kp
  have hf : H h'.objs.size = none := I1.hok.fresh (Nat.le_refl _)
  have I2 : Inv X pins σ (upd H h'.objs.size (.lst xs)) { s with heap := h'.push { cls := .type "list", data := .seq us.toArray }, toks := tk } :=
    I1.laid (t' := tk) (fun b u e => Heap.get?_push_of_some _ e) (Nat.le_refl _) ⟨by rw [rs.length]; exact hl, us, 0, rs, Heap.get?_push_size _ rfl⟩
  exact h.run pins _ σ _ [x0, .ref h'.objs.size] [u0, .ref h'.objs.size] Q I2 (.cons r0 (.cons rfl .nil)) (hw _ hf)
end FF
/-! Fivefault, part 20: methods of own classes, some of which raise; instances whose fields change. -/
namespace FF
open PySem PySem.Spec PyProof.Rows L2
structure MethX (P : Program) (w : World) (K : PySem.W.Frag) (mg : Str → Option Value) (base : Heap) (C m : Str) (k : Nat) (ps : List Str) (sp : Sp) : Prop where
  ex : ∃ fd, FnOk P w K mg base (L2.CX P w) k (He.ma K (He.ga K C) m) fd ps sp ∧ Binds K fd ps []
  cl : Cls K (He.ga K C)
  me : Meth K (He.ga K C) m (He.ma K (He.ga K C) m)
structure MethD (P : Program) (w : World) (K : PySem.W.Frag) (mg : Str → Option Value) (base : Heap) (C m : Str) (k : Nat) (ps : List Str) (sp : Sp) : Prop where
  ex : ∃ fd, FnOk P w K mg base CX0 k (He.ma K (He.ga K C) m) fd ps sp ∧ Binds K fd ps []
  cl : Cls K (He.ga K C)
  me : Meth K (He.ga K C) m (He.ma K (He.ga K C) m)
section
variable {X : Cx} {W : WX} {E : XK} {C m : Str} {k j : Nat} {ps : List Str} {sp : Sp} {o e : Expr} {es : List Expr} {apos pos : Pos} {to : TE} {t : TA} {pl : Sem Bool}
theorem pe_methx (D : MethX X.prog X.w X.K X.mg X.base C m k ps sp) (tk : Takes X W) (hW : ∀ cls d σ' H', E cls d H' → W cls d σ' H') (hr : Room j X.A) (hkj : k ≤ j) (ho : PE X o to) (ha : PA X (e :: es) t)
    (hst : starEach (e :: es) X.env = (false, eval e X.env) :: starEach es X.env := by rfl) (hpl : (backTo pos (starEach es X.env)).any (·.1) = false := by rfl)
    (ht : eval (.Call (.Attribute o m apos) (e :: es) [] pos) X.env = (do
      let ov ← eval o X.env
      standAt apos.atName
      let (f, first) ← holding [ov] (getMethod ov m pl)
      callWith pos f first (backTo pos (starEach (e :: es) X.env)) (backToKw pos (keywordEach [] X.env))) := by rfl) :
    PE X (.Call (.Attribute o m apos) (e :: es) [] pos) (tMeth (He.ga X.K C) m sp [] E to t) := by
  obtain ⟨fd, F, hb⟩ := D.ex
  exact pe_meth ho D.cl D.me F (hr.mono hkj) hb .nil (passes_call tk hW) ha hst hpl ht
theorem pe_methd (D : MethD X.prog X.w X.K X.mg X.base C m k ps sp) (hr : Room j X.A) (hkj : k ≤ j) (ho : PE X o to) (ha : PA X (e :: es) t)
    (hst : starEach (e :: es) X.env = (false, eval e X.env) :: starEach es X.env := by rfl) (hpl : (backTo pos (starEach es X.env)).any (·.1) = false := by rfl)
    (ht : eval (.Call (.Attribute o m apos) (e :: es) [] pos) X.env = (do
      let ov ← eval o X.env
      standAt apos.atName
      let (f, first) ← holding [ov] (getMethod ov m pl)
      callWith pos f first (backTo pos (starEach (e :: es) X.env)) (backToKw pos (keywordEach [] X.env))) := by rfl) :
    PE X (.Call (.Attribute o m apos) (e :: es) [] pos) (tMeth (He.ga X.K C) m sp [] E0 to t) := by
  obtain ⟨fd, F, hb⟩ := D.ex
  exact pe_meth ho D.cl D.me F (hr.mono hkj) hb .nil pass0 ha hst hpl ht
end
/-- C(..): the class C with an own __init__ that raises nothing -/
structure MakeD (P : Program) (w : World) (K : PySem.W.Frag) (mg : Str → Option Value) (base : Heap) (C : Str) (k : Nat) (ps : List Str) (sp : Sp) : Prop where
  ex : ∃ fd, FnOk P w K mg base CX0 k (He.ma K (He.ga K C) "__init__") fd ps sp ∧ Binds K fd ps []
  mkr : Mk K (He.ga K C) (He.ma K (He.ga K C) "__init__")
  hm : mg C = some (.ref (He.ga K C))
theorem pe_mkd {X : Cx} {C : Str} {k j : Nat} {ps : List Str} {sp : Sp} {e : Expr} {es : List Expr} {p pos : Pos} {t : TA} (D : MakeD X.prog X.w X.K X.mg X.base C k ps sp) (hr : Room j X.A) (hkj : k + 1 ≤ j) (ha : PA X (e :: es) t)
    (hg : Gl X C := by rfl) (hdb : (C == ("__debug__" : Str)) = false := by decide) (he : starEach (e :: es) X.env = (false, eval e X.env) :: starEach es X.env := by rfl) (hpl : (backTo pos (starEach es X.env)).any (·.1) = false := by rfl) :
    PE X (.Call (.Name C p) (e :: es) [] pos) (tMake (He.ga X.K C) sp [] E0 t) := by
  obtain ⟨fd, F, hb⟩ := D.ex
  exact pe_make D.mkr F (hr.mono hkj) hg D.hm hb .nil pass0 ha hdb he hpl
section
variable {P : Program} {w : World} {K : PySem.W.Frag} {mg : Str → Option Value} {base : Heap}
theorem methx_mk {C m qual : Str} {st : Stmt} {fd : FuncData} {dvs : List V} {kws : List (Str × V)} {N ps : List Str} {k : Nat} {sp : Sp} (F : FunD K m qual (defArgs st) (defBody st) (defScope st) dvs kws (He.ma K (He.ga K C) m) fd) (hb : Binds K fd ps [])
    (cl : Cls K (He.ga K C)) (me : Meth K (He.ga K C) m (He.ma K (He.ga K C) m)) (S : FnScope N ps (defScope st)) (len : ∀ vs H Q E, sp vs H Q E → vs.length = ps.length)
    (body : ∀ (cdv : Value) (A : Around) (outer : List Env) (s : Shared) (H : Hp) (vs : List V) (Q : VK) (E : XK), Room k (A.deeper (envOfC qual (defScope st) s.heap.objs.size (He.ma K (He.ga K C) m) cdv)) → sp vs H Q E →
      (Takes (cxOf (L2.CX P w) P w K mg base N qual (defScope st) (He.ma K (He.ga K C) m) cdv A outer s H E) fun cls d _ H => E cls d H) →
      ∃ t, PSs (cxOf (L2.CX P w) P w K mg base N qual (defScope st) (He.ma K (He.ga K C) m) cdv A outer s H E) (defBody st) t ∧ t { nx := fun _ H' => Q .non H', rt := Q } (start N vs) H) : MethX P w K mg base C m (k + 1) ps sp :=
  ⟨⟨fd, FunD.ok F S len (fun cdv A outer s H vs Q E hr h => body cdv A outer s H vs Q E hr h (takes_of rfl rfl rfl rfl)), hb⟩, cl, me⟩
theorem fnm_mk {C m qual : Str} {st : Stmt} {fd : FuncData} {dvs : List V} {kws : List (Str × V)} {N ps : List Str} {k : Nat} {sp : Sp} (F : FunD K m qual (defArgs st) (defBody st) (defScope st) dvs kws (He.ma K (He.ga K C) m) fd)
    (S : FnScope N ps (defScope st)) (len : ∀ vs H Q E, sp vs H Q E → vs.length = ps.length)
    (body : ∀ (cdv : Value) (A : Around) (outer : List Env) (s : Shared) (H : Hp) (vs : List V) (Q : VK) (E : XK), Room k (A.deeper (envOfC qual (defScope st) s.heap.objs.size (He.ma K (He.ga K C) m) cdv)) → sp vs H Q E →
      ∃ t, PSs (cxOf CX0 P w K mg base N qual (defScope st) (He.ma K (He.ga K C) m) cdv A outer s H E).nox (defBody st) t ∧ t { nx := fun _ H' => Q .non H', rt := Q } (start N vs) H) : FnOk P w K mg base CX0 (k + 1) (He.ma K (He.ga K C) m) fd ps sp :=
  FunD.ok F S len fun cdv A outer s H vs Q E hr h => let ⟨t, a, b⟩ := body cdv A outer s H vs Q E hr h; ⟨t, PSs.nox a, b⟩
theorem methd_mk {C m qual : Str} {st : Stmt} {fd : FuncData} {dvs : List V} {kws : List (Str × V)} {N ps : List Str} {k : Nat} {sp : Sp} (F : FunD K m qual (defArgs st) (defBody st) (defScope st) dvs kws (He.ma K (He.ga K C) m) fd) (hb : Binds K fd ps [])
    (cl : Cls K (He.ga K C)) (me : Meth K (He.ga K C) m (He.ma K (He.ga K C) m)) (S : FnScope N ps (defScope st)) (len : ∀ vs H Q E, sp vs H Q E → vs.length = ps.length)
    (body : ∀ (cdv : Value) (A : Around) (outer : List Env) (s : Shared) (H : Hp) (vs : List V) (Q : VK) (E : XK), Room k (A.deeper (envOfC qual (defScope st) s.heap.objs.size (He.ma K (He.ga K C) m) cdv)) → sp vs H Q E →
      ∃ t, PSs (cxOf CX0 P w K mg base N qual (defScope st) (He.ma K (He.ga K C) m) cdv A outer s H E).nox (defBody st) t ∧ t { nx := fun _ H' => Q .non H', rt := Q } (start N vs) H) : MethD P w K mg base C m (k + 1) ps sp :=
  ⟨⟨fd, fnm_mk F S len body, hb⟩, cl, me⟩
theorem MethX.mono {C m : Str} {j k : Nat} {ps : List Str} {sp : Sp} (D : MethX P w K mg base C m j ps sp) (h : j ≤ k) : MethX P w K mg base C m k ps sp := by
  obtain ⟨fd, F, r⟩ := D.ex
  exact ⟨⟨fd, F.mono h, r⟩, D.cl, D.me⟩
theorem MethD.mono {C m : Str} {j k : Nat} {ps : List Str} {sp : Sp} (D : MethD P w K mg base C m j ps sp) (h : j ≤ k) : MethD P w K mg base C m k ps sp := by
  obtain ⟨fd, F, r⟩ := D.ex
  exact ⟨⟨fd, F.mono h, r⟩, D.cl, D.me⟩
/-- a promise that is never asked -/
theorem methx_none {C m qual : Str} {params : Arguments} {body : List Stmt} {scope : Scope} {fd : FuncData} {dvs : List V} {kws : List (Str × V)} {ps : List Str} {sp : Sp} (_F : FunD K m qual params body scope dvs kws (He.ma K (He.ga K C) m) fd) (hb : Binds K fd ps [])
    (cl : Cls K (He.ga K C)) (me : Meth K (He.ga K C) m (He.ma K (He.ga K C) m)) (no : ∀ vs H Q E, ¬ sp vs H Q E) : MethX P w K mg base C m 0 ps sp :=
  ⟨⟨fd, ⟨fun vs H Q E h => absurd h (no vs H Q E), fun A outer s H args us vs Q E _ _ _ _ h => absurd h (no vs H Q E)⟩, hb⟩, cl, me⟩
end
/-! ### all but one object stays -/
theorem sameT_i {a C dx : Addr} {fs : List (Str × V)} {H H' : Hp} (ha : H a = some (.ins C dx fs)) (e : SameB a H H') : SameT H H' := fun b ys h => e b _ (fun z => by rw [z, ha] at h; cases h) h
theorem SameB.tr {a : Addr} {H H1 H2 : Hp} (x : SameB a H H1) (y : SameB a H1 H2) : SameB a H H2 := fun b u n h => y b u n (x b u n h)
theorem sb_of {a : Addr} {H H1 : Hp} (x : Same H H1) : SameB a H H1 := fun b u _ h => x b u h
theorem sb_upd {a : Addr} {H : Hp} {o : HO} : SameB a H (upd H a o) := fun b u n h => by rw [upd_ne n]; exact h
end FF
/-! Fivefault, part 21: {k: v for a in xs for b in ys}. -/
namespace FF
open PySem PySem.Spec PyProof.Rows L2
section
variable {prog : Program} {w : World} {A : Around} {R : Result → Shared → Prop} {s : Shared} {ek ev ga ia gb ib : Expr} {cs ds : List Expr} {scope : Scope} {pos : Pos} {it : Value} {D : Addr} {env : Env}
end
/-- in every block of the comprehension -/
abbrev InBlk (X : Cx) (scope : Scope) (p : Cx → Prop) : Prop := ∀ (s : Shared) (H : Hp) (C : Addr) (cl : List (Str × Addr)) (fp : List Addr), p (X.blk s H scope (compEnvC scope cl C X.env) fp)
end FF
/-! Fivefault, part 22: sorted(d), a dict with any number of text keys. -/
namespace FF
open PySem PySem.Spec PyProof.Rows L2
end FF
/-! Fivefault, part 23: enumerate over a tuple; what is a list or a tuple, walked. -/
namespace FF
open PySem PySem.Spec PyProof.Rows L2
open Sem (wp)
section
variable {prog : Program} {w : World} {A : Around} {E : Value → Shared → Prop} {s : Shared}
end
end FF
/-! Fivefault, part 24: several except clauses, with and without names. -/
namespace FF
open PySem PySem.Spec PyProof.Rows L2
/-- the readings of a clause with a name (slot i) -/
abbrev nmd (i : Nat) (ts : Addr → Value → Option Addr → TS) : Addr → Value → Option Addr → TS := fun a cls d D σ H => ts a cls d (asEnds i D) (σ.set i (some (.ref a))) H
inductive HdsB (X : Cx) (n : Str) (i : Nat) : List ExceptHandler → List (Value × (Addr → Value → Option Addr → TS)) → Prop
  | nil : HdsB X n i [] []
  | cons {x : Str} {c : Value} {ts : Addr → Value → Option Addr → TS} {b₀ : Stmt} {suite : List Stmt} {np pos' : Pos} {hds : List ExceptHandler} {l : List (Value × (Addr → Value → Option Addr → TS))} (hc : Names X x c)
      (hsu : ∀ (a : Addr) (oe : Obj) (cls : Value) (d : Option Addr) (pn : List (Addr × Obj)), Zc cls d oe → (∃ vs, oe.data = .fields vs) → PSs (X.suite a ((a, oe) :: pn)) (b₀ :: suite) (ts a cls d)) (r : HdsB X n i hds l) :
      HdsB X n i (.ExceptHandler (some (.Name x np)) (some n) (b₀ :: suite) pos' :: hds) ((c, nmd i ts) :: l)
  | cons0 {x : Str} {c : Value} {ts : Addr → Value → Option Addr → TS} {b₀ : Stmt} {suite : List Stmt} {np pos' : Pos} {hds : List ExceptHandler} {l : List (Value × (Addr → Value → Option Addr → TS))} (hc : Names X x c)
      (hsu : ∀ (a : Addr) (oe : Obj) (cls : Value) (d : Option Addr) (pn : List (Addr × Obj)), Zc cls d oe → (∃ vs, oe.data = .fields vs) → PSs (X.suite a ((a, oe) :: pn)) (b₀ :: suite) (ts a cls d)) (r : HdsB X n i hds l) :
      HdsB X n i (.ExceptHandler (some (.Name x np)) none (b₀ :: suite) pos' :: hds) ((c, ts) :: l)
section
variable {X : Cx} {n : Str} {i : Nat} {body : List Stmt} {h₀ : ExceptHandler} {hds : List ExceptHandler} {l : List (Value × (Addr → Value → Option Addr → TS))} {pos : Pos} {tb : WX → TS} {Wout : WX}
end
end FF
/-! Fivefault, part 25: walks over what is a list or a tuple; over the signs of a text. -/
namespace FF
open PySem PySem.Spec PyProof.Rows L2
section
variable {K : PySem.W.Frag} {a : Addr} {xs : List V} {H : Hp}
theorem walkL_same (h : SqL K H a xs) : Walk (Itl K a) xs.length (Same H) (YAt xs) :=
  ⟨fun i H' hi e => ⟨xs, xs[i], up_l e h, by simp [hi]⟩, fun H' e => ⟨xs, up_l e h, Nat.le_refl _⟩, fun i H' x H2 _ e y => ⟨y.1, y.2 xs (up_l e h)⟩⟩
end
end FF
/-! Fivefault, part 26: fors and comprehensions over what is a list or a tuple. -/
namespace FF
open PySem PySem.Spec PyProof.Rows L2
section
variable {K : PySem.W.Frag} {a : Addr} {xs : List V} {g : TG} {tb : TS} {D : Ends} {σ : L2.St} {H : Hp}
end
section
variable {K : PySem.W.Frag} {a : Addr} {xs : List V} {g : TG} {te : TE} {vs : List Nat} {σ : L2.St} {H1 : Hp} {Q : Addr → Hp → Prop}
end
end FF
/-! Fivefault, part 27: [x for x in xs if test], the test told by x. -/
namespace FF
open PySem PySem.Spec PyProof.Rows L2
end FF
/-! Fivefault, part 28: [x for l in ls for x in l] over a tuple of lists or tuples; defs with *v called where no exception comes. -/
namespace FF
open PySem PySem.Spec PyProof.Rows L2 StX
section
variable {X : Cx} {x : Str} {k j : Nat} {sp : Sp} {e : Expr} {es : List Expr} {p pos : Pos} {t : TA}
end
section
variable {K : PySem.W.Frag} {a : Addr} {xs : List V} {uss : List (List V)} {vs vs1 : List Nat} {jo ji : Nat} {σ : L2.St} {H1 : Hp} {Q : Addr → Hp → Prop}
end
end FF
/-! Fivefault, part 29: is, where the left side is None or a bool. -/
namespace FF
open PySem PySem.Spec PyProof.Rows L2
end FF
/-! Fivefault, part 30: a, *b = xs (a list at the right); {**d, k: v}. -/
namespace FF
open PySem PySem.Spec PyProof.Rows L2
section
variable {prog : Program} {w : World} {K : Type} [DecidableEq K] {knd : KeyKind prog w K} {A : Around} {E : Value → Shared → Prop} {s : Shared}
end
end FF
/-! Fivefault, part 31: more comprehensions: a test told with the heap; a choice of any target; items that are new objects. -/
namespace FF
open PySem PySem.Spec PyProof.Rows L2
theorem lc_filtW {K : PySem.W.Frag} {a D : Addr} {xs : List V} {tt : TT} {te : TE} {vs : List Nat} {j : Nat} {σ : L2.St} {H1 : Hp} {Qd : Hp → Prop} (f : V → Bool) (hD : H1 D = none) (hs : SqL K H1 a xs) (hz : xs.length ≤ sizeLine)
    (hw : ∀ x, wipe ((wipe σ vs).set j (some x)) vs = wipe σ vs)
    (test : ∀ (i : Nat) (x : V) (H2 : Hp), xs[i]? = some x → Same H1 H2 → ∀ Qb : Bool → Hp → Prop, (∀ H3, Same H2 H3 → Qb (f x) H3) → tt ((wipe σ vs).set j (some x)) H2 Qb)
    (elt : ∀ x H2 (Q' : VK), Q' x H2 → te ((wipe σ vs).set j (some x)) H2 Q')
    (done : ∀ H2, Same H1 H2 → H2 D = some (.lst (xs.filter f)) → Qd H2) :
    ∃ W : Nat → Nat → Hp → Prop, (∃ m, W 0 m (upd H1 D (.lst []))) ∧ ∀ i m H, W i m H →
      ((Itl K a).stop i H ∧ Qd H) ∨ ((Itl K a).go i H ∧ ∃ Nx : Hp → Prop, (∀ H', Nx H' → ∃ m', m' < m ∧ W (i + 1) m' H') ∧ ∀ x H', (Itl K a).yld i H x H' → gName j x (wipe σ vs) H' fun σ2 H2 => wipe σ2 vs = wipe σ vs ∧ tt σ2 H2 fun b H3 =>
        if b = true then te σ2 H3 fun y H4 => ∃ acc, H4 D = some (.lst acc) ∧ acc.length < sizeLine ∧ Nx (upd H4 D (.lst (acc ++ [y]))) else Nx H3) :=
  lc_list (fun i H => Same H1 H ∧ H D = some (.lst ((xs.take i).filter f)))
    ⟨same_new hD _, upd_same⟩ (fun i H _ p => up_l p.1 hs)
    (fun i x H hx ⟨e, h1⟩ => ⟨hw x, test i x H hx e _ fun H3 e3 => by
      have take1 : xs.take (i + 1) = xs.take i ++ [x] := by
        rw [List.take_add_one, hx] <;> rfl
      cases hb : f x with
      | false =>
        refine iteF ⟨e.trans e3, ?_⟩
        rw [take1, List.filter_append, List.filter_cons_of_neg (by rw [hb]; decide), List.filter_nil, List.append_nil]
        exact e3 _ _ h1
      | true =>
        refine iteT (elt x H3 _ ⟨_, e3 _ _ h1, ?_, same_at hD (e.trans e3), ?_⟩)
        · refine Nat.lt_of_le_of_lt (List.length_filter_le _ _) ?_
          rw [List.length_take]
          have := (List.getElem?_eq_some_iff.mp hx).1
          omega
        · rw [take1, List.filter_append, List.filter_cons_of_pos hb, List.filter_nil, upd_same]⟩)
    fun H ⟨e, h1⟩ => done H e (by rw [List.take_length] at h1; exact h1)
section
variable {K : PySem.W.Frag} {a : Addr} {xs : List V} {g : TG} {tt : TT} {te : TE} {vs : List Nat} {σ : L2.St} {H1 : Hp} {Q : Addr → Hp → Prop}
end
section
variable {K : PySem.W.Frag} {a : Addr} {xs : List V} {te : TE} {vs : List Nat} {σ : L2.St} {H1 : Hp} {D : Addr} {Qd : Hp → Prop} {j : Nat}
end
end FF
/-! Fivefault, part 32: x[i] of a text or a tuple; C() of an own class. -/
namespace FF
open PySem PySem.Spec PyProof.Rows L2
end FF
/-! Fivefault, part 33: a text times an int. -/
namespace FF
open PySem PySem.Spec PyProof.Rows L2
end FF
/-! Fivefault, part 34: int(t, 2). -/
namespace FF
open PySem PySem.Spec PyProof.Rows L2
namespace Bn
open PySem.NumText PySem.Calls L2.Hx
end Bn
end FF
/-! Fivefault, part 35: t[::-1]. -/
namespace FF
open PySem PySem.Spec PyProof.Rows L2
end FF
/-! Fivefault, part 36: C(..) where __init__ may raise; {k: v for .. in enumerate(xs)}. -/
namespace FF
open PySem PySem.Spec PyProof.Rows L2
/-- C(..): the class C with an own __init__ that may raise -/
structure MakeX (P : Program) (w : World) (K : PySem.W.Frag) (mg : Str → Option Value) (base : Heap) (C : Str) (k : Nat) (ps : List Str) (sp : Sp) : Prop where
  ex : ∃ fd, FnOk P w K mg base (L2.CX P w) k (He.ma K (He.ga K C) "__init__") fd ps sp ∧ Binds K fd ps []
  mkr : Mk K (He.ga K C) (He.ma K (He.ga K C) "__init__")
  hm : mg C = some (.ref (He.ga K C))
theorem pe_mkx {X : Cx} {W : WX} {E : XK} {C : Str} {k j : Nat} {ps : List Str} {sp : Sp} {e : Expr} {es : List Expr} {p pos : Pos} {t : TA} (D : MakeX X.prog X.w X.K X.mg X.base C k ps sp) (tk : Takes X W) (hW : ∀ cls d σ' H', E cls d H' → W cls d σ' H') (hr : Room j X.A) (hkj : k + 1 ≤ j) (ha : PA X (e :: es) t)
    (hg : Gl X C := by rfl) (hdb : (C == ("__debug__" : Str)) = false := by decide) (he : starEach (e :: es) X.env = (false, eval e X.env) :: starEach es X.env := by rfl) (hpl : (backTo pos (starEach es X.env)).any (·.1) = false := by rfl) :
    PE X (.Call (.Name C p) (e :: es) [] pos) (tMake (He.ga X.K C) sp [] E t) := by
  obtain ⟨fd, F, hb⟩ := D.ex
  exact pe_make D.mkr F (hr.mono hkj) hg D.hm hb .nil (passes_call tk hW) ha hdb he hpl
/-- where none comes -/
theorem pe_mkxN {X : Cx} {C : Str} {k j : Nat} {ps : List Str} {sp : Sp} {e : Expr} {es : List Expr} {p pos : Pos} {t : TA} (D : MakeX X.prog X.w X.K X.mg X.base C k ps sp) (hr : Room j X.A) (hkj : k + 1 ≤ j) (ha : PA X (e :: es) t)
    (hg : Gl X C := by rfl) (hdb : (C == ("__debug__" : Str)) = false := by decide) (he : starEach (e :: es) X.env = (false, eval e X.env) :: starEach es X.env := by rfl) (hpl : (backTo pos (starEach es X.env)).any (·.1) = false := by rfl) :
    PE X (.Call (.Name C p) (e :: es) [] pos) (tMake (He.ga X.K C) sp [] (fun _ _ _ => False) t) := by
  obtain ⟨fd, F, hb⟩ := D.ex
  exact pe_make D.mkr F (hr.mono hkj) hg D.hm hb .nil passN ha hdb he hpl
section
variable {J : It} {n : Nat} {G : Hp → Prop} {Y : Nat → Hp → V → Hp → Prop}
end
end FF
/-! Fivefault, part 37: len(x), x of an own class with __len__. -/
namespace FF
open PySem PySem.Spec PyProof.Rows L2
theorem special_own {prog : Program} {w : World} {K : PySem.W.Frag} {A : Around} {E : Value → Shared → Prop} {s : Shared} {a C f : Addr} {ox : Obj} {od : Option Obj} {name : Str} {Q : Option Value → Shared → Prop} (X : K.In s.heap) (I : PySem.W.InstAt s.heap a ox C od) (hf : PySem.W.findIn K (.ref C) name = some (some (.ref f)))
    (hb : PySem.W.isFn K (.ref f) = true) (hc : wpAny (model prog w) A (call (.ref f) [.ref a]) (fun v s' => Q (some v) s') E s) : wpAny (model prog w) A (callSpecial? (.ref a) name []) Q E s := by
  unfold callSpecial? specialOf
  refine wpAny_bind (wpAny_bind (I.type.here ((PySem.W.looks_findIn X hf).here ?_)))
  refine wpAny_holding ?_
  refine wpAny_bind ((PySem.W.bind_fn X _ (beq_iff_eq.mp hb)).here ?_)
  exact wpAny_bind (wpAny_mono hc (fun v s' h => wpAny_pure h) fun _ _ z => z)
/-- len(x) by an own __len__ -/
def rLenO (C : Addr) (sp : Sp) (E : XK) : List V → Hp → VK → Prop := fun xs H Q => ∃ a dx fs, xs = [.ref a] ∧ H a = some (.ins C dx fs) ∧ sp [.ref a] H (fun v H' => ∃ k : Nat, v = .int k ∧ k < 1000000000 ∧ Q (.int k) H') E
theorem call_lenO {X : Cx} {CX : CXT} {n : Nat} {C f : Addr} {fd : FuncData} {ps : List Str} {sp : Sp} {E : XK} (me : Meth X.K C "__len__" f) (F : FnOk X.prog X.w X.K X.mg X.base CX n f fd ps sp) (hb : Binds X.K fd ps []) (hx : Passes CX X E) (hr : Room (n + 1) X.A) : CallR X (.builtin "len") (rLenO C sp E) := by
  intro pins s σ H xs us Q I rv h
  obtain ⟨a, dx, fs, rfl, ha, hsp⟩ := h
  obtain ⟨u, rfl, ru⟩ := rv.one
  cases ru
  have sb : Sub X n X.A.in1 := Sub.in1 (⟨hr, rfl⟩ : Sub X (n + 1) X.A)
  obtain ⟨mA, J, _⟩ := ins_get I.hok ha
  obtain ⟨od, J, _⟩ := J.look
  refine PySem.Calls.call_function_entry PySem.kind_len PySem.plain_len PySem.entry_len (PySem.args_len1 _) ?_
  unfold Builtin.«len»
  refine wpAny_bind (m := oneArg "len" _) (wpAny_pure ?_)
  refine wpAny_bind (m := callSpecial? (.ref a) (Str.ofString "__len__")) (special_own I.kIn J me.at_ me.fn ?_)
  have e0 : Env0 X.prog X.w X.K X.mg X.base X.A.in1 X.stack s H := by
    have e := I.env0
    exact ⟨by rw [sb.fr]; exact e.frames, e.mod, e.bs, e.bsz, e.funs, e.frf, e.hok, e.bare⟩
  have hl := F.len _ _ _ _ hsp
  have r2 : Vals [V.ref a] [Value.ref a] := .cons rfl .nil
  refine wpAny_call (codeAny_mono (F.run X.A.in1 X.stack s H ⟨[.ref a], []⟩ [.ref a] [.ref a] _ E sb.room e0 (by
    have := hb s [.ref a] I.kIn (by simpa using hl)
    simpa using this) r2 hsp) fun r s' hq => ?_)
  cases r with
  | error e => exact hx pins σ H s e s' I hq
  | ok fl =>
    cases fl with
    | ret u =>
      obtain ⟨v, H', I', rv', k, rfl, hk, q⟩ := I.after hq
      obtain ⟨t, rfl⟩ := rv'
      refine wpAny_bind (wpAny_holding (wpAny_pure ?_))
      refine wpAny_bind (wpAny_letGo ?_)
      show wpAny _ _ (if ((k : Nat) : Int) < 0 then _ else _) _ _ _
      rw [if_neg (by omega)]
      show wpAny _ _ (if ((k : Nat) : Int) ≥ 2 ^ 63 then _ else _) _ _ _
      rw [if_neg (by omega)]
      exact wpAny_bind (wpAny_mkInt (wpAny_pure ⟨_, rfl, .int k, H', I'.tok _, ⟨_, rfl⟩, q⟩))
    | next => exact False.elim hq
    | brk => exact False.elim hq
    | cont => exact False.elim hq
theorem call_lenD {X : Cx} {C : Str} {k j : Nat} {sp : Sp} (D : MethD X.prog X.w X.K X.mg X.base C "__len__" k ["self"] sp) (hr : Room j X.A) (hkj : k + 1 ≤ j) : CallR X (.builtin "len") (rLenO (He.ga X.K C) sp E0) := by
  obtain ⟨fd, F, hb⟩ := D.ex
  exact call_lenO D.me F hb pass0 (hr.mono hkj)
end FF
/-! Fivefault, part 38: a text times any int, told exactly. -/
namespace FF
open PySem PySem.Spec PyProof.Rows L2
end FF
/-! Fivefault, part 39: t.join(..) within a comprehension. -/
namespace FF
open PySem PySem.Spec PyProof.Rows L2
end FF
/-! Fivefault, part 40: C(..) where __init__ may raise, within a lambda. -/
namespace FF
open PySem PySem.Spec PyProof.Rows L2
theorem pe_mkxK {X : Cx} (K : PySem.W.Frag) {W : WX} {E : XK} {C : Str} {k j : Nat} {ps : List Str} {sp : Sp} {e : Expr} {es : List Expr} {p pos : Pos} {t : TA} (D : MakeX X.prog X.w X.K X.mg X.base C k ps sp) (tk : Takes X W) (hW : ∀ cls d σ' H', E cls d H' → W cls d σ' H') (hr : Room j X.A) (hkj : k + 1 ≤ j) (ha : PA X (e :: es) t)
    (hK : X.K = K := by rfl) (hg : Gl X C := by rfl) (hdb : (C == ("__debug__" : Str)) = false := by decide) (he : starEach (e :: es) X.env = (false, eval e X.env) :: starEach es X.env := by rfl) (hpl : (backTo pos (starEach es X.env)).any (·.1) = false := by rfl) :
    PE X (.Call (.Name C p) (e :: es) [] pos) (tMake (He.ga K C) sp [] E t) := by
  subst hK
  exact pe_mkx D tk hW hr hkj ha hg hdb he hpl
end FF
/-! Fivefault, part 41: methods of own classes with *v; methods that raise, within a lambda. -/
namespace FF
open PySem PySem.Spec PyProof.Rows L2 StX
/-- C.m(self, *v) -/
structure MethS (P : Program) (w : World) (K : PySem.W.Frag) (mg : Str → Option Value) (base : Heap) (C m : Str) (k : Nat) (sp : Sp) : Prop where
  ex : FnR P w K mg base (L2.CX P w) k (He.ma K (He.ga K C) m) sp
  cl : Cls K (He.ga K C)
  me : Meth K (He.ga K C) m (He.ma K (He.ga K C) m)
section
variable {X : Cx} {W : WX} {E : XK} {C m : Str} {k j : Nat} {ps : List Str} {sp : Sp} {o e : Expr} {es : List Expr} {apos pos : Pos} {to : TE} {t : TA} {pl : Sem Bool}
theorem pe_methx0N (D : MethX X.prog X.w X.K X.mg X.base C m k ps sp) (hr : Room j X.A) (hkj : k ≤ j) (ho : PE X o to)
    (ht : eval (.Call (.Attribute o m apos) [] [] pos) X.env = (do
      let ov ← eval o X.env
      standAt apos.atName
      let (f, first) ← holding [ov] (getMethod ov m pl)
      callWith pos f first (backTo pos (starEach [] X.env)) (backToKw pos (keywordEach [] X.env))) := by rfl) :
    PE X (.Call (.Attribute o m apos) [] [] pos) (tMeth (He.ga X.K C) m sp [] (fun _ _ _ => False) to tNil) := by
  obtain ⟨fd, F, hb⟩ := D.ex
  exact pe_meth0 ho D.cl D.me F (hr.mono hkj) hb .nil passN ht
end
end FF
/-! Fivefault, part 42: the Hook with the defs that stand in records (properties, classmethods, staticmethods). -/
namespace FF
open PySem PySem.Spec PyProof.Rows L2
/-- the def in the record of the class's attribute -/
def gAd (K : PySem.W.Frag) (kind : String) (C m : Str) : Addr := match PySem.W.recIn K (He.ma K (He.ga K C) m) kind with
  | some (.ref g :: _) => g
  | _ => 0
/-- .. its setter -/
def sAd (K : PySem.W.Frag) (C m : Str) : Addr := match PySem.W.recIn K (He.ma K (He.ga K C) m) "property" with
  | some (_ :: .ref g :: _) => g
  | _ => 0
structure GetD where
  kind : String
  cls : Str
  attr : Str
  d : He.DefD
def GetD.ad (K : PySem.W.Frag) (g : GetD) : Addr := if g.kind = "setter" then sAd K g.cls g.attr else gAd K g.kind g.cls g.attr
def fnWa (K : PySem.W.Frag) (a : Addr) : He.FnW := match K.lookup a with
  | some ⟨_, _, .func fd, _⟩ => some (fd.name, fd.qualname, fd.params, fd.body, fd.scope, fd.globals, fd.closure, fd.builtins)
  | _ => none
def GetD.ok (K : PySem.W.Frag) (g : GetD) : Bool := PySem.W.keepIn K (.ref (g.ad K)) && (match K.lookup (g.ad K) with
  | some ⟨_, _, .func fd, _⟩ => PySem.W.codeIn K fd.code g.d.qual && (He.dflB K fd.defaults (g.d.dvs K) && He.kwdB K fd.kwdefaults (g.d.kws K))
  | _ => false)
theorem GetD.funD {K : PySem.W.Frag} {g : GetD} (e : fnWa K (g.ad K) = g.d.val) (c : g.ok K = true) : ∃ fd, FunD K g.d.name g.d.qual g.d.params g.d.body g.d.scope (g.d.dvs K) (g.d.kws K) (g.ad K) fd := by
  obtain ⟨kp, c2⟩ := He.ba c
  unfold fnWa at e
  cases q : K.lookup (g.ad K) with
  | none =>
    rw [q] at c2
    cases c2
  | some o =>
    obtain ⟨oc, od, dt, osl⟩ := o
    rw [q] at c2 e
    cases dt with
    | func fd =>
      obtain ⟨n1, n2, n3, n4, n5, n6, n7, n8, n9, n10, n11, n12, n13, n14, n15⟩ := fd
      have e2 : (some (n1, n2, n3, n4, n5, n6, n7, n15) : He.FnW) = some (g.d.name, g.d.qual, g.d.params, .stmts g.d.body, g.d.scope, mainGlobals, [], builtinsNs) := e
      simp only [Option.some.injEq, Prod.mk.injEq] at e2
      obtain ⟨h1, h2, h3, h4, h5, h6, h7, h8⟩ := e2
      subst h1 h2 h3 h4 h5 h6 h7 h8
      have c3 : (PySem.W.codeIn K n13 g.d.qual && (He.dflB K n8 (g.d.dvs K) && He.kwdB K n9 (g.d.kws K))) = true := c2
      obtain ⟨k1, k2⟩ := He.ba c3
      obtain ⟨k3, k4⟩ := He.ba k2
      exact ⟨_, ⟨oc, od, n8, n9, n10, n11, n12, n13, n14, osl, rfl, q, k1, He.dflB_ok k3, He.kwdB_ok k4⟩, kp⟩
    | _ => cases c2
/-! ### the Hook -/
abbrev AlZ : Type := He.AlX × (Bool × List He.FnW)
structure SaysZ (fa : List He.Fa) (fn : List He.DefD) (fp : List GetD) (tf : List He.Defn) (ex : PySem.W.Frag → Bool) (w : World) (h : Heap) (K : PySem.W.Frag) : Prop where
  x : He.SaysX fa fn [] tf ex w h K
  b : (fp.all fun g => g.ok K) = true
  v : fp.map (fun g => fnWa K (g.ad K)) = fp.map fun g => g.d.val
theorem SaysZ.get {fa : List He.Fa} {fn : List He.DefD} {fp : List GetD} {tf : List He.Defn} {ex : PySem.W.Frag → Bool} {w : World} {h : Heap} {K : PySem.W.Frag} (c : SaysZ fa fn fp tf ex w h K) (i : Nat) {g : GetD} (hg : fp[i]? = some g := by rfl) :
    ∃ fd, FunD K g.d.name g.d.qual g.d.params g.d.body g.d.scope (g.d.dvs K) (g.d.kws K) (g.ad K) fd := by
  have e2 : (fp.map fun g => fnWa K (g.ad K))[i]? = (fp.map fun g => g.d.val)[i]? := by rw [c.v]
  rw [List.getElem?_map, List.getElem?_map, hg] at e2
  exact GetD.funD (Option.some.inj e2) (List.all_eq_true.mp c.b g (List.mem_of_getElem? hg))
def valZ (fn : List He.DefD) (fp : List GetD) (w : World) : AlZ := (He.valX fn [] w, (true, fp.map fun g => g.d.val))
/-! ### a property -/
def isBlt (o : Option (Option Value)) (id : String) : Bool := match o with
  | some (some (.builtin x)) => decide (x = id)
  | _ => false
theorem isBlt_ok {o : Option (Option Value)} {id : String} (h : isBlt o id = true) : o = some (some (.builtin id)) := by
  unfold isBlt at h
  split at h
  · rw [of_decide_eq_true h]
  · cases h
def propB (K : PySem.W.Frag) (C f : Str) : Bool := (match PySem.W.findIn K (.ref (He.ga K C)) f with
  | some (some (.ref _)) => true
  | _ => false) && (isBlt (PySem.W.specialIn K (.ref (He.ma K (He.ga K C) f)) "__get__") "property.__get__" && (decide (PySem.W.takesIn K (.ref (He.ma K (He.ga K C) f)) = some true) && (match PySem.W.recIn K (He.ma K (He.ga K C) f) "property" with
  | some (.ref _ :: _) => true
  | _ => false)))
theorem propB_ok {K : PySem.W.Frag} {C f : Str} (h : propB K C f = true) : PropOf K (He.ga K C) f (He.ma K (He.ga K C) f) (gAd K "property" C f) := by
  obtain ⟨h1, h⟩ := He.ba h
  obtain ⟨h2, h⟩ := He.ba h
  obtain ⟨h3, h4⟩ := He.ba h
  refine ⟨?_, isBlt_ok h2, of_decide_eq_true h3, ?_⟩
  · unfold He.ma
    split at h1
    · rename_i a e
      rw [e]
    · cases h1
  · unfold gAd
    split at h4
    · rename_i g rest e
      rw [e]
      exact ⟨rest, rfl⟩
    · cases h4
/-- e.f, a property of the class C, whose getter is the def at level k -/
structure PropD (P : Program) (w : World) (K : PySem.W.Frag) (mg : Str → Option Value) (base : Heap) (C f : Str) (k : Nat) (sp : Sp) : Prop where
  ex : ∃ fd, FnOk P w K mg base CX0 k (gAd K "property" C f) fd ["self"] sp ∧ Binds K fd ["self"] []
  cl : Cls K (He.ga K C)
  pr : PropOf K (He.ga K C) f (He.ma K (He.ga K C) f) (gAd K "property" C f)
theorem pe_propd {X : Cx} {C f : Str} {k j : Nat} {sp : Sp} {e : Expr} {pos : Pos} {te : TE} (D : PropD X.prog X.w X.K X.mg X.base C f k sp) (hr : Room j X.A) (hkj : k + 1 ≤ j) (he : PE X e te)
    (hab : attributeBase e f X.env (eval e X.env) = eval e X.env := by rfl) : PE X (.Attribute e f pos) (tProp (He.ga X.K C) sp [] E0 te) := by
  obtain ⟨fd, F, hb⟩ := D.ex
  exact pe_prop he D.cl D.pr F (hr.mono hkj) hb .nil pass0 hab
theorem propd_mk {P : Program} {w : World} {K : PySem.W.Frag} {mg : Str → Option Value} {base : Heap} {C f qual : Str} {st : Stmt} {fd : FuncData} {dvs : List V} {kws : List (Str × V)} {N : List Str} {k : Nat} {sp : Sp} (F : FunD K f qual (defArgs st) (defBody st) (defScope st) dvs kws (gAd K "property" C f) fd) (hb : Binds K fd ["self"] [])
    (cl : Cls K (He.ga K C)) (pr : PropOf K (He.ga K C) f (He.ma K (He.ga K C) f) (gAd K "property" C f)) (S : FnScope N ["self"] (defScope st)) (len : ∀ vs H Q E, sp vs H Q E → vs.length = 1)
    (body : ∀ (cdv : Value) (A : Around) (outer : List Env) (s : Shared) (H : Hp) (vs : List V) (Q : VK) (E : XK), Room k (A.deeper (envOfC qual (defScope st) s.heap.objs.size (gAd K "property" C f) cdv)) → sp vs H Q E →
      ∃ t, PSs (cxOf CX0 P w K mg base N qual (defScope st) (gAd K "property" C f) cdv A outer s H E).nox (defBody st) t ∧ t { nx := fun _ H' => Q .non H', rt := Q } (start N vs) H) : PropD P w K mg base C f (k + 1) sp :=
  ⟨⟨fd, FunD.ok F S len fun cdv A outer s H vs Q E hr h => let ⟨t, a, b⟩ := body cdv A outer s H vs Q E hr h; ⟨t, PSs.nox a, b⟩, hb⟩, cl, pr⟩
end FF
/-! Fivefault, part 43: o.m(k = v, ..). -/
namespace FF
open PySem PySem.Spec PyProof.Rows L2
end FF
/-! Fivefault, part 44: more comprehensions over a list and a range: items that are new objects; those told exactly. -/
namespace FF
open PySem PySem.Spec PyProof.Rows L2
section
variable {K : PySem.W.Frag} {a : Addr} {xs : List V} {tt : TT} {te : TE} {vs : List Nat} {σ : L2.St} {H1 : Hp} {D : Addr} {Qd : Hp → Prop} {j : Nat}
/-- [e for x in xs], xs a list of what f tells of α: the answers by g -/
theorem lc_mapX {α : Type} {f : α → V} {l : List α} (g : α → V) (hD : H1 D = none) (hs : SqL K H1 a (l.map f)) (hz : l.length ≤ 20000)
    (hw : ∀ x, wipe ((wipe σ vs).set j (some x)) vs = wipe σ vs)
    (step : ∀ x H2, x ∈ l → Same H1 H2 → ∀ Q' : VK, (∀ H3, Same H2 H3 → Q' (g x) H3) → te ((wipe σ vs).set j (some (f x))) H2 Q')
    (done : ∀ H2, Same H1 H2 → H2 D = some (.lst (l.map g)) → Qd H2) :
    ∃ W : Nat → Nat → Hp → Prop, (∃ m, W 0 m (upd H1 D (.lst []))) ∧ ∀ i m H, W i m H →
      ((Itl K a).stop i H ∧ Qd H) ∨ ((Itl K a).go i H ∧ ∃ Nx : Hp → Prop, (∀ H', Nx H' → ∃ m', m' < m ∧ W (i + 1) m' H') ∧ ∀ x H', (Itl K a).yld i H x H' → gName j x (wipe σ vs) H' fun σ2 H2 => wipe σ2 vs = wipe σ vs ∧ tYes σ2 H2 fun b H3 =>
        if b = true then te σ2 H3 fun y H4 => ∃ acc, H4 D = some (.lst acc) ∧ acc.length < sizeLine ∧ Nx (upd H4 D (.lst (acc ++ [y]))) else Nx H3) := by
  refine lc_mapL (R := fun i y _ => ∃ x, l[i]? = some x ∧ y = g x) (fun _ _ _ _ _ h => h) hD hs (le_line (by rw [List.length_map]; exact hz)) hw (fun i x H2 hx e Q' k => ?_) (fun H2 ys e h1 h2 h3 => ?_)
  · rw [List.getElem?_map] at hx
    obtain ⟨y, hy, rfl⟩ := Option.map_eq_some_iff.mp hx
    exact step y H2 (List.mem_of_getElem? hy) e Q' fun H3 e3 => k _ H3 e3 ⟨y, hy, rfl⟩
  · refine done H2 e ?_
    rw [h1]
    congr 2
    exact eq_map_of (by rw [h2, List.length_map]) h3
end
end FF
/-! Fivefault, part 45: staticmethods called by their class. -/
namespace FF
open PySem PySem.Spec PyProof.Rows L2
def statB (K : PySem.W.Frag) (C m : Str) : Bool := (match PySem.W.findCls K (.ref (He.ga K C)) (.type "type") m with
    | some (.get (.builtin g) (.ref p) .none (.ref D)) => decide (g = "staticmethod.__get__") && (decide (p = He.ma K (He.ga K C) m) && decide (D = He.ga K C))
    | _ => false) && (match PySem.W.recIn K (He.ma K (He.ga K C) m) "staticmethod" with
    | some (.ref _ :: _) => true
    | _ => false)
def readB (K : PySem.W.Frag) (C : Str) : Bool := PySem.W.readsIn K (He.ga K C) (.type "type") && isBlt (PySem.W.specialIn K (.ref (He.ga K C)) "__getattribute__") "type.__getattribute__"
theorem readB_ok {K : PySem.W.Frag} {C : Str} (h : readB K C = true) : ClX.CRead K (He.ga K C) (.type "type") := by
  obtain ⟨h1, h2⟩ := He.ba h
  exact ⟨h1, isBlt_ok h2⟩
/-- what of the text a staticmethod has -/
structure StatOf (K : PySem.W.Frag) (C : Addr) (m : Str) (p g : Addr) : Prop where
  at_ : PySem.W.findCls K (.ref C) (.type "type") m = some (.get (.builtin "staticmethod.__get__") (.ref p) .none (.ref C))
  rc : ∃ rest, PySem.W.recIn K p "staticmethod" = some (.ref g :: rest)
theorem statB_ok {K : PySem.W.Frag} {C m : Str} (h : statB K C m = true) : StatOf K (He.ga K C) m (He.ma K (He.ga K C) m) (gAd K "staticmethod" C m) := by
  obtain ⟨h1, h2⟩ := He.ba h
  refine ⟨?_, ?_⟩
  · clear h2
    split at h1
    · rename_i g p D e
      obtain ⟨k1, k⟩ := He.ba h1
      obtain ⟨k2, k3⟩ := He.ba k
      rw [e, of_decide_eq_true k1, of_decide_eq_true k2, of_decide_eq_true k3]
    · cases h1
  · unfold gAd
    split at h2
    · rename_i g rest e
      rw [e]
      exact ⟨rest, rfl⟩
    · cases h2
/-- C.m(..), m a staticmethod of C -/
structure StatX (P : Program) (w : World) (K : PySem.W.Frag) (mg : Str → Option Value) (base : Heap) (C m : Str) (k : Nat) (ps : List Str) (sp : Sp) : Prop where
  ex : ∃ fd, FnOk P w K mg base (L2.CX P w) k (gAd K "staticmethod" C m) fd ps sp ∧ Binds K fd ps []
  kp : PySem.W.keepIn K (.ref (gAd K "staticmethod" C m)) = true
  rd : ClX.CRead K (He.ga K C) (.type "type")
  st : StatOf K (He.ga K C) m (He.ma K (He.ga K C) m) (gAd K "staticmethod" C m)
  hm : mg C = some (.ref (He.ga K C))
theorem getstat_ok {X : Cx} {C p g : Addr} {m : Str} {pins : List (Addr × Obj)} {σ : L2.St} {H : Hp} {s : Shared} {A : Around} {E : Value → Shared → Prop} {pl : Sem Bool} {Q : Value × List Value → Shared → Prop} (I : Inv X pins σ H s) (r : ClX.CRead X.K C (.type "type")) (k : StatOf X.K C m p g)
    (h : ∀ s', Inv X pins σ H s' → Q (.ref g, []) s') : wpAny (model X.prog X.w) A (getMethod (.ref C) m pl) Q E s := by
  obtain ⟨rest, hp⟩ := k.rc
  refine PySem.W.method_cls I.kIn r.ga (PySem.W.cls_bind I.kIn r.rd k.at_ (wpAny_call (PySem.W.sm_get (s := { s with toks := s.toks + 1 }) I.kIn hp (PySem.W.handed_on rfl ?_))))
  exact h _ (I.tok _)
section
variable {X : Cx} {W : WX} {E : XK} {C m : Str} {k j : Nat} {ps : List Str} {sp : Sp} {e : Expr} {es : List Expr} {p1 p2 pos : Pos} {t : TA} {pl : Sem Bool}
theorem pe_stat_ (D : StatX X.prog X.w X.K X.mg X.base C m k ps sp) (hx : Passes (L2.CX X.prog X.w) X E) (hr : Room j X.A) (hkj : k ≤ j) (ha : PA X (e :: es) t)
    (hg : Gl X C) (hd : (C == ("__debug__" : Str)) = false)
    (hc : eval (.Call (.Attribute (.Name C p1) m p2) (e :: es) [] pos) X.env = (do
      let ov ← eval (.Name C p1) X.env
      standAt p2.atName
      let (f, first) ← holding [ov] (getMethod ov m pl)
      callWith pos f first (backTo pos (starEach (e :: es) X.env)) (backToKw pos (keywordEach [] X.env))))
    (he : starEach (e :: es) X.env = (false, eval e X.env) :: starEach es X.env) (hpl : (backTo pos (starEach es X.env)).any (·.1) = false) :
    PE X (.Call (.Attribute (.Name C p1) m p2) (e :: es) [] pos) (tCall sp [] E t) := by
  obtain ⟨fd, F, hb⟩ := D.ex
  refine ⟨fun pins s σ H Q I h => ?_⟩
  refine PySem.W.methodCall_KW (pl := pl) (ld_glob I hg D.hm ?_ hd) hc
  refine getstat_ok I D.rd D.st fun s' I' => ?_
  refine PySem.W.callWith_K (h₀ := X.base) I.ok.mod.kin D.kp (thn (ha.run pos pins s' σ H _ I' h) fun us s1 ⟨vs, H1, I1, r1, q⟩ => ⟨I1.kIn, ?_⟩) he hpl
  exact run_fn F (hr.mono hkj) hb .nil hx I1 r1 q
theorem pe_statx (D : StatX X.prog X.w X.K X.mg X.base C m k ps sp) (tk : Takes X W) (hW : ∀ cls d σ' H', E cls d H' → W cls d σ' H') (hr : Room j X.A) (hkj : k ≤ j) (ha : PA X (e :: es) t)
    (hg : Gl X C := by rfl) (hd : (C == ("__debug__" : Str)) = false := by decide)
    (hc : eval (.Call (.Attribute (.Name C p1) m p2) (e :: es) [] pos) X.env = (do
      let ov ← eval (.Name C p1) X.env
      standAt p2.atName
      let (f, first) ← holding [ov] (getMethod ov m pl)
      callWith pos f first (backTo pos (starEach (e :: es) X.env)) (backToKw pos (keywordEach [] X.env))) := by rfl)
    (he : starEach (e :: es) X.env = (false, eval e X.env) :: starEach es X.env := by rfl) (hpl : (backTo pos (starEach es X.env)).any (·.1) = false := by rfl) :
    PE X (.Call (.Attribute (.Name C p1) m p2) (e :: es) [] pos) (tCall sp [] E t) := pe_stat_ D (passes_call tk hW) hr hkj ha hg hd hc he hpl
theorem pe_statN (D : StatX X.prog X.w X.K X.mg X.base C m k ps sp) (hr : Room j X.A) (hkj : k ≤ j) (ha : PA X (e :: es) t)
    (hg : Gl X C := by rfl) (hd : (C == ("__debug__" : Str)) = false := by decide)
    (hc : eval (.Call (.Attribute (.Name C p1) m p2) (e :: es) [] pos) X.env = (do
      let ov ← eval (.Name C p1) X.env
      standAt p2.atName
      let (f, first) ← holding [ov] (getMethod ov m pl)
      callWith pos f first (backTo pos (starEach (e :: es) X.env)) (backToKw pos (keywordEach [] X.env))) := by rfl)
    (he : starEach (e :: es) X.env = (false, eval e X.env) :: starEach es X.env := by rfl) (hpl : (backTo pos (starEach es X.env)).any (·.1) = false := by rfl) :
    PE X (.Call (.Attribute (.Name C p1) m p2) (e :: es) [] pos) (tCall sp [] (fun _ _ _ => False) t) := pe_stat_ D passN hr hkj ha hg hd hc he hpl
end
theorem statx_mk {P : Program} {w : World} {K : PySem.W.Frag} {mg : Str → Option Value} {base : Heap} {C m qual : Str} {st : Stmt} {fd : FuncData} {dvs : List V} {kws : List (Str × V)} {N ps : List Str} {k : Nat} {sp : Sp} (F : FunD K m qual (defArgs st) (defBody st) (defScope st) dvs kws (gAd K "staticmethod" C m) fd) (hb : Binds K fd ps [])
    (rd : ClX.CRead K (He.ga K C) (.type "type")) (so : StatOf K (He.ga K C) m (He.ma K (He.ga K C) m) (gAd K "staticmethod" C m)) (hm : mg C = some (.ref (He.ga K C))) (S : FnScope N ps (defScope st)) (len : ∀ vs H Q E, sp vs H Q E → vs.length = ps.length)
    (body : ∀ (cdv : Value) (A : Around) (outer : List Env) (s : Shared) (H : Hp) (vs : List V) (Q : VK) (E : XK), Room k (A.deeper (envOfC qual (defScope st) s.heap.objs.size (gAd K "staticmethod" C m) cdv)) → sp vs H Q E →
      (Takes (cxOf (L2.CX P w) P w K mg base N qual (defScope st) (gAd K "staticmethod" C m) cdv A outer s H E) fun cls d _ H => E cls d H) →
      ∃ t, PSs (cxOf (L2.CX P w) P w K mg base N qual (defScope st) (gAd K "staticmethod" C m) cdv A outer s H E) (defBody st) t ∧ t { nx := fun _ H' => Q .non H', rt := Q } (start N vs) H) : StatX P w K mg base C m (k + 1) ps sp :=
  ⟨⟨fd, FunD.ok F S len (fun cdv A outer s H vs Q E hr h => body cdv A outer s H vs Q E hr h (takes_of rfl rfl rfl rfl)), hb⟩, F.kp, rd, so, hm⟩
end FF
/-! Fivefault, part 46: {x for x in xs if ..} for any kind of keys; set(t), len of a set of ints. -/
namespace FF
open PySem PySem.Spec PyProof.Rows L2
abbrev emptySet (w : World) : Obj := { cls := .type "set", dict := none, data := .set #[] 0 (.fresh 0 0 (!w.params.followText "set-order")) }
/-- a kind of sets: how one stands in the heap, what is added -/
structure SFam (P : Program) (w : World) where
  κ : Type
  eq : κ → κ → Bool
  ob : Addr → (κ → Bool) → Nat → HO
  val : κ → V
  fresh : ∀ (H : Hp) (h : Heap), ObjOk P w H (h.push (emptySet w)) h.objs.size (ob h.objs.size (fun _ => false) 0)
  add : ∀ (X : Cx) (pins : List (Addr × Obj)) (σ : L2.St) (H : Hp) (s : Shared) (D : Addr) (S : κ → Bool) (n : Nat) (y : κ) (u : Value) (Q : Value → Shared → Prop) (E : Value → Shared → Prop), X.prog = P → X.w = w → Inv X pins σ H s → H D = some (ob D S n) → n + 1 < scanBound → RelV (val y) u →
    (∀ s', Inv X pins σ (upd H D (ob D (fun j => S j || eq j y) (if S y = true then n else n + 1))) s' → Q .none s') → wpAny (model X.prog X.w) X.A (call (.builtin "set.add") [.ref D, u]) Q E s
def SFam.put {P : Program} {w : World} (F : SFam P w) (S : F.κ → Bool) (y : F.κ) : F.κ → Bool := fun j => S j || F.eq j y
def tScF {P : Program} {w : World} (F : SFam P w) (wi : TI) (g : TG) (tt : TT) (te : TE) (vs : List Nat) : TE := fun σ H Q => wi σ H fun J H1 => ∀ D, H1 D = none → ∃ W : Nat → Nat → Hp → Prop, (∃ m, W 0 m (upd H1 D (F.ob D (fun _ => false) 0))) ∧ ∀ i m H, W i m H →
  (J.stop i H ∧ Q (.ref D) H) ∨ (J.go i H ∧ ∃ Nx : Hp → Prop, (∀ H', Nx H' → ∃ m', m' < m ∧ W (i + 1) m' H') ∧ ∀ x H', J.yld i H x H' → g x (wipe σ vs) H' fun σ2 H2 => wipe σ2 vs = wipe σ vs ∧ tt σ2 H2 fun b H3 =>
    if b = true then te σ2 H3 fun y H4 => ∃ (k : F.κ) (S : F.κ → Bool) (n : Nat), y = F.val k ∧ H4 D = some (F.ob D S n) ∧ n + 1 < scanBound ∧ Nx (upd H4 D (F.ob D (F.put S k) (if S k = true then n else n + 1))) else Nx H3)
theorem pe_scF {X : Cx} (F : SFam X.prog X.w) {el ga ia : Expr} {cs : List Expr} {scope : Scope} {own : List (Str × Nat)} {pos : Pos} {wi : TI} {g : TG} {tt : TT} {te : TE} (calm : X.calm = true) (nd : X.N.Nodup) (pia : PI X ga ia wi) (ok : BlkOk X.N X.env.scope scope own)
    (pga : InBlk X scope fun Y => PG Y ga g) (pta : InBlk X scope fun Y => PTs Y cs tt) (pel : InBlk X scope fun Y => PE Y el te) (fa : ∀ x, foldedSetIterable ia X.env x = pure x := by intro _; rfl) : PE X (.SetComp el [⟨ga, ia, cs, 0⟩] scope pos) (tScF F wi g tt te (own.map (·.2))) := by
  refine ⟨fun pins s σ H Q I h => ?_⟩
  rw [PpSet.eval_SetComp]
  have cells : ∀ y ∈ scope.names, y.2 = .free → ∃ c, X.env.cells.lookup y.1 = some c := fun y hy e => (ok.free y hy e).elim (fun k => I.ok.has _ (.inl k)) fun k => I.ok.has _ (.inr k)
  refine wpAny_comprehension_free rfl fa (closure_ok cells) ok.kind (fun y hy e => by rw [ok.uniq y hy, e]) (thn (pia.run pins s σ H _ I h) fun xv sa hx => thn hx fun itv sb hb => ?_)
  obtain ⟨it, fp, tn, J, H2, rfl, I2, T, t2, f2, q⟩ := hb
  refine PpSet.newSet_ok (newEnv_comp ?_)
  generalize hD : sb.heap.objs.size = D
  have freeD : H2 D = none := I2.hok.fresh (Nat.le_of_eq hD)
  obtain ⟨W, ⟨m0, w0⟩, turn⟩ := q D freeD
  generalize hs3 : ({ sb with heap := sb.heap.push (emptySet X.w) } : Shared) = s3
  have heap3 : s3.heap = sb.heap.push (emptySet X.w) := by rw [← hs3]
  generalize hO : F.ob D (fun _ => false) 0 = O at w0
  have I3 : Inv X pins σ (upd H2 D O) s3 := by
    rw [← hs3, ← hO]
    exact I2.laid (t' := sb.toks) (fun b o e => Heap.get?_push_of_some _ e) (Nat.le_of_eq hD) (by rw [← hD]; exact F.fresh _ _)
  have below : ∀ b ∈ fp, b < sb.heap.objs.size := fun b hb => let ⟨o, e, _⟩ := T.obj _ _ t2 b hb; Heap.lt_size e
  have f3 : ∀ b ∈ fp, FpOk X pins (upd H2 D O) b ∧ b < s3.heap.objs.size := fun b hb => by
    refine ⟨⟨?_, (f2 b hb).2⟩, by rw [heap3, Heap.size_push]; exact Nat.lt_succ_of_lt (below b hb)⟩
    rw [upd_ne (by rw [← hD]; exact Nat.ne_of_lt (below b hb))]
    exact (f2 b hb).1
  have t3 : tn 0 s3.heap := T.keep _ _ _ t2 fun b _ o e => by rw [heap3]; exact Heap.get?_push_of_some _ e
  have I4 := block_start I3 ok nd f3
  have off3 : ∀ b ∈ fp, (upd H2 D O) b = none := fun b hb => (f3 b hb).1.1
  show codeAny _ _ (.compStart (.SetComp el [⟨ga, ia, cs, 0⟩] scope pos) 0 (.ref it) (.ref D) (compEnvC scope (cellsFrom (s3.heap.objs.size + 1) scope.names (cloFrom X.env.cells scope.names [])) s3.heap.objs.size X.env)) (compPost (model X.prog X.w) X.A X.xe none (EP X pins σ Q) (.ref D) s3.heap.objs.size) { s3 with heap := pushCells (s3.heap.push { cls := .type "dict", data := .dict #[] }) scope.names }
  generalize hcl : cellsFrom (s3.heap.objs.size + 1) scope.names (cloFrom X.env.cells scope.names []) = cl at I4 ⊢
  have rga := pga s3 (upd H2 D O) s3.heap.objs.size cl fp
  have rta := pta s3 (upd H2 D O) s3.heap.objs.size cl fp
  have rel := pel s3 (upd H2 D O) s3.heap.objs.size cl fp
  generalize hce : compEnvC scope cl s3.heap.objs.size X.env = ce at I4 rga rta rel ⊢
  have loc : ce.locals = s3.heap.objs.size := by subst hce; rfl
  generalize hH3 : upd H2 D O = H3 at I3 I4 rga rta rel w0 off3 f3
  generalize hs4 : ({ s3 with heap := pushCells (s3.heap.push { cls := .type "dict", data := .dict #[] }) scope.names } : Shared) = s4 at I4 ⊢
  have t4 : tn 0 s4.heap := T.keep _ _ _ t3 fun b _ o e => by rw [← hs4]; exact pushCells_keeps _ _ _ _ (Heap.get?_push_of_some _ e)
  let B := X.blk s3 H3 scope ce fp
  have foot : ∀ {σ' : L2.St} {H' : Hp} {s' : Shared}, Inv B [] σ' H' s' → (∀ b ∈ fp, H' b = none) → ∀ b ∈ fp, FpOk B [] H' b := fun {σ' H' s'} I' hn b hb =>
    ⟨hn b hb, (I'.ok.exf b hb).1, I'.ok.exfs b hb, .inl hb, fun x c e => (I'.ok.exf b hb).2 x c e, fun p hp => absurd (show p ∈ ([] : List (Addr × Obj)) ++ [] from hp) (by simp)⟩
  let Sj : Nat → Shared → Prop := fun n s' => ∃ i H', Inv B [] (wipe σ (own.map (·.2))) H' s' ∧ tn i s'.heap ∧ (∀ b ∈ fp, H' b = none) ∧ W i n H'
  have loop := PpSet.compLoopS_any (prog := X.prog) (w := X.w) (A := X.A) (env := ce) (it := .ref it) (acc := .ref D) (elt := el) (target := ga) (iter := ia) (ifs := cs) (scope := scope) (pos := pos) (R := compPost (model X.prog X.w) X.A X.xe none (EP X pins σ Q) (.ref D) s3.heap.objs.size) Sj (fun n s5 hs5 => ?_) m0 (show Sj m0 s4 from ⟨0, H3, I4, t4, off3, w0⟩)
  · exact PpSet.codeAny_compStart_set loop (T.self X.A 0 _ _ _ t4 loop)
  obtain ⟨i, H5, I5, t5, n5, w5⟩ := hs5
  rcases turn i n H5 w5 with ⟨stop, qq⟩ | ⟨go, Nx, hNx, step⟩
  · refine thnF (T.done B rfl rfl rfl calm i [] s5 _ H5 (fun _ _ => False) I5 (foot I5 n5) t5 stop) fun r s6 ⟨hr, I6⟩ => ?_
    subst hr
    have I7 : Inv X pins σ H5 s6 := I3.call' (ch := fp) I6.os I6.base I6.hok I6.bare fun b hb => ⟨(f3 b hb).1.2.2.2.1, (f3 b hb).1.2.1, (f3 b hb).1.2.2.2.2.1, (f3 b hb).1.2.2.2.2.2⟩
    have freeC : H5 s3.heap.objs.size = none := loc ▸ (show H5 ce.locals = none from I6.free)
    obtain ⟨m, hn, _⟩ := I6.loc
    have hn : s6.heap.Ns s3.heap.objs.size m := loc ▸ (show s6.heap.Ns ce.locals m from hn)
    obtain ⟨k0, k1, k2, k3, k4, k5⟩ := I3.fpOk (Nat.le_refl _) freeC
    exact ⟨m, hn, fun h'' same => ⟨.ref D, H5, I7.turned (t' := s6.toks) (fun b o hb e => (same.2 b hb).trans e) k0 k1 k3 k4 k5, rfl, qq⟩⟩
  refine thnF (T.item B rfl rfl rfl calm i [] s5 _ H5 (fun _ _ => False) I5 (foot I5 n5) t5 go) fun r s6 ⟨u, hr, h6⟩ => ?_
  subst hr
  refine thnF h6 fun _ s7 ⟨x, H7, I7, r7, y7, t7, n7⟩ => ?_
  refine thnF (rga.run _ s7 _ H7 x u _ (I7.pinned (foot I7 n7) (T.obj _ _ t7)) r7 (step x H7 y7)) fun _ s8 ⟨σ8, H8, I8, hw8, q8⟩ => ?_
  refine thnF (rta.run _ s8 σ8 H8 _ I8 q8) fun b s9 ⟨H9, I9, q9⟩ => ?_
  have turnEnd : ∀ {s' : Shared} {H' : Hp}, Inv B ([] ++ pinsAt fp s7.heap) σ8 H' s' → Nx H' → ∃ m, m < n ∧ Sj m s' := fun {s' H'} I' nx => by
    obtain ⟨m', hm, w'⟩ := hNx H' nx
    have stays : ∀ b ∈ fp, ∀ o, s7.heap.get? b = some o → s'.heap.get? b = some o ∧ H' b = none := fun b hb o e =>
      let z := I'.pin (b, o) (List.mem_append_right _ (List.mem_append_right _ (mem_pinsAt hb e)))
      ⟨z.1, z.2.1⟩
    exact ⟨m', hm, i + 1, H', (I'.unpinned (pins := [])).weak (by rw [← hw8, wipe_length]) (fun j v e => by rw [← hw8] at e; exact (wipe_some e).1), T.keep _ _ _ t7 fun b hb o e => (stays b hb o e).1, fun b hb => let ⟨o, e, _⟩ := T.obj _ _ t7 b hb; (stays b hb o e).2, w'⟩
  cases b with
  | false => exact turnEnd I9 (by simpa using q9)
  | true =>
  simp only [if_true] at q9 ⊢
  refine thnF (rel.run _ s9 σ8 H9 _ I9 q9) fun z s10 ⟨yv, H10, I10, r10, k0, S0, n0, ey, hD10, hz10, nx⟩ => ?_
  subst ey
  exact F.add B _ σ8 H10 s10 D S0 n0 k0 z _ _ rfl rfl I10 hD10 hz10 r10 fun s11 I11 => turnEnd I11 nx
/-! ### sets of ints -/
end FF
/-! Fivefault, part 47: methods called in a comprehension's block, where no exception comes (K named). -/
namespace FF
open PySem PySem.Spec PyProof.Rows L2
section
variable {X : Cx} {C m : Str} {k j : Nat} {ps : List Str} {sp : Sp} {o e : Expr} {es : List Expr} {apos pos : Pos} {to : TE} {t : TA} {pl : Sem Bool}
end
/-! a comprehension over a list, any target -/
end FF
/-! Fivefault, part 48: classmethods; cls(..) with cls a local name; a class's constants. -/
namespace FF
open PySem PySem.Spec PyProof.Rows L2
def clsB (K : PySem.W.Frag) (C m : Str) : Bool := (match PySem.W.findCls K (.ref (He.ga K C)) (.type "type") m with
    | some (.get (.builtin g) (.ref p) .none (.ref D)) => decide (g = "classmethod.__get__") && (decide (p = He.ma K (He.ga K C) m) && decide (D = He.ga K C))
    | _ => false) && ((match PySem.W.recIn K (He.ma K (He.ga K C) m) "classmethod" with
    | some (.ref _ :: _) => true
    | _ => false) && PySem.W.fnIn K (gAd K "classmethod" C m))
theorem clsB_ok {K : PySem.W.Frag} {C m : Str} (h : clsB K C m = true) : ClX.CMet K (He.ga K C) (.type "type") m (He.ma K (He.ga K C) m) (gAd K "classmethod" C m) := by
  obtain ⟨h1, h2⟩ := He.ba h
  obtain ⟨h2, h3⟩ := He.ba h2
  refine ⟨?_, ?_, h3⟩
  · clear h2 h3
    split at h1
    · rename_i g p D e
      obtain ⟨k1, k⟩ := He.ba h1
      obtain ⟨k2, k3⟩ := He.ba k
      rw [e, of_decide_eq_true k1, of_decide_eq_true k2, of_decide_eq_true k3]
    · cases h1
  · unfold gAd
    split at h2
    · rename_i g rest e
      rw [e]
      exact ⟨rest, rfl⟩
    · cases h2
/-- C.m(..), m a classmethod of C -/
structure ClsX (P : Program) (w : World) (K : PySem.W.Frag) (mg : Str → Option Value) (base : Heap) (C m : Str) (k : Nat) (sp : Sp) : Prop where
  ex : FnR P w K mg base (L2.CX P w) k (gAd K "classmethod" C m) sp
  rd : ClX.CRead K (He.ga K C) (.type "type")
  cm : ClX.CMet K (He.ga K C) (.type "type") m (He.ma K (He.ga K C) m) (gAd K "classmethod" C m)
/-- reading of C.m(..) -/
def tClsX (C : Addr) (sp : Sp) (E : XK) (t : TA) : TE := fun σ H Q => t σ H fun vs H2 => sp (.ref C :: vs) H2 Q E
section
variable {X : Cx} {W : WX} {E : XK} {C m : Str} {k j : Nat} {ps : List Str} {sp : Sp} {e : Expr} {es : List Expr} {p1 p2 pos : Pos} {t : TA} {pl : Sem Bool}
theorem pe_cls_ (D : ClsX X.prog X.w X.K X.mg X.base C m k sp) (hm : X.mg C = some (.ref (He.ga X.K C))) (hx : Passes (L2.CX X.prog X.w) X E) (hr : Room j X.A) (hkj : k ≤ j) (ha : PA X (e :: es) t)
    (hg : Gl X C) (hd : (C == ("__debug__" : Str)) = false)
    (he : starEach (e :: es) X.env = (false, eval e X.env) :: starEach es X.env) (hpl : (backTo pos (starEach es X.env)).any (·.1) = false)
    (hc : eval (.Call (.Attribute (.Name C p1) m p2) (e :: es) [] pos) X.env = (do
      let ov ← eval (.Name C p1) X.env
      standAt p2.atName
      let (f, first) ← holding [ov] (getMethod ov m pl)
      callWith pos f first (backTo pos (starEach (e :: es) X.env)) (backToKw pos (keywordEach [] X.env)))) :
    PE X (.Call (.Attribute (.Name C p1) m p2) (e :: es) [] pos) (tClsX (He.ga X.K C) sp E t) := by
  have hn : PE X (.Name C p1) (tC (.ref (He.ga X.K C))) := pe_gT hm hg hd
  refine ⟨fun pins s σ H Q I h => ?_⟩
  exact (ClX.pe_cmeth hn D.rd D.cm D.ex (hr.mono hkj) hx ha he hpl hc).run pins s σ H Q I ⟨rfl, h⟩
theorem pe_clsN (D : ClsX X.prog X.w X.K X.mg X.base C m k sp) (hm : X.mg C = some (.ref (He.ga X.K C))) (hr : Room j X.A) (hkj : k ≤ j) (ha : PA X (e :: es) t)
    (hg : Gl X C := by rfl) (hd : (C == ("__debug__" : Str)) = false := by decide)
    (he : starEach (e :: es) X.env = (false, eval e X.env) :: starEach es X.env := by rfl) (hpl : (backTo pos (starEach es X.env)).any (·.1) = false := by rfl)
    (hc : eval (.Call (.Attribute (.Name C p1) m p2) (e :: es) [] pos) X.env = (do
      let ov ← eval (.Name C p1) X.env
      standAt p2.atName
      let (f, first) ← holding [ov] (getMethod ov m pl)
      callWith pos f first (backTo pos (starEach (e :: es) X.env)) (backToKw pos (keywordEach [] X.env))) := by rfl) :
    PE X (.Call (.Attribute (.Name C p1) m p2) (e :: es) [] pos) (tClsX (He.ga X.K C) sp (fun _ _ _ => False) t) := pe_cls_ D hm passN hr hkj ha hg hd he hpl hc
theorem pe_clsxK (K : PySem.W.Frag) (D : ClsX X.prog X.w X.K X.mg X.base C m k sp) (hm : X.mg C = some (.ref (He.ga X.K C))) (tk : Takes X W) (hW : ∀ cls d σ' H', E cls d H' → W cls d σ' H') (hr : Room j X.A) (hkj : k ≤ j) (ha : PA X (e :: es) t) (hK : X.K = K := by rfl)
    (hg : Gl X C := by rfl) (hd : (C == ("__debug__" : Str)) = false := by decide)
    (he : starEach (e :: es) X.env = (false, eval e X.env) :: starEach es X.env := by rfl) (hpl : (backTo pos (starEach es X.env)).any (·.1) = false := by rfl)
    (hc : eval (.Call (.Attribute (.Name C p1) m p2) (e :: es) [] pos) X.env = (do
      let ov ← eval (.Name C p1) X.env
      standAt p2.atName
      let (f, first) ← holding [ov] (getMethod ov m pl)
      callWith pos f first (backTo pos (starEach (e :: es) X.env)) (backToKw pos (keywordEach [] X.env))) := by rfl) :
    PE X (.Call (.Attribute (.Name C p1) m p2) (e :: es) [] pos) (tClsX (He.ga K C) sp E t) := by
  subst hK
  exact pe_cls_ D hm (passes_call tk hW) hr hkj ha hg hd he hpl hc
end
/-- cls(..), cls a local name that holds the class -/
def tMkL (C : Addr) (sp : Sp) (E : XK) (tv : TE) (t : TA) : TE := fun σ H Q => tv σ H fun v H1 => v = .ref C ∧ tMake C sp [] E t σ H1 Q
theorem pe_mkL {X : Cx} {W : WX} {E : XK} {C x : Str} {k j : Nat} {ps : List Str} {sp : Sp} {e : Expr} {es : List Expr} {p pos : Pos} {t : TA} {tv : TE} (D : MakeX X.prog X.w X.K X.mg X.base C k ps sp) (tk : Takes X W) (hW : ∀ cls d σ' H', E cls d H' → W cls d σ' H') (hr : Room j X.A) (hkj : k + 1 ≤ j) (hv : PE X (.Name x p) tv) (ha : PA X (e :: es) t)
    (he : starEach (e :: es) X.env = (false, eval e X.env) :: starEach es X.env := by rfl) (hpl : (backTo pos (starEach es X.env)).any (·.1) = false := by rfl) :
    PE X (.Call (.Name x p) (e :: es) [] pos) (tMkL (He.ga X.K C) sp E tv t) := by
  obtain ⟨fd, F, hb⟩ := D.ex
  refine ⟨fun pins s σ H Q I h => ?_⟩
  refine wpAny_Call_Name_kw (thn (hv.run pins s σ H _ I h) fun u s1 ⟨v, H1, I1, r1, ev, q1⟩ => ?_)
  subst ev
  obtain rfl : u = Value.ref (He.ga X.K C) := r1
  refine PySem.W.callWith_K (h₀ := X.base) I1.ok.mod.kin D.mkr.kp (thn (ha.run pos pins s1 σ H1 _ I1 q1) fun us s2 ⟨vs, H2, I2, r, q⟩ => ⟨I2.kIn, ?_⟩) he hpl
  exact run_make D.mkr F (hr.mono hkj) hb .nil (passes_call tk hW) I2 r q
theorem clsx_mk {P : Program} {w : World} {K : PySem.W.Frag} {mg : Str → Option Value} {base : Heap} {C m qual : Str} {st : Stmt} {fd : FuncData} {dvs : List V} {kws : List (Str × V)} {N ps : List Str} {k : Nat} {sp : Sp} (F : FunD K m qual (defArgs st) (defBody st) (defScope st) dvs kws (gAd K "classmethod" C m) fd) (hb : Binds K fd ps [])
    (rd : ClX.CRead K (He.ga K C) (.type "type")) (cm : ClX.CMet K (He.ga K C) (.type "type") m (He.ma K (He.ga K C) m) (gAd K "classmethod" C m)) (S : FnScope N ps (defScope st)) (len : ∀ vs H Q E, sp vs H Q E → vs.length = ps.length)
    (body : ∀ (cdv : Value) (A : Around) (outer : List Env) (s : Shared) (H : Hp) (vs : List V) (Q : VK) (E : XK), Room k (A.deeper (envOfC qual (defScope st) s.heap.objs.size (gAd K "classmethod" C m) cdv)) → sp vs H Q E →
      (Takes (cxOf (L2.CX P w) P w K mg base N qual (defScope st) (gAd K "classmethod" C m) cdv A outer s H E) fun cls d _ H => E cls d H) →
      ∃ t, PSs (cxOf (L2.CX P w) P w K mg base N qual (defScope st) (gAd K "classmethod" C m) cdv A outer s H E) (defBody st) t ∧ t { nx := fun _ H' => Q .non H', rt := Q } (start N vs) H) : ClsX P w K mg base C m (k + 1) sp := by
  have F1 : FnOk P w K mg base (L2.CX P w) (k + 1) (gAd K "classmethod" C m) fd ps sp := FunD.ok F S len (fun cdv A outer s H vs Q E hr h => body cdv A outer s H vs Q E hr h (takes_of rfl rfl rfl rfl))
  refine ⟨FnR.imp (F1.raw hb .nil) fun vs H Q E h => ?_, rd, cm⟩
  rw [List.append_nil]
  exact h
end FF
/-! Fivefault, part 49: repr(x) by an own __repr__; x == y by an own __eq__; isinstance(x, C). -/
namespace FF
open PySem PySem.Spec PyProof.Rows L2
/-- repr(x) by an own __repr__ -/
def rReprO (C : Addr) (sp : Sp) (E : XK) : List V → Hp → VK → Prop := fun xs H Q => ∃ a dx fs, xs = [.ref a] ∧ H a = some (.ins C dx fs) ∧ sp [.ref a] H (fun v H' => ∃ z : Str, v = .str z ∧ Q (.str z) H') E
theorem call_reprO {X : Cx} {CX : CXT} {n : Nat} {C f : Addr} {fd : FuncData} {ps : List Str} {sp : Sp} {E : XK} (me : Meth X.K C "__repr__" f) (F : FnOk X.prog X.w X.K X.mg X.base CX n f fd ps sp) (hb : Binds X.K fd ps []) (hx : Passes CX X E) (hr : Room (n + 1) X.A) : CallR X (.builtin "repr") (rReprO C sp E) := by
  intro pins s σ H xs us Q I rv h
  obtain ⟨a, dx, fs, rfl, ha, hsp⟩ := h
  obtain ⟨u, rfl, ru⟩ := rv.one
  cases ru
  have sb : Sub X n X.A.in1 := Sub.in1 (⟨hr, rfl⟩ : Sub X (n + 1) X.A)
  obtain ⟨mA, J, _⟩ := ins_get I.hok ha
  obtain ⟨od, J, _⟩ := J.look
  refine PySem.Calls.call_function_entry PySem.F.kind_repr PySem.F.plain_repr PySem.F.entry_repr (PySem.F.args_repr1 _) ?_
  unfold Builtin.«repr»
  refine wpAny_bind (m := oneArg "repr" _) (wpAny_pure ?_)
  refine wpAny_bind (m := cRoomFor _ _) (wpAny_cRoomFor sb.room.units0 ?_)
  refine wpAny_bind (m := specialOf (.ref a) (Str.ofString "__repr__")) (wpAny_bind (J.type.here ((PySem.W.looks_findIn I.kIn me.at_).here ?_)))
  refine wpAny_bind (m := callSpecialIfBound? (.ref a) (Str.ofString "__repr__")) (PySem.W.ifBound_K I.kIn J me.at_ me.fn ?_)
  have e0 : Env0 X.prog X.w X.K X.mg X.base X.A.in1 X.stack s H := by
    have e := I.env0
    exact ⟨by rw [sb.fr]; exact e.frames, e.mod, e.bs, e.bsz, e.funs, e.frf, e.hok, e.bare⟩
  have hl := F.len _ _ _ _ hsp
  have r2 : Vals [V.ref a] [Value.ref a] := .cons rfl .nil
  refine wpAny_call (codeAny_mono (F.run X.A.in1 X.stack s H ⟨[.ref a], []⟩ [.ref a] [.ref a] _ E sb.room e0 (by
    have := hb s [.ref a] I.kIn (by simpa using hl)
    simpa using this) r2 hsp) fun r s' hq => ?_)
  cases r with
  | error e => exact hx pins σ H s e s' I hq
  | ok fl =>
    cases fl with
    | ret u =>
      obtain ⟨v, H', I', rv', z, rfl, q⟩ := I.after hq
      obtain ⟨t, rfl⟩ := rv'
      refine wpAny_bind (wpAny_isInstance (T := "str") (b := true) (typeIs_str _ _ _) isSubtype_str_str ?_)
      exact wpAny_pure ⟨_, rfl, .str z, H', I', ⟨_, rfl⟩, q⟩
    | next => exact False.elim hq
    | brk => exact False.elim hq
    | cont => exact False.elim hq
theorem call_reprD {X : Cx} {C : Str} {k j : Nat} {sp : Sp} (D : MethD X.prog X.w X.K X.mg X.base C "__repr__" k ["self"] sp) (hr : Room j X.A) (hkj : k + 1 ≤ j) : CallR X (.builtin "repr") (rReprO (He.ga X.K C) sp E0) := by
  obtain ⟨fd, F, hb⟩ := D.ex
  exact call_reprO D.me F hb pass0 (hr.mono hkj)
/-! ### isinstance(x, C), C a class of the text -/
def insCB (K : PySem.W.Frag) (C : Str) : Bool := isBlt (PySem.W.findIn K (.ref (He.ga K C)) "__class__") "object.__class__" && (isBlt (PySem.W.specialIn K (.builtin "object.__class__") "__get__") "getset_descriptor.__get__" &&
  (decide (PySem.W.takesIn K (.builtin "object.__class__") = some true) && (decide (PySem.W.mroIn K (He.ga K C) (.type "object") = some true) && (decide (PySem.W.kitOne K (.ref (He.ga K C)) (.ref (He.ga K C)) = some true) &&
  (decide (PySem.W.kitOne K (.type "list") (.ref (He.ga K C)) = some false) && decide (PySem.W.subIn K (.type "list") (.ref (He.ga K C)) = some false))))))
structure InsX (K : PySem.W.Frag) (C : Addr) : Prop where
  cl : Cls K C
  ha : PySem.W.findIn K (.ref C) "__class__" = some (some (.builtin "object.__class__"))
  hn : PySem.W.specialIn K (.builtin "object.__class__") "__get__" = some (some (.builtin "getset_descriptor.__get__"))
  htk : PySem.W.takesIn K (.builtin "object.__class__") = some true
  hm : PySem.W.mroIn K C (.type "object") = some true
  me : PySem.W.kitOne K (.ref C) (.ref C) = some true
  nl : PySem.W.kitOne K (.type "list") (.ref C) = some false
  sl : PySem.W.subIn K (.type "list") (.ref C) = some false
theorem insCB_ok {K : PySem.W.Frag} {C : Str} (cl : Cls K (He.ga K C)) (h : insCB K C = true) : InsX K (He.ga K C) := by
  obtain ⟨h1, h⟩ := He.ba h
  obtain ⟨h2, h⟩ := He.ba h
  obtain ⟨h3, h⟩ := He.ba h
  obtain ⟨h4, h⟩ := He.ba h
  obtain ⟨h5, h⟩ := He.ba h
  obtain ⟨h6, h7⟩ := He.ba h
  exact ⟨cl, isBlt_ok h1, isBlt_ok h2, of_decide_eq_true h3, of_decide_eq_true h4, of_decide_eq_true h5, of_decide_eq_true h6, of_decide_eq_true h7⟩
theorem InsX.ty {K : PySem.W.Frag} {C a dx : Addr} {H : Hp} {fs : List (Str × V)} (c : InsX K C) (h : H a = some (.ins C dx fs)) : TyX K H (.ref a) (.ref C) := .base (TyOf.ins h c.cl c.ha c.hn c.htk c.hm)
/-! ### == by an own __eq__ -/
/-! ### C.m(k = v, ..), m a classmethod -/
end FF
/-! Fivefault, part 50: sets of texts: {x for x in xs if ..}, set(list of texts), sorted(set of texts). -/
namespace FF
open PySem PySem.Spec PyProof.Rows L2
def keyT (e : Int × Value) : Str := match e.2 with
  | .str z _ => z
  | _ => Str.empty
def GoodT (w : World) (e : Int × Value) : Prop := ∃ z tk, e.2 = Value.str z tk ∧ e.1 = hashStr w z
/-- a set of texts stands at a: its members S, n of them; its table can be walked -/
def SetT (w : World) (h : Heap) (a : Addr) (S : Str → Bool) (n : Nat) : Prop :=
  ∃ o es ep t, h.get? a = some o ∧ o.ExactSet ∧ o.data = .set es ep t ∧ ((∀ e ∈ es.toList, GoodT w e) ∧ (es.toList.map keyT).Nodup ∧ ∀ k, S k = true ↔ k ∈ es.toList.map keyT) ∧
    es.size < scanBound ∧ t.fits es.size = true ∧ es.size = n ∧ Ris t.place.toList ∧ (w.params.followText "set-order" = true ∨ t.led = true)
section
variable {P : Program} {w : World} {h h' : Heap} {a : Addr} {S : Str → Bool} {n : Nat}
theorem SetT.at (R : SetT w h a S n) (k : ∀ o, h.get? a = some o → h'.get? a = some o) : SetT w h' a S n := by
  obtain ⟨o, es, ep, t, ho, r⟩ := R
  exact ⟨o, es, ep, t, k o ho, r⟩
theorem SetT.congr {S' : Str → Bool} (R : SetT w h a S n) (e : ∀ k, S' k = S k) : SetT w h a S' n := (funext e : S' = S) ▸ R
theorem goodT_elems {l : List (Int × Value)} (g : ∀ e ∈ l, GoodT w e) : ElemsOf (strKind P w) l := fun e he => by
  obtain ⟨z, tk, h1, h2⟩ := g e he
  exact ⟨⟨z, by rw [h1]; exact strKind_is P w z tk, h2⟩, by rw [h1] <;> rfl⟩
theorem goodT_is {e : Int × Value} (g : GoodT w e) (k : Str) : (strKind P w).is k e.2 = true ↔ keyT e = k := by
  obtain ⟨z, tk, h1, _⟩ := g
  unfold keyT
  rw [h1]
  exact ⟨fun q => (strKind P w).inj (.str z tk) z k (strKind_is P w z tk) q, fun q => by rw [← show z = k from q]; exact strKind_is P w z tk⟩
theorem goodT_mem {l : List (Int × Value)} (g : ∀ e ∈ l, GoodT w e) (k : Str) : k ∈ l.map keyT ↔ ∃ e ∈ l, (strKind P w).is k e.2 = true :=
  List.mem_map.trans ⟨fun ⟨e, he, q⟩ => ⟨e, he, (goodT_is (g e he) k).2 q⟩, fun ⟨e, he, q⟩ => ⟨e, he, (goodT_is (g e he) k).1 q⟩⟩
theorem SetT.setOf (R : SetT w h a S n) : h.SetOf (strKind P w) a S n := by
  obtain ⟨o, es, ep, t, ho, hx, hd, ⟨g, nd, hm⟩, hb, hf, hn, _⟩ := R
  exact ⟨o, es, ep, t, ho, hx, hd, goodT_elems g, fun k => (hm k).trans (goodT_mem g k), hb, hf, hn⟩
theorem setT_at {ho : h.get? a = some (emptySet w)} : SetT w h a (fun _ => false) 0 :=
  ⟨_, #[], 0, _, ho, ⟨rfl, rfl, rfl⟩, rfl, ⟨fun e he => by simp at he, by simp, fun k => by simp⟩, by decide, by rfl, rfl, List.Pairwise.nil, by
    show _ ∨ (!w.params.followText "set-order") = true
    cases w.params.followText "set-order"
    · exact .inr rfl
    · exact .inl rfl⟩
end
section
variable {P : Program} {w : World} {A : Around} {E : Value → Shared → Prop} {s : Shared} {a : Addr} {S : Str → Bool} {n : Nat}
/-- a member more, where it is laid -/
theorem setT_tail {g : Bool → Sem Unit} (hg : ∀ (b : Bool) (s₁ : Shared) (Q' : Unit → Shared → Prop), Q' () s₁ → wpAny (model P w) A (g b) Q' E s₁)
    {o : Obj} {es es1 : Array (Int × Value)} {ep : Nat} {t t2 : SetTable} {S' : Str → Bool} (ho : s.heap.get? a = some o) (hex : o.ExactSet) (hd : o.data = .set es ep t)
    (gm : (∀ e ∈ es1.toList, GoodT w e) ∧ (es1.toList.map keyT).Nodup ∧ ∀ k, S' k = true ↔ k ∈ es1.toList.map keyT)
    (hb1 : es1.size < scanBound) (hf2 : t2.fits es1.size = true) (hr : Ris t2.place.toList) (hl : w.params.followText "set-order" = true ∨ t2.led = true) {dm : Bool} {R : Option Bool → Shared → Prop}
    (hR : ∀ h', Heap.SameBut a s.heap h' → SetT w h' a S' es1.size → R (some true) { s with heap := h' }) :
    wpAny (model P w) A (do
        storeSet a es1 t2
        if (!dm && t2.tooFull) = true then do
            g (relayAll t2 es1 (SetTable.grown es1.size)).2.2
            storeSet a (relayAll t2 es1 (SetTable.grown es1.size)).1 (relayAll t2 es1 (SetTable.grown es1.size)).2.1
            pure (some true)
          else pure (some true)) R E s := by
  have one := store_at (es' := es1) (t' := t2) ho hd
  have b1 := Heap.SameBut.update s.heap a (Obj.putSet es1 t2)
  refine wpAny_bind (wpAny_storeSet_of ho hd ?_ (fits_of_scanBound hb1))
  split
  case isFalse => exact wpAny_pure (hR _ b1 ⟨_, es1, _, t2, one, hex, rfl, gm, hb1, hf2, rfl, hr, hl⟩)
  have pm := relayAll_perm t2 es1 (SetTable.grown es1.size)
  have f3 := relayAll_fits t2 es1 (SetTable.grown es1.size)
  have r3 := relayAll_ris t2 es1 (SetTable.grown es1.size)
  have l3 := relayAll_led t2 es1 (SetTable.grown es1.size)
  generalize relayAll t2 es1 (SetTable.grown es1.size) = Z at pm f3 r3 l3 ⊢
  obtain ⟨es2, t3, gave⟩ := Z
  dsimp only at pm f3 r3 l3 ⊢
  have sz : es2.size = es1.size := by rw [← Array.length_toList, pm.length_eq, Array.length_toList]
  have b2 : es2.size < scanBound := sz.symm ▸ hb1
  refine wpAny_bind (hg _ _ _ (wpAny_bind (wpAny_storeSet_of one rfl ?_ (fits_of_scanBound b2))))
  refine wpAny_pure (hR _ (b1.trans (Heap.SameBut.update _ a _)) ⟨_, es2, _, t3, store_at (es' := es2) (t' := t3) one rfl, hex, rfl, ?_, b2, f3, sz, r3, hl.imp id fun z => l3.trans z⟩)
  exact ⟨fun e he => gm.1 e (pm.mem_iff.mp he), (pm.map keyT).nodup_iff.mpr gm.2.1, fun k => (gm.2.2 k).trans (pm.map keyT).mem_iff.symm⟩
theorem setT_hashed {k : Str} {tk : Tok} {Q : Bool → Shared → Prop} (R : SetT w s.heap a S n) (room : n + 1 < scanBound)
    (hQ : ∀ h', Heap.SameBut a s.heap h' → SetT w h' a (fun j => S j || decide (j = k)) (if S k = true then n else n + 1) → Q (!S k) { s with heap := h' }) :
    wpAny (model P w) A (setAddHashed a (.str k tk) (hashStr w k)) Q E s := by
  obtain ⟨o, es, ep, t, ho, hex, hd, ⟨g, nd, hm⟩, hb, hf, hn, hr, hl⟩ := R
  have hsc : (Value.str k tk).scannable = true := rfl
  have hel : ElemsOf (strKind P w) es.toList := goodT_elems g
  unfold setAddHashed setAddHashedIn
  refine wpAny_holding (wpAny_bind (wpAny_setState_of ho hd hf ?_))
  dsimp only
  rw [byScan_of hsc hb hel]
  simp only [↓reduceIte]
  unfold setAddByScan
  refine wpAny_bind (wpAny_bind (wpAny_rule (wpAny_bind (wpAny_setScan_of (strKind_is P w k tk) ho hd hf hel ?_))))
  cases hfi : List.findIdx? (fun e => (strKind P w).is k e.2) es.toList with
  | some j =>
    dsimp only
    obtain ⟨hj, pj, _⟩ := List.findIdx?_eq_some_iff_getElem.mp hfi
    have hSk : S k = true := (hm k).2 ((goodT_mem (P := P) g k).2 ⟨es.toList[j], List.getElem_mem hj, pj⟩)
    have q := hQ s.heap (Heap.SameBut.refl a s.heap) ⟨o, es, ep, t, ho, hex, hd, ⟨g, nd, fun i => by
      rw [Bool.or_eq_true, decide_eq_true_eq, ← hm i]
      exact ⟨fun z => z.elim id (fun e => e ▸ hSk), .inl⟩⟩, hb, hf, by rw [if_pos hSk]; exact hn, hr, hl⟩
    rw [hSk] at q
    exact wpAny_pure (wpAny_pure q)
  | none =>
    dsimp only
    have hnk : k ∉ es.toList.map keyT := fun z => by
      obtain ⟨e, he, q⟩ := (goodT_mem (P := P) g k).1 z
      have c := List.findIdx?_eq_none_iff.mp hfi e he
      rw [q] at c
      cases c
    have hSk : S k = false := Bool.eq_false_iff.mpr fun q => hnk ((hm k).1 q)
    have way : ∀ (b : Bool) {s₁ : Shared} {Q' : Unit → Shared → Prop}, Q' () s₁ → wpAny (model P w) A (match b with | true => rule "set.scan.the-table-gave-way" | false => pure ()) Q' E s₁ :=
      fun b s₁ Q' q => by cases b <;> first | exact wpAny_pure q | exact wpAny_rule q
    have pm := layNew_perm t es (hashStr w k) (.str k tk)
    have f1 := layNew_fits t es (hashStr w k) (.str k tk)
    have r1 := layNew_ris t es (hashStr w k) (.str k tk) hr
    have l1 := layNew_led t es (hashStr w k) (.str k tk)
    generalize layNew t es (hashStr w k) (.str k tk) = Z at pm f1 r1 l1 ⊢
    obtain ⟨es1, t1, dm, gave⟩ := Z
    dsimp only at pm f1 r1 l1 ⊢
    rw [Array.toList_push] at pm
    have pc : es1.toList.Perm ((hashStr w k, Value.str k tk) :: es.toList) := pm.trans (List.perm_append_singleton _ _)
    have pk : (es1.toList.map keyT).Perm (k :: es.toList.map keyT) := pc.map keyT
    have gm : (∀ e ∈ es1.toList, GoodT w e) ∧ (es1.toList.map keyT).Nodup ∧ ∀ i, (S i || decide (i = k)) = true ↔ i ∈ es1.toList.map keyT := by
      refine ⟨fun e he => (List.mem_cons.mp (pc.mem_iff.mp he)).elim (fun z => by rw [z]; exact ⟨k, tk, rfl, rfl⟩) (g e), pk.nodup_iff.mpr (List.nodup_cons.mpr ⟨hnk, nd⟩), fun i => ?_⟩
      rw [Bool.or_eq_true, decide_eq_true_eq, hm i, pk.mem_iff, List.mem_cons]
      exact Or.comm
    have sz : es1.size = n + 1 := by rw [← Array.length_toList, pc.length_eq, List.length_cons, Array.length_toList, hn]
    have b1 : es1.size < scanBound := sz.symm ▸ room
    have led : w.params.followText "set-order" = true ∨ t1.led = true := hl.imp id fun z => l1.trans z
    have fin : ∀ h', Heap.SameBut a s.heap h' → SetT w h' a (fun j => S j || decide (j = k)) es1.size → Q true { s with heap := h' } := fun h' sb r => by
      have q := hQ h' sb
      rw [hSk] at q
      rw [sz] at r
      exact q r
    refine wpAny_bind (way _ ?_)
    split
    · refine wpAny_bind ?_
      rw [hashByValue_scannable 8 hsc]
      refine wpAny_pure (setT_tail ?_ ho hex hd gm b1 ?_ ?_ ?_ ?_)
      · intro b s₁ Q' q; cases b <;> first | exact wpAny_pure q | exact wpAny_rule q
      · first | (split <;> first | exact f1 | exact SetTable.fits_plain_off f1) | exact f1
      · first | (split <;> exact r1) | exact r1
      · first | (split <;> exact led) | exact led
      · intro h' sb r; dsimp only; exact wpAny_pure (fin h' sb r)
    · refine wpAny_bind (wpAny_pure ?_)
      simp only [↓reduceIte]
      refine setT_tail ?_ ho hex hd gm b1 f1 r1 led ?_
      · intro b s₁ Q' q; cases b <;> first | exact wpAny_pure q | exact wpAny_rule q
      · intro h' sb r; dsimp only; exact wpAny_pure (fin h' sb r)
theorem setT_add {k : Str} {tk : Tok} {Q : Value → Shared → Prop} (R : SetT w s.heap a S n) (room : n + 1 < scanBound)
    (hQ : ∀ h', Heap.SameBut a s.heap h' → SetT w h' a (fun j => S j || decide (j = k)) (if S k = true then n else n + 1) → Q .none { s with heap := h', toks := s.toks + 1 }) :
    wpAny (model P w) A (call (.builtin "set.add") [.ref a, .str k tk]) Q E s := by
  have hS : s.heap.SetOf (strKind P w) a S n := R.setOf
  refine wpAny_call_entry F.slot_set_add hS.typeIs F.entry_set_add ?_ (F.args_set_add_2 _ _)
  unfold Builtin.«set.add» Builtin.Frozenset.oneOther
  simp only [List.isEmpty_nil, bind_assoc]
  unfold Builtin.Frozenset.addrOf setAdd
  refine wpAny_bind (wpAny_pure ?_)
  try dsimp only
  refine wpAny_bind (wpAny_pure ?_)
  try dsimp only
  refine wpAny_bind (wpAny_holding (wpAny_bind ((strKind P w).pyHash (strKind_is P w k tk) ?_)))
  refine setT_hashed (s := { s with toks := s.toks + 1 }) R room fun h' sb r => ?_
  show wpAny _ _ (ret Value.none) _ _ _
  exact wpAny_pure ⟨_, rfl, hQ h' sb r⟩
end
end FF
/-! Fivefault, part 51: sets of texts over the layer. -/
namespace FF
open PySem PySem.Spec PyProof.Rows L2
/-- the set of texts at a -/
def SetTO (w : World) (a : Addr) (S : Str → Bool) (n : Nat) : HO := .ext fun h => SetT w h a S n
theorem setTO_new {w : World} {P : Program} {H : Hp} {h : Heap} {a : Addr} {S : Str → Bool} {n : Nat} (R : SetT w h a S n) : ObjOk P w H h a (SetTO w a S n) := by
  have ⟨o, _, _, _, ho, _⟩ := R
  exact ⟨R, ⟨o, ho⟩, fun h1 h2 p k => SetT.at p k⟩
theorem setTO_get {X : Cx} {pins : List (Addr × Obj)} {σ : L2.St} {H : Hp} {s : Shared} {a : Addr} {S : Str → Bool} {n : Nat} (I : Inv X pins σ H s) (ha : H a = some (SetTO X.w a S n)) : SetT X.w s.heap a S n := (I.hok a _ ha).1
def txtF (P : Program) (w : World) : SFam P w where
  κ := Str
  eq := fun a b => decide (a = b)
  ob := SetTO w
  val := V.str
  fresh := fun H h => setTO_new (setT_at (ho := Heap.get?_push_size _ rfl))
  add := by
    intro X pins σ H s D S n y u Q E hp hw I hD room hu k
    subst hp hw
    obtain ⟨tk, rfl⟩ := hu
    have R := setTO_get I hD
    refine setT_add R room fun h' sb new => ?_
    have he : ∃ u, h'.get? D = some u := by
      have ⟨o, _, _, _, ho, _⟩ := new
      exact ⟨o, ho⟩
    exact k _ (I.write (e := D) (t' := s.toks + 1) (by rw [hD]; trivial) (.inl rfl) (fun b u hb hu => (sb.2 b hb).trans hu) he (setTO_new new))
/-- sorted(s), s a set of texts -/
def rSortedT (w : World) : List V → Hp → VK → Prop := fun xs H Q => ∃ (a : Addr) (S : Str → Bool) (n : Nat), xs = [.ref a] ∧ H a = some (SetTO w a S n) ∧ ∀ ys p, ys.Nodup → (∀ k, k ∈ ys ↔ S k = true) → ys.length = n → sortedS ys = true → H p = none → Q (.ref p) (upd H p (.lst (ys.map V.str)))
theorem cr_sortedT {X : Cx} (calm : X.calm = true) : CallR X (.builtin "sorted") (rSortedT X.w) := by
  intro pins s σ H xs us Q I r h
  obtain ⟨a, S, n, rfl, ha, q⟩ := h
  obtain ⟨u, rfl, rx⟩ := vals1 r
  cases rx
  obtain ⟨o, es, ep, t, ho, hex, hd, ⟨g, nd, hm⟩, hb, hf, hn, hr, hl⟩ := setTO_get I ha
  refine Calls.call_function_entry PyProof.Rows.kind_sorted PyProof.Rows.plain_sorted PyProof.Rows.entry_sorted (PyProof.Rows.args_sorted1 _) ?_
  unfold Builtin.«sorted»
  refine wpAny_bind (m := checkCount "sorted" 1 1 _) (wpAny_pure ?_)
  refine wpAny_bind (collect_set (A := X.A.in1) (I.ok.hd calm) ⟨o, ho, hex.1, hd⟩ hf hb hr hl fun s1 vs k1 hz g1 o1 pm => ?_)
  have len : vs.length = n := by rw [pm.length_eq, List.length_map, Array.length_toList]; exact hn
  have line : n ≤ sizeLine := by rw [← hn]; exact fits_of_scanBound hb
  have hS : StrsAre vs (vs.map fun v => keyT (0, v)) := strs_at (by rw [List.length_map]) fun j v e => by
    obtain ⟨e1, he, q⟩ := List.mem_map.mp (pm.mem_iff.mp (List.mem_of_getElem? e))
    obtain ⟨z, tk, h1, _⟩ := g e1 he
    have ev : v = .str z tk := by rw [← q]; exact h1
    exact ⟨z, tk, by rw [List.getElem?_map, e, ev] <;> rfl, ev⟩
  have pk : (vs.map fun v => keyT (0, v)).Perm (es.toList.map keyT) := by
    have := pm.map fun v => keyT (0, v)
    rw [List.map_map] at this
    exact this
  have I1 : Inv X pins σ H s1 := I.call' (ch := []) o1 (Un.kept k1) (I.hok.kept k1) (by rw [g1]; exact I.bare) (fun _ z => nomatch z)
  refine wpAny_bind (wpAny_newList ?_ (by rw [len]; exact line))
  have new : (s1.heap.push (seqObj "list" vs.toArray 0)).get? s1.heap.objs.size = some (seqObj "list" vs.toArray 0) := Heap.get?_push_size _ rfl
  refine wpAny_bind (wpAny_holding (wpAny_call_entry PyProof.Rows.slot_list_sort ⟨_, new, rfl⟩ PyProof.Rows.entry_list_sort
    (list_sort_treeKSt strKind_oneLt (s := { s1 with heap := s1.heap.push (seqObj "list" vs.toArray 0) }) new hS.keysOf (fun v1 v2 rest e => keyKind_strs (by rw [← e]; exact hS)) (by rw [len]; exact line) fun st' hp hs _ => ⟨_, rfl, ?_⟩)
    (PyProof.Rows.args_list_sort _)))
  obtain ⟨ys, y1, y2, y3⟩ := sorted_out_str hS hp hs
  obtain ⟨e', he'⟩ := PyProof.Rows.sortedHeap_at (vs := vs) (out := (arrOf st').map (·.2)) new
  have ylen : ys.length = n := by rw [y2.length_eq, List.length_map, len]
  have size : (ys.map V.str).length ≤ sizeLine := by rw [List.length_map, ylen]; exact line
  have old : ∀ b o, s1.heap.get? b = some o → (sortedHeap (s1.heap.push (seqObj "list" vs.toArray 0)) s1.heap.objs.size vs ((arrOf st').map (·.2))).get? b = some o := fun b o e => by
    have hb := Heap.lt_size e
    rw [PyProof.Rows.sortedHeap_old (Nat.ne_of_lt hb) (by rw [size_push']; exact Nat.lt_succ_of_lt hb)]
    exact Heap.get?_push_of_some _ e
  have yk := y2.trans pk
  exact wpAny_pure ⟨_, rfl, .ref s1.heap.objs.size, upd H s1.heap.objs.size (.lst (ys.map V.str)), I1.laid (t' := s1.toks) old (Nat.le_refl _) ⟨size, ((arrOf st').map (·.2)).toList, e', vals_of_strs y1, by rw [Array.toArray_toList]; exact he'⟩, rfl, q ys _ (yk.nodup_iff.mpr nd) (fun k => by rw [yk.mem_iff, ← hm k]) ylen y3 (I1.hok.fresh (Nat.le_refl _))⟩
end FF
/-! Fivefault, part 52: set(xs), xs a list of texts. -/
namespace FF
open PySem PySem.Spec PyProof.Rows L2
section
variable {P : Program} {w : World} {A : Around} {E : Value → Shared → Prop} {s : Shared}
theorem setT_update {I : Addr} {fp wr : List Addr} {G : Array GenState → Array GenState → Prop} {n : Nat} {Pv : Nat → Value → Prop} {St : Nat → Shared → Prop} {R : Result → Shared → Prop}
    (W : WalksS P w A.in1 I fp wr G n Pv St) (D : Addr) (hD : D ∉ fp) (zs : List Str) (hn : n = zs.length) (hb : zs.length + 1 < scanBound) (hval : ∀ i v, Pv i v → ∃ z t, zs[i]? = some z ∧ v = .str z t) :
    ∀ (k i : Nat) (s : Shared), n - i = k → i ≤ n → St i s → (∃ c, c ≤ i ∧ SetT w s.heap D (fun j => decide (j ∈ zs.take i)) c) →
      (∀ s' c, Moved (D :: wr) G s s' → c ≤ n → SetT w s'.heap D (fun j => decide (j ∈ zs)) c → R (.ok (.ret .none)) s') →
      codeAny (model P w) A (.builtin "set.update.loop" ⟨[.ref D, .ref I], []⟩) R s := by
  have hw : D ∉ wr := fun h => hD (W.sub _ h)
  have sub : ∀ b ∈ wr, b ∈ D :: wr := fun b hb => List.mem_cons_of_mem _ hb
  intro k
  induction k with
  | zero =>
    intro i s hk hi hst ⟨c, hc, hS⟩ hR
    obtain rfl : i = n := by omega
    refine codeAny_builtin PyProof.Rows.F.entry_set_update_loop ?_
    rw [Around.under_plainId PyProof.Rows.F.plain_set_update_loop _]
    show wpAny _ A.in1 (pyNext (.ref I) >>= _) _ _ s
    refine wpAny_bind (W.done s _ _ hst fun s' hm => ?_)
    show wpAny _ A.in1 (ret Value.none) _ _ s'
    rw [List.take_of_length_le (by omega)] at hS
    exact wpAny_pure (hR s' c (hm.mono sub) hc (hS.at fun o e => hm.heap D o hw e))
  | succ k ih =>
    intro i s hk hi hst ⟨c, hc, hS⟩ hR
    have hlt : i < n := by omega
    refine codeAny_builtin PyProof.Rows.F.entry_set_update_loop ?_
    rw [Around.under_plainId PyProof.Rows.F.plain_set_update_loop _]
    show wpAny _ A.in1 (pyNext (.ref I) >>= _) _ _ s
    refine wpAny_bind (W.item i s _ _ hlt hst fun v s' hP hst' hm => ?_)
    obtain ⟨z, t, hz, rfl⟩ := hval i v hP
    have h1 : SetT w s'.heap D (fun j => decide (j ∈ zs.take i)) c := hS.at fun o e => hm.heap D o hw e
    show wpAny _ A.in1 (holding [Value.str z t] (setAdd D (.str z t)) >>= _) _ _ s'
    refine wpAny_bind (wpAny_holding ?_)
    unfold setAdd
    refine wpAny_holding (wpAny_bind ((strKind P w).pyHash (k := z) (strKind_is _ _ _ _) ?_))
    refine setT_hashed (s := { s' with toks := s'.toks + 1 }) h1 (by omega) fun h' sb h2 => ?_
    have h3 : SetT w h' D (fun j => decide (j ∈ zs.take (i + 1))) (if decide (z ∈ zs.take i) = true then c else c + 1) := h2.congr fun j => by
      rw [List.take_add_one, hz]
      simp [List.mem_append]
    have c3 : (if decide (z ∈ zs.take i) = true then c else c + 1) ≤ i + 1 := by split <;> omega
    refine wpAny_pure ⟨plainId_quiet PyProof.Rows.F.plain_set_update_loop _, ih (i + 1) _ (by omega) hlt (W.frame _ s' _ _ hst' (Nat.le_succ _) fun b hb o e => ?_) ⟨_, c3, h3⟩ fun s'' c2 m2 hc2 h4 => ?_⟩
    · rw [sb.2 b (fun h : b = D => hD (by rw [← h]; exact hb))]
      exact e
    · refine hR s'' c2 (Moved.trans W.gtrans ((hm.mono sub).then_heap (Nat.le_succ _) fun b o hb e => ?_) m2) hc2 h4
      rw [sb.2 b (fun h : b = D => hb (by rw [h]; exact List.mem_cons_self))]
      exact e
set_option maxRecDepth 100000 in
set_option maxHeartbeats 3200000 in
theorem call_set_strs {l : Addr} {items : Array Value} (zs : List Str) {Q : Value → Shared → Prop} (hh : A.handled = none) (hl : s.heap.IsList l items) (hit : StrsAre items.toList zs) (hb : zs.length + 1 < scanBound)
    (h : ∀ (h' : Heap) (tk c : Nat), SetT w h' s.heap.objs.size (fun j => decide (j ∈ zs)) c → c ≤ zs.length → (∀ b o, s.heap.get? b = some o → h'.get? b = some o) → Q (.ref s.heap.objs.size) { s with heap := h', toks := tk }) :
    wpAny (model P w) A (call (.type "set") [.ref l]) Q E s := by
  have isz : items.size = zs.length := by
    have q := StrsAre.length hit
    rw [Array.length_toList] at q
    exact q
  obtain ⟨c, tl, hmro⟩ := PySem.F.called_set.mro
  have hmade := PySem.F.called_set.made
  have hsub := PySem.F.called_set.sub
  refine wpAny_call (codeAny_of_tree ?_)
  show wpAny _ _ (callAny (.type "set") _) _ _ _
  refine wpAny_pure ⟨Code.quiet_builtin _ (by decide +kernel), codeAny_builtin PySem.F.entry_type_call ?_⟩
  rw [Around.under_plain (weight_type_call_type "set" [.ref l] []) rfl]
  have h1 := PySem.F.called_set.notType
  have h2 := PySem.F.called_set.canCreate
  have hct := PySem.F.typeCall_set_1 (.ref l)
  repeat (any_goals (first | assumption | wp_step))
  refine codeAny_mono (code_set_led1 (.ref l) (E := E) (Q₁ := fun obj s₁ => obj = .ref s.heap.objs.size ∧ s₁ = { s with heap := s.heap.push (emptySet w) }) ⟨rfl, rfl⟩) fun r s₁ hr => ?_
  cases r with
  | error e => exact hr
  | ok fl =>
    cases fl with
    | ret obj =>
      obtain ⟨rfl, rfl⟩ := hr
      have hS : (s.heap.push (emptySet w)).get? s.heap.objs.size = some (emptySet w) := Heap.get?_push_size _ rfl
      have hT : Shared.TypeIs { s with heap := s.heap.push (emptySet w) } (.ref s.heap.objs.size) "set" := ⟨_, hS, rfl⟩
      have hli := PySem.F.called_set.init.lookup
      have hbi := PySem.F.called_set.init.bind (.ref s.heap.objs.size)
      repeat (any_goals (first | assumption | wp_step))
      refine codeAny_mono (codeAny_call_builtin (R := wants (fun r s₂ => r = .none ∧ ∃ h' tk c, s₂ = { s with heap := h', toks := tk } ∧ SetT w h' s.heap.objs.size (fun j => decide (j ∈ zs)) c ∧ c ≤ zs.length ∧
          (∀ b o, s.heap.get? b = some o → h'.get? b = some o)) E) PySem.F.called_set.init.plain PySem.F.entry_set_init (check_set_init_1 hT ?_)) fun r₂ s₂ hr₂ => ?_
      · obtain ⟨ol, hol, hcl, nl, hdl⟩ := hl
        obtain ⟨ocls, odict, odata, oslots⟩ := ol
        simp only at hcl hdl
        subst hcl; subst hdl
        have hol' : (s.heap.push (emptySet w)).get? l = some { cls := .type "list", dict := odict, data := .seq items nl, slots := oslots } := Heap.get?_push_of_some _ hol
        have hsls := PySem.F.sub_list_set
        have hslf := PySem.F.sub_list_frozenset
        have hne : (Value.type "list" == Value.type "dict") = false := by decide
        have hl1 : (s.heap.push (emptySet w)).IsList l items := ⟨_, hol', rfl, nl, rfl⟩
        unfold Builtin.«set.__init__» noKeywords Builtin.Frozenset.updateFrom
        generalize hPI : pyIter = PI
        wp_walk
        subst hPI
        refine wpAny_pyIter_list hl1 ?_
        refine wpAny_bind (wpAny_runValue ?_)
        have lS : l < s.heap.objs.size := Heap.lt_size hol
        have hh3 : A.in1.in1.in1.handled = none := by simp [hh]
        have neI : l ≠ (s.heap.push (emptySet w)).objs.size := by
          rw [Heap.size_push]; exact Nat.ne_of_lt (Nat.lt_succ_of_lt lS)
        have sf : s.heap.objs.size ∉ [(s.heap.push (emptySet w)).objs.size, l] := by
          rw [Heap.size_push]; simp only [List.mem_cons, List.mem_singleton, List.not_mem_nil, or_false, not_or]
          exact ⟨Nat.ne_of_lt (Nat.lt_succ_self _), Nat.ne_of_gt lS⟩
        have hval : ∀ (i : Nat) (v : Value), items[i]? = some v → ∃ z t, zs[i]? = some z ∧ v = .str z t := fun i v hv => by
          obtain ⟨z, t, e1, e2⟩ := StrsAre.item hit i v (by rw [Array.getElem?_toList]; exact hv)
          exact ⟨z, t, e2, e1⟩
        refine setT_update ((Walks.list hh3 _ l neI items).toS) s.heap.objs.size sf zs isz hb hval (items.size - 0) 0 _ (by omega) (Nat.zero_le _)
          ⟨⟨_, Heap.get?_push_size _ rfl, rfl, rfl⟩, (hl1.push _)⟩ ?hS0 ?hR
        case hS0 =>
          have g : ((s.heap.push (emptySet w)).push { cls := .type "list_iterator", data := .fields #[.ref l, .int 0 0] }).get? s.heap.objs.size = some (emptySet w) := Heap.get?_push_of_some _ hS
          exact ⟨0, Nat.le_refl 0, (setT_at (ho := g)).congr fun j => by simp⟩
        case hR =>
          intro s' c' hm hc' hS'
          obtain ⟨h', g2, d', tk', os'⟩ := s'
          have eg : g2 = s.gens := hm.gens
          have ed : d' = s.drawn := hm.drawn
          have eo : os' = s.os := hm.os
          subst eg; subst ed; subst eo
          show wpAny _ _ _ _ _ _
          refine wpAny_pure ?_
          show wpAny _ _ (ret Value.none) _ _ _
          rw [isz] at hc'
          refine wpAny_pure ⟨rfl, h', tk', c', rfl, hS', hc', fun b o e => ?_⟩
          have hb0 : b < s.heap.objs.size := Heap.lt_size e
          have hb1 : b ≠ s.heap.objs.size := Nat.ne_of_lt hb0
          have hb2 : b ≠ (s.heap.push (emptySet w)).objs.size := by
            rw [Heap.size_push]; exact Nat.ne_of_lt (Nat.lt_succ_of_lt hb0)
          exact hm.heap b o (by simp only [List.mem_cons, List.mem_singleton, List.not_mem_nil, or_false, not_or]; exact ⟨hb1, hb2⟩) (Heap.get?_push_of_some _ (Heap.get?_push_of_some _ e))
      · cases r₂ with
        | error e => exact hr₂
        | ok fl₂ =>
          cases fl₂ with
          | ret r =>
            obtain ⟨rfl, h', tk, c', rfl, hS', hc', hk'⟩ := hr₂
            repeat (any_goals (first | assumption | wp_step))
            exact h _ _ _ hS' hc' hk'
          | _ => exact hr₂.elim
    | _ => exact hr.elim
end
/-- set(xs), xs a list of texts -/
def rSetS (K : PySem.W.Frag) (w : World) : List V → Hp → VK → Prop := fun xs H Q => ∃ (p : Addr) (zs : List Str), xs = [.ref p] ∧ SqL K H p (zs.map V.str) ∧ zs.length ≤ 1000 ∧ ∀ D n, H D = none → n ≤ zs.length → Q (.ref D) (upd H D (SetTO w D (fun j => decide (j ∈ zs)) n))
theorem cr_setS {X : Cx} (hc : X.calm = true) : CallR X (.type "set") (rSetS X.K X.w) := by
  intro pins s σ H xs us Q I r h
  obtain ⟨p, zs, rfl, hq, hl, q⟩ := h
  obtain ⟨u, rfl, r1⟩ := r.one
  cases r1
  obtain ⟨its, rv, pt, hz⟩ := I.list hq
  refine call_set_strs zs (I.ok.hd hc) pt.isList (strs_of_vals rv) (by unfold scanBound; omega) fun h' tk c R1 hcn k => ?_
  have hn : H s.heap.objs.size = none := I.hok.fresh (Nat.le_refl _)
  exact ⟨.ref _, upd H s.heap.objs.size (SetTO X.w s.heap.objs.size (fun j => decide (j ∈ zs)) c), I.laid (t' := tk) k (Nat.le_refl _) (setTO_new R1), rfl, q _ _ hn hcn⟩
end FF
/-! Fivefault, part 53: yield from xs, xs a list; max(xs, default = n). -/
namespace FF
open PySem PySem.Spec PyProof.Rows L2
section
variable {prog : Program} {w : World} {A : Around} {E : Value → Shared → Prop} {s : Shared}
end
/-! ### max(xs, default = n), xs a list of ints -/
end FF
/-! Fivefault, part 54: {x for x in xs if ..} over a list, texts. -/
namespace FF
open PySem PySem.Spec PyProof.Rows L2
theorem sc_lst {P : Program} {w : World} {K : PySem.W.Frag} {a : Addr} {xs : List V} {j : Nat} {tt : TT} {te : TE} {vs : List Nat} {σ : L2.St} {H1 : Hp} {Qd : Hp → Prop} {D : Addr} (f : Nat → Option Str) (hD : H1 D = none) (h : SqL K H1 a xs) (hz : xs.length + 1 < scanBound)
    (hw : ∀ x, wipe ((wipe σ vs).set j (some x)) vs = wipe σ vs)
    (step : ∀ i x H2, xs[i]? = some x → Same H1 H2 → ∀ Qb : Bool → Hp → Prop, (∀ H3, Same H2 H3 → Qb (f i).isSome H3) → tt ((wipe σ vs).set j (some x)) H2 Qb)
    (elem : ∀ i x z H2, xs[i]? = some x → f i = some z → Same H1 H2 → ∀ Q' : VK, (∀ H3, Same H2 H3 → Q' (.str z) H3) → te ((wipe σ vs).set j (some x)) H2 Q')
    (done : ∀ H2 S n, Same H1 H2 → H2 D = some (SetTO w D S n) → n ≤ xs.length → (∀ k, S k = true ↔ ∃ i, i < xs.length ∧ f i = some k) → Qd H2) :
    ∃ W : Nat → Nat → Hp → Prop, (∃ m, W 0 m (upd H1 D ((txtF P w).ob D (fun _ => false) 0))) ∧ ∀ i m H, W i m H →
      ((Itl K a).stop i H ∧ Qd H) ∨ ((Itl K a).go i H ∧ ∃ Nx : Hp → Prop, (∀ H', Nx H' → ∃ m', m' < m ∧ W (i + 1) m' H') ∧ ∀ x H', (Itl K a).yld i H x H' → gName j x (wipe σ vs) H' fun σ2 H2 => wipe σ2 vs = wipe σ vs ∧ tt σ2 H2 fun b H3 =>
        if b = true then te σ2 H3 fun y H4 => ∃ (k : (txtF P w).κ) (S : (txtF P w).κ → Bool) (n : Nat), y = (txtF P w).val k ∧ H4 D = some ((txtF P w).ob D S n) ∧ n + 1 < scanBound ∧ Nx (upd H4 D ((txtF P w).ob D ((txtF P w).put S k) (if S k = true then n else n + 1))) else Nx H3) := by
  let Pv : Nat → Hp → Prop := fun i H => Same H1 H ∧ ∃ (S : Str → Bool) (n : Nat), H D = some (SetTO w D S n) ∧ n ≤ i ∧ ∀ k, S k = true ↔ ∃ m, m < i ∧ f m = some k
  have wk : Walk (Itl K a) xs.length (Same H1) (YAt xs) := walkL_same h
  refine ⟨fun i m H => m = xs.length - i ∧ i ≤ xs.length ∧ Pv i H, ⟨xs.length, by simp, Nat.zero_le _, same_new hD _, fun _ => false, 0, upd_same, Nat.le_refl _, fun k => ⟨fun z => (by cases z), fun ⟨m, hm, _⟩ => absurd hm (Nat.not_lt_zero _)⟩⟩, ?_⟩
  rintro i m H ⟨rfl, hi, e, S, n, h2, h3, h4⟩
  by_cases hlt : i < xs.length
  · refine .inr ⟨wk.goes i H hlt e, Pv (i + 1), fun H' p' => ⟨xs.length - (i + 1), by omega, rfl, hlt, p'⟩, ?_⟩
    intro x H' hy
    obtain ⟨rfl, hx⟩ := wk.yields i H x H' hlt e hy
    refine ⟨hw x, step i x _ hx e _ fun H3 e3 => ?_⟩
    cases hf : f i with
    | none =>
      show if false = true then _ else Pv (i + 1) H3
      rw [if_neg (by decide)]
      refine ⟨e.trans e3, S, n, e3 _ _ h2, by omega, fun k => (h4 k).trans ⟨fun ⟨m, hm, q⟩ => ⟨m, by omega, q⟩, fun ⟨m, hm, q⟩ => ?_⟩⟩
      by_cases he : m = i
      · rw [he, hf] at q
        cases q
      · exact ⟨m, by omega, q⟩
    | some z =>
      show if true = true then _ else _
      rw [if_pos rfl]
      refine elem i x z _ hx hf (e.trans e3) _ fun H4 e4 => ?_
      have hd := e4 _ _ (e3 _ _ h2)
      refine ⟨z, S, n, rfl, hd, by omega, fun b o q => ?_, _, _, upd_same, ?_, fun k => ?_⟩
      · rw [upd_ne (ne_of_none q hD)]
        exact e4 _ _ (e3 _ _ (e _ _ q))
      · show (if S z = true then n else n + 1) ≤ i + 1
        split <;> omega
      · show (S k || decide (k = z)) = true ↔ _
        rw [Bool.or_eq_true, decide_eq_true_eq, h4 k]
        constructor
        · rintro (⟨m, hm, q⟩ | rfl)
          · exact ⟨m, by omega, q⟩
          · exact ⟨i, by omega, hf⟩
        · rintro ⟨m, hm, q⟩
          by_cases he : m = i
          · rw [he, hf] at q
            exact .inr (Option.some.inj q).symm
          · exact .inl ⟨m, by omega, q⟩
  · have hi2 : i = xs.length := by omega
    subst hi2
    exact .inl ⟨wk.stops H e, done H S n e h2 h3 h4⟩
end FF
/-! Fivefault, part 55: {e for a in xs for b in ys}. -/
namespace FF
open PySem PySem.Spec PyProof.Rows L2
section
variable {prog : Program} {w : World} {A : Around} {R : Result → Shared → Prop} {s : Shared} {el ga ia gb ib : Expr} {cs ds : List Expr} {scope : Scope} {pos : Pos} {it : Value} {D : Addr} {env : Env}
end
end FF
/-! Fivefault, part 56: {z for x in xs for z in f(x)} over lists, texts. -/
namespace FF
open PySem PySem.Spec PyProof.Rows L2
end FF
/-! Fivefault, part 57: x != y by an own __eq__ (no own __ne__). -/
namespace FF
open PySem PySem.Spec PyProof.Rows L2
section
variable {M : Model} {prog : Program} {w : World} {A : Around} {E : Value → Shared → Prop} {s : Shared} {K : PySem.W.Frag} {x y C f : Addr} {ox : Obj} {od : Option Obj}
theorem ifBound_objNe {args : List Value} {Q : Option Value → Shared → Prop} (X : K.In s.heap) (I : PySem.W.InstAt s.heap x ox C od) (hs : PySem.W.findIn K (.ref C) "__ne__" = some (some (.builtin "object.__ne__")))
    (h : wpAny M A (call (.builtin "object.__ne__") (.ref x :: args)) (fun v => Q (some v)) E s) : wpAny M A (callSpecialIfBound? (.ref x) "__ne__" args) Q E s := by
  simp only [callSpecialIfBound?, bindSpecialIfBound?]
  refine wpAny_holding (wpAny_bind (wpAny_bind (wpAny_bind (I.type.here ((PySem.W.looks_findIn X hs).here ?_)))))
  refine wpAny_bind (wpAny_askSetting (wpAny_ite ?_))
  have fin : wpAny M A (call (.builtin "object.__ne__") ([.ref x] ++ args) >>= fun v => pure (some v)) Q E s := wpAny_bind (wpAny_mono h (fun v s' h' => wpAny_pure h') fun _ _ h' => h')
  split
  · exact wpAny_bind (wpAny_of_eq (F.cmp_object.ne.bind _) (wpAny_pure (by exact fin)))
  · exact wpAny_tryCatch (wpAny_bind (wpAny_of_eq (F.cmp_object.ne.bind _) (wpAny_pure (by exact fin))))
theorem entry_neK (X : K.In s.heap) (I : PySem.W.InstAt s.heap x ox C od) (hs : PySem.W.findIn K (.ref C) "__eq__" = some (some (.ref f))) (hf : PySem.W.isFn K (.ref f) = true) (hu : A.units < cLine) {Q : Fin → Shared → Prop}
    (hcall : wpAny (model prog w) A (call (.ref f) [.ref x, .ref y]) (fun v s' => ∃ b, v = .bool b ∧ Q (.done (.ret (.bool (!b)))) s') E s) : wpAny (model prog w) A (Builtin.«object.__ne__» ⟨[.ref x, .ref y], []⟩) Q E s := by
  unfold Builtin.«object.__ne__»
  repeat (first
    | with_reducible refine wpAny_cRoomFor hu ?_
    | (refine wpAny_bind (m := callSpecialIfBound? (.ref x) (Str.ofString "__eq__") [.ref y])
        (PySem.W.ifBound_K X I hs hf (wpAny_mono hcall (fun r s' hr => by
          obtain ⟨b, rfl, hq⟩ := hr
          repeat (first | exact hq | exact wpAny_pure hq | exact wpAny_truthy_bool hq | (refine wpAny_bind (m := truthy (.bool _)) (wpAny_truthy_bool ?_)) | wp_step)) fun _ _ e => e)))
    | wp_step)
theorem call_objNe {Q : Value → Shared → Prop} (X : K.In s.heap) (I : PySem.W.InstAt s.heap x ox C od) (hm : PySem.W.mroIn K C (.type "object") = some true) (hs : PySem.W.findIn K (.ref C) "__eq__" = some (some (.ref f))) (hf : PySem.W.isFn K (.ref f) = true) (hu : A.in1.units < cLine)
    (hcall : wpAny (model prog w) A.in1 (call (.ref f) [.ref x, .ref y]) (fun v s' => ∃ b, v = .bool b ∧ Q (.bool (!b)) s') E s) :
    wpAny (model prog w) A (call (.builtin "object.__ne__") [.ref x, .ref y]) Q E s := by
  refine wpAny_call (codeAny_call_builtin F.cmp_object.ne.plain F.cmpEntry_ne (PySem.W.check_slot F.cmpKind_ne F.cmpSplit_ne (I.type.andThen (PySem.W.looks_mroIn X hm)) (F.cmpArgs_ne _ _) (entry_neK X I hs hf hu (wpAny_mono hcall (fun v s' h => ?_) fun _ _ e => e))))
  obtain ⟨b, rfl, hq⟩ := h
  first | exact ⟨b, rfl, hq⟩ | exact ⟨b, rfl, wpAny_pure hq⟩
end
def rNeO (C : Addr) (sp : Sp) (E : XK) : R2 := fun x y H Q => ∃ a dx fs b dy gs, x = .ref a ∧ y = .ref b ∧ H a = some (.ins C dx fs) ∧ H b = some (.ins C dy gs) ∧ sp [.ref a, .ref b] H (fun v H' => ∃ t, v = .bl t ∧ Q (.bl (!t)) H') E
theorem op_neO_ {X : Cx} {CX : CXT} {n : Nat} {C f : Addr} {fd : FuncData} {ps : List Str} {sp : Sp} {E : XK} (me : Meth X.K C "__eq__" f) (hne : PySem.W.findIn X.K (.ref C) "__ne__" = some (some (.builtin "object.__ne__"))) (F : FnOk X.prog X.w X.K X.mg X.base CX n f fd ps sp) (hb : Binds X.K fd ps []) (hx : Passes CX X E) (c : InsX X.K C) (hr : Room (n + 1) X.A) : OpR X (compareOp .NotEq) (rNeO C sp E) := by
  intro pins s σ H x y v u Q I rx ry hq
  obtain ⟨a, dx, fs, b, dy, gs, rfl, rfl, ha, hy, hsp⟩ := hq
  cases rx
  cases ry
  show wpAny (model X.prog X.w) X.A (richCompare .NotEq (.ref a) (.ref b)) (EP X pins σ Q) X.xe s
  have sb : Sub X n X.A.in1 := Sub.in1 (⟨hr, rfl⟩ : Sub X (n + 1) X.A)
  obtain ⟨mA, J, _⟩ := ins_get I.hok ha
  obtain ⟨od, J, _⟩ := J.look
  obtain ⟨mB, J', _⟩ := ins_get I.hok hy
  obtain ⟨od', J', _⟩ := J'.look
  have e0 : Env0 X.prog X.w X.K X.mg X.base X.A.in1 X.stack s H := by
    have e := I.env0
    exact ⟨by rw [sb.fr]; exact e.frames, e.mod, e.bs, e.bsz, e.funs, e.frf, e.hok, e.bare⟩
  have hl := F.len _ _ _ _ hsp
  have r2 : Vals [V.ref a, V.ref b] [Value.ref a, Value.ref b] := .cons rfl (.cons rfl .nil)
  have fin : wpAny (model X.prog X.w) X.A.in1 (call (.ref f) [.ref a, .ref b]) (fun v s' => ∃ t, v = .bool t ∧ EP X pins σ Q (.bool (!t)) s') X.xe s := by
    refine wpAny_call (codeAny_mono (F.run X.A.in1 X.stack s H ⟨[.ref a, .ref b], []⟩ [.ref a, .ref b] [.ref a, .ref b] _ E sb.room e0 (by
      have := hb s [.ref a, .ref b] I.kIn (by simpa using hl)
      simpa using this) r2 hsp) fun r s' hq => ?_)
    cases r with
    | error e => exact hx pins σ H s e s' I hq
    | ok fl =>
      cases fl with
      | ret w =>
        obtain ⟨z, H', I', rz, t, rfl, q⟩ := I.after hq
        cases rz
        exact ⟨t, rfl, .bl (!t), H', I', rfl, q⟩
      | next => exact False.elim hq
      | brk => exact False.elim hq
      | cont => exact False.elim hq
  have hu : X.A.units < cLine := Nat.lt_of_succ_lt (hu_of hr)
  have one : wpAny (model X.prog X.w) X.A (tryCompare (.ref a) "__ne__" (.ref b)) (fun r s' => ∃ v, r = some v ∧ EP X pins σ Q v s') X.xe s := by
    unfold tryCompare
    refine wpAny_bind (ifBound_objNe I.kIn J hne (call_objNe I.kIn J c.hm me.at_ me.fn sb.room.units0 (wpAny_mono fin (fun v s' hv => ?_) fun _ _ e => e)))
    obtain ⟨t, rfl, hq⟩ := hv
    exact ⟨t, rfl, wpAny_pure ⟨_, rfl, hq⟩⟩
  unfold richCompare
  simp only [oneThing_ref]
  refine wpAny_holding (wpAny_bind (wpAny_cRoomFor hu ?_))
  rw [cmpInfo_NotEq]
  dsimp only
  refine wpAny_bind (J.type.here (wpAny_bind (J'.type.here ?_)))
  rw [show (Value.ref C != Value.ref C) = false from by simp]
  simp only [Bool.false_eq_true, if_false]
  refine wpAny_bind (wpAny_pure ?_)
  simp only [Bool.false_eq_true, if_false]
  refine wpAny_bind (wpAny_mono one (fun r s' z => ?_) fun _ _ e => e)
  obtain ⟨v, rfl, hq⟩ := z
  exact wpAny_pure hq
theorem op_neO {X : Cx} {C : Str} {k j : Nat} {sp : Sp} (D : MethD X.prog X.w X.K X.mg X.base C "__eq__" k ["self", "other"] sp) (hne : PySem.W.findIn X.K (.ref (He.ga X.K C)) "__ne__" = some (some (.builtin "object.__ne__"))) (c : InsX X.K (He.ga X.K C)) (hr : Room j X.A) (hkj : k + 1 ≤ j) : OpR X (compareOp .NotEq) (rNeO (He.ga X.K C) sp E0) := by
  obtain ⟨fd, F, hb⟩ := D.ex
  exact op_neO_ D.me hne F hb pass0 c (hr.mono hkj)
end FF
/-! Fivefault, part 58: comprehensions over the keys of a dict, and with two fors, told by the place. -/
namespace FF
open PySem PySem.Spec PyProof.Rows L2
section
variable {K : PySem.W.Frag} {D d : Addr} {o : Obj} {kvs : List (Key × V)} {te : TE} {vs : List Nat} {j : Nat} {σ : L2.St} {H1 : Hp} {Qd : Hp → Prop}
end
section
variable {K : PySem.W.Frag} {D : Addr} {J : It} {n n1 : Nat} {Po P1 : Nat → V → Prop} {wi1 : TI} {te : TE} {vs vs1 : List Nat} {jo ji : Nat} {σ : L2.St} {H1 : Hp} {Qd : Hp → Prop}
end
end FF
/-! Fivefault, part 59: dicts whose keys are texts, whole numbers and nested tuples of such: what stands in the model's heap. -/
namespace FF
open PySem PySem.Spec PyProof.Rows L2
open Sem (wp)
mutual
def nkD : PyData → NestedKey
  | .none => .none
  | .bool b => .num (if b = true then 1 else 0)
  | .int i => .num i
  | .str x => .text x
  | .tuple ds => .tup (nkDs ds)
  | .list _ => .none
  | .dict _ => .none
def nkDs : List PyData → List NestedKey
  | [] => []
  | d :: ds => nkD d :: nkDs ds
end
mutual
/-- data that may be a key: no bools, lists, dicts -/
def keyB : PyData → Bool
  | .none => true
  | .bool _ => false
  | .int _ => true
  | .str _ => true
  | .tuple ds => keyBs ds
  | .list _ => false
  | .dict _ => false
def keyBs : List PyData → Bool
  | [] => true
  | d :: ds => keyB d && keyBs ds
end
/-- a row as it is stored: the key, the key's value, the value -/
abbrev NRow := NestedKey × Value × Value
def entN (w : World) (x : NRow) : DictEntry := ⟨x.1.hash w, x.2.1, x.2.2⟩
section
variable {prog : Program} {w : World} {A : Around} {E : Value → Shared → Prop} {s : Shared} {es : Array DictEntry} {xs : List NRow} {k : NestedKey} {key : Value}
theorem ent_at (he : es.toList = xs.map (entN w)) (j : Nat) : es[j]? = (xs[j]?).map (entN w) := by
  rw [← Array.getElem?_toList, he]
  exact List.getElem?_map
theorem ent_size (he : es.toList = xs.map (entN w)) : es.size = xs.length := by
  have := congrArg List.length he
  rwa [Array.length_toList, List.length_map] at this
abbrev plc (w : World) (es : Array DictEntry) (k : NestedKey) : List Nat := placesWithHash es.size (fun i => es[i]?.map (·.hash)) (k.hash w)
theorem plc_of (he : es.toList = xs.map (entN w)) {i : Nat} {x : NRow} (hi : xs[i]? = some x) (e : x.1 = k) : i ∈ plc w es k := by
  unfold plc placesWithHash
  refine List.mem_filter.mpr ⟨List.mem_range.mpr ?_, ?_⟩
  · rw [ent_size he]
    exact (List.getElem?_eq_some_iff.mp hi).1
  · dsimp only
    rw [ent_at he, hi, ← e]
    exact beq_self_eq_true _
/-- what stands behind the places that were looked at: nothing found, or the one -/
def Seen (xs : List NRow) (k : NestedKey) (pre : List Nat) (hit : Option Nat) : Prop :=
  (hit = none ∧ ∀ i ∈ pre, ∀ x, xs[i]? = some x → x.1 ≠ k) ∨ ∃ j x, hit = some j ∧ j ∈ pre ∧ xs[j]? = some x ∧ x.1 = k
theorem Seen.no {pre : List Nat} {hit : Option Nat} (h : Seen xs k pre hit) {i : Nat} {x : NRow} (hi : xs[i]? = some x) (e : x.1 ≠ k) : Seen xs k (pre ++ [i]) hit := by
  rcases h with ⟨h1, h2⟩ | ⟨j, y, h1, h2, h3⟩
  · refine .inl ⟨h1, fun m hm y hy => ?_⟩
    rcases List.mem_append.mp hm with hm | hm
    · exact h2 m hm y hy
    · rw [List.mem_singleton.mp hm, hi] at hy
      cases hy
      exact e
  · exact .inr ⟨j, y, h1, List.mem_append_left _ h2, h3⟩
theorem Seen.end_ (he : es.toList = xs.map (entN w)) {hit : Option Nat} (h : Seen xs k (plc w es k) hit) : (hit = none ∧ ∀ x ∈ xs, x.1 ≠ k) ∨ ∃ j x, hit = some j ∧ xs[j]? = some x ∧ x.1 = k := by
  rcases h with ⟨h1, h2⟩ | ⟨j, y, h1, h2, h3⟩
  · refine .inl ⟨h1, fun x hx e => ?_⟩
    obtain ⟨i, hi⟩ := List.mem_iff_getElem?.mp hx
    exact h2 i (plc_of he hi e) x hi e
  · exact .inr ⟨j, y, h1, h3⟩
end
end FF
/-! Fivefault, part 60: dicts whose keys are nested tuples: read and written. -/
namespace FF
open PySem PySem.Spec PyProof.Rows L2
open Sem (wp)
/-- at d stands the dict of these rows -/
def DictN (w : World) (h : Heap) (d : Addr) (xs : List NRow) : Prop := ∃ (o : Obj) (es : Array DictEntry) (ep : Nat), h.get? d = some o ∧ o.ExactDict ∧ o.data = .dict es ep ∧ es.toList = xs.map (entN w)
theorem DictN.ty {w : World} {s : Shared} {d : Addr} {xs : List NRow} (h : DictN w s.heap d xs) : s.TypeIs (.ref d) "dict" := let ⟨o, _, _, h1, h2, _⟩ := h; ⟨o, h1, h2.1⟩
theorem DictN.new {w : World} (h : Heap) : DictN w (h.push { cls := .type "dict", data := .dict #[] }) h.objs.size [] := ⟨_, #[], 0, Heap.get?_push_size _ rfl, ⟨rfl, rfl, rfl⟩, rfl, rfl⟩
section
variable {prog : Program} {w : World} {A : Around} {E : Value → Shared → Prop} {s : Shared} {xs : List NRow} {k : NestedKey} {key v : Value} {d : Addr}
end

/-! ### in the abstract heap -/
abbrev KRow := V × PyData × V
def kdR (r : KRow) (x : NRow) : Prop := r.2.1 = r.2.1 ∧ x.1 = nkD r.2.1 ∧ RelV r.1 x.2.1 ∧ RelV r.2.2 x.2.2
/-- the dict at a, its rows (key, what the key is, value) in the order of insertion -/
def kdO (w : World) (a : Addr) (rows : List KRow) : HO := .ext fun h => rows.length ≤ sizeLine ∧ (a == sysModules) = false ∧ ∃ xs : List NRow, Paired kdR rows xs ∧ DictN w h a xs
def KeyOk (K : PySem.W.Frag) (H : Hp) (y : V) (d : PyData) : Prop := Tp K H y d ∧ keyB d = true ∧ (nkD d).depth ≤ 8
structure KD (K : PySem.W.Frag) (w : World) (H : Hp) (a : Addr) (rows : List KRow) : Prop where
  obj : Rd H a (kdO w a rows)
  keys : ∀ r ∈ rows, KeyOk K H r.1 r.2.1
  nod : (rows.map fun r => nkD r.2.1).Nodup
def kGet (kvs : List (PyData × V)) (d : PyData) : Option V := (kvs.find? fun r => decide (nkD r.1 = nkD d)).map (·.2)
def kPut (rows : List KRow) (y : V) (d : PyData) (v : V) : List KRow := if (kGet (rows.map Prod.snd) d).isSome = true then rows.map (fun r => if nkD r.2.1 = nkD d then (r.1, r.2.1, v) else r) else rows ++ [(y, d, v)]
theorem KeyOk.up {K : PySem.W.Frag} {H H' : Hp} {y : V} {d : PyData} (h : KeyOk K H y d) (e : SameT H H') : KeyOk K H' y d := ⟨h.1.up e, h.2⟩
theorem KD.up {K : PySem.W.Frag} {w : World} {H H' : Hp} {a : Addr} {rows : List KRow} (h : KD K w H a rows) (e : Same H H') : KD K w H' a rows := ⟨same_rd e h.obj, fun r hr => (h.keys r hr).up (Same.T e), h.nod⟩
theorem kPut_keys (rows : List KRow) (y : V) (d : PyData) (v : V) : (kPut rows y d v).map (fun r => (r.1, r.2.1)) = if (kGet (rows.map Prod.snd) d).isSome = true then rows.map (fun r => (r.1, r.2.1)) else rows.map (fun r => (r.1, r.2.1)) ++ [(y, d)] := by
  unfold kPut
  split
  · rw [List.map_map]
    refine List.map_congr_left fun r _ => ?_
    dsimp only [Function.comp]
    split <;> rfl
  · rw [List.map_append] <;> rfl
theorem kGet_none_iff {kvs : List (PyData × V)} {d : PyData} : kGet kvs d = none ↔ ∀ r ∈ kvs, nkD r.1 ≠ nkD d := by
  unfold kGet
  rw [Option.map_eq_none_iff, List.find?_eq_none]
  refine forall_congr' fun r => forall_congr' fun _ => ?_
  rw [decide_eq_true_eq]
theorem KD.put_keys {K : PySem.W.Frag} {w : World} {H H' : Hp} {a : Addr} {rows : List KRow} {y v : V} {d : PyData} (h : KD K w H a rows) (hk : KeyOk K H y d) (e : SameT H H') : (∀ r ∈ kPut rows y d v, KeyOk K H' r.1 r.2.1) ∧ ((kPut rows y d v).map fun r => nkD r.2.1).Nodup := by
  have kk := kPut_keys rows y d v
  constructor
  · intro r hr
    have hm : (r.1, r.2.1) ∈ (kPut rows y d v).map fun r => (r.1, r.2.1) := List.mem_map_of_mem (f := fun r : KRow => (r.1, r.2.1)) hr
    rw [kk] at hm
    have old : (r.1, r.2.1) ∈ rows.map (fun r => (r.1, r.2.1)) → KeyOk K H' r.1 r.2.1 := fun hm => by
      obtain ⟨r', hr', er⟩ := List.mem_map.mp hm
      have e1 : r'.1 = r.1 := congrArg (fun p : V × PyData => p.1) er
      have e2 : r'.2.1 = r.2.1 := congrArg (fun p : V × PyData => p.2) er
      rw [← e1, ← e2]
      exact (h.keys r' hr').up e
    split at hm
    · exact old hm
    · rcases List.mem_append.mp hm with hm | hm
      · exact old hm
      · rw [List.mem_singleton] at hm
        have h1 : r.1 = y := congrArg Prod.fst hm
        have h2 : r.2.1 = d := congrArg Prod.snd hm
        rw [h1, h2]
        exact hk.up e
  · have e1 : (kPut rows y d v).map (fun r => nkD r.2.1) = ((kPut rows y d v).map fun r => (r.1, r.2.1)).map fun p => nkD p.2 := by rw [List.map_map] <;> rfl
    have e2 : rows.map (fun r => nkD r.2.1) = (rows.map fun r => (r.1, r.2.1)).map fun p => nkD p.2 := by rw [List.map_map] <;> rfl
    have nod := h.nod
    rw [e2] at nod
    rw [e1, kk]
    split
    · exact nod
    · next hs =>
      rw [List.map_append, List.nodup_append]
      refine ⟨nod, by simp, fun x hx z hz => ?_⟩
      have hz : z = nkD d := by simpa using hz
      subst hz
      rw [← e2] at hx
      obtain ⟨r, hr, rfl⟩ := List.mem_map.mp hx
      have hg : kGet (rows.map Prod.snd) d = none := by
        cases q : kGet (rows.map Prod.snd) d with
        | none => rfl
        | some _ => rw [q] at hs; exact absurd rfl hs
      exact kGet_none_iff.mp hg r.2 (List.mem_map_of_mem hr)
section
variable {X : Cx} {pins : List (Addr × Obj)} {σ : L2.St} {H : Hp} {s : Shared}
variable {a : Addr} {rows : List KRow} {y v : V} {d : PyData} {u r : Value} {A : Around} {E : Value → Shared → Prop}
theorem KD.put (D : KD X.K X.w H a rows) (hw : H a = some (kdO X.w a rows)) (hk : KeyOk X.K H y d) : KD X.K X.w (upd H a (kdO X.w a (kPut rows y d v))) a (kPut rows y d v) := by
  have e : SameT H (upd H a (kdO X.w a (kPut rows y d v))) := (SameT.refl H).upd fun xs z => by rw [hw] at z; cases z
  obtain ⟨h1, h2⟩ := D.put_keys (v := v) hk e
  exact ⟨.inl upd_same, h1, h2⟩
end
theorem KD.new {K : PySem.W.Frag} {w : World} {H : Hp} {p : Addr} : KD K w (upd H p (kdO w p [])) p [] := ⟨.inl upd_same, (fun r hr => nomatch hr), List.nodup_nil⟩
end FF
/-! Fivefault, part 61: rules for dicts whose keys are nested tuples; the dict comprehension. -/
namespace FF
open PySem PySem.Spec PyProof.Rows L2
section
variable {X : Cx} {pins : List (Addr × Obj)} {σ : L2.St} {H : Hp} {s : Shared} {o i e value : Expr} {pos pos' : Pos} {td ty tv : TE} {a : Addr} {rows : List KRow}
end
section
variable {prog : Program} {w : World} {A : Around} {R : Result → Shared → Prop} {s : Shared} {ek ev ga ia : Expr} {cs : List Expr} {scope : Scope} {pos : Pos} {it : Value} {D : Addr} {env : Env}
end
end FF
/-! Fivefault, part 62: walks over lists while other things change (the guard is the list itself). -/
namespace FF
open PySem PySem.Spec PyProof.Rows L2
section
variable {K : PySem.W.Frag} {a : Addr} {xs : List V} {g : TG} {tb : TS} {D : Ends} {σ : L2.St} {H : Hp}
end
end FF
/-! Comprehensions with a test that the items' data decide. -/
namespace FF
open PySem PySem.Spec PyProof.Rows L2
section
variable {K : PySem.W.Frag} {a D : Addr} {xs : List V} {ds : List PyData} {g : TG} {tt : TT} {te : TE} {vs : List Nat} {j : Nat} {σ : L2.St} {H1 : Hp} {Qd : Hp → Prop}
end
end FF
/-! Fivefault, part 63: sorted over pairs of whole numbers. -/
namespace FF
open PySem PySem.Spec PyProof.Rows L2
end FF
/-! Fivefault, part 64: dict(list of pairs) whose keys are nested tuples. -/
namespace FF
open PySem PySem.Spec PyProof.Rows L2
open Sem (wp)
section
variable {prog : Program} {w : World} {A : Around} {E : Value → Shared → Prop}
end
section
variable {X : Cx}
end
end FF
/-! Fivefault, part 65: for target in d, keys nested (the dict is locked). -/
namespace FF
open PySem PySem.Spec PyProof.Rows L2
open Sem (wp)
section
variable {X : Cx} {pins : List (Addr × Obj)} {σ : L2.St} {H : Hp} {s : Shared} {d : Addr} {o : Obj} {rows : List KRow}
end
section
variable {P : Program} {w : World} {K : PySem.W.Frag} {tg : Expr} {d : Addr} {o : Obj} {es : Array DictEntry} {ep : Nat}
end
section
variable {w : World} {d : Addr} {o : Obj} {rows : List KRow} {g : TG} {tb : TS} {D : Ends} {σ : L2.St} {H : Hp}
end
section
variable {prog : Program} {w : World} {A : Around} {E : Value → Shared → Prop} {s : Shared}
end
end FF
/-! Fivefault, part 66: xs[::-1], xs a list. -/
namespace FF
open PySem PySem.Spec PyProof.Rows L2
end FF
/-! Fivefault, part 67: a comprehension's list known as a list while its items are told. -/
namespace FF
open PySem PySem.Spec PyProof.Rows L2
section
variable {K : PySem.W.Frag} {a D : Addr} {xs : List V} {te : TE} {vs : List Nat} {j : Nat} {σ : L2.St} {H1 : Hp} {Qd : Hp → Prop}
end
end FF
/-! Fivefault, part 68: a generator's body with for and if, run into a list or up to its first item. -/
namespace FF
open PySem PySem.Spec PyProof.Rows L2 GenW
/-- who runs the generator -/
inductive Md
  | ls (S : Addr)
  | fs
def Md.pins (M : Md) (ys : List V) (P : List (Addr × Obj)) : Prop := match M with
  | .ls S => ∃ (acc : Array Value) (c : Nat), Vals ys acc.toList ∧ P = [(S, lstObj acc c)]
  | .fs => ys = [] ∧ P = []
/-- the first item -/
def FstY (X : Cx) (Yd : V → Hp → Prop) : Protocol := fun _ _ v s _ => ∃ x ip σ H, RelV x v ∧ Inv X ip σ H s ∧ Yd x H
def Md.proto (X : Cx) (Yd : V → Hp → Prop) : Md → Protocol
  | .ls S => GY X S
  | .fs => FstY X Yd
def MI (X : Cx) (M : Md) (ip : List (Addr × Obj)) (ys : List V) (σ : L2.St) (H : Hp) (s : Shared) : Prop := ∃ P, M.pins ys P ∧ Inv X (P ++ ip) σ H s
structure MC (X : Cx) (M : Md) (ip : List (Addr × Obj)) (A : Around) (c : Code) (fs : List Frame) (gd : Bool → Bool) : Prop where
  own : ∀ S, M = .ls S → (∀ p ∈ X.pn, p.1 ≠ S) ∧ (∀ p ∈ ip, p.1 ≠ S) ∧ Apart X S
  around : A.over c fs = X.A
  split : splitAtGen fs = none
  guard : fs.any Frame.guarded = false
  gd : gd false = false
/-- what is wanted behind a statement; yd: of the first item, if it alone is wanted -/
structure GE where
  nx : List V → L2.St → Hp → Prop
  rt : List V → VK
  bk : List V → L2.St → Hp → Prop := fun _ _ _ => False
  ct : List V → L2.St → Hp → Prop := fun _ _ _ => False
  yd : V → Hp → Prop := fun _ _ => True
abbrev TM := GE → List V → L2.St → Hp → Prop
def GE.at (D : GE) (ys : List V) : Ends := { nx := D.nx ys, rt := D.rt ys, bk := D.bk ys, ct := D.ct ys }
def MSP (X : Cx) (M : Md) (ip : List (Addr × Obj)) (D : GE) (ys : List V) (f : Flow) (s : Shared) : Prop :=
  match f with
  | .next => ∃ σ H, MI X M ip ys σ H s ∧ D.nx ys σ H
  | .brk => ∃ σ H, MI X M ip ys σ H s ∧ D.bk ys σ H
  | .cont => ∃ σ H, MI X M ip ys σ H s ∧ D.ct ys σ H
  | .ret u => ∃ v σ H, MI X M ip ys σ H s ∧ RelV v u ∧ D.rt ys v H
structure MK (X : Cx) (M : Md) (ip : List (Addr × Obj)) (A : Around) (R : GenEnd) (c : Code) (fs : List Frame) (K : Flow → Sem PySem.Fin) (J : Value → Sem PySem.Fin) (D : GE) : Prop where
  ok : ∀ (n : Nat) (ys : List V) (s₀ s : Shared) (f : Flow), n + ys.length = sizeLine → MSP X M ip D ys f s → Seg (model X.prog X.w) A R (M.proto X D.yd) n s₀ c (K f) fs s
  exc : ∀ (n : Nat) (s₀ : Shared) (e : Value) (s : Shared), X.xe e s → Seg (model X.prog X.w) A R (M.proto X D.yd) n s₀ c (J e) fs s
structure MS (X : Cx) (st : Stmt) (t : TM) : Prop where
  run : ∀ (M : Md) (A : Around) (ip : List (Addr × Obj)) (R : GenEnd) (n : Nat) (ys : List V) (s₀ : Shared) (c : Code) (fs : List Frame) (K : Flow → Sem PySem.Fin) (J : Value → Sem PySem.Fin) (gd : Bool → Bool) (lv : List Value → List Value) (s : Shared) (σ : L2.St) (H : Hp) (D : GE),
    MC X M ip A c fs gd → n + ys.length = sizeLine → MK X M ip A R c fs K J D → MI X M ip ys σ H s → t D ys σ H →
    Seg (model X.prog X.w) A R (M.proto X D.yd) n s₀ c ((exec st X.env).wrap K J gd lv) fs s
structure MSs (X : Cx) (sts : List Stmt) (t : TM) : Prop where
  run : ∀ (M : Md) (A : Around) (ip : List (Addr × Obj)) (R : GenEnd) (n : Nat) (ys : List V) (s₀ : Shared) (c : Code) (fs : List Frame) (K : Flow → Sem PySem.Fin) (J : Value → Sem PySem.Fin) (gd : Bool → Bool) (lv : List Value → List Value) (s : Shared) (σ : L2.St) (H : Hp) (D : GE),
    MC X M ip A c fs gd → n + ys.length = sizeLine → MK X M ip A R c fs K J D → MI X M ip ys σ H s → t D ys σ H →
    Seg (model X.prog X.w) A R (M.proto X D.yd) n s₀ c ((execs sts X.env).wrap K J gd lv) fs s
section
variable {X : Cx} {st : Stmt} {rest : List Stmt}
/-! ### yield -/
/-! ### if -/
/-! ### for -/
/-- what for does behind a turn -/
def turnEnd (tg : Expr) (it : Value) (body : List Stmt) (env : Env) (f : Flow) : Sem PySem.Fin := match f with
  | .next | .cont => again (.forLoop tg it body [] env)
  | .brk => pure (.done .next)
  | .ret u => pure (.done (.ret u))
end
end FF
/-! Fivefault, part 69: list(g(..)) and the first item of g(..), g a generator def with for and if. -/
namespace FF
open PySem PySem.Spec PyProof.Rows L2 GenW
/-- the promise of a generator def of which the first item alone is taken: what is wanted at the end, of the first item, of an exception -/
abbrev SpF := List V → Hp → (Hp → Prop) → (V → Hp → Prop) → XK → Prop
def FEnd (P : Program) (w : World) (outer : List Env) (H : Hp) (s : Shared) (a : Addr) (g : Nat) (Qe : Hp → Prop) (E : XK) : GenEnd := fun _ _ r s1 =>
  ((r = .ok (.ret .none) ∨ r = .ok .next) ∧ ∃ H', s1.os = s.os ∧ AllBare s1.gens ∧ Un (frs outer) [] H H' s.heap s1.heap ∧ HOk P w H' s1.heap ∧ Qe H') ∨
  ∃ e, r = .error e ∧ (CX P w outer H s E e s1 ∧ s1.heap.IsGen a g)
def FItem (P : Program) (w : World) (outer : List Env) (H : Hp) (s : Shared) (Yd : V → Hp → Prop) : Protocol := fun _ _ v s1 _ =>
  ∃ x H', RelV x v ∧ s1.os = s.os ∧ AllBare s1.gens ∧ Un (frs outer) [] H H' s.heap s1.heap ∧ HOk P w H' s1.heap ∧ Yd x H'
def FMade (P : Program) (w : World) (k : Nat) (outer : List Env) (H : Hp) (s : Shared) (Qe : Hp → Prop) (Yd : V → Hp → Prop) (E : XK) (u : Value) (s' : Shared) : Prop :=
  ∃ (a : Addr) (g : Nat) (c : Code), u = .ref a ∧ s'.heap.IsGen a g ∧ s'.gens[g]? = some (.fresh c) ∧ s'.os = s.os ∧ AllBare s'.gens ∧ s'.heap.NoLimit ∧ (∀ b o, s.heap.get? b = some o → s'.heap.get? b = some o) ∧
    ∀ (A : Around) (s2 : Shared), Room k A → A.frames = some outer → (∀ b o, s'.heap.get? b = some o → s2.heap.get? b = some o) → s2.os = s.os → AllBare s2.gens →
      Seg (model P w) A (FEnd P w outer H s a g Qe E) (FItem P w outer H s Yd) sizeLine s2 c ((model P w).den c) [] s2
structure GFst (P : Program) (w : World) (K : PySem.W.Frag) (mg : Str → Option Value) (base : Heap) (k : Nat) (f : Addr) (fd : FuncData) (ps : List Str) (sp : SpF) : Prop where
  len : ∀ vs H Qe Yd E, sp vs H Qe Yd E → vs.length = ps.length
  run : ∀ (A : Around) (outer : List Env) (s : Shared) (H : Hp) (args : Args) (us : List Value) (vs : List V) (Qe : Hp → Prop) (Yd : V → Hp → Prop) (E : XK), Room k A → Env0 P w K mg base A outer s H → BindsTo s fd args (ps.zip us) → Vals vs us → sp vs H Qe Yd E →
    codeAny (model P w) A (.call (.ref f) args) (fun r s' => match r with
      | .ok (.ret u) => FMade P w k outer H s Qe Yd E u s'
      | _ => False) s
/-! ### the first item taken -/
structure PFst (X : Cx) (k : Nat) (e : Expr) (tg : L2.St → Hp → (Hp → Prop) → (V → Hp → Prop) → Prop) (E : XK) : Prop where
  run : ∀ (pins : List (Addr × Obj)) (s : Shared) (σ : L2.St) (H : Hp) (Qe : Hp → Prop) (Yd : V → Hp → Prop), Inv X pins σ H s → tg σ H Qe Yd → wpAny (model X.prog X.w) X.A (eval e X.env)
    (fun u s' => ∃ H1 sc, Inv X pins σ H1 sc ∧ FMade X.prog X.w k X.stack H1 sc Qe Yd E u s') X.xe s
end FF
/-! Fivefault, part 70: for x in g(..): return .. (the first item alone is taken). -/
namespace FF
open PySem PySem.Spec PyProof.Rows L2 GenW
end FF
/-! Fivefault, part 71: for inside a generator's body, by a walk. -/
namespace FF
open PySem PySem.Spec PyProof.Rows L2 GenW
/-- a generator def, of which the first item alone is taken -/
structure DefF (P : Program) (w : World) (K : PySem.W.Frag) (mg : Str → Option Value) (base : Heap) (x : Str) (k : Nat) (ps : List Str) (sp : SpF) : Prop where
  ex : ∃ (f : Addr) (fd : FuncData), GFst P w K mg base k f fd ps sp ∧ mg x = some (.ref f) ∧ PySem.W.keepIn K (.ref f) = true ∧ Binds K fd ps []
end FF
/-! Fivefault, part 72: exceptions that are no StopIteration. -/
namespace FF
open PySem PySem.Spec PyProof.Rows L2 GenW
end FF
/-! Fivefault, part 73: match: literals, names, alternatives, sequences over a tuple. -/
namespace FF
open PySem PySem.Spec PyProof.Rows L2
abbrev TP := V → L2.St → Hp → (Option (List V) → Hp → Prop) → Prop
abbrev TPs := List V → L2.St → Hp → (Option (List V) → Hp → Prop) → Prop
/-- what a pattern's match leaves: nothing bound, or the values of its names -/
def MP (X : Cx) (pins : List (Addr × Obj)) (σ : L2.St) (ns : List Str) (Q : Option (List V) → Hp → Prop) (r : Option (List (Str × Value))) (s' : Shared) : Prop := match r with
  | none => ∃ H', Inv X pins σ H' s' ∧ Q none H'
  | some bs => ∃ vs H', Inv X pins σ H' s' ∧ bs.map (·.1) = ns ∧ Vals vs (bs.map (·.2)) ∧ Q (some vs) H'
structure PPat (X : Cx) (p : Pattern) (ns : List Str) (t : TP) : Prop where
  run : ∀ (pins : List (Addr × Obj)) (s : Shared) (σ : L2.St) (H : Hp) (v : V) (u : Value) (Q : Option (List V) → Hp → Prop), Inv X pins σ H s → RelV v u → t v σ H Q →
    wpAny (model X.prog X.w) X.A (matchPattern p X.env u) (MP X pins σ ns Q) X.xe s
structure PPats (X : Cx) (ps : List Pattern) (ns : List Str) (t : TPs) : Prop where
  run : ∀ (pins : List (Addr × Obj)) (s : Shared) (σ : L2.St) (H : Hp) (vs : List V) (us : List Value) (Q : Option (List V) → Hp → Prop), Inv X pins σ H s → Vals vs us → t vs σ H Q →
    wpAny (model X.prog X.w) X.A (matchEach ps X.env us) (MP X pins σ ns Q) X.xe s
section
variable {X : Cx} {pos : Pos}
/-- names and their slots -/
inductive Bnd (X : Cx) : List Str → List Nat → Prop
  | nil : Bnd X [] []
  | cons {x : Str} {i : Nat} {ns : List Str} {is : List Nat} : X.N[i]? = some x → Loc X.env.scope x → (X.fn x = true ∨ X.env.scope.names.lookup x = some .local) → Bnd X ns is → Bnd X (x :: ns) (i :: is)
/-- the cases -/
structure PMs (X : Cx) (cs : List MatchCase) (t : V → TS) : Prop where
  run : ∀ (pins : List (Addr × Obj)) (s : Shared) (σ : L2.St) (H : Hp) (v : V) (u : Value) (first : Bool) (D : Ends), Inv X pins σ H s → RelV v u → t v D σ H → wpAny (model X.prog X.w) X.A (matchCases cs X.env u first) (SP X pins D) X.xe s
end
end FF
/-! Fivefault, part 74: an item of a list or a tuple. -/
namespace FF
open PySem PySem.Spec PyProof.Rows L2
end FF
/-! Fivefault, part 75: {e for .. in xs if ..} over a list or a tuple, texts. -/
namespace FF
open PySem PySem.Spec PyProof.Rows L2
end FF
/-! Fivefault, part 76: a law's def at its only call, from outside, where no repr is under way; repr of data. -/
namespace FF
open PySem PySem.Spec PyProof.Rows L2
/-- what a function does at the call from outside -/
structure FnTop (P : Program) (w : World) (K : PySem.W.Frag) (mg : Str → Option Value) (base : Heap) (CX : CXT) (f : Addr) (fd : FuncData) (ps : List Str) (sp : Sp) : Prop where
  run : ∀ (s : Shared) (H : Hp) (args : Args) (us : List Value) (vs : List V) (Q : VK) (E : XK), Env0 P w K mg base callerA [] s H → BindsTo s fd args (ps.zip us) → Vals vs us → sp vs H Q E →
    codeAny (model P w) callerA (.call (.ref f) args) (CR CX [] P w H s Q E) s
end FF
/-! Fivefault, part 77: sorted(d), d a dict with whole numbers as keys. -/
namespace FF
open PySem PySem.Spec PyProof.Rows L2
end FF
/-! Fivefault, part 78: sorted(xs), whole numbers, any number of them. -/
namespace FF
open PySem PySem.Spec PyProof.Rows L2
end FF
/-! Fivefault, part 79: isinstance of dicts, too; != of dicts and of lists of different lengths; [e for x in z], z a text, told by the place. -/
namespace FF
open PySem PySem.Spec PyProof.Rows L2
section
variable {te : TE} {vs : List Nat} {j D : Nat} {σ : L2.St} {H1 : Hp} {Qd : Hp → Prop}
end
end FF
/-! Fivefault, part 80: g(e, .., k = v), g a generator def; a def by two promises. -/
namespace FF
open PySem PySem.Spec PyProof.Rows L2
section
variable {X : Cx} {k n : Nat} {f : Addr} {fd : FuncData} {ps ks : List Str} {sp : SpG} {E : XK} {x : Str} {p pos : Pos} {e : Expr} {es : List Expr} {t : TA} {kws : List Keyword} {tk : TA} {g : List Value → List Value → List Value} {gV : List V → List V → List V}
end
end FF
/-! Fivefault, part 81: the Hook that walks the heap with a set of bits (less memory). -/
namespace FF
open PySem PySem.Spec PyProof.Rows L2
/-- the addresses of a list that are not in the set m yet (ahead of acc), and the set with them -/
def freshA : List Addr → Nat → List Addr → List Addr × Nat
  | [], m, acc => (acc, m)
  | a :: as, m, acc => match Nat.beq (Nat.land (Nat.shiftRight m a) 1) 1 with
    | true => freshA as m acc
    | false => freshA as (Nat.lor m (Nat.shiftLeft 1 a)) (a :: acc)
def refsA (g : Addr → Option Obj) (as : List Addr) : List Addr := as.flatMap fun a => match g a with
  | some o => He.refsD o
  | none => []
/-- what is reached in n rounds; f: the last round's, m: the set of all so far -/
def reachA (g : Addr → Option Obj) : Nat → List Addr × Nat → List Addr
  | 0, p => p.1
  | n + 1, p => p.1 ++ reachA g n (freshA (refsA g p.1) p.2 [])
def asB (g : Addr → Option Obj) (n : Nat) : List Addr := reachA g n ([mainGlobals, PySem.cStatics], Nat.lor (Nat.shiftLeft 1 mainGlobals) (Nat.shiftLeft 1 PySem.cStatics))
def obsW (n : Nat) (fa : List He.Fa) (fn : List He.DefD) (fp : List GetD) (tf : List He.Defn) (ex : PySem.W.Frag → Bool) (g : Addr → Option Obj) : AlZ :=
  (fun K => ((He.obsT fa fn [] K, ex K && He.tabsB g tf K), (fp.all fun q => q.ok K, fp.map fun q => fnWa K (q.ad K)))) (He.frT g (asB g n))
theorem saysW_of {n : Nat} {fa : List He.Fa} {fn : List He.DefD} {fp : List GetD} {tf : List He.Defn} {ex : PySem.W.Frag → Bool} {w : World} {h : Heap} (e : obsW n fa fn fp tf ex h.get? = valZ fn fp w) : SaysZ fa fn fp tf ex w h (He.frT h.get? (asB h.get? n)) := by
  have e1 : ((He.obsT fa fn [] (He.frT h.get? (asB h.get? n)), ex (He.frT h.get? (asB h.get? n)) && He.tabsB h.get? tf (He.frT h.get? (asB h.get? n))) : He.AlX) = He.valX fn [] w := congrArg (fun z : AlZ => z.1) e
  exact ⟨saysY_of e1, congrArg (fun z : AlZ => z.2.1) e, congrArg (fun z : AlZ => z.2.2) e⟩
def hookW (n : Nat) (fa : List He.Fa) (fn : List He.DefD) (fp : List GetD) (tf : List He.Defn) (ex : PySem.W.Frag → Bool) : PySem.W.Hook where
  α := AlZ
  obs := fun s => obsW n fa fn fp tf ex s.heap.get?
  val := fun w => valZ fn fp w
  says := fun w h => ∃ K : PySem.W.Frag, K.In h ∧ SaysZ fa fn fp tf ex w h K
  of := fun _ _ e => ⟨_, He.frT_in, saysW_of e⟩
  keeps := fun _ _ _ ⟨K, hK, c⟩ k => ⟨K, PySem.W.Frag.In.keeps hK k, ⟨⟨c.x.t, c.x.more, c.x.hd, c.x.out, fun p hp => k _ _ (c.x.empty p hp)⟩, c.b, c.v⟩⟩
theorem obsW_eq {n : Nat} {fa : List He.Fa} {fn : List He.DefD} {fp : List GetD} {tf : List He.Defn} {ex : PySem.W.Frag → Bool} {g : Addr → Option Obj} {s : Shared} (h : ∀ a, g a = s.heap.get? a) : obsW n fa fn fp tf ex g = (hookW n fa fn fp tf ex).obs s := by
  have e : g = s.heap.get? := funext h
  rw [e] <;> rfl
end FF
/-! Fivefault, part 82: x[i:] of a text or a tuple, for over it; while c and (x := e) is not None. -/
-- imports HandS.Flow
namespace FF
open PySem PySem.Spec PyProof.Rows L2
section

end
end FF
/-! Fivefault, part 83: dict(zip(xs, ys)), xs a list of texts. -/
namespace FF
open PySem PySem.Spec PyProof.Rows L2
end FF
/-! Fivefault, part 84: a dict of texts at the top: the run by two cases, a Hook that tells the dict, in and [] of it. -/
namespace FF
open PySem PySem.Spec PyProof.Rows L2
/-! ### a written dict of ints with text keys -/
structure KTab (K : PySem.W.Frag) (w : World) (d : Addr) (kvs : List (Str × Int)) : Prop where
  kd : ∃ es n, KDict K w d es n
  yes : ∀ q ∈ kvs, ∃ u, PySem.W.nsIn K d q.1 = some (some u) ∧ RelV (.int q.2) u
  no : ∀ z, (∀ q ∈ kvs, q.1 ≠ z) → PySem.W.nsIn K d z = some none
theorem dicW_at {K : PySem.W.Frag} {P : Params} {a : Addr} {ks : List Str} (h : He.dicW K a = some (He.keysIn P ks)) : ∃ es n, K.lookup a = some ⟨.type "dict", none, .dict es n, #[]⟩ ∧ es.toList.map He.keyOf = He.keysIn P ks := by
  unfold He.dicW at h
  cases q : K.lookup a with
  | none =>
    rw [q] at h
    cases h
  | some o =>
    obtain ⟨oc, od, dt, osl⟩ := o
    rw [q] at h
    cases oc with
    | type c =>
      cases od with
      | none =>
        cases dt with
        | dict es n =>
          have h1 : (match decide (c = "dict") && (osl.isEmpty && !(a == sysModules)) with
            | true => some (es.toList.map He.keyOf)
            | false => none) = some (He.keysIn P ks) := h
          cases z : decide (c = "dict") && (osl.isEmpty && !(a == sysModules)) with
          | false =>
            rw [z] at h1
            cases h1
          | true =>
            rw [z] at h1
            obtain ⟨z1, z2⟩ := He.ba z
            obtain ⟨z3, _⟩ := He.ba z2
            have e1 : c = "dict" := of_decide_eq_true z1
            have e2 : osl = #[] := Array.isEmpty_iff.mp z3
            subst e1 e2
            exact ⟨es, n, rfl, Option.some.inj h1⟩
        | _ => cases h
      | some b => cases dt <;> cases h
    | _ => cases od <;> cases dt <;> cases h
theorem keys_lit {P : Params} : ∀ {l : List DictEntry} {ks : List Str}, l.map He.keyOf = He.keysIn P ks → ∀ e ∈ l, ∃ k ∈ ks, ∃ t, e.key = .str k t
  | [], _, _, _, he => by cases he
  | e :: r, [], h, _, _ => by cases h
  | e :: r, k :: ks, h, e', he => by
    have h1 : He.keyOf e :: r.map He.keyOf = some (k, PyData.keyHash P k) :: He.keysIn P ks := h
    injection h1 with h2 h3
    rcases List.mem_cons.mp he with rfl | he
    · unfold He.keyOf at h2
      split at h2
      · rename_i x t q
        have h4 := Option.some.inj h2
        obtain ⟨h5, _⟩ := Prod.mk.inj h4
        exact ⟨k, List.mem_cons_self, t, by rw [q, h5]⟩
      · cases h2
    · obtain ⟨k', hk, t, e⟩ := keys_lit h3 e' he
      exact ⟨k', List.mem_cons_of_mem _ hk, t, e⟩
theorem ktab_of {K : PySem.W.Frag} {w : World} {d : Addr} {kvs : List (Str × Int)} (h : He.dicW K d = some (He.keysIn w.params (kvs.map Prod.fst))) (hv : He.valsB K d (kvs.map fun q => (q.1, He.Dv.int q.2)) = true) : KTab K w d kvs := by
  refine ⟨He.dicW_ok h, fun q hq => ?_, fun z hz => ?_⟩
  · exact He.valsB_ok hv (List.mem_map.mpr ⟨q, hq, rfl⟩)
  · obtain ⟨es, n, hl, hk⟩ := dicW_at h
    have lit := keys_lit hk
    unfold PySem.W.nsIn
    rw [hl]
    have h1 : es.toList.find? (·.key.isStr z) = none := List.find?_eq_none.mpr fun e he hs => by
      obtain ⟨k, hkm, t, ek⟩ := lit e he
      obtain ⟨q, hq, rfl⟩ := List.mem_map.mp hkm
      rw [ek] at hs
      exact hz q hq (by simpa [Value.isStr] using hs)
    have h2 : (es.toList.any (·.refKey)) = false := List.any_eq_false.mpr fun e he hs => by
      obtain ⟨k, hkm, t, ek⟩ := lit e he
      rw [show e.refKey = false by unfold DictEntry.refKey; rw [ek]] at hs
      cases hs
    dsimp only
    rw [h1, h2] <;> rfl
/-! ### the Hook -/
abbrev KT : Type := Str × List (Str × Int)
structure SaysV (fa : List He.Fa) (fn : List He.DefD) (fp : List GetD) (ts : List KT) (tf : List He.Defn) (ex : PySem.W.Frag → Bool) (w : World) (h : Heap) (K : PySem.W.Frag) : Prop where
  z : SaysZ fa fn fp tf ex w h K
  d : ts.map (fun t => He.dicW K (He.ga K t.1)) = ts.map fun t => some (He.keysIn w.params (t.2.map Prod.fst))
theorem SaysV.tab {fa : List He.Fa} {fn : List He.DefD} {fp : List GetD} {ts : List KT} {tf : List He.Defn} {ex : PySem.W.Frag → Bool} {w : World} {h : Heap} {K : PySem.W.Frag} (c : SaysV fa fn fp ts tf ex w h K) (i : Nat) {t : KT} (hv : He.valsB K (He.ga K t.1) (t.2.map fun q => (q.1, He.Dv.int q.2)) = true) (hi : ts[i]? = some t := by rfl) : KTab K w (He.ga K t.1) t.2 := by
  have e2 : (ts.map fun t => He.dicW K (He.ga K t.1))[i]? = (ts.map fun t => some (He.keysIn w.params (t.2.map Prod.fst)))[i]? := by rw [c.d]
  rw [List.getElem?_map, List.getElem?_map, hi] at e2
  exact ktab_of (Option.some.inj e2) hv
end FF
-- imports KE.KSuperObj
-- imports HandS.More
/-! Fivefault, part 85: a method that begins with super().__init__(..). -/
namespace FF
open PySem PySem.Spec PyProof.Rows L2
/-- the frame of a def with one cell: its class -/
abbrev sEnv (qual : Str) (scope : Scope) (L f : Addr) (cd : Value) (cc : Addr) : Env := PySem.W.envX qual scope L f cd [("__class__", cc)]
/-- names of such a def: its own are local, __class__ is free, super is global -/
structure SupScope (N P : List Str) (sc : Scope) : Prop where
  kind : sc.kind = .function
  co : sc.isCoroutine = false
  gen : sc.isGenerator = false
  nd : N.Nodup
  pre : N.take P.length = P
  par : ∀ x ∈ P, sc.names.lookup x = some .local
  nocell : ∀ y ∈ sc.names, y.2 ≠ .cell
  free : ∀ y ∈ sc.names, y.2 = .free → y.1 = "__class__"
  sup : sc.names.lookup ("super" : Str) = some .globalImplicit
  cls : sc.names.lookup ("__class__" : Str) = some .free
/-- such a def as it stands behind the top -/
structure FunS (P : Program) (K : PySem.W.Frag) (x qual : Str) (params : Arguments) (body : List Stmt) (scope : Scope) (f cc D : Addr) (fd : FuncData) : Prop where
  ex : ∃ (oc : Value) (od : Option Addr) (kV doc pm : Value) (an : Option Addr) (cda : Addr) (ct : Value) (osl : Array (Option Value)) (ccl : Value) (cdd : Option Addr) (vs : Array Value) (ccs : Array (Option Value)) (file : Str) (tf : Tok),
    fd = PySem.W.fnX x qual params body scope [("__class__", cc)] .none kV doc pm an (.ref cda) ct ∧ K.lookup f = some ⟨oc, od, .func fd, osl⟩ ∧ PySem.W.codeIn K (.ref cda) qual = true ∧
    K.lookup cda = some ⟨ccl, cdd, .fields vs, ccs⟩ ∧ vs[2]? = some (.str file tf) ∧ ((P.main.file : Str) == file) = true
  cell : ∃ (cl : Value) (cld : Option Addr) (csl : Array (Option Value)), K.lookup cc = some ⟨cl, cld, .cell (some (.ref D)), csl⟩
/-- the context of its body -/
def cxS (CX : CXT) (P : Program) (w : World) (K : PySem.W.Frag) (mg : Str → Option Value) (base : Heap) (N : List Str) (qual : Str) (scope : Scope) (f : Addr) (cd : Value) (cc : Addr) (A : Around) (outer : List Env) (s : Shared) (H : Hp) (E : XK) : Cx where
  prog := P
  w := w
  K := K
  mg := mg
  base := base
  A := A.deeper (sEnv qual scope s.heap.objs.size f cd cc)
  N := N
  s_0 := s
  H_0 := H
  env := sEnv qual scope s.heap.objs.size f cd cc
  outer := outer
  stack := sEnv qual scope s.heap.objs.size f cd cc :: outer
  ex := []
  calm := true
  fn := fun x => x != "__class__"
  pn := []
  xe := fun e s' => wpAny (model P w) (A.deeper (sEnv qual scope s.heap.objs.size f cd cc)) (leaving (sEnv qual scope s.heap.objs.size f cd cc) e) (fun _ s'' => CX outer H s E e s'') (fun e' s'' => CX outer H s E e' s'') s'
theorem one_cell {x : Str} {cc c : Addr} (h : ([("__class__", cc)] : List (Str × Addr)).lookup x = some c) : x = "__class__" ∧ c = cc := by
  rw [List.lookup_cons] at h
  by_cases e : (x == ("__class__" : Str)) = true
  · rw [e] at h
    cases h
    exact ⟨beq_iff_eq.mp e, rfl⟩
  · rw [Bool.eq_false_iff.mpr e] at h
    cases h
theorem lookup_nodup {x : Str} {u : Value} : ∀ {l : List (Str × Value)}, (l.map Prod.fst).Nodup → (x, u) ∈ l → l.lookup x = some u
  | [], _, h => nomatch h
  | (y, v) :: r, hn, h => by
    rw [List.lookup_cons]
    rw [List.map_cons] at hn
    have h1 := List.nodup_cons.mp hn
    rcases List.mem_cons.mp h with e | h2
    · cases e
      rw [beq_self_eq_true]
    · have hne : (x == y) = false := by
        rw [beq_eq_false_iff_ne]
        rintro rfl
        exact h1.1 (List.mem_map.mpr ⟨(x, u), h2, rfl⟩)
      rw [hne]
      exact lookup_nodup h1.2 h2
theorem zip_rev {ps : List Str} {us : List Value} {i : Nat} {x : Str} {u : Value} (hn : ps.Nodup) (hl : us.length = ps.length) (hp : ps[i]? = some x) (hu : us[i]? = some u) : (ps.zip us).reverse.lookup x = some u := by
  refine lookup_nodup ?_ ?_
  · rw [List.map_reverse, (List.reverse_perm _).nodup_iff, show (ps.zip us).map Prod.fst = ps from by rw [List.map_fst_zip (by omega)]]
    exact hn
  · rw [List.mem_reverse]
    exact List.mem_iff_getElem?.mpr ⟨i, by rw [List.getElem?_zip_eq_some]; exact ⟨hp, hu⟩⟩
section
variable {CX : CXT} {P : Program} {w : World} {K : PySem.W.Frag} {mg : Str → Option Value} {base : Heap} {N ps : List Str} {x qual : Str} {params : Arguments} {body : List Stmt} {scope : Scope} {f cc D : Addr} {fd : FuncData} {cd : Value} {A : Around} {outer : List Env} {s : Shared} {H : Hp} {E : XK} {us : List Value} {vs : List V}
theorem inv_startS (S : SupScope N ps scope) {cl : Value} {cld : Option Addr} {csl : Array (Option Value)} (hc : K.lookup cc = some ⟨cl, cld, .cell (some (.ref D)), csl⟩) (hd : A.handled = none) (e0 : Env0 P w K mg base A outer s H) (hl : vs.length = ps.length) (r : Vals vs us)
    {h₁ : Heap} {tk : Nat} (hns : h₁.Ns s.heap.objs.size fun y => (ps.zip us).reverse.lookup y) (kp : ∀ b o, s.heap.get? b = some o → h₁.get? b = some o) :
    Inv (cxS CX P w K mg base N qual scope f cd cc A outer s H E) [] (start N vs) H { s with heap := h₁, toks := tk } := by
  have hpl : ps.length ≤ N.length := by have := congrArg List.length S.pre; rw [List.length_take] at this; omega
  have noA : ∀ b : Addr, b ∉ (cxS CX P w K mg base N qual scope f cd cc A outer s H E).ex := fun b z => absurd (show b ∈ ([] : List Addr) from z) (by simp)
  have hb : base.get? cc = some ⟨cl, cld, .cell (some (.ref D)), csl⟩ := e0.mod.kin _ _ hc
  have hul : us.length = ps.length := by rw [← r.length]; exact hl
  have ndP : ps.Nodup := by rw [← S.pre]; exact S.nd.sublist (List.take_sublist _ _)
  refine ⟨⟨e0.mod, S.kind, rfl, rfl, Nat.le_refl _, fun y z c h1 h2 => ?_, fun y hy => ?_, fun y c h1 h2 => ?_, fun _ => hd, Around.frames_deeper e0.frames, .inr ⟨rfl, rfl⟩, fun b z => absurd z (noA b), e0.bs, e0.bsz, fun b _ _ => noA b, fun b z => absurd z (noA b), e0.funs, e0.frf⟩,
    rfl, e0.bare, Un.kept kp, ⟨_, hns, fun i y v h1 h2 h3 => ?_⟩, fun y c h => ?_, e0.hok.fresh (Nat.le_refl _), fun y c h => ?_, fun p hp => absurd (show p ∈ ([] : List (Addr × Obj)) ++ [] from hp) (by simp), e0.hok.kept kp, ?_⟩
  · rw [(one_cell h1).1, (one_cell h2).1]
  · have hy : scope.names.lookup y = some .cell ∨ scope.names.lookup y = some .free := hy
    rcases hy with hy | hy
    · exact absurd rfl (S.nocell _ (PySem.mem_of_lookup hy))
    · have := S.free _ (PySem.mem_of_lookup hy) rfl
      refine ⟨cc, ?_⟩
      show ([("__class__", cc)] : List (Str × Addr)).lookup y = some cc
      rw [show y = "__class__" from this] <;> rfl
  · have h1 : (y != ("__class__" : Str)) = true := h1
    rw [(one_cell h2).1] at h1
    cases h1
  · have hi : i < vs.length := by
      unfold L2.start at h2
      by_cases hi : i < vs.length
      · exact hi
      · rw [List.getElem?_append_right (by simpa using hi)] at h2
        rw [List.getElem?_replicate] at h2
        split at h2 <;> cases h2
    have ha : vs[i]? = some v := by
      unfold L2.start at h2
      rw [List.getElem?_append_left (by simpa using hi), List.getElem?_map] at h2
      cases e : vs[i]? with
      | none => rw [e] at h2; cases h2
      | some a => rw [e] at h2; cases h2; rfl
    obtain ⟨u, hu, rv⟩ := r.get ha
    have hp : ps[i]? = some y := by
      rw [← S.pre, List.getElem?_take_of_lt (by omega)]; exact h1
    exact ⟨u, rv, .inl ⟨S.par y (List.mem_of_getElem? hp), zip_rev ndP hul hp hu⟩⟩
  · exact ⟨_, _, kp _ _ (e0.bs _ _ (by rw [(one_cell h).2]; exact hb)).1, rfl⟩
  · rw [(one_cell h).2]
    exact (e0.bs _ _ hb).2
  · unfold L2.start
    show _ = N.length
    rw [List.length_append, List.length_map, List.length_replicate]
    omega
end
/-- what the class and its base tell; f2: the base's __init__ -/
structure SupOf (P : Program) (K : PySem.W.Frag) (mg : Str → Option Value) (D f2 : Addr) : Prop where
  cls : ∃ cdD, PySem.W.clsIn K D = some cdD
  sub : PySem.W.mroIn K D (.ref D) = some true
  sup : PySem.W.ks_superIn K D D "__init__" = some (some (.ref f2))
  fn : PySem.W.fnIn K f2 = true
  ty : PySem.W.typeIn K (.ref f2) = some (.type "function")
  st : PySem.W.nsIn K PySem.cStatics "thirdparty.any" = some none
  no : mg "super" = none
  top : (P.main.scope.names.lookup ("super" : Str)).isSome = false
section
variable {CX : CXT} {P : Program} {w : World} {K : PySem.W.Frag} {mg : Str → Option Value} {base : Heap} {N ps ps2 : List Str} {x qual : Str} {params : Arguments} {scope : Scope} {f cc D f2 : Addr} {fd fd2 : FuncData} {k : Nat} {sp sp2 : Sp} {e : Expr} {es : List Expr} {rest : List Stmt} {p0 p1 p2 p3 p4 : Pos} {ar : Arg}
theorem FunS.ok (F : FunS P K x qual params (.Expr (.Call (.Attribute (.Call (.Name "super" p0) [] [] p1) "__init__" p2) (e :: es) [] p3) p4 :: rest) scope f cc D fd) (S : SupScope N ps scope) (U : SupOf P K mg D f2)
    (har : (params.posonlyargs ++ params.args).head? = some ar) (har0 : ps[0]? = some ar.arg) (F2 : FnOk P w K mg base CX k f2 fd2 ps2 sp2) (hb2 : Binds K fd2 ps2 [])
    (hst : ∀ env : Env, starEach (e :: es) env = (false, eval e env) :: starEach es env) (hpl : ∀ env : Env, (backTo p3 (starEach es env)).any (·.1) = false)
    {pl : Env → Sem Bool} (hev : ∀ env : Env, eval (.Call (.Attribute (.Call (.Name "super" p0) [] [] p1) "__init__" p2) (e :: es) [] p3) env = (do
      let ov ← attributeBase (.Call (.Name "super" p0) [] [] p1) "__init__" env (eval (.Call (.Name "super" p0) [] [] p1) env)
      standAt p2.atName
      let (f, first) ← holding [ov] (getMethod ov "__init__" (pl env))
      callWith p3 f first (backTo p3 (starEach (e :: es) env)) []))
    (len : ∀ vs H Q E, sp vs H Q E → vs.length = ps.length)
    (hbody : ∀ (cdv : Value) (A : Around) (outer : List Env) (s : Shared) (H : Hp) (vs : List V) (Q : VK) (E : XK), Room k (A.deeper (sEnv qual scope s.heap.objs.size f cdv cc)) → sp vs H Q E →
      ∃ (a dx : Addr) (fs : List (Str × V)) (E2 : XK) (ta : TA) (t : TS), vs[0]? = some (.ref a) ∧ H a = some (.ins D dx fs) ∧ Passes CX (cxS CX P w K mg base N qual scope f cdv cc A outer s H E) E2 ∧
        PA (cxS CX P w K mg base N qual scope f cdv cc A outer s H E) (e :: es) ta ∧ PSs (cxS CX P w K mg base N qual scope f cdv cc A outer s H E) rest t ∧
        ta (L2.start N vs) H fun us H1 => sp2 (.ref a :: us) H1 (fun _ H2 => t { nx := fun _ H' => Q .non H', rt := Q } (L2.start N vs) H2) E2) : FnOk P w K mg base CX (k + 1) f fd ps sp := by
  refine ⟨len, fun A outer s H args us vs Q E hr e0 hb r hsp => ?_⟩
  have hl := len _ _ _ _ hsp
  have KX : K.In s.heap := e0.mod.kin.keeps fun b o e => (e0.bs b o e).1
  have lim : s.heap.NoLimit := e0.mod.nolimit.keeps fun b o e => (e0.bs b o e).1
  obtain ⟨oc, od, kV, doc, pm, an, cda, ct, osl, ccl, cdd, vs2, ccs, file, tf, rfl, lk, hcd, hcode, hvs, hfile⟩ := F.ex
  obtain ⟨cl, cld, csl, hcell⟩ := F.cell
  obtain ⟨cdD, hcdD⟩ := U.cls
  have hul : us.length = ps.length := by rw [← r.length]; exact hl
  refine PySem.ks_codeAny_call_defAt (binds := ps.zip us) hr.depth (KX _ _ lk) rfl lim (PySem.W.codeRec_of KX hcd) rfl hb S.nocell (fun y hy => S.par y.1 (List.of_mem_zip hy).1) (fun h₀ hns kp => ?_) S.co S.gen S.kind
  obtain ⟨a, dx, fs, E2, ta, t, hv0, hia, hx, hta, ht, hq⟩ := hbody (.ref cda) A outer s H vs Q E (hr.deeper _) hsp
  have I0 : Inv (cxS CX P w K mg base N qual scope f (.ref cda) cc A outer s H E) [] (L2.start N vs) H { s with heap := h₀, toks := s.toks + (ps.zip us).length } := inv_startS S hcell hr.hd e0 hl r hns kp
  have K0 : K.In h₀ := I0.kIn
  refine PySem.ks_wpAt_mono (Q := SP (cxS CX P w K mg base N qual scope f (.ref cda) cc A outer s H E) [] { nx := fun _ H' => Q .non H', rt := Q }) (E := (cxS CX P w K mg base N qual scope f (.ref cda) cc A outer s H E).xe) ?_ (fun fl s' hs => ?_) (fun _ _ h => h)
  rotate_left
  · have fin : ∀ {σ' : L2.St} {H' : Hp} {v : V} {u : Value}, Inv (cxS CX P w K mg base N qual scope f (.ref cda) cc A outer s H E) [] σ' H' s' → RelV v u → Q v H' → CE outer P w H s Q u s' :=
      fun {σ' H' v u} J rv q => ⟨v, H', J.os, J.bare, J.base, J.hok, rv, q⟩
    cases fl with
    | ret u =>
      obtain ⟨v, σ', H', J, rv, q⟩ := hs
      exact fin J rv q
    | next =>
      obtain ⟨σ', H', J, q⟩ := hs
      exact fin (v := V.non) (u := Value.none) J rfl q
    | brk =>
      obtain ⟨_, _, _, q⟩ := hs
      exact False.elim q
    | cont =>
      obtain ⟨_, _, _, q⟩ := hs
      exact False.elim q
  have hint : interactive (sEnv qual scope s.heap.objs.size f (.ref cda) cc) = false := by
    show (scope.kind == .module && _) = false
    rw [S.kind] <;> rfl
  refine PySem.ks_wpAt_execs_cons (PySem.ks_wpAt_Expr_any (PySem.ks_wpAt_MethodCall (PySem.ks_wpAt_super_base S.sup S.cls (by decide) rfl (K0 _ _ lk) rfl har rfl (K0 _ _ hcode) rfl hvs hfile U.top ?_) (hev _)) (hi := hint))
  obtain ⟨mb, b1, b2⟩ := I0.mod.blt
  refine PySem.W.ks_loadName_global S.kind S.sup (Calls.loadGlobal_builtin (I0.mod.glob.keeps I0.bk) U.no (b1.keeps I0.bk) ((b2 "super" (by decide)).trans (show bootBuiltins "super" = some (.type "super") by rfl)) ⟨rfl, ?_⟩)
  refine wpAny_loadName_free S.kind S.cls rfl ⟨_, K0 _ _ hcell, rfl⟩ ?_
  obtain ⟨m, hn, hlk⟩ := I0.loc
  have hp0 : (ps.length : Nat) ≠ 0 := fun z => by
    rw [List.length_eq_zero_iff.mp z] at har0
    cases har0
  have hN0 : N[0]? = some ar.arg := by
    rw [← S.pre, List.getElem?_take_of_lt (by omega)] at har0
    exact har0
  have hs0 : (L2.start N vs)[0]? = some (some (V.ref a)) := by
    unfold L2.start
    rw [List.getElem?_append_left (by rw [List.length_map]; omega), List.getElem?_map, hv0] <;> rfl
  have hloc := S.par _ (List.mem_of_getElem? har0)
  obtain ⟨u, rv, look⟩ := hlk 0 ar.arg (.ref a) hN0 hs0 (.inl hloc)
  obtain rfl : u = Value.ref a := rv
  have hm : m ar.arg = some (.ref a) := by
    rcases look with ⟨_, hm⟩ | ⟨hk, _⟩
    · exact hm
    · have hk : scope.names.lookup ar.arg = some .cell ∨ scope.names.lookup ar.arg = some .free := hk
      rw [hloc] at hk
      rcases hk with hk | hk <;> cases hk
  refine wpAny_loadName_local S.kind hloc hn hm ?_
  obtain ⟨oD, hD1, hD2⟩ : ∃ oD, h₀.get? D = some oD ∧ oD.data = .cls cdD := by
    unfold PySem.W.clsIn at hcdD
    split at hcdD
    · rename_i c d cd' sl ho
      cases hcdD
      exact ⟨_, K0 _ _ ho, rfl⟩
    · cases hcdD
  refine PySem.ks_wpAny_isType_cls hD1 hD2 ⟨rfl, ?_⟩
  obtain ⟨mA, O, _, _, _, _⟩ := ins_get I0.hok hia
  obtain ⟨odA, J, _⟩ := O.look
  refine PySem.ks_wpAny_call_super hD1 hD2 J.at_ J.cls (fun c e => ?_) (PySem.W.looks_mroIn K0 U.sub) (fun h' e1 kp1 => ?_)
  · have := J.no
    unfold PySem.W.notCls at this
    rw [e] at this
    exact Bool.noConfusion this
  have I1 := I0.kept (t' := s.toks + (ps.zip us).length) kp1
  have K1 : K.In h' := I1.kIn
  obtain ⟨of2, hof, hofc⟩ : ∃ of2, h'.get? f2 = some of2 ∧ of2.cls = .type "function" := by
    have ht' : (K.lookup f2).map (·.cls) = some (.type "function") := U.ty
    cases z : K.lookup f2 with
    | none => rw [z] at ht'; cases ht'
    | some o2 => rw [z] at ht'; exact ⟨o2, K1 _ _ z, Option.some.inj ht'⟩
  have hal : PySem.W.alongIn K "__init__" ((cdD.mro.dropWhile (· != .ref D)).drop 1) = some (some (.ref f2)) := by
    have := U.sup
    unfold PySem.W.ks_superIn at this
    rw [hcdD] at this
    exact this
  refine PySem.ks_wpAny_getMethod_super (l₀ := cdD.mro) e1 (PySem.W.looks_opaque K1 U.st) (fun A Q E s k q => wpAny_bind ((PySem.W.looks_clsIn K1 hcdD) A _ E s k (wpAny_pure q))) rfl K1 hal hof hofc (PySem.W.ks_ne K0 J hcdD) (by decide) ?_
  have I2 := (I1.kept (h' := h'.push (PySem.W.methodObj (.ref f2) (.ref a))) (t' := s.toks + (ps.zip us).length + 1) fun b u z => Heap.get?_push_of_some _ z)
  have I2p : Inv (cxS CX P w K mg base N qual scope f (.ref cda) cc A outer s H E) [(h'.objs.size, PySem.W.methodObj (.ref f2) (.ref a))] (L2.start N vs) H { s with heap := h'.push (PySem.W.methodObj (.ref f2) (.ref a)), toks := s.toks + (ps.zip us).length + 1 } := by
    refine I2.pins_of fun p hp => ?_
    rw [List.mem_singleton.mp hp]
    refine ⟨Heap.get?_push_size _ rfl, I1.hok.fresh (Nat.le_refl _), fun z => absurd I1.lt (by rw [← z]; exact Nat.lt_irrefl _), I1.nofs (Nat.le_refl _), fun v z => by cases z⟩
  dsimp only
  rw [hst]
  refine PySem.W.callWith_of (P := PySem.W.MethP K h'.objs.size f2 (.ref a)) (by show ((false || (backTo p3 (starEach es _)).any (·.1)) || false) = false; rw [hpl]; rfl) (PySem.W.keeps_M U.fn) (Calls.evalArgs_plain ?_)
  have hrun := hta.run p3 _ _ _ _ _ I2p hq
  rw [hst] at hrun
  refine thn hrun fun us3 s3 ⟨vs3, H3, I3, r3, q3⟩ => ⟨⟨(I3.pin _ (List.mem_append_right _ List.mem_cons_self)).1, I3.kIn⟩, ?_⟩
  have r4 : Vals (V.ref a :: vs3) (Value.ref a :: us3) := .cons rfl r3
  have hlen2 : (Value.ref a :: us3 ++ []).length = ps2.length := by
    rw [List.append_nil, ← r4.length]
    exact F2.len _ _ _ _ q3
  have hbt := hb2 s3 (Value.ref a :: us3) I3.kIn hlen2
  rw [List.append_nil] at hbt
  refine wpAny_call (codeAny_mono (PySem.W.method_call (I3.pin _ (List.mem_append_right _ List.mem_cons_self)).1 (F2.run _ _ s3 H3 ⟨Value.ref a :: us3, []⟩ (Value.ref a :: us3) (V.ref a :: vs3) _ E2 (hr.deeper _) I3.env0 hbt r4 q3)) fun r s' hq' => ?_)
  cases r with
  | error e => exact hx _ _ _ _ e s' I3 hq'
  | ok fl =>
    cases fl with
    | ret u =>
      obtain ⟨v, H4, I4, rv4, q4⟩ := I3.after hq'
      exact _root_.PySem.wpAt_of_wpAny (ht.run [] s' _ H4 _ (I4.pins_of fun p hp => absurd hp (by simp)) q4)
    | next => exact False.elim hq'
    | brk => exact False.elim hq'
    | cont => exact False.elim hq'
end
end FF
namespace FF
open PySem PySem.Spec PyProof.Rows L2
/-- every parameter is given -/
theorem FunS.binds {P : Program} {K : PySem.W.Frag} {x qual : Str} {params : Arguments} {body : List Stmt} {scope : Scope} {f cc D : Addr} {fd : FuncData} {ps : List Str} (F : FunS P K x qual params body scope f cc D fd)
    (h : ∀ (kV doc pm : Value) (an : Option Addr) (cdv ct : Value) (us : List Value), us.length = ps.length → bindArgs (PySem.W.fnX x qual params body scope [("__class__", cc)] .none kV doc pm an cdv ct) ⟨us, []⟩ = pure (ps.zip us)) : Binds K fd ps [] := by
  obtain ⟨oc, od, kV, doc, pm, an, cda, ct, osl, ccl, cdd, vs, ccs, file, tf, rfl, _⟩ := F.ex
  exact Binds.all fun us hl => h kV doc pm an _ ct us hl
/-! ### the Hook: defs with their class's cell -/
structure SupD where
  cls : Str
  m : Str
  qual : Str
  params : Arguments
  body : List Stmt
  scope : Scope
abbrev FnS : Type := Option (Str × Str × Arguments × FuncBody × Scope × Addr × List Str × Value × Addr)
def SupD.ad (K : PySem.W.Frag) (d : SupD) : Addr := He.ma K (He.ga K d.cls) d.m
def fnSa (K : PySem.W.Frag) (a : Addr) : FnS := match K.lookup a with
  | some ⟨_, _, .func fd, _⟩ => some (fd.name, fd.qualname, fd.params, fd.body, fd.scope, fd.globals, fd.closure.map Prod.fst, fd.defaults, fd.builtins)
  | _ => none
def SupD.val (d : SupD) : FnS := some (d.m, d.qual, d.params, .stmts d.body, d.scope, mainGlobals, ["__class__"], .none, builtinsNs)
def ccOf (K : PySem.W.Frag) (a : Addr) : Addr := match K.lookup a with
  | some ⟨_, _, .func fd, _⟩ => (match fd.closure with
    | [q] => q.2
    | _ => 0)
  | _ => 0
def cellB (K : PySem.W.Frag) (c D : Addr) : Bool := match K.lookup c with
  | some ⟨_, _, .cell (some (.ref a)), _⟩ => Nat.beq a D
  | _ => false
def fileB (K : PySem.W.Frag) (file : Str) (cd : Value) : Bool := match cd with
  | .ref a => (match K.lookup a with
    | some ⟨_, _, .fields vs, _⟩ => (match (vs[2]? : Option Value) with
      | some (Value.str z _) => file == z
      | _ => false)
    | _ => false)
  | _ => false
def SupD.ok (file : Str) (K : PySem.W.Frag) (d : SupD) : Bool := (match K.lookup (d.ad K) with
  | some ⟨_, _, .func fd, _⟩ => PySem.W.codeIn K fd.code d.qual && fileB K file fd.code
  | _ => false) && cellB K (ccOf K (d.ad K)) (He.ga K d.cls)
theorem cellB_ok {K : PySem.W.Frag} {c D : Addr} (h : cellB K c D = true) : ∃ (cl : Value) (cld : Option Addr) (csl : Array (Option Value)), K.lookup c = some ⟨cl, cld, .cell (some (.ref D)), csl⟩ := by
  unfold cellB at h
  split at h
  · rename_i cl cld a csl e
    rw [show a = D from Nat.eq_of_beq_eq_true h] at e
    exact ⟨cl, cld, csl, e⟩
  · cases h
theorem fileB_ok {K : PySem.W.Frag} {file : Str} {cd : Value} (h : fileB K file cd = true) : ∃ (cda : Addr) (ccl : Value) (cdd : Option Addr) (vs : Array Value) (ccs : Array (Option Value)) (z : Str) (tf : Tok), cd = .ref cda ∧ K.lookup cda = some ⟨ccl, cdd, .fields vs, ccs⟩ ∧ vs[2]? = some (.str z tf) ∧ (file == z) = true := by
  unfold fileB at h
  split at h
  · rename_i a
    split at h
    · rename_i ccl cdd vs ccs e
      split at h
      · rename_i z tf e2
        exact ⟨a, ccl, cdd, vs, ccs, z, tf, rfl, e, e2, h⟩
      · cases h
    · cases h
  · cases h
theorem SupD.funS {P : Program} {K : PySem.W.Frag} {d : SupD} (e : fnSa K (d.ad K) = d.val) (c : d.ok P.main.file K = true) : ∃ fd, FunS P K d.m d.qual d.params d.body d.scope (d.ad K) (ccOf K (d.ad K)) (He.ga K d.cls) fd := by
  obtain ⟨c1, c2⟩ := He.ba c
  have hc := cellB_ok c2
  unfold fnSa at e
  cases q : K.lookup (d.ad K) with
  | none =>
    rw [q] at c1
    cases c1
  | some o =>
    obtain ⟨oc, od, dt, osl⟩ := o
    rw [q] at c1 e
    cases dt with
    | func fd =>
      have ecc : ccOf K (d.ad K) = (match fd.closure with
        | [q] => q.2
        | _ => 0) := by
        unfold ccOf
        rw [q]
      obtain ⟨n1, n2, n3, n4, n5, n6, n7, n8, n9, n10, n11, n12, n13, n14, n15⟩ := fd
      have e2 : (some (n1, n2, n3, n4, n5, n6, n7.map Prod.fst, n8, n15) : FnS) = some (d.m, d.qual, d.params, FuncBody.stmts d.body, d.scope, mainGlobals, (["__class__"] : List Str), Value.none, builtinsNs) := e
      simp only [Option.some.injEq, Prod.mk.injEq] at e2
      obtain ⟨h1, h2, h3, h4, h5, h6, h7, h8d, h8⟩ := e2
      have h9 : n7 = ([("__class__", ccOf K (d.ad K))] : List (Str × Addr)) := by
        match n7, h7, ecc with
        | [(a, b)], h7, ecc =>
          have h10 : a = "__class__" := by
            have : [a] = (["__class__"] : List Str) := h7
            exact (List.cons.inj this).1
          rw [h10, show ccOf K (d.ad K) = b from ecc]
        | [], h7, _ => exact absurd (congrArg List.length h7) (by simp)
        | _ :: _ :: _, h7, _ => exact absurd (congrArg List.length h7) (by simp)
      subst h1 h2 h3 h4 h5 h6 h8d h8
      obtain ⟨k1, k2⟩ := He.ba (show (PySem.W.codeIn K n13 d.qual && fileB K P.main.file n13) = true from c1)
      obtain ⟨cda, ccl, cdd, vs, ccs, z, tf, rfl, f1, f2, f3⟩ := fileB_ok k2
      refine ⟨_, ⟨oc, od, n9, n10, n11, n12, cda, n14, osl, ccl, cdd, vs, ccs, z, tf, rfl, ?_, k1, f1, f2, f3⟩, hc⟩
      rw [q, h9]
    | _ => cases c1
structure SaysS (P : Program) (fa : List He.Fa) (fn : List He.DefD) (fp : List GetD) (ts : List KT) (ss : List SupD) (tf : List He.Defn) (ex : PySem.W.Frag → Bool) (w : World) (h : Heap) (K : PySem.W.Frag) : Prop where
  v : SaysV fa fn fp ts tf ex w h K
  sb : (ss.all fun d => d.ok P.main.file K) = true
  sv : ss.map (fun d => fnSa K (d.ad K)) = ss.map SupD.val
theorem SaysS.get {P : Program} {fa : List He.Fa} {fn : List He.DefD} {fp : List GetD} {ts : List KT} {ss : List SupD} {tf : List He.Defn} {ex : PySem.W.Frag → Bool} {w : World} {h : Heap} {K : PySem.W.Frag} (c : SaysS P fa fn fp ts ss tf ex w h K) (i : Nat) {d : SupD} (hd : ss[i]? = some d := by rfl) :
    ∃ fd, FunS P K d.m d.qual d.params d.body d.scope (d.ad K) (ccOf K (d.ad K)) (He.ga K d.cls) fd := by
  have e2 : (ss.map fun d => fnSa K (d.ad K))[i]? = (ss.map SupD.val)[i]? := by rw [c.sv]
  rw [List.getElem?_map, List.getElem?_map, hd] at e2
  exact SupD.funS (Option.some.inj e2) (List.all_eq_true.mp c.sb d (List.mem_of_getElem? hd))
end FF
/-! Fivefault, part 86: a property of an object whose class is one of several. -/
namespace FF
open PySem PySem.Spec PyProof.Rows L2
/-- a def called with its defaults dvs behind the written arguments -/
structure DefA (P : Program) (w : World) (K : PySem.W.Frag) (mg : Str → Option Value) (base : Heap) (x : Str) (k : Nat) (ps : List Str) (sp : Sp) (dvs : List V) : Prop where
  ex : ∃ (f : Addr) (fd : FuncData) (ds : List Value), FnOk P w K mg base CX0 k f fd ps sp ∧ mg x = some (.ref f) ∧ PySem.W.keepIn K (.ref f) = true ∧ Binds K fd ps ds ∧ Vals dvs ds
end FF
/-! Fivefault, part 87: [x for l in ls for x in l] over any walk. -/
namespace FF
open PySem PySem.Spec PyProof.Rows L2 StX
section
variable {K : PySem.W.Frag} {xs : List V} {uss : List (List V)} {vs vs1 : List Nat} {jo ji : Nat} {σ : L2.St} {H1 : Hp} {Q : Addr → Hp → Prop}
end
end FF
/-! Fivefault, part 88: [e for x in xs for y in g(x)] of truth values, told by data. -/
namespace FF
open PySem PySem.Spec PyProof.Rows L2 StX
section
variable {K : PySem.W.Frag} {xs : List V} {ds : List PyData} {vs vs1 : List Nat} {jo ji : Nat} {σ : L2.St} {H1 : Hp} {Q : Addr → Hp → Prop} {J : It} {wi : TI} {E : TE}
end
end FF
/-! Fivefault, part 89: a new dict is locked and stays so (its keys are walked); a property within a comprehension. -/
namespace FF
open PySem PySem.Spec PyProof.Rows L2
end FF
/-! Fivefault, part 90: str(x) by an own __str__; ==, != of objects whose class is one of several. -/
-- imports KE.KCallOwn
namespace FF
open PySem PySem.Spec PyProof.Rows L2
/-- str(x) by an own __str__ -/
def rStrO (C : Addr) (sp : Sp) (E : XK) : List V → Hp → VK → Prop := fun xs H Q => ∃ a dx fs, xs = [.ref a] ∧ H a = some (.ins C dx fs) ∧ sp [.ref a] H (fun v H' => ∃ z : Str, v = .str z ∧ Q (.str z) H') E
theorem call_strO {X : Cx} {CX : CXT} {n : Nat} {C f : Addr} {fd : FuncData} {ps : List Str} {sp : Sp} {E : XK} (me : Meth X.K C "__str__" f) (F : FnOk X.prog X.w X.K X.mg X.base CX n f fd ps sp) (hb : Binds X.K fd ps []) (hx : Passes CX X E) (hr : Room (n + 2) X.A) : CallR X (.type "str") (rStrO C sp E) := by
  intro pins s σ H xs us Q I rv h
  obtain ⟨a, dx, fs, rfl, ha, hsp⟩ := h
  obtain ⟨u, rfl, ru⟩ := rv.one
  cases ru
  have sb : Sub X n X.A.in1.in1 := Sub.in1 (Sub.in1 (⟨hr, rfl⟩ : Sub X (n + 2) X.A))
  obtain ⟨mA, J, _⟩ := ins_get I.hok ha
  obtain ⟨od, J, _⟩ := J.look
  refine PySem.W.kso_call sb.room.units0 I.kIn J me.at_ me.fn ?_
  have e0 : Env0 X.prog X.w X.K X.mg X.base X.A.in1.in1 X.stack s H := by
    have e := I.env0
    exact ⟨by rw [sb.fr]; exact e.frames, e.mod, e.bs, e.bsz, e.funs, e.frf, e.hok, e.bare⟩
  have hl := F.len _ _ _ _ hsp
  have r2 : Vals [V.ref a] [Value.ref a] := .cons rfl .nil
  refine wpAny_call (codeAny_mono (F.run X.A.in1.in1 X.stack s H ⟨[.ref a], []⟩ [.ref a] [.ref a] _ E sb.room e0 (by
    have := hb s [.ref a] I.kIn (by simpa using hl)
    simpa using this) r2 hsp) fun r s' hq => ?_)
  cases r with
  | error e => exact hx pins σ H s e s' I hq
  | ok fl =>
    cases fl with
    | ret u =>
      obtain ⟨v, H', I', rv', z, rfl, q⟩ := I.after hq
      obtain ⟨t, rfl⟩ := rv'
      exact ⟨.str z, H', I', ⟨_, rfl⟩, q⟩
    | next => exact False.elim hq
    | brk => exact False.elim hq
    | cont => exact False.elim hq
/-- x != y by own __eq__, the class one of several -/
structure EqL (P : Program) (w : World) (K : PySem.W.Frag) (mg : Str → Option Value) (base : Heap) (k : Nat) (L : List (Str × Sp)) : Prop where
  eq : ∀ q ∈ L, MethD P w K mg base q.1 "__eq__" k ["self", "other"] q.2
  ne : ∀ q ∈ L, PySem.W.findIn K (.ref (He.ga K q.1)) "__ne__" = some (some (.builtin "object.__ne__"))
  ins : ∀ q ∈ L, InsX K (He.ga K q.1)
end FF
/-! Fivefault, part 91: one of two readings of an expression; repr of a dict of truth values. -/
namespace FF
open PySem PySem.Spec PyProof.Rows L2
end FF
/-! Fivefault, part 92: == of data, tuples and dicts nested. -/
-- imports KE.KEqNest
-- imports HandS.WordsDict
-- imports HandS.Finally
namespace FF
open PySem PySem.Spec PyProof.Rows L2
/-- x == y answers b: data, and tuples and dicts that hold such -/
inductive EqX (K : PySem.W.Frag) (H : Hp) : Nat → V → V → Bool → Prop
  | data {n : Nat} {x y : V} {d e : PyData} : d.depth ≤ n → Dp K H x d → Dp K H y e → SeqAt.shaped d = true → SeqAt.shaped e = true → EqX K H n x y (PyData.eqv d e)
  | same {n : Nat} {a : Addr} : EqX K H n (.ref a) (.ref a) true
  | tup {n : Nat} {a b : Addr} {xs ys : List V} {f : Nat → Bool} : a ≠ b → SqT K H a xs → SqT K H b ys → (∀ j x y, xs[j]? = some x → ys[j]? = some y → EqX K H n x y (f j)) → EqX K H (n + 1) (.ref a) (.ref b) ((List.range (min xs.length ys.length)).all f && xs.length == ys.length)
  | dict {n : Nat} {a b : Addr} {ks ls : List (Key × V)} {f : Key → Bool} : a ≠ b → H a = some (.dK ks) → H b = some (.dK ls) → (∀ k x y, (k, x) ∈ ks → valV ls k = some y → EqX K H n x y (f k)) → EqX K H (n + 1) (.ref a) (.ref b) (ks.length == ls.length && ks.all fun p => (valV ls p.1).isSome && f p.1)
section
variable {X : Cx} {pins : List (Addr × Obj)} {σ : L2.St} {H : Hp} {s : Shared}
end
end FF
/-! Fivefault, part 93: the run's equation in pieces (less memory in each). -/
namespace FF
section
open PySem PySem.W PySem.Calls PyProof.Rows HandSHeadRun
/-- one thing that is looked at -/
def RunO (r : OpenRow) {α : Type} (o : SharedT → α) (v : α) (M : Nat) (w : World) : Prop :=
  ∀ os : OsState, (endF (stepQ (denQ tabQ) r.prog w) M r.prog w os).map o = some v
theorem RunO.at_ {r : OpenRow} {α : Type} {o : SharedT → α} {v : α} {M : Nat} {w : World} (h : RunO r o v M w) {os : OsState} {s : SharedT} (e : endF (stepQ (denQ tabQ) r.prog w) M r.prog w os = some s) : o s = v := by
  have k := h os
  rw [e] at k
  exact Option.some.inj k
end
open PySem PySem.Spec PyProof.Rows L2
end FF
/-! Fivefault, part 94: methods of an object whose class is one of several. -/
namespace FF
open PySem PySem.Spec PyProof.Rows L2
def MethLX (P : Program) (w : World) (K : PySem.W.Frag) (mg : Str → Option Value) (base : Heap) (m : Str) (k : Nat) (ps : List Str) (L : List (Str × Sp)) : Prop := ∀ q ∈ L, MethX P w K mg base q.1 m k ps q.2
section
variable {X : Cx} {W : WX} {E : XK} {m : Str} {k j : Nat} {ps : List Str} {L : List (Str × Sp)} {o e : Expr} {es : List Expr} {apos pos : Pos} {to : TE} {t : TA} {pl : Sem Bool}
end
/-! by keywords -/
structure MethLK (P : Program) (w : World) (K : PySem.W.Frag) (mg : Str → Option Value) (base : Heap) (m : Str) (k : Nat) (ps ks : List Str) (g : List Value → List Value → List Value) (gV : List V → List V → List V) (L : List (Str × Sp)) : Prop where
  x : MethLX P w K mg base m k ps L
  kb : ∀ q ∈ L, ∃ fd, FnOk P w K mg base (L2.CX P w) k (He.ma K (He.ga K q.1) m) fd ps q.2 ∧ KBn K fd ps 1 ks g gV
end FF
/-! Fivefault, part 95: == of lists that hold lists, tuples and dicts; x == y by an own __eq__, y of a built-in type. -/
namespace FF
open PySem PySem.Spec PyProof.Rows L2
theorem kit_bt {K : PySem.W.Frag} {C : Addr} {T : String} (c : InsX K C) (h : (PySem.fastBuiltinMro T).map (·.contains (Value.ref C)) = some false) : PySem.W.kitOne K (.type T) (.ref C) = some false := by
  have nl := c.nl
  unfold PySem.W.kitOne at nl ⊢
  have e1 : (Value.type "list" == Value.ref C) = false := rfl
  have e2 : (Value.type T == Value.ref C) = false := rfl
  rw [e1] at nl
  rw [e2]
  simp only [Bool.false_eq_true, if_false] at nl ⊢
  unfold PySem.W.kitCls at nl ⊢
  dsimp only at nl ⊢
  split at nl
  · next hc =>
    rw [if_pos hc]
    exact h
  · cases nl
theorem sub_bt {K : PySem.W.Frag} {C : Addr} {T : String} (h : (PySem.fastBuiltinMro T).map (·.contains (Value.ref C)) = some false) : PySem.W.subIn K (.type T) (.ref C) = some false := h
theorem mro_str (C : Addr) : (PySem.fastBuiltinMro "str").map (·.contains (Value.ref C)) = some false := rfl
theorem mro_tuple (C : Addr) : (PySem.fastBuiltinMro "tuple").map (·.contains (Value.ref C)) = some false := rfl
theorem mro_list (C : Addr) : (PySem.fastBuiltinMro "list").map (·.contains (Value.ref C)) = some false := rfl
theorem mro_dict (C : Addr) : (PySem.fastBuiltinMro "dict").map (·.contains (Value.ref C)) = some false := rfl
/-- a value of one of the built-in types str, list, tuple, dict -/
inductive BtV (H : Hp) : V → String → Prop
  | str (z : Str) : BtV H (.str z) "str"
  | lst {b : Addr} {ys : List V} : H b = some (.lst ys) → BtV H (.ref b) "list"
  | tup {b : Addr} {ys : List V} : H b = some (.tup ys) → BtV H (.ref b) "tuple"
  | dic {b : Addr} {ks : List (Key × V)} : H b = some (.dK ks) → BtV H (.ref b) "dict"
theorem BtV.mro {H : Hp} {y : V} {T : String} (h : BtV H y T) (C : Addr) : (PySem.fastBuiltinMro T).map (·.contains (Value.ref C)) = some false := by
  cases h with
  | str z => exact mro_str C
  | lst h => exact mro_list C
  | tup h => exact mro_tuple C
  | dic h => exact mro_dict C
theorem BtV.ty {K : PySem.W.Frag} {H : Hp} {y : V} {T : String} (h : BtV H y T) : TyX K H y (.type T) := by
  cases h with
  | str z => exact .base (.str z)
  | lst h => exact .base (.lst h)
  | tup h => exact .base (.tup h)
  | dic h => exact .base (.dK h)
theorem BtV.looks {X : Cx} {pins : List (Addr × Obj)} {σ : L2.St} {H : Hp} {s : Shared} {y : V} {T : String} {v : Value} (I : Inv X pins σ H s) (h : BtV H y T) (r : RelV y v) : PySem.W.Looks (model X.prog X.w) s.heap (typeOf v) (.type T) := by
  cases h with
  | str z =>
    obtain ⟨t, rfl⟩ := r
    exact PySem.W.Looks.of_pure (by rfl)
  | @lst b ys h =>
    cases (show v = Value.ref b from r)
    obtain ⟨_, _, n', _, h1⟩ := (show ObjOk X.prog X.w H s.heap b (.lst ys) from I.hok b _ h)
    exact (PySem.W.Looks.ld h1).andThen .now
  | @tup b ys h =>
    cases (show v = Value.ref b from r)
    obtain ⟨_, _, _, ob, h1, hc, _⟩ := (show ObjOk X.prog X.w H s.heap b (.tup ys) from I.hok b _ h)
    exact (PySem.W.Looks.ld h1).andThen (by show PySem.W.Looks _ _ (pure ob.cls) _; rw [hc]; exact .now)
  | @dic b ks h =>
    cases (show v = Value.ref b from r)
    obtain ⟨_, _, _, _, ob, _, _, h1, hc, _⟩ := (show ObjOk X.prog X.w H s.heap b (.dK ks) from I.hok b _ h)
    exact (PySem.W.Looks.ld h1).andThen (by show PySem.W.Looks _ _ (pure ob.cls) _; rw [hc.1]; exact .now)
end FF
/-! Fivefault, part 96: t[::-1], t a tuple. -/
namespace FF
open PySem PySem.Spec PyProof.Rows L2
section
variable {prog : Program} {w : World} {A : Around} {E : Value → Shared → Prop} {s : Shared}
end
end FF
-- imports KE.KExcInit
/-! Fivefault, part 97: own exceptions over other builtin exceptions than ValueError. -/
namespace FF
open PySem PySem.Spec PyProof.Rows L2
/-- a builtin exception: its name, its __new__, its __init__, its order of classes -/
structure BsF where
  B : String
  nw : String
  ini : String
  tl : List Value
structure BsOk (b : BsF) : Prop where
  ex : PySem.ExcBaseFacts b.B b.nw b.ini b.tl
  st : StoreFacts b.B b.tl "object.__setattr__" "object"
/-- own classes, then the base's order -/
def refsG (tl : List Value) : List Value → Bool
  | .ref _ :: r => refsG tl r
  | l => l == tl
section
open Builtin Builtin.ObjectAttr PySem.HandSPX PySem.W PySem.Calls
variable {prog : Program} {w : World} {A : Around} {E : Value → Shared → Prop} {R : Result → Shared → Prop} {hp : Heap} {g : Array GenState} {d : Drawn} {t : Nat} {os : OsState} {b : BsF}
end
/-- what the written part says of an own class over the base b -/
structure OexG (b : BsF) (K : PySem.W.Frag) (C : Addr) : Prop where
  ok : BsOk b
  cls : ∃ nm q N bs bm sn sub ab col dd k0 k1 k2 k3 k5, K.lookup C = some (excClassObj nm q C N bs bm true sn sub ab col dd k0 k1 k2 k3 k5 b.nw) ∧ refsG b.tl bm = true
  sa : PySem.W.findIn K (.ref C) "__setattr__" = some (some (.builtin "object.__setattr__"))
  exC : PySem.W.subIn K (.ref C) (.type "BaseException") = some true
  tyC : PySem.W.typeIn K (.ref C) = some (.type "type")
  kC : PySem.W.keepIn K (.ref C) = true
end FF
/-! Fivefault, part 98: own exceptions over any base: made, stored into, raised. -/
namespace FF
open PySem PySem.Spec PyProof.Rows L2
section
variable {X : Cx} {pins : List (Addr × Obj)} {σ : L2.St} {H : Hp} {s : Shared} {a C dx : Addr} {f : Str} {y : V} {u : Value} {fs : List (Str × V)} {Q : Unit → Shared → Prop} {E : Value → Shared → Prop} {A : Around} {b : BsF}
end
section
variable {X : Cx} {o e : Expr} {es : List Expr} {to te : TE} {ta : TA} {f : Str} {p p' p1 p2 pos : Pos}
end
/-! ### told by Bools -/
/-- an own class C of exceptions over b: raised, caught, its code read -/
structure OwnG (b : BsF) (K : PySem.W.Frag) (C : Addr) : Prop where
  o : OexG b K C
  xf : XfC K C
  noc : PySem.W.findIn K (.ref C) "code" = some none
/-- the class x: an own class over b whose own __init__ is a def -/
structure OwnXG (b : BsF) (K : PySem.W.Frag) (x : Str) : Prop where
  c : OwnG b K (He.ga K x)
  ini : PySem.W.findIn K (.ref (He.ga K x)) "__init__" = some (some (.ref (He.ma K (He.ga K x) "__init__")))
  tyI : PySem.W.typeIn K (.ref (He.ma K (He.ga K x) "__init__")) = some (.type "function")
/-! ### the __init__s -/
def spIniG (b : BsF) (K : PySem.W.Frag) (z : Str) : Sp := fun vs H Q _ => ∃ (a C : Addr), vs = [.ref a] ∧ OexG b K C ∧ PySem.W.findIn K (.ref C) "code" = some none ∧ H a = some (exo a C none) ∧
  ∀ dx, H dx = none → dx ≠ a → Q .non (upd (upd H dx (exd dx [("code", .str z)])) a (exo a C (some dx)))
def spIniG1 (b : BsF) (K : PySem.W.Frag) (z f : Str) : Sp := fun vs H Q _ => ∃ (a C : Addr) (y : V), vs = [.ref a, y] ∧ OexG b K C ∧ PySem.W.findIn K (.ref C) "code" = some none ∧ PySem.W.findIn K (.ref C) f = some none ∧ H a = some (exo a C none) ∧
  ∀ dx, H dx = none → dx ≠ a → Q .non (upd (upd (upd H dx (exd dx [("code", .str z)])) a (exo a C (some dx))) dx (exd dx [(f, y), ("code", .str z)]))
structure RaiseG (P : Program) (w : World) (K : PySem.W.Frag) (mg : Str → Option Value) (base : Heap) (b : BsF) (x : Str) (k : Nat) (z : Str) : Prop where
  own : OwnXG b K x
  hm : mg x = some (.ref (He.ga K x))
  ini : ∃ fd, FnOk P w K mg base CX0 k (He.ma K (He.ga K x) "__init__") fd ["self"] (spIniG b K z) ∧ Binds K fd ["self"] []
structure RaiseG1 (P : Program) (w : World) (K : PySem.W.Frag) (mg : Str → Option Value) (base : Heap) (b : BsF) (x : Str) (k : Nat) (z f : Str) : Prop where
  own : OwnXG b K x
  nof : PySem.W.findIn K (.ref (He.ga K x)) f = some none
  hm : mg x = some (.ref (He.ga K x))
  ini : ∃ fd, FnOk P w K mg base CX0 k (He.ma K (He.ga K x) "__init__") fd ["self", f] (spIniG1 b K z f) ∧ Binds K fd ["self", f] []
/-- x.__init__ read from the class x -/
structure FeG (K : PySem.W.Frag) (x : Str) : Prop where
  rd : ClX.CRead K (He.ga K x) (.type "type")
  at_ : PySem.W.findCls K (.ref (He.ga K x)) (.type "type") "__init__" = some (.val (.ref (He.ma K (He.ga K x) "__init__")))
  kp : PySem.W.keepIn K (.ref (He.ma K (He.ga K x) "__init__")) = true
end FF
/-! Fivefault, part 99: an expression whose evaluation reads or changes a hidden list: opened ahead of it, hidden behind it. -/
namespace FF
open PySem PySem.Spec PyProof.Rows L2
end FF
/-! Fivefault, part 100: rules of calls within a block, with the fragment named. -/
namespace FF
open PySem PySem.Spec PyProof.Rows L2
end FF
/-! Fivefault, part 101: xs[::s], s 1 or -1. -/
namespace FF
open PySem PySem.Spec PyProof.Rows L2
end FF
-- imports HandS.ExcIs
/-! Fivefault, part 102: own exceptions as values: made, asked for their class, their fields read. -/
namespace PySem.W
open PySem PySem.Spec PySem.Calls PyProof.Rows
section
variable {prog : Program} {w : World} {A : Around} {E : Value → Shared → Prop} {s : Shared} {K : Frag} {x D : Addr} {ox od : Obj}
end
end PySem.W
namespace FF
open PySem PySem.Spec PyProof.Rows L2
/-- v is an exception object of the class C with these fields -/
def ExV (H : Hp) (C : Addr) (fs : List (Str × V)) (v : V) : Prop := ∃ a dx, v = .ref a ∧ H a = some (exo a C (some dx)) ∧ H dx = some (exd dx fs)
theorem ExV.up {H H' : Hp} {C : Addr} {fs : List (Str × V)} {v : V} (h : ExV H C fs v) (k : Same H H') : ExV H' C fs v := by
  obtain ⟨a, dx, e, ea, ed⟩ := h
  exact ⟨a, dx, e, k _ _ ea, k _ _ ed⟩
/-- the fields, the last one first -/
def xfl (code : Str) (ns : List Str) (ys : List V) : List (Str × V) := (ns.zip ys).reverse ++ [(("code" : Str), V.str code)]
/-- __init__ of a class over b -/
def spX (b : BsF) (K : PySem.W.Frag) (code : Str) (ns : List Str) : Sp := fun vs H Q _ => ∃ (a C : Addr) (ys : List V), vs = .ref a :: ys ∧ ys.length = ns.length ∧ OexG b K C ∧ (∀ f ∈ ("code" : Str) :: ns, PySem.W.findIn K (.ref C) f = some none) ∧ H a = some (exo a C none) ∧
  ∀ H' dx, H dx = none → dx ≠ a → H' a = some (exo a C (some dx)) → H' dx = some (exd dx (xfl code ns ys)) → (∀ c, c ≠ a → c ≠ dx → H' c = H c) → Q .non H'
structure ExMk (P : Program) (w : World) (K : PySem.W.Frag) (mg : Str → Option Value) (base : Heap) (b : BsF) (x : Str) (k : Nat) (code : Str) (ns : List Str) : Prop where
  own : OwnXG b K x
  nof : ∀ f ∈ ("code" : Str) :: ns, PySem.W.findIn K (.ref (He.ga K x)) f = some none
  hm : mg x = some (.ref (He.ga K x))
  ini : ∃ fd, FnOk P w K mg base CX0 k (He.ma K (He.ga K x) "__init__") fd (("self" : Str) :: ns) (spX b K code ns) ∧ Binds K fd (("self" : Str) :: ns) []
section
variable {X : Cx} {b : BsF} {x code : Str} {k j : Nat} {ns : List Str} {e : Expr} {es : List Expr} {p pos : Pos} {ta : TA}
end
/-! ### isinstance, fields -/
/-! ### raised -/
/-! ### told by Bools -/
end FF
/-! ### columns of classes -/
namespace FF
open PySem PySem.Spec PyProof.Rows L2
end FF
/-! Fivefault, part 103: an own exception made with keywords. -/
namespace PySem.HandSPX
open PySem PySem.W PySem.Calls PyProof.Rows
section
variable {M : Model} {A : Around} {E : Value → Shared → Prop} {h : Heap} {g : Array GenState} {d : Drawn} {t : Nat} {os : OsState}
variable {nm q : Str} {C N : Addr} {bs bm bmB : List Value} {hdct : Bool} {sn : List Str} {sub : List Value} {ab : Bool} {col : Option Bool} {dd : Option Addr} {k0 k1 k2 k3 k5 : Option Value} {B newId initId : String}
end
section
variable {prog : Program} {w : World} {A : Around} {E : Value → Shared → Prop} {R : Result → Shared → Prop} {h : Heap} {g : Array GenState} {d : Drawn} {t : Nat} {os : OsState}
variable {nm q : Str} {C N : Addr} {bs bm bmB : List Value} {hdct : Bool} {sn : List Str} {sub : List Value} {ab : Bool} {col : Option Bool} {dd : Option Addr} {k0 k1 k2 k3 k5 : Option Value} {B newId initId : String}
end
end PySem.HandSPX
namespace FF
open PySem PySem.Spec PyProof.Rows L2
structure ExMkK (P : Program) (w : World) (K : PySem.W.Frag) (mg : Str → Option Value) (base : Heap) (b : BsF) (x : Str) (k : Nat) (code : Str) (ns ks : List Str) (gV : List V → List V → List V) : Prop where
  own : OwnXG b K x
  nof : ∀ f ∈ ("code" : Str) :: ns, PySem.W.findIn K (.ref (He.ga K x)) f = some none
  hm : mg x = some (.ref (He.ga K x))
  ini : ∃ fd g, FnOk P w K mg base CX0 k (He.ma K (He.ga K x) "__init__") fd (("self" : Str) :: ns) (spX b K code ns) ∧ KBn K fd (("self" : Str) :: ns) 1 ks g gV
section
variable {X : Cx} {b : BsF} {x code : Str} {k j : Nat} {ns ks : List Str} {gV : List V → List V → List V} {kws : List Keyword} {p pos : Pos} {tk : TA}
end
/-! ValueError.__init__(self, ..) by kit 98's promise -/
section
variable {X : Cx} {e : Expr} {es : List Expr} {p1 p2 pos : Pos} {ta : TA}
end
end FF
/-! Fivefault, part 104: x & y, x | y of two objects of one class; z in x by an own __contains__. -/
namespace FF
open PySem PySem.Spec PyProof.Rows L2
/-- x op y, both of the class C, the result an object -/
def rBinO (C : Addr) (sp : Sp) (E : XK) : R2 := fun x y H Q => ∃ a dx fs c dy gs, x = .ref a ∧ y = .ref c ∧ H a = some (.ins C dx fs) ∧ H c = some (.ins C dy gs) ∧ sp [.ref a, .ref c] H (fun v H' => (∃ b, v = .ref b) ∧ Q v H') E
theorem op_ownB {X : Cx} {CX : CXT} {op : Operator} {m : Str} {n : Nat} {C f : Addr} {fd : FuncData} {ps : List Str} {sp : Sp} {E : XK} (hd : PySem.dunder op.info.2 = m) (hsf : PySem.W.selfFirst X.K C = true) (me : Meth X.K C m f) (F : FnOk X.prog X.w X.K X.mg X.base CX n f fd ps sp) (hb : Binds X.K fd ps [])
    (hx : Passes CX X E) (hr : Room n X.A) : OpR X (binaryOp op) (rBinO C sp E) := by
  intro pins s σ H x y v u Q I rx ry hq
  obtain ⟨a, dx, fs, c, dy, gs, rfl, rfl, ha, hc, hsp⟩ := hq
  cases rx
  cases ry
  obtain ⟨mA, J, _⟩ := ins_get I.hok ha
  obtain ⟨od, J, _⟩ := J.look
  obtain ⟨mB, J2, _⟩ := ins_get I.hok hc
  obtain ⟨od2, J2, _⟩ := J2.look
  obtain ⟨mm, hF⟩ := I.fr
  refine PySem.W.binop_K hF I.ok.mod.kin J J2.type hsf (hd ▸ me.at_) me.fn ?_
  refine wpAny_mono (run_fn (vs := [.ref a, .ref c]) F hr hb .nil hx I (.cons rfl (.cons rfl .nil)) hsp) (fun v s' h => ?_) fun _ _ z => z
  obtain ⟨w, H', I', rw, ⟨b, rfl⟩, q⟩ := h
  obtain rfl : v = .ref b := rw
  exact ⟨.ref b, H', I', rfl, q⟩
/-- the same by the method's fact; C's first class is C itself -/
theorem op_ownD {X : Cx} {op : Operator} {C m : Str} {k j : Nat} {sp : Sp} {W : WX} {E : XK} (hd : PySem.dunder op.info.2 = m) (hsf : PySem.W.selfFirst X.K (He.ga X.K C) = true) (D : MethX X.prog X.w X.K X.mg X.base C m k ["self", "other"] sp) (tk : Takes X W) (hW : ∀ cls d σ' H', E cls d H' → W cls d σ' H') (hr : Room j X.A) (hkj : k ≤ j) :
    OpR X (binaryOp op) (rBinO (He.ga X.K C) sp E) := by
  obtain ⟨fd, F, hb⟩ := D.ex
  exact op_ownB hd hsf D.me F hb (passes_call tk hW) (hr.mono hkj)
/-- z in x -/
def rInO (C : Addr) (sp : Sp) (E : XK) : R2 := fun x y H Q => ∃ c dy gs, y = .ref c ∧ H c = some (.ins C dy gs) ∧ sp [.ref c, x] H (fun v H' => ∃ b, v = .bl b ∧ Q (.bl b) H') E
theorem op_ownI {X : Cx} {CX : CXT} {n : Nat} {C f : Addr} {fd : FuncData} {ps : List Str} {sp : Sp} {E : XK} (me : Meth X.K C "__contains__" f) (F : FnOk X.prog X.w X.K X.mg X.base CX n f fd ps sp) (hb : Binds X.K fd ps []) (hx : Passes CX X E) (hr : Room n X.A) : OpR X (compareOp .In) (rInO C sp E) := by
  intro pins s σ H x y v u Q I rx ry hq
  obtain ⟨c, dy, gs, rfl, hc, hsp⟩ := hq
  cases ry
  obtain ⟨mB, J2, _⟩ := ins_get I.hok hc
  obtain ⟨od2, J2, _⟩ := J2.look
  obtain ⟨mm, hF⟩ := I.fr
  refine PySem.W.in_K hF I.ok.mod.kin J2 me.at_ me.fn ?_
  refine wpAny_mono (run_fn (vs := [.ref c, x]) F hr hb .nil hx I (.cons rfl (.cons rx .nil)) hsp) (fun v s' h => ?_) fun _ _ z => z
  obtain ⟨w, H', I', rw, b, rfl, q⟩ := h
  cases rw
  exact wpAny_pure ⟨.bl b, H', I', rfl, q⟩
theorem op_ownID {X : Cx} {C : Str} {k j : Nat} {sp : Sp} (D : MethD X.prog X.w X.K X.mg X.base C "__contains__" k ["self", "letter"] sp) (hr : Room j X.A) (hkj : k ≤ j) : OpR X (compareOp .In) (rInO (He.ga X.K C) sp E0) := by
  obtain ⟨fd, F, hb⟩ := D.ex
  exact op_ownI D.me F hb pass0 (hr.mono hkj)
/-- the truth of x by an own __len__ (no __bool__) -/
theorem truthy_len {X : Cx} {CX : CXT} {n : Nat} {C f : Addr} {fd : FuncData} {ps : List Str} {sp : Sp} {E : XK} {pins : List (Addr × Obj)} {σ : L2.St} {H : Hp} {s : Shared} {a dx : Addr} {fs : List (Str × V)} {Q : Bool → Shared → Prop} {A : Around}
    (nb : PySem.W.findIn X.K (.ref C) "__bool__" = some none) (me : Meth X.K C "__len__" f) (I : Inv X pins σ H s) (ha : H a = some (.ins C dx fs))
    (h : codeAny (model X.prog X.w) A (.builtin "len" ⟨[.ref a], []⟩) (fun r s' => match r with | .ok (.ret (.int n _)) => Q (n != 0) s' | .ok _ => False | .error e => X.xe e s') s) : wpAny (model X.prog X.w) A (truthy (.ref a)) Q X.xe s := by
  obtain ⟨mA, J, _⟩ := ins_get I.hok ha
  obtain ⟨od, J, _⟩ := J.look
  unfold truthy
  refine wpAny_bind (m := callSpecial? (.ref a) (Str.ofString "__bool__")) (wpAny_bind (wpAny_bind (J.type.here ((PySem.W.looks_findIn I.kIn nb).here (wpAny_pure ?_)))))
  refine wpAny_bind (wpAny_bind (J.type.here ((PySem.W.looks_findIn I.kIn me.at_).here ?_)))
  show wpAny _ _ (runValue (.builtin "len" ⟨[.ref a], []⟩) >>= _) _ _ _
  refine wpAny_bind (wpAny_runValue (codeAny_mono h fun r s' z => ?_))
  match r, z with
  | .error e, z => exact z
  | .ok (.ret (.int n t)), z => exact wpAny_pure z
end FF
/-! Fivefault, part 105: bool(x) of an object by its own __len__. -/
namespace FF
open PySem PySem.Spec PyProof.Rows L2
theorem bool_newIn {prog : Program} {w : World} {x : Value} : PySem.MeetsIn prog w (Builtin.«bool.__new__» ⟨[.type "bool", x], []⟩) (fun A R s => wpAny (model prog w) A.in1 (truthy x) (fun b s' => R (.ok (.ret (.bool b))) s') (fun e s' => R (.error e) s') s) :=
  .of_wp fun A R s h => by
    obtain ⟨hp, g, d, tk, os⟩ := s
    have f1 := F.conv_sub_bool
    repeat (any_goals (first | assumption | (with_reducible refine wpAny_mono h (fun b s' z => ?_) fun e s' z => z) | wp_step))
    all_goals first | exact ⟨_, rfl, z⟩ | exact z | skip
theorem len_depth {A : Around} {us : List Value} : (A.under (.builtin "len" ⟨us, []⟩)).depth ≤ A.depth + 1 := by
  first | exact Nat.le_succ _ | exact Nat.le_refl _ | simp [Around.under, Code.weight, Code.isCreation, Code.isGuard, Code.isCaller, Code.frames, Code.isFrame, guardIds]
theorem len_units {A : Around} {us : List Value} : (A.under (.builtin "len" ⟨us, []⟩)).units = A.units + 1 := by
  first | rfl | simp [Around.under, Code.cUnits, Code.frames, Code.isFrame]
theorem Sub.len {X : Cx} {n : Nat} {A : Around} (s : Sub X (n + 1) A) (us : List Value) : Sub X n (A.under (.builtin "len" ⟨us, []⟩)) :=
  ⟨⟨s.room.hd, by have := s.room.dp; have := len_depth (A := A) (us := us); omega, by have := s.room.un; rw [len_units]; omega⟩, s.fr⟩
def rBoolO (C : Addr) (sp : Sp) (E : XK) : List V → Hp → VK → Prop := fun xs H Q => ∃ a dx fs, xs = [.ref a] ∧ H a = some (.ins C dx fs) ∧ sp [.ref a] H (fun v H' => ∃ k : Nat, v = .int k ∧ k < 1000000000 ∧ Q (.bl ((k : Int) != 0)) H') E
theorem call_boolO {X : Cx} {CX : CXT} {n : Nat} {C f : Addr} {fd : FuncData} {ps : List Str} {sp : Sp} {E : XK} (nb : PySem.W.findIn X.K (.ref C) "__bool__" = some none) (me : Meth X.K C "__len__" f) (F0 : FnOk X.prog X.w X.K X.mg X.base CX n f fd ps sp) (hb : Binds X.K fd ps [])
    (hx : Passes CX X E) (hr : Room (n + 3) X.A) : CallR X (.type "bool") (rBoolO C sp E) := by
  intro pins s σ H xs us Q I rv h
  obtain ⟨a, dx, fs, rfl, ha, hsp⟩ := h
  obtain ⟨u, rfl, ru⟩ := rv.one
  cases ru
  have sb2 : Sub X (n + 1) X.A.in1.in1 := Sub.in1 (Sub.in1 (⟨hr, rfl⟩ : Sub X (n + 3) X.A))
  refine callType_newIn PySem.F.called_bool PySem.F.newNe_bool (PySem.F.typeCall_bool_1 _) (PySem.F.newCall_bool_1 _) (fun obj => PySem.F.args_object_init_2 obj _) PySem.F.entry_bool_new bool_newIn ?_
  refine wpAny_mono (truthy_len (CX := CX) (n := n) (fd := fd) (ps := ps) (sp := sp) (E := E) (Q := fun b s' => wants (fun obj s₁ => s₁.TypeIs obj "bool" ∧ EP X pins σ Q obj s₁) X.xe (.ok (.ret (.bool b))) s') nb me I ha ?_) (fun b s' z => z) fun e s' z => z
  have sb : Sub X n (X.A.in1.in1.under (.builtin "len" ⟨[.ref a], []⟩)) := Sub.len sb2 _
  obtain ⟨mA, J, _⟩ := ins_get I.hok ha
  obtain ⟨od, J, _⟩ := J.look
  refine codeAny_builtin PySem.entry_len ?_
  unfold Builtin.«len»
  refine wpAny_bind (m := oneArg "len" _) (wpAny_pure ?_)
  refine wpAny_bind (m := callSpecial? (.ref a) (Str.ofString "__len__")) (special_own I.kIn J me.at_ me.fn ?_)
  have e0 : Env0 X.prog X.w X.K X.mg X.base (X.A.in1.in1.under (.builtin "len" ⟨[.ref a], []⟩)) X.stack s H := by
    have e := I.env0
    exact ⟨by rw [sb.fr]; exact e.frames, e.mod, e.bs, e.bsz, e.funs, e.frf, e.hok, e.bare⟩
  have hl := F0.len _ _ _ _ hsp
  have r2 : Vals [V.ref a] [Value.ref a] := .cons rfl .nil
  refine wpAny_call (codeAny_mono (F0.run _ X.stack s H ⟨[.ref a], []⟩ [.ref a] [.ref a] _ E sb.room e0 (by
    have := hb s [.ref a] I.kIn (by simpa using hl)
    simpa using this) r2 hsp) fun r s' hq => ?_)
  cases r with
  | error e => exact hx pins σ H s e s' I hq
  | ok fl =>
    cases fl with
    | ret u =>
      obtain ⟨v, H', I', rv', k, rfl, hk, q⟩ := I.after hq
      obtain ⟨t, rfl⟩ := rv'
      refine wpAny_bind (wpAny_holding (wpAny_pure ?_))
      refine wpAny_bind (wpAny_letGo ?_)
      show wpAny _ _ (if ((k : Nat) : Int) < 0 then _ else _) _ _ _
      rw [if_neg (by omega)]
      show wpAny _ _ (if ((k : Nat) : Int) ≥ 2 ^ 63 then _ else _) _ _ _
      rw [if_neg (by omega)]
      exact wpAny_bind (wpAny_mkInt (wpAny_pure ⟨rfl, .bl ((k : Int) != 0), H', I'.tok _, rfl, q⟩))
    | next => exact False.elim hq
    | brk => exact False.elim hq
    | cont => exact False.elim hq
theorem call_boolD {X : Cx} {C : Str} {k j : Nat} {sp : Sp} (nb : PySem.W.findIn X.K (.ref (He.ga X.K C)) "__bool__" = some none) (D : MethD X.prog X.w X.K X.mg X.base C "__len__" k ["self"] sp) (hr : Room j X.A) (hkj : k + 3 ≤ j) : CallR X (.type "bool") (rBoolO (He.ga X.K C) sp E0) := by
  obtain ⟨fd, F, hb⟩ := D.ex
  exact call_boolO nb D.me F hb pass0 (hr.mono hkj)
theorem op_ownDK {X : Cx} (K : PySem.W.Frag) {op : Operator} {C m : Str} {k j : Nat} {sp : Sp} {W : WX} {E : XK} (hd : PySem.dunder op.info.2 = m) (hsf : PySem.W.selfFirst K (He.ga K C) = true) (D : MethX X.prog X.w K X.mg X.base C m k ["self", "other"] sp) (tk : Takes X W) (hW : ∀ cls d σ' H', E cls d H' → W cls d σ' H') (hr : Room j X.A) (hkj : k ≤ j) (h : X.K = K := by rfl) :
    OpR X (binaryOp op) (rBinO (He.ga K C) sp E) := by
  subst h
  exact op_ownD hd hsf D tk hW hr hkj
theorem op_ownIDK {X : Cx} (K : PySem.W.Frag) {C : Str} {k j : Nat} {sp : Sp} (D : MethD X.prog X.w K X.mg X.base C "__contains__" k ["self", "letter"] sp) (hr : Room j X.A) (hkj : k ≤ j) (h : X.K = K := by rfl) : OpR X (compareOp .In) (rInO (He.ga K C) sp E0) := by
  subst h
  exact op_ownID D hr hkj
theorem call_strD {X : Cx} {C : Str} {k j : Nat} {sp : Sp} (D : MethD X.prog X.w X.K X.mg X.base C "__str__" k ["self"] sp) (hr : Room j X.A) (hkj : k + 2 ≤ j) : CallR X (.type "str") (rStrO (He.ga X.K C) sp E0) := by
  obtain ⟨fd, F, hb⟩ := D.ex
  exact call_strO D.me F hb pass0 (hr.mono hkj)
end FF
/-! Fivefault, part 106: x == y by an own __eq__, y also a tuple of a constant. -/
namespace FF
open PySem PySem.Spec PyProof.Rows L2
inductive BtK (K : PySem.W.Frag) (H : Hp) : V → String → Prop
  | bt {y : V} {T : String} (h : BtV H y T) : BtK K H y T
  | kt {a : Addr} {o : Obj} (e : K.lookup a = some o) (c : o.cls = .type "tuple") : BtK K H (.ref a) "tuple"
theorem BtK.mro {K : PySem.W.Frag} {H : Hp} {y : V} {T : String} (h : BtK K H y T) (C : Addr) : (PySem.fastBuiltinMro T).map (·.contains (Value.ref C)) = some false := by
  cases h with
  | bt h => exact h.mro C
  | kt _ _ => exact mro_tuple C
theorem BtK.ty {K : PySem.W.Frag} {H : Hp} {y : V} {T : String} (h : BtK K H y T) : TyX K H y (.type T) := by
  cases h with
  | bt h => exact h.ty
  | kt e c => exact .kTuple e c
theorem BtK.looks {X : Cx} {pins : List (Addr × Obj)} {σ : L2.St} {H : Hp} {s : Shared} {y : V} {T : String} {v : Value} (I : Inv X pins σ H s) (h : BtK X.K H y T) (r : RelV y v) : PySem.W.Looks (model X.prog X.w) s.heap (typeOf v) (.type T) := by
  cases h with
  | bt h => exact h.looks I r
  | @kt a o e c =>
    cases (show v = Value.ref a from r)
    exact (PySem.W.Looks.ld (I.kIn a o e)).andThen (by show PySem.W.Looks _ _ (pure o.cls) _; rw [c]; exact .now)
/-- what is drawn, told by its type -/
theorem Tp.btk {K : PySem.W.Frag} {H : Hp} {v : V} {d : PyData} (h : Tp K H v d) (hs : (∃ z, d = .str z) ∨ ∃ ds, d = .tuple ds) : ∃ T, BtK K H v T := by
  cases h with
  | str z => exact ⟨_, .bt (.str z)⟩
  | tup h _ =>
    rcases h with h | ⟨o, _, _, e, c, _⟩
    · exact ⟨_, .bt (.tup h)⟩
    · exact ⟨_, .kt e c⟩
  | _ => rcases hs with ⟨_, z⟩ | ⟨_, z⟩ <;> cases z
def rEqZ (K : PySem.W.Frag) (C : Addr) (sp : Sp) (E : XK) : R2 := fun x y H Q => ∃ a dx fs, x = .ref a ∧ H a = some (.ins C dx fs) ∧ ((∃ b dy gs, y = .ref b ∧ H b = some (.ins C dy gs)) ∨ ∃ T, BtK K H y T) ∧ sp [.ref a, y] H (fun v H' => ∃ t, v = .bl t ∧ Q (.bl t) H') E
theorem op_eqZ_ {X : Cx} {CX : CXT} {n : Nat} {C f : Addr} {fd : FuncData} {ps : List Str} {sp : Sp} {E : XK} (me : Meth X.K C "__eq__" f) (F : FnOk X.prog X.w X.K X.mg X.base CX n f fd ps sp) (hb : Binds X.K fd ps []) (hx : Passes CX X E) (c : InsX X.K C) (hr : Room n X.A) : OpR X (compareOp .Eq) (rEqZ X.K C sp E) := by
  intro pins s σ H x y v u Q I rx ry hq
  obtain ⟨a, dx, fs, rfl, ha, hy, hsp⟩ := hq
  cases rx
  show wpAny (model X.prog X.w) X.A (richCompare .Eq (.ref a) u) (EP X pins σ Q) X.xe s
  have sb : Sub X n X.A := ⟨hr, rfl⟩
  obtain ⟨mA, J, _⟩ := ins_get I.hok ha
  obtain ⟨od, J, _⟩ := J.look
  obtain ⟨m, hF⟩ := I.fr
  have e0 : Env0 X.prog X.w X.K X.mg X.base X.A X.stack s H := by
    have e := I.env0
    exact ⟨by rw [sb.fr]; exact e.frames, e.mod, e.bs, e.bsz, e.funs, e.frf, e.hok, e.bare⟩
  have hl := F.len _ _ _ _ hsp
  have r2 : Vals [V.ref a, y] [Value.ref a, u] := .cons rfl (.cons ry .nil)
  have fin : wpAny (model X.prog X.w) X.A (call (.ref f) [.ref a, u]) (PySem.W.CmpBack (EP X pins σ Q)) X.xe s := by
    refine wpAny_call (codeAny_mono (F.run X.A X.stack s H ⟨[.ref a, u], []⟩ [.ref a, u] [.ref a, y] _ E sb.room e0 (by
      have := hb s [.ref a, u] I.kIn (by simpa using hl)
      simpa using this) r2 hsp) fun r s' hq => ?_)
    cases r with
    | error e => exact hx pins σ H s e s' I hq
    | ok fl =>
      cases fl with
      | ret w =>
        obtain ⟨z, H', I', rz, t, rfl, q⟩ := I.after hq
        cases rz
        exact ⟨.bl t, H', I', rfl, q⟩
      | next => exact False.elim hq
      | brk => exact False.elim hq
      | cont => exact False.elim hq
  rcases hy with ⟨b, dy, gs, rfl, hy⟩ | ⟨T, hy⟩
  · cases ry
    obtain ⟨mB, J', _⟩ := ins_get I.hok hy
    obtain ⟨od', J', _⟩ := J'.look
    exact PySem.W.cmp_K (op := .Eq) (tb := .ref C) sb.room.units0 hF I.ok.mod.kin J J'.type (by simp [PySem.W.notFirst]) me.at_ me.fn fin
  · exact PySem.W.cmp_K (op := .Eq) (tb := .type T) sb.room.units0 hF I.ok.mod.kin J (hy.looks I ry) (by unfold PySem.W.notFirst; rw [sub_bt (hy.mro C)]; simp) me.at_ me.fn fin
theorem op_eqZD {X : Cx} {C : Str} {k j : Nat} {sp : Sp} (D : MethD X.prog X.w X.K X.mg X.base C "__eq__" k ["self", "other"] sp) (c : InsX X.K (He.ga X.K C)) (hr : Room j X.A) (hkj : k ≤ j) : OpR X (compareOp .Eq) (rEqZ X.K (He.ga X.K C) sp E0) := by
  obtain ⟨fd, F, hb⟩ := D.ex
  exact op_eqZ_ D.me F hb pass0 c (hr.mono hkj)
end FF
namespace FF
open PySem PySem.Spec PyProof.Rows L2
def top (i : Nat) : Stmt := PySem.Challenge.pw_fivefault_k08_expressions_with_operators.main.body.getD i (.Pass ⟨0, 0, 0, 0⟩)
def clsSt (s : Stmt) (i : Nat) : Stmt := match s with
  | .ClassDef _ _ _ b .. => b.getD i (.Pass ⟨0, 0, 0, 0⟩)
  | _ => .Pass ⟨0, 0, 0, 0⟩
abbrev s_is_letter : Stmt := top 12
theorem sc_is_letter : FnScope ["value"] ["value"] (defScope s_is_letter) := ⟨rfl, rfl, rfl, by decide +kernel, rfl, by decide +kernel, by decide +kernel⟩
abbrev s_measured : Stmt := top 13
theorem sc_measured : FnScope ["value", "max_depth", "sizes", "part"] ["value", "max_depth"] (defScope s_measured) := ⟨rfl, rfl, rfl, by decide +kernel, rfl, by decide +kernel, by decide +kernel⟩
abbrev s_is_term : Stmt := top 14
theorem sc_is_term : FnScope ["value", "max_depth", "max_size"] ["value", "max_depth", "max_size"] (defScope s_is_term) := ⟨rfl, rfl, rfl, by decide +kernel, rfl, by decide +kernel, by decide +kernel⟩
abbrev s_need_term : Stmt := top 15
theorem sc_need_term : FnScope ["value"] ["value"] (defScope s_need_term) := ⟨rfl, rfl, rfl, by decide +kernel, rfl, by decide +kernel, by decide +kernel⟩
abbrev s_parts_of : Stmt := top 16
theorem sc_parts_of : FnScope ["term"] ["term"] (defScope s_parts_of) := ⟨rfl, rfl, rfl, by decide +kernel, rfl, by decide +kernel, by decide +kernel⟩
abbrev s_walked : Stmt := top 17
theorem sc_walked : FnScope ["term", "found", "part"] ["term"] (defScope s_walked) := ⟨rfl, rfl, rfl, by decide +kernel, rfl, by decide +kernel, by decide +kernel⟩
abbrev s_letters_in : Stmt := top 18
theorem sc_letters_in : FnScope ["term", "one"] ["term"] (defScope s_letters_in) := ⟨rfl, rfl, rfl, by decide +kernel, rfl, by decide +kernel, by decide +kernel⟩
abbrev s_turned_in : Stmt := top 19
theorem sc_turned_in : FnScope ["term", "operator", "part"] ["term"] (defScope s_turned_in) := ⟨rfl, rfl, rfl, by decide +kernel, rfl, by decide +kernel, by decide +kernel⟩
abbrev s_text_of : Stmt := top 21
theorem sc_text_of : FnScope ["term", "operator", "parts", "texts", "part"] ["term"] (defScope s_text_of) := ⟨rfl, rfl, rfl, by decide +kernel, rfl, by decide +kernel, by decide +kernel⟩
abbrev s_parse_term : Stmt := top 23
theorem sc_parse_term : FnScope ["text", "reader", "found"] ["text"] (defScope s_parse_term) := ⟨rfl, rfl, rfl, by decide +kernel, rfl, by decide +kernel, by decide +kernel⟩
abbrev s_law_source : Stmt := top 27
theorem sc_law_source : FnScope ["_law_script"] ["_law_script"] (defScope s_law_source) := ⟨rfl, rfl, rfl, by decide +kernel, rfl, by decide +kernel, by decide +kernel⟩
abbrev s_law_take : Stmt := top 28
theorem sc_law_take : FnScope ["_law_source_here", "_law_many", "_law_cell", "_law_digit", "_law_mixed_here"] ["_law_source_here", "_law_many"] (defScope s_law_take) := ⟨rfl, rfl, rfl, by decide +kernel, rfl, by decide +kernel, by decide +kernel⟩
abbrev s_law_pick : Stmt := top 29
theorem sc_law_pick : FnScope ["_law_source_here", "_law_row"] ["_law_source_here", "_law_row"] (defScope s_law_pick) := ⟨rfl, rfl, rfl, by decide +kernel, rfl, by decide +kernel, by decide +kernel⟩
abbrev s_law_mixed : Stmt := top 30
theorem sc_law_mixed : FnScope ["_law_source_here", "_law_row", "_law_found", "_law_one"] ["_law_source_here", "_law_row"] (defScope s_law_mixed) := ⟨rfl, rfl, rfl, by decide +kernel, rfl, by decide +kernel, by decide +kernel⟩
abbrev s_law_same : Stmt := top 31
theorem sc_law_same : FnScope ["_law_found", "_law_due", "_law_key", "_law_one", "_law_other"] ["_law_found", "_law_due"] (defScope s_law_same) := ⟨rfl, rfl, rfl, by decide +kernel, rfl, by decide +kernel, by decide +kernel⟩
abbrev s_law_call : Stmt := top 32
theorem sc_law_call : FnScope ["_law_ask", "_law_told", "_law_word", "e"] ["_law_ask"] (defScope s_law_call) := ⟨rfl, rfl, rfl, by decide +kernel, rfl, by decide +kernel, by decide +kernel⟩
abbrev s_law_parts : Stmt := top 33
theorem sc_law_parts : FnScope ["_law_word"] ["_law_word"] (defScope s_law_parts) := ⟨rfl, rfl, rfl, by decide +kernel, rfl, by decide +kernel, by decide +kernel⟩
abbrev s_law_text : Stmt := top 34
theorem sc_law_text : FnScope ["_law_word", "_law_texts", "_law_one"] ["_law_word"] (defScope s_law_text) := ⟨rfl, rfl, rfl, by decide +kernel, rfl, by decide +kernel, by decide +kernel⟩
abbrev s_law_leaves : Stmt := top 35
theorem sc_law_leaves : FnScope ["_law_word", "_law_one"] ["_law_word"] (defScope s_law_leaves) := ⟨rfl, rfl, rfl, by decide +kernel, rfl, by decide +kernel, by decide +kernel⟩
abbrev s_law_walk : Stmt := top 36
theorem sc_law_walk : FnScope ["_law_word", "_law_found", "_law_one"] ["_law_word"] (defScope s_law_walk) := ⟨rfl, rfl, rfl, by decide +kernel, rfl, by decide +kernel, by decide +kernel⟩
abbrev s_law_signs_in : Stmt := top 37
theorem sc_law_signs_in : FnScope ["_law_word", "_law_one"] ["_law_word"] (defScope s_law_signs_in) := ⟨rfl, rfl, rfl, by decide +kernel, rfl, by decide +kernel, by decide +kernel⟩
abbrev s_law_turned : Stmt := top 38
theorem sc_law_turned : FnScope ["_law_word", "_law_one"] ["_law_word"] (defScope s_law_turned) := ⟨rfl, rfl, rfl, by decide +kernel, rfl, by decide +kernel, by decide +kernel⟩
abbrev s_law_term : Stmt := top 39
theorem sc_law_term : FnScope ["_law_source_here", "_law_signs_here", "_law_deep", "_law_room", "_law_many", "_law_operator", "_law_k"] ["_law_source_here", "_law_signs_here", "_law_deep", "_law_room"] (defScope s_law_term) := ⟨rfl, rfl, rfl, by decide +kernel, rfl, by decide +kernel, by decide +kernel⟩
abbrev s_law_any_term : Stmt := top 40
theorem sc_law_any_term : FnScope ["_law_source_here", "_law_signs_here"] ["_law_source_here"] (defScope s_law_any_term) := ⟨rfl, rfl, rfl, by decide +kernel, rfl, by decide +kernel, by decide +kernel⟩
abbrev s_law_signs : Stmt := top 41
theorem sc_law_signs : FnScope ["_law_source_here", "_law_most", "_law_every"] ["_law_source_here", "_law_most"] (defScope s_law_signs) := ⟨rfl, rfl, rfl, by decide +kernel, rfl, by decide +kernel, by decide +kernel⟩
abbrev s_law_measure : Stmt := top 42
theorem sc_law_measure : FnScope ["_law_word", "_law_deep", "_law_sizes", "_law_one"] ["_law_word", "_law_deep"] (defScope s_law_measure) := ⟨rfl, rfl, rfl, by decide +kernel, rfl, by decide +kernel, by decide +kernel⟩
abbrev s_law_fits : Stmt := top 43
theorem sc_law_fits : FnScope ["_law_word"] ["_law_word"] (defScope s_law_fits) := ⟨rfl, rfl, rfl, by decide +kernel, rfl, by decide +kernel, by decide +kernel⟩
abbrev s_law_odd : Stmt := top 44
theorem sc_law_odd : FnScope ["_law_source_here", "_law_word", "_law_some"] ["_law_source_here", "_law_word"] (defScope s_law_odd) := ⟨rfl, rfl, rfl, by decide +kernel, rfl, by decide +kernel, by decide +kernel⟩
abbrev s_law_nest : Stmt := top 45
theorem sc_law_nest : FnScope ["_law_many", "_law_word", "_law_k"] ["_law_many"] (defScope s_law_nest) := ⟨rfl, rfl, rfl, by decide +kernel, rfl, by decide +kernel, by decide +kernel⟩
abbrev s_law_letter_told : Stmt := top 46
theorem sc_law_letter_told : FnScope ["_law_ask", "_law_told", "e"] ["_law_ask"] (defScope s_law_letter_told) := ⟨rfl, rfl, rfl, by decide +kernel, rfl, by decide +kernel, by decide +kernel⟩
abbrev s_law : Stmt := top 47
theorem sc_law : FnScope ["_law_script", "_law_source_here", "_law_turn", "_law_first", "_law_last", "_law_one", "_law_two", "_law_low", "_law_word", "_law_found", "_law_refusal", "_law_due", "_law_sign", "_law_odd_here", "_law_some", "_law_part", "_law_asks"] ["_law_script"] (defScope s_law) := ⟨rfl, rfl, rfl, by decide +kernel, rfl, by decide +kernel, by decide +kernel⟩
abbrev s_Reader___init__ : Stmt := clsSt (top 22) 0
theorem sc_Reader___init__ : FnScope ["self", "text"] ["self", "text"] (defScope s_Reader___init__) := ⟨rfl, rfl, rfl, by decide +kernel, rfl, by decide +kernel, by decide +kernel⟩
abbrev s_Reader_sees : Stmt := clsSt (top 22) 1
theorem sc_Reader_sees : FnScope ["self", "word"] ["self", "word"] (defScope s_Reader_sees) := ⟨rfl, rfl, rfl, by decide +kernel, rfl, by decide +kernel, by decide +kernel⟩
abbrev s_Reader_take : Stmt := clsSt (top 22) 2
theorem sc_Reader_take : FnScope ["self", "word"] ["self", "word"] (defScope s_Reader_take) := ⟨rfl, rfl, rfl, by decide +kernel, rfl, by decide +kernel, by decide +kernel⟩
abbrev s_Reader_part : Stmt := clsSt (top 22) 3
theorem sc_Reader_part : FnScope ["self", "max_depth", "sign", "found"] ["self", "max_depth"] (defScope s_Reader_part) := ⟨rfl, rfl, rfl, by decide +kernel, rfl, by decide +kernel, by decide +kernel⟩
abbrev s_Reader_sequence : Stmt := clsSt (top 22) 4
theorem sc_Reader_sequence : FnScope ["self", "max_depth", "parts", "operator"] ["self", "max_depth"] (defScope s_Reader_sequence) := ⟨rfl, rfl, rfl, by decide +kernel, rfl, by decide +kernel, by decide +kernel⟩
abbrev s_Reader_alone : Stmt := clsSt (top 22) 5
theorem sc_Reader_alone : FnScope ["self", "part"] ["self", "part"] (defScope s_Reader_alone) := ⟨rfl, rfl, rfl, by decide +kernel, rfl, by decide +kernel, by decide +kernel⟩
abbrev s_Expr___init__ : Stmt := clsSt (top 25) 0
theorem sc_Expr___init__ : FnScope ["self", "term"] ["self", "term"] (defScope s_Expr___init__) := ⟨rfl, rfl, rfl, by decide +kernel, rfl, by decide +kernel, by decide +kernel⟩
abbrev s_Expr_parse : Stmt := clsSt (top 25) 1
theorem sc_Expr_parse : FnScope ["cls", "text"] ["cls", "text"] (defScope s_Expr_parse) := ⟨rfl, rfl, rfl, by decide +kernel, rfl, by decide +kernel, by decide +kernel⟩
abbrev s_Expr_many : Stmt := clsSt (top 25) 2
theorem sc_Expr_many : FnScope ["text", "sign"] ["text"] (defScope s_Expr_many) := ⟨rfl, rfl, rfl, by decide +kernel, rfl, by decide +kernel, by decide +kernel⟩
abbrev s_Expr_term : Stmt := clsSt (top 25) 3
theorem sc_Expr_term : FnScope ["self"] ["self"] (defScope s_Expr_term) := ⟨rfl, rfl, rfl, by decide +kernel, rfl, by decide +kernel, by decide +kernel⟩
abbrev s_Expr_turned : Stmt := clsSt (top 25) 4
theorem sc_Expr_turned : FnScope ["self"] ["self"] (defScope s_Expr_turned) := ⟨rfl, rfl, rfl, by decide +kernel, rfl, by decide +kernel, by decide +kernel⟩
abbrev s_Expr___and__ : Stmt := clsSt (top 25) 5
theorem sc_Expr___and__ : FnScope ["self", "other"] ["self", "other"] (defScope s_Expr___and__) := ⟨rfl, rfl, rfl, by decide +kernel, rfl, by decide +kernel, by decide +kernel⟩
abbrev s_Expr___or__ : Stmt := clsSt (top 25) 6
theorem sc_Expr___or__ : FnScope ["self", "other"] ["self", "other"] (defScope s_Expr___or__) := ⟨rfl, rfl, rfl, by decide +kernel, rfl, by decide +kernel, by decide +kernel⟩
abbrev s_Expr___eq__ : Stmt := clsSt (top 25) 7
theorem sc_Expr___eq__ : FnScope ["self", "other"] ["self", "other"] (defScope s_Expr___eq__) := ⟨rfl, rfl, rfl, by decide +kernel, rfl, by decide +kernel, by decide +kernel⟩
abbrev s_Expr___contains__ : Stmt := clsSt (top 25) 8
theorem sc_Expr___contains__ : FnScope ["self", "letter"] ["self", "letter"] (defScope s_Expr___contains__) := ⟨rfl, rfl, rfl, by decide +kernel, rfl, by decide +kernel, by decide +kernel⟩
abbrev s_Expr___len__ : Stmt := clsSt (top 25) 9
theorem sc_Expr___len__ : FnScope ["self", "one"] ["self"] (defScope s_Expr___len__) := ⟨rfl, rfl, rfl, by decide +kernel, rfl, by decide +kernel, by decide +kernel⟩
abbrev s_Expr___str__ : Stmt := clsSt (top 25) 10
theorem sc_Expr___str__ : FnScope ["self"] ["self"] (defScope s_Expr___str__) := ⟨rfl, rfl, rfl, by decide +kernel, rfl, by decide +kernel, by decide +kernel⟩
abbrev s_Expr___repr__ : Stmt := clsSt (top 25) 11
theorem sc_Expr___repr__ : FnScope ["self"] ["self"] (defScope s_Expr___repr__) := ⟨rfl, rfl, rfl, by decide +kernel, rfl, by decide +kernel, by decide +kernel⟩
abbrev s_FaultError_init : Stmt := clsSt (top 1) 0
theorem sc_FaultError_init : FnScope ["self", "code"] ["self", "code"] (defScope s_FaultError_init) := ⟨rfl, rfl, rfl, by decide +kernel, rfl, by decide +kernel, by decide +kernel⟩
abbrev s_InvalidTerm_init : Stmt := clsSt (top 3) 0
theorem sc_InvalidTerm_init : FnScope ["self"] ["self"] (defScope s_InvalidTerm_init) := ⟨rfl, rfl, rfl, by decide +kernel, rfl, by decide +kernel, by decide +kernel⟩
abbrev s_InvalidLetter_init : Stmt := clsSt (top 4) 0
theorem sc_InvalidLetter_init : FnScope ["self", "letter"] ["self", "letter"] (defScope s_InvalidLetter_init) := ⟨rfl, rfl, rfl, by decide +kernel, rfl, by decide +kernel, by decide +kernel⟩
abbrev s_InvalidText_init : Stmt := clsSt (top 5) 0
theorem sc_InvalidText_init : FnScope ["self"] ["self"] (defScope s_InvalidText_init) := ⟨rfl, rfl, rfl, by decide +kernel, rfl, by decide +kernel, by decide +kernel⟩
structure Top (K : PySem.W.Frag) (mg : Str → Option Value) : Prop where
  b_IndexError : mg "IndexError" = none
  b_LookupError : mg "LookupError" = none
  b_ValueError : mg "ValueError" = none
  b_all : mg "all" = none
  b_bool : mg "bool" = none
  b_classmethod : mg "classmethod" = none
  b_dict : mg "dict" = none
  b_int : mg "int" = none
  b_isinstance : mg "isinstance" = none
  b_len : mg "len" = none
  b_list : mg "list" = none
  b_property : mg "property" = none
  b_range : mg "range" = none
  b_repr : mg "repr" = none
  b_set : mg "set" = none
  b_sorted : mg "sorted" = none
  b_staticmethod : mg "staticmethod" = none
  b_str : mg "str" = none
  b_sum : mg "sum" = none
  b_tuple : mg "tuple" = none
  b_zip : mg "zip" = none
  g_LETTERS : ∃ t, mg "LETTERS" = some (.str "abcdefgh" t)
  g_OPERATORS : mg "OPERATORS" = some (.ref (He.ga K "OPERATORS"))
  t_OPERATORS : ∀ H, SqT K H (He.ga K "OPERATORS") [.str "&", .str "|"]
  g_MAX_DEPTH : ∃ t, mg "MAX_DEPTH" = some (.int 5 t)
  g_MAX_SIZE : ∃ t, mg "MAX_SIZE" = some (.int 24 t)
  c_FaultError : mg "FaultError" = some (.ref (He.ga K "FaultError"))
  c_Missing : mg "Missing" = some (.ref (He.ga K "Missing"))
  c_InvalidTerm : mg "InvalidTerm" = some (.ref (He.ga K "InvalidTerm"))
  c_InvalidLetter : mg "InvalidLetter" = some (.ref (He.ga K "InvalidLetter"))
  c_InvalidText : mg "InvalidText" = some (.ref (He.ga K "InvalidText"))
  c_NothingLeft : mg "NothingLeft" = some (.ref (He.ga K "NothingLeft"))
  c_Reader : mg "Reader" = some (.ref (He.ga K "Reader"))
  c_Expr : mg "Expr" = some (.ref (He.ga K "Expr"))
  x_InvalidTerm : OwnX K "InvalidTerm" "FaultError"
  x_InvalidLetter : OwnX K "InvalidLetter" "FaultError"
  x_InvalidText : OwnX K "InvalidText" "FaultError"
  n_Reader_text : PySem.W.findIn K (.ref (He.ga K "Reader")) "text" = some none
  n_Reader_at : PySem.W.findIn K (.ref (He.ga K "Reader")) "at" = some none
  n_InvalidLetter_letter : PySem.W.findIn K (.ref (He.ga K "InvalidLetter")) "letter" = some none
  n_Expr_held : PySem.W.findIn K (.ref (He.ga K "Expr")) "held" = some none
  e_InvalidLetter : PySem.W.exmOne K (.ref (He.ga K "InvalidLetter")) (.ref (He.ga K "InvalidLetter")) = some true
  k_Reader : Cls K (He.ga K "Reader")
  mk_Reader : Mk K (He.ga K "Reader") (He.ma K (He.ga K "Reader") "__init__")
  m_Reader_sees : Meth K (He.ga K "Reader") "sees" (He.ma K (He.ga K "Reader") "sees")
  m_Reader_take : Meth K (He.ga K "Reader") "take" (He.ma K (He.ga K "Reader") "take")
  m_Reader_part : Meth K (He.ga K "Reader") "part" (He.ma K (He.ga K "Reader") "part")
  m_Reader_sequence : Meth K (He.ga K "Reader") "sequence" (He.ma K (He.ga K "Reader") "sequence")
  m_Reader_alone : Meth K (He.ga K "Reader") "alone" (He.ma K (He.ga K "Reader") "alone")
  k_Expr : Cls K (He.ga K "Expr")
  mk_Expr : Mk K (He.ga K "Expr") (He.ma K (He.ga K "Expr") "__init__")
  r_Expr : ClX.CRead K (He.ga K "Expr") (.type "type")
  m_Expr_parse : ClX.CMet K (He.ga K "Expr") (.type "type") "parse" (He.ma K (He.ga K "Expr") "parse") (gAd K "classmethod" "Expr" "parse")
  s_Expr_many : StatOf K (He.ga K "Expr") "many" (He.ma K (He.ga K "Expr") "many") (gAd K "staticmethod" "Expr" "many")
  p_Expr_term : PropOf K (He.ga K "Expr") "term" (He.ma K (He.ga K "Expr") "term") (gAd K "property" "Expr" "term")
  m_Expr_turned : Meth K (He.ga K "Expr") "turned" (He.ma K (He.ga K "Expr") "turned")
  m_Expr___and__ : Meth K (He.ga K "Expr") "__and__" (He.ma K (He.ga K "Expr") "__and__")
  m_Expr___or__ : Meth K (He.ga K "Expr") "__or__" (He.ma K (He.ga K "Expr") "__or__")
  m_Expr___eq__ : Meth K (He.ga K "Expr") "__eq__" (He.ma K (He.ga K "Expr") "__eq__")
  m_Expr___contains__ : Meth K (He.ga K "Expr") "__contains__" (He.ma K (He.ga K "Expr") "__contains__")
  m_Expr___len__ : Meth K (He.ga K "Expr") "__len__" (He.ma K (He.ga K "Expr") "__len__")
  m_Expr___str__ : Meth K (He.ga K "Expr") "__str__" (He.ma K (He.ga K "Expr") "__str__")
  m_Expr___repr__ : Meth K (He.ga K "Expr") "__repr__" (He.ma K (He.ga K "Expr") "__repr__")
  ns_InvalidTerm : PySem.W.subIn K (.ref (He.ga K "InvalidTerm")) (.type "StopIteration") = some false
  i_Expr : InsX K (He.ga K "Expr")
  ne_Expr : PySem.W.findIn K (.ref (He.ga K "Expr")) "__ne__" = some (some (.builtin "object.__ne__"))
  fe : FeC K "FaultError"
  sf_Expr : PySem.W.selfFirst K (He.ga K "Expr") = true
  nb_Expr : PySem.W.findIn K (.ref (He.ga K "Expr")) "__bool__" = some none
end FF

namespace FF
open PySem PySem.Spec PyProof.Rows L2
def d_is_letter : He.DefD := ⟨("is_letter", none), "is_letter", "is_letter", defArgs s_is_letter, defBody s_is_letter, defScope s_is_letter, [], []⟩
def d_measured : He.DefD := ⟨("measured", none), "measured", "measured", defArgs s_measured, defBody s_measured, defScope s_measured, [], []⟩
def d_is_term : He.DefD := ⟨("is_term", none), "is_term", "is_term", defArgs s_is_term, defBody s_is_term, defScope s_is_term, [], [("max_depth", .int 5), ("max_size", .int 24)]⟩
def d_need_term : He.DefD := ⟨("need_term", none), "need_term", "need_term", defArgs s_need_term, defBody s_need_term, defScope s_need_term, [], []⟩
def d_parts_of : He.DefD := ⟨("parts_of", none), "parts_of", "parts_of", defArgs s_parts_of, defBody s_parts_of, defScope s_parts_of, [], []⟩
def d_walked : He.DefD := ⟨("walked", none), "walked", "walked", defArgs s_walked, defBody s_walked, defScope s_walked, [], []⟩
def d_letters_in : He.DefD := ⟨("letters_in", none), "letters_in", "letters_in", defArgs s_letters_in, defBody s_letters_in, defScope s_letters_in, [], []⟩
def d_turned_in : He.DefD := ⟨("turned_in", none), "turned_in", "turned_in", defArgs s_turned_in, defBody s_turned_in, defScope s_turned_in, [], []⟩
def d_text_of : He.DefD := ⟨("text_of", none), "text_of", "text_of", defArgs s_text_of, defBody s_text_of, defScope s_text_of, [], []⟩
def d_parse_term : He.DefD := ⟨("parse_term", none), "parse_term", "parse_term", defArgs s_parse_term, defBody s_parse_term, defScope s_parse_term, [], []⟩
def d_law_source : He.DefD := ⟨("_law_source", none), "_law_source", "_law_source", defArgs s_law_source, defBody s_law_source, defScope s_law_source, [], []⟩
def d_law_take : He.DefD := ⟨("_law_take", none), "_law_take", "_law_take", defArgs s_law_take, defBody s_law_take, defScope s_law_take, [], []⟩
def d_law_pick : He.DefD := ⟨("_law_pick", none), "_law_pick", "_law_pick", defArgs s_law_pick, defBody s_law_pick, defScope s_law_pick, [], []⟩
def d_law_mixed : He.DefD := ⟨("_law_mixed", none), "_law_mixed", "_law_mixed", defArgs s_law_mixed, defBody s_law_mixed, defScope s_law_mixed, [], []⟩
def d_law_same : He.DefD := ⟨("_law_same", none), "_law_same", "_law_same", defArgs s_law_same, defBody s_law_same, defScope s_law_same, [], []⟩
def d_law_call : He.DefD := ⟨("_law_call", none), "_law_call", "_law_call", defArgs s_law_call, defBody s_law_call, defScope s_law_call, [], []⟩
def d_law_parts : He.DefD := ⟨("_law_parts", none), "_law_parts", "_law_parts", defArgs s_law_parts, defBody s_law_parts, defScope s_law_parts, [], []⟩
def d_law_text : He.DefD := ⟨("_law_text", none), "_law_text", "_law_text", defArgs s_law_text, defBody s_law_text, defScope s_law_text, [], []⟩
def d_law_leaves : He.DefD := ⟨("_law_leaves", none), "_law_leaves", "_law_leaves", defArgs s_law_leaves, defBody s_law_leaves, defScope s_law_leaves, [], []⟩
def d_law_walk : He.DefD := ⟨("_law_walk", none), "_law_walk", "_law_walk", defArgs s_law_walk, defBody s_law_walk, defScope s_law_walk, [], []⟩
def d_law_signs_in : He.DefD := ⟨("_law_signs_in", none), "_law_signs_in", "_law_signs_in", defArgs s_law_signs_in, defBody s_law_signs_in, defScope s_law_signs_in, [], []⟩
def d_law_turned : He.DefD := ⟨("_law_turned", none), "_law_turned", "_law_turned", defArgs s_law_turned, defBody s_law_turned, defScope s_law_turned, [], []⟩
def d_law_term : He.DefD := ⟨("_law_term", none), "_law_term", "_law_term", defArgs s_law_term, defBody s_law_term, defScope s_law_term, [], []⟩
def d_law_any_term : He.DefD := ⟨("_law_any_term", none), "_law_any_term", "_law_any_term", defArgs s_law_any_term, defBody s_law_any_term, defScope s_law_any_term, [], []⟩
def d_law_signs : He.DefD := ⟨("_law_signs", none), "_law_signs", "_law_signs", defArgs s_law_signs, defBody s_law_signs, defScope s_law_signs, [], []⟩
def d_law_measure : He.DefD := ⟨("_law_measure", none), "_law_measure", "_law_measure", defArgs s_law_measure, defBody s_law_measure, defScope s_law_measure, [], []⟩
def d_law_fits : He.DefD := ⟨("_law_fits", none), "_law_fits", "_law_fits", defArgs s_law_fits, defBody s_law_fits, defScope s_law_fits, [], []⟩
def d_law_odd : He.DefD := ⟨("_law_odd", none), "_law_odd", "_law_odd", defArgs s_law_odd, defBody s_law_odd, defScope s_law_odd, [], []⟩
def d_law_nest : He.DefD := ⟨("_law_nest", none), "_law_nest", "_law_nest", defArgs s_law_nest, defBody s_law_nest, defScope s_law_nest, [], []⟩
def d_law_letter_told : He.DefD := ⟨("_law_letter_told", none), "_law_letter_told", "_law_letter_told", defArgs s_law_letter_told, defBody s_law_letter_told, defScope s_law_letter_told, [], []⟩
def d_law : He.DefD := ⟨("law", none), "law", "law", defArgs s_law, defBody s_law, defScope s_law, [], []⟩
def d_FaultError_init : He.DefD := ⟨("FaultError", some "__init__"), "__init__", "FaultError.__init__", defArgs s_FaultError_init, defBody s_FaultError_init, defScope s_FaultError_init, [], []⟩
def d_InvalidTerm_init : He.DefD := ⟨("InvalidTerm", some "__init__"), "__init__", "InvalidTerm.__init__", defArgs s_InvalidTerm_init, defBody s_InvalidTerm_init, defScope s_InvalidTerm_init, [], []⟩
def d_InvalidLetter_init : He.DefD := ⟨("InvalidLetter", some "__init__"), "__init__", "InvalidLetter.__init__", defArgs s_InvalidLetter_init, defBody s_InvalidLetter_init, defScope s_InvalidLetter_init, [], []⟩
def d_InvalidText_init : He.DefD := ⟨("InvalidText", some "__init__"), "__init__", "InvalidText.__init__", defArgs s_InvalidText_init, defBody s_InvalidText_init, defScope s_InvalidText_init, [], []⟩
def d_Reader___init__ : He.DefD := ⟨("Reader", some "__init__"), "__init__", "Reader.__init__", defArgs s_Reader___init__, defBody s_Reader___init__, defScope s_Reader___init__, [], []⟩
def d_Reader_sees : He.DefD := ⟨("Reader", some "sees"), "sees", "Reader.sees", defArgs s_Reader_sees, defBody s_Reader_sees, defScope s_Reader_sees, [], []⟩
def d_Reader_take : He.DefD := ⟨("Reader", some "take"), "take", "Reader.take", defArgs s_Reader_take, defBody s_Reader_take, defScope s_Reader_take, [], []⟩
def d_Reader_part : He.DefD := ⟨("Reader", some "part"), "part", "Reader.part", defArgs s_Reader_part, defBody s_Reader_part, defScope s_Reader_part, [], []⟩
def d_Reader_sequence : He.DefD := ⟨("Reader", some "sequence"), "sequence", "Reader.sequence", defArgs s_Reader_sequence, defBody s_Reader_sequence, defScope s_Reader_sequence, [], []⟩
def d_Reader_alone : He.DefD := ⟨("Reader", some "alone"), "alone", "Reader.alone", defArgs s_Reader_alone, defBody s_Reader_alone, defScope s_Reader_alone, [], []⟩
def d_Expr___init__ : He.DefD := ⟨("Expr", some "__init__"), "__init__", "Expr.__init__", defArgs s_Expr___init__, defBody s_Expr___init__, defScope s_Expr___init__, [], []⟩
def d_Expr_turned : He.DefD := ⟨("Expr", some "turned"), "turned", "Expr.turned", defArgs s_Expr_turned, defBody s_Expr_turned, defScope s_Expr_turned, [], []⟩
def d_Expr___and__ : He.DefD := ⟨("Expr", some "__and__"), "__and__", "Expr.__and__", defArgs s_Expr___and__, defBody s_Expr___and__, defScope s_Expr___and__, [], []⟩
def d_Expr___or__ : He.DefD := ⟨("Expr", some "__or__"), "__or__", "Expr.__or__", defArgs s_Expr___or__, defBody s_Expr___or__, defScope s_Expr___or__, [], []⟩
def d_Expr___eq__ : He.DefD := ⟨("Expr", some "__eq__"), "__eq__", "Expr.__eq__", defArgs s_Expr___eq__, defBody s_Expr___eq__, defScope s_Expr___eq__, [], []⟩
def d_Expr___contains__ : He.DefD := ⟨("Expr", some "__contains__"), "__contains__", "Expr.__contains__", defArgs s_Expr___contains__, defBody s_Expr___contains__, defScope s_Expr___contains__, [], []⟩
def d_Expr___len__ : He.DefD := ⟨("Expr", some "__len__"), "__len__", "Expr.__len__", defArgs s_Expr___len__, defBody s_Expr___len__, defScope s_Expr___len__, [], []⟩
def d_Expr___str__ : He.DefD := ⟨("Expr", some "__str__"), "__str__", "Expr.__str__", defArgs s_Expr___str__, defBody s_Expr___str__, defScope s_Expr___str__, [], []⟩
def d_Expr___repr__ : He.DefD := ⟨("Expr", some "__repr__"), "__repr__", "Expr.__repr__", defArgs s_Expr___repr__, defBody s_Expr___repr__, defScope s_Expr___repr__, [], []⟩
def g_Expr_parse : GetD := ⟨"classmethod", "Expr", "parse", ⟨("Expr", some "parse"), "parse", "Expr.parse", defArgs s_Expr_parse, defBody s_Expr_parse, defScope s_Expr_parse, [], []⟩⟩
def g_Expr_many : GetD := ⟨"staticmethod", "Expr", "many", ⟨("Expr", some "many"), "many", "Expr.many", defArgs s_Expr_many, defBody s_Expr_many, defScope s_Expr_many, [], []⟩⟩
def g_Expr_term : GetD := ⟨"property", "Expr", "term", ⟨("Expr", some "term"), "term", "Expr.term", defArgs s_Expr_term, defBody s_Expr_term, defScope s_Expr_term, [], []⟩⟩
def fp : List GetD := [g_Expr_parse, g_Expr_many, g_Expr_term]
def fn : List He.DefD := [d_is_letter, d_measured, d_is_term, d_need_term, d_parts_of, d_walked, d_letters_in, d_turned_in, d_text_of, d_parse_term, d_law_source, d_law_take, d_law_pick, d_law_mixed, d_law_same, d_law_call, d_law_parts, d_law_text, d_law_leaves, d_law_walk, d_law_signs_in, d_law_turned, d_law_term, d_law_any_term, d_law_signs, d_law_measure, d_law_fits, d_law_odd, d_law_nest, d_law_letter_told, d_law, d_FaultError_init, d_InvalidTerm_init, d_InvalidLetter_init, d_InvalidText_init, d_Reader___init__, d_Reader_sees, d_Reader_take, d_Reader_part, d_Reader_sequence, d_Reader_alone, d_Expr___init__, d_Expr_turned, d_Expr___and__, d_Expr___or__, d_Expr___eq__, d_Expr___contains__, d_Expr___len__, d_Expr___str__, d_Expr___repr__]
def fa : List He.Fa := [.free "IndexError", .free "LookupError", .free "ValueError", .free "all", .free "bool", .free "classmethod", .free "dict", .free "int", .free "isinstance", .free "len", .free "list", .free "property", .free "range", .free "repr", .free "set", .free "sorted", .free "staticmethod", .free "str", .free "sum", .free "tuple", .free "zip", .str "LETTERS" "abcdefgh", .glo "OPERATORS", .int "MAX_DEPTH" 5, .int "MAX_SIZE" 24, .glo "FaultError", .glo "Missing", .glo "InvalidTerm", .glo "InvalidLetter", .glo "InvalidText", .glo "NothingLeft", .glo "Reader", .glo "Expr", .noat "Reader" "text", .noat "Reader" "at", .noat "InvalidLetter" "letter", .noat "Expr" "held", .exm "InvalidLetter" "InvalidLetter" true, .cls "Reader", .mkr "Reader", .meth "Reader" "sees", .meth "Reader" "take", .meth "Reader" "part", .meth "Reader" "sequence", .meth "Reader" "alone", .cls "Expr", .mkr "Expr", .meth "Expr" "turned", .meth "Expr" "__and__", .meth "Expr" "__or__", .meth "Expr" "__eq__", .meth "Expr" "__contains__", .meth "Expr" "__len__", .meth "Expr" "__str__", .meth "Expr" "__repr__", .glo "is_letter", .glo "measured", .glo "is_term", .glo "need_term", .glo "parts_of", .glo "walked", .glo "letters_in", .glo "turned_in", .glo "text_of", .glo "parse_term", .glo "_law_source", .glo "_law_take", .glo "_law_pick", .glo "_law_mixed", .glo "_law_same", .glo "_law_call", .glo "_law_parts", .glo "_law_text", .glo "_law_leaves", .glo "_law_walk", .glo "_law_signs_in", .glo "_law_turned", .glo "_law_term", .glo "_law_any_term", .glo "_law_signs", .glo "_law_measure", .glo "_law_fits", .glo "_law_odd", .glo "_law_nest", .glo "_law_letter_told", .glo "law"]
def ex (K : PySem.W.Frag) : Bool := He.tupB K "OPERATORS" [.str "&", .str "|"] && ownXB K "InvalidTerm" "FaultError" && ownXB K "InvalidLetter" "FaultError" && ownXB K "InvalidText" "FaultError" && readB K "Expr" && clsB K "Expr" "parse" && statB K "Expr" "many" && propB K "Expr" "term" && decide (PySem.W.subIn K (.ref (He.ga K "InvalidTerm")) (.type "StopIteration") = some false) && insCB K "Expr" && isBlt (PySem.W.findIn K (.ref (He.ga K "Expr")) "__ne__") "object.__ne__" && feCB K "FaultError" && PySem.W.selfFirst K (He.ga K "Expr") && He.eqO (PySem.W.findIn K (.ref (He.ga K "Expr")) "__bool__") (some none)
theorem top_of {K : PySem.W.Frag} {h : Heap} {mg : Str → Option Value} (X : K.In h) (G : h.Ns mainGlobals mg) (c : He.SaysD fa fn K) (e : ex K = true) : Top K mg where
  b_IndexError := He.free_ok X G (c.fact 0 (f := .free "IndexError") rfl)
  b_LookupError := He.free_ok X G (c.fact 1 (f := .free "LookupError") rfl)
  b_ValueError := He.free_ok X G (c.fact 2 (f := .free "ValueError") rfl)
  b_all := He.free_ok X G (c.fact 3 (f := .free "all") rfl)
  b_bool := He.free_ok X G (c.fact 4 (f := .free "bool") rfl)
  b_classmethod := He.free_ok X G (c.fact 5 (f := .free "classmethod") rfl)
  b_dict := He.free_ok X G (c.fact 6 (f := .free "dict") rfl)
  b_int := He.free_ok X G (c.fact 7 (f := .free "int") rfl)
  b_isinstance := He.free_ok X G (c.fact 8 (f := .free "isinstance") rfl)
  b_len := He.free_ok X G (c.fact 9 (f := .free "len") rfl)
  b_list := He.free_ok X G (c.fact 10 (f := .free "list") rfl)
  b_property := He.free_ok X G (c.fact 11 (f := .free "property") rfl)
  b_range := He.free_ok X G (c.fact 12 (f := .free "range") rfl)
  b_repr := He.free_ok X G (c.fact 13 (f := .free "repr") rfl)
  b_set := He.free_ok X G (c.fact 14 (f := .free "set") rfl)
  b_sorted := He.free_ok X G (c.fact 15 (f := .free "sorted") rfl)
  b_staticmethod := He.free_ok X G (c.fact 16 (f := .free "staticmethod") rfl)
  b_str := He.free_ok X G (c.fact 17 (f := .free "str") rfl)
  b_sum := He.free_ok X G (c.fact 18 (f := .free "sum") rfl)
  b_tuple := He.free_ok X G (c.fact 19 (f := .free "tuple") rfl)
  b_zip := He.free_ok X G (c.fact 20 (f := .free "zip") rfl)
  g_LETTERS := He.str_ok X G (c.fact 21 (f := .str "LETTERS" "abcdefgh") rfl)
  g_OPERATORS := He.glo_ok X G (c.fact 22 (f := .glo "OPERATORS") rfl)
  t_OPERATORS := fun H => He.tupB_ok (vs := [.str "&", .str "|"]) (by simp only [ex, Bool.and_eq_true] at e; simp only [e]) H
  g_MAX_DEPTH := He.int_ok X G (c.fact 23 (f := .int "MAX_DEPTH" 5) rfl)
  g_MAX_SIZE := He.int_ok X G (c.fact 24 (f := .int "MAX_SIZE" 24) rfl)
  c_FaultError := He.glo_ok X G (c.fact 25 (f := .glo "FaultError") rfl)
  c_Missing := He.glo_ok X G (c.fact 26 (f := .glo "Missing") rfl)
  c_InvalidTerm := He.glo_ok X G (c.fact 27 (f := .glo "InvalidTerm") rfl)
  c_InvalidLetter := He.glo_ok X G (c.fact 28 (f := .glo "InvalidLetter") rfl)
  c_InvalidText := He.glo_ok X G (c.fact 29 (f := .glo "InvalidText") rfl)
  c_NothingLeft := He.glo_ok X G (c.fact 30 (f := .glo "NothingLeft") rfl)
  c_Reader := He.glo_ok X G (c.fact 31 (f := .glo "Reader") rfl)
  c_Expr := He.glo_ok X G (c.fact 32 (f := .glo "Expr") rfl)
  x_InvalidTerm := ownXB_ok (by simp only [ex, Bool.and_eq_true] at e; simp only [e])
  x_InvalidLetter := ownXB_ok (by simp only [ex, Bool.and_eq_true] at e; simp only [e])
  x_InvalidText := ownXB_ok (by simp only [ex, Bool.and_eq_true] at e; simp only [e])
  n_Reader_text := He.noat_ok (c.fact 33 (f := .noat "Reader" "text") rfl)
  n_Reader_at := He.noat_ok (c.fact 34 (f := .noat "Reader" "at") rfl)
  n_InvalidLetter_letter := He.noat_ok (c.fact 35 (f := .noat "InvalidLetter" "letter") rfl)
  n_Expr_held := He.noat_ok (c.fact 36 (f := .noat "Expr" "held") rfl)
  e_InvalidLetter := He.exm_ok (c.fact 37 (f := .exm "InvalidLetter" "InvalidLetter" true) rfl)
  k_Reader := He.cls_ok (c.fact 38 (f := .cls "Reader") rfl)
  mk_Reader := He.mkr_ok (c.fact 39 (f := .mkr "Reader") rfl)
  m_Reader_sees := He.meth_ok (c.fact 40 (f := .meth "Reader" "sees") rfl)
  m_Reader_take := He.meth_ok (c.fact 41 (f := .meth "Reader" "take") rfl)
  m_Reader_part := He.meth_ok (c.fact 42 (f := .meth "Reader" "part") rfl)
  m_Reader_sequence := He.meth_ok (c.fact 43 (f := .meth "Reader" "sequence") rfl)
  m_Reader_alone := He.meth_ok (c.fact 44 (f := .meth "Reader" "alone") rfl)
  k_Expr := He.cls_ok (c.fact 45 (f := .cls "Expr") rfl)
  mk_Expr := He.mkr_ok (c.fact 46 (f := .mkr "Expr") rfl)
  r_Expr := readB_ok (by simp only [ex, Bool.and_eq_true] at e; simp only [e])
  m_Expr_parse := clsB_ok (by simp only [ex, Bool.and_eq_true] at e; simp only [e])
  s_Expr_many := statB_ok (by simp only [ex, Bool.and_eq_true] at e; simp only [e])
  p_Expr_term := propB_ok (by simp only [ex, Bool.and_eq_true] at e; simp only [e])
  m_Expr_turned := He.meth_ok (c.fact 47 (f := .meth "Expr" "turned") rfl)
  m_Expr___and__ := He.meth_ok (c.fact 48 (f := .meth "Expr" "__and__") rfl)
  m_Expr___or__ := He.meth_ok (c.fact 49 (f := .meth "Expr" "__or__") rfl)
  m_Expr___eq__ := He.meth_ok (c.fact 50 (f := .meth "Expr" "__eq__") rfl)
  m_Expr___contains__ := He.meth_ok (c.fact 51 (f := .meth "Expr" "__contains__") rfl)
  m_Expr___len__ := He.meth_ok (c.fact 52 (f := .meth "Expr" "__len__") rfl)
  m_Expr___str__ := He.meth_ok (c.fact 53 (f := .meth "Expr" "__str__") rfl)
  m_Expr___repr__ := He.meth_ok (c.fact 54 (f := .meth "Expr" "__repr__") rfl)
  ns_InvalidTerm := of_decide_eq_true (by simp only [ex, Bool.and_eq_true] at e; simp only [e])
  i_Expr := insCB_ok (He.cls_ok (c.fact 45 (f := .cls "Expr") rfl)) (by simp only [ex, Bool.and_eq_true] at e; simp only [e])
  ne_Expr := isBlt_ok (by simp only [ex, Bool.and_eq_true] at e; simp only [e])
  fe := feCB_ok (by simp only [ex, Bool.and_eq_true] at e; simp only [e])
  sf_Expr := (by simp only [ex, Bool.and_eq_true] at e; simp only [e])
  nb_Expr := He.eqO_ok (by simp only [ex, Bool.and_eq_true] at e; simp only [e])
def loose : List PySem.Str := [("FaultError" : PySem.Str), ("Missing" : PySem.Str), ("InvalidTerm" : PySem.Str), ("InvalidLetter" : PySem.Str), ("InvalidText" : PySem.Str), ("NothingLeft" : PySem.Str), ("LETTERS" : PySem.Str), ("OPERATORS" : PySem.Str), ("MAX_DEPTH" : PySem.Str), ("MAX_SIZE" : PySem.Str), ("is_letter" : PySem.Str), ("measured" : PySem.Str), ("is_term" : PySem.Str), ("need_term" : PySem.Str), ("parts_of" : PySem.Str), ("walked" : PySem.Str), ("letters_in" : PySem.Str), ("turned_in" : PySem.Str), ("text_of" : PySem.Str), ("Reader" : PySem.Str), ("parse_term" : PySem.Str), ("Expr" : PySem.Str), ("_law_source" : PySem.Str), ("_law_take" : PySem.Str), ("_law_pick" : PySem.Str), ("_law_mixed" : PySem.Str), ("_law_same" : PySem.Str), ("_law_call" : PySem.Str), ("_law_parts" : PySem.Str), ("_law_text" : PySem.Str), ("_law_leaves" : PySem.Str), ("_law_walk" : PySem.Str), ("_law_signs_in" : PySem.Str), ("_law_turned" : PySem.Str), ("_law_term" : PySem.Str), ("_law_any_term" : PySem.Str), ("_law_signs" : PySem.Str), ("_law_measure" : PySem.Str), ("_law_fits" : PySem.Str), ("_law_odd" : PySem.Str), ("_law_nest" : PySem.Str), ("_law_letter_told" : PySem.Str)]
abbrev R : PySem.W.OpenRow := PySem.W.OpenLaw.row PySem.Challenge.rw_fivefault_k08_expressions_with_operators
abbrev hk : PySem.W.Hook := hookW 5 fa fn fp [("law", none)] ex
def ob (s : PySem.W.SharedT) : AlZ := obsW 5 fa fn fp [("law", none)] ex (HandSHeadRun.getT s)
theorem ob_eq (s : PySem.W.SharedT) : ob s = hk.obs s.abs := obsW_eq (HandSHeadRun.getT_eq s)
theorem run (w : World) : HandSHeadRun.RunEq R (PySem.W.view R.prog [47]) hk ob 4000 loose w := by
  intro os
  kernel_rfl
end FF
namespace FF
open PySem PySem.Spec PyProof.Rows L2
/-! ### the draws' source -/
def srcGood (c : Addr) (xs : List V) : Prop := ∃ pos big seed cnt : Int, xs = [.ref c, .int pos, .int big, .int seed, .int cnt] ∧ 0 ≤ pos ∧ 0 ≤ seed ∧ seed < 2147483629
/-- at s stands a source of draws -/
def Src (H : Hp) (s : Addr) : Prop := ∃ (c : Addr) (ns : List Int), H s = some (hid (srcGood c) s) ∧ H c = some (.lst (ns.map V.int))
theorem Src.up {H H' : Hp} {s : Addr} (e : Same H H') (h : Src H s) : Src H' s := by
  obtain ⟨c, ns, h1, h2⟩ := h
  exact ⟨c, ns, e _ _ h1, e _ _ h2⟩
def spTakeL : Sp := fun vs H Q _ => ∃ (s c : Addr) (many : Int) (xs : List V) (ns : List Int), vs = [.ref s, .int many] ∧ 0 < many ∧ many < 1073741824 ∧ H s = some (.lst xs) ∧ srcGood c xs ∧ H c = some (.lst (ns.map V.int)) ∧ c ≠ s ∧
  ∀ n ys, 0 ≤ n → n < many → srcGood c ys → Q (.int n) (upd H s (.lst ys))
/-- a draw: some number below many; nothing is seen to change -/
def spTake : Sp := fun vs H Q _ => ∃ (s : Addr) (many : Int), vs = [.ref s, .int many] ∧ 0 < many ∧ many < 1073741824 ∧ Src H s ∧ ∀ n, 0 ≤ n → n < many → Q (.int n) H
section
variable {P : Program} {w : World} {K : PySem.W.Frag} {mg : Str → Option Value} {base : Heap}
theorem ok_take {f : Addr} {fd : FuncData} (F : FunD K "_law_take" "_law_take" (defArgs s_law_take) (defBody s_law_take) (defScope s_law_take) [] [] f fd) (hm : mg "_law_take" = some (.ref f)) (T : Top K mg) : Def P w K mg base "_law_take" 1 ["_law_source_here", "_law_many"] spTakeL := by
  refine def_mk F hm (F.bindsN fun _ _ _ _ _ _ us hl => match us, hl with | [_, _], _ => rfl) sc_law_take (fun vs H Q E h => ?_) (fun cdv A outer s H vs Q E hr h => ?_)
  · obtain ⟨s, c, many, xs, ns, rfl, _⟩ := h
    rfl
  obtain ⟨s, c, many, xs, ns, rfl, m0, m1, hs, ⟨pos, big, seed, cnt, rfl, p0, s0, s1⟩, hc, ncs, q⟩ := h
  refine ⟨_, (C8.pss_cut (ps_if (PW.pt (pw_and (pt_cmpR op_eq (pe_ix (ix_listK K) (pv 0) pe_int (fun _ _ => rfl)) pe_int (nomark _)) (pw_and1 (pt_cmpR op_lt (pe_ix (ix_listK K) (pv 0) pe_int (fun _ _ => rfl)) (pe_callB (call_lenK K) (by rfl) T.b_len (by decide +kernel) (pa_cons (pe_ix (ix_listK K) (pv 0) pe_int (fun _ _ => rfl)) pa_nil)) (nomark _)))))
  (pss_cons (ps_set (i := 2) sc_law_take.nd rfl (Or.inl rfl) (pe_ix (ix_listK K) (pe_ix (ix_listK K) (pv 0) pe_int (fun _ _ => rfl)) (pe_ix (ix_listK K) (pv 0) pe_int (fun _ _ => rfl)) (fun _ _ => rfl)))
  (pss_cons (ps_asg (pe_op op_add (pe_ix (ix_listK K) (pv 0) pe_int (fun _ _ => rfl)) pe_int) (pg_sub (pv 0) pe_int set_list))
  (pss_one (ps_if (pt_cmpR op_ge (pv 2) (pe_op op_pow pe_int pe_int) (nomark _))
  (pss_one (ps_asg (pv 2) (pg_sub (pv 0) pe_int set_list)))
  (pss_one (ps_asg (pe_op op_mod (pe_callTy call_int1 (by rfl) T.b_int (by decide +kernel) (pa_cons (pe_op op_add (pe_op op_add (pe_op op_mul (pe_ix (ix_listK K) (pv 0) pe_int (fun _ _ => rfl)) pe_int) (pe_op op_mul (pe_op op_mod (pe_callTy call_int1 (by rfl) T.b_int (by decide +kernel) (pa_cons (pv 2) pa_nil)) pe_int) pe_int)) pe_int) pa_nil)) pe_int) (pg_sub (pv 0) pe_int set_list)))))))
  pss_nil)
  (pss_cons (ps_if (pt_cmpR op_gt (pe_ix (ix_listK K) (pv 0) pe_int (fun _ _ => rfl)) pe_int (nomark _))
  (pss_cons (ps_set (i := 3) sc_law_take.nd rfl (Or.inl rfl) (pe_op op_mod (pe_callTy call_int1 (by rfl) T.b_int (by decide +kernel) (pa_cons (pe_ix (ix_listK K) (pv 0) pe_int (fun _ _ => rfl)) pa_nil)) (pv 1)))
  (pss_cons (ps_asg (pe_op op_fdiv (pe_ix (ix_listK K) (pv 0) pe_int (fun _ _ => rfl)) (pv 1)) (pg_sub (pv 0) pe_int set_list))
  (pss_one (ps_ret (pv 3)))))
  pss_nil)
  (pss_cons (ps_asg (pe_op op_add (pe_ix (ix_listK K) (pv 0) pe_int (fun _ _ => rfl)) pe_int) (pg_sub (pv 0) pe_int set_list))
  (pss_cons (ps_set (i := 4) sc_law_take.nd rfl (Or.inl rfl) (pe_op op_add (pe_op op_mod (pe_callTy call_int1 (by rfl) T.b_int (by decide +kernel) (pa_cons (pe_op op_mul (pe_ix (ix_listK K) (pv 0) pe_int (fun _ _ => rfl)) (pe_ix (ix_listK K) (pv 0) pe_int (fun _ _ => rfl))) pa_nil)) pe_int) (pe_op op_mul pe_int (pe_ix (ix_listK K) (pv 0) pe_int (fun _ _ => rfl)))))
  (pss_cons (ps_asg (pe_op op_mod (pe_callTy call_int1 (by rfl) T.b_int (by decide +kernel) (pa_cons (pe_op op_add (pe_op op_add (pe_op op_mul (pv 4) pe_int) (pe_ix (ix_listK K) (pv 0) pe_int (fun _ _ => rfl))) pe_int) pa_nil)) pe_int) (pg_sub (pv 0) pe_int set_list))
  (pss_one (ps_ret (pe_op op_mod (pe_callTy call_int1 (by rfl) T.b_int (by decide +kernel) (pa_cons (pe_op op_add (pe_op op_fdiv (pe_ix (ix_listK K) (pv 0) pe_int (fun _ _ => rfl)) pe_int) (pe_op op_mul (pe_op op_mod (pe_callTy call_int1 (by rfl) T.b_int (by decide +kernel) (pa_cons (pe_ix (ix_listK K) (pv 0) pe_int (fun _ _ => rfl)) pa_nil)) pe_int) pe_int)) pa_nil)) (pv 1))))))))), ?_⟩
  refine ⟨fun σ' H' => ∃ (ys : List V) (oc : Option V), σ' = [some (.ref s), some (.int many), oc, none, none] ∧ H' = upd H s (.lst ys) ∧ srcGood c ys, ?_, ?_⟩
  · have skip : ∃ (ys : List V) (oc : Option V), ([some (.ref s), some (.int many), none, none, none] : L2.St) = [some (.ref s), some (.int many), oc, none, none] ∧ H = upd H s (.lst ys) ∧ srcGood c ys :=
      ⟨_, none, rfl, by
        funext b
        unfold upd
        split
        · next e => rw [e, hs]
        · rfl, pos, big, seed, cnt, rfl, p0, s0, s1⟩
    refine ⟨_, rfl, s, _, _, _, rfl, rfl, SqL.of hs, rfl, rfl, _, rfl, ?_⟩
    refine if_int (fun h1 => ?_) (fun h1 => skip)
    refine ⟨_, rfl, s, _, _, _, rfl, rfl, SqL.of hs, rfl, _, rfl, s, _, _, _, rfl, rfl, SqL.of hs, rfl, _, ns.length, rfl, .inl ⟨_, SqL.of hc, (List.length_map _).symm⟩, _, _, rfl, rfl, _, rfl, ?_⟩
    refine if_dec (fun h2 => ?_) (fun h2 => skip)
    have hp : pos.toNat < ns.length := by omega
    have hat : atI (ns.map V.int) pos = some (.int ns[pos.toNat]) := by
      have e : ((pos.toNat : Nat) : Int) = pos := by omega
      have h : atI (ns.map V.int) ((pos.toNat : Nat) : Int) = some (.int ns[pos.toNat]) := atI_nat (by rw [List.getElem?_map, List.getElem?_eq_getElem hp] <;> rfl)
      rw [e] at h
      exact h
    refine ⟨_, rfl, s, _, _, _, rfl, rfl, SqL.of hs, rfl, _, rfl, s, _, _, _, rfl, rfl, SqL.of hs, rfl, c, _, _, _, rfl, rfl, SqL.of hc, hat, ?_⟩
    refine ⟨_, rfl, s, _, _, _, rfl, rfl, SqL.of hs, rfl, _, _, rfl, rfl, _, rfl, s, _, _, 1, rfl, rfl, hs, rfl, ?_⟩
    refine ⟨_, rfl, _, _, rfl, rfl, ⟨by decide, by decide, by decide⟩, _, _, rfl, rfl, _, rfl, ?_⟩
    refine if_dec (fun h3 => ?_) (fun h3 => ?_)
    · refine ⟨_, rfl, _, rfl, s, _, _, 2, rfl, rfl, upd_same, rfl, ?_⟩
      rw [upd_upd]
      exact ⟨_, _, rfl, rfl, pos + 1, _, seed, cnt, rfl, by omega, s0, s1⟩
    · refine ⟨_, rfl, s, _, _, _, rfl, rfl, SqL.of upd_same, rfl, _, _, rfl, rfl, .inr ⟨by decide, by decide⟩, ?_⟩
      refine ⟨_, rfl, .inl ⟨_, rfl, _, _, rfl, rfl, (by show (0 : Int) < _; decide), _, _, rfl, rfl, .inr ⟨by decide, by decide⟩, _, _, rfl, rfl, _, _, rfl, rfl, .inl ⟨_, rfl, _, _, rfl, rfl, (by show (0 : Int) < _; decide), _, rfl, s, _, _, 3, rfl, rfl, upd_same, rfl, ?_⟩⟩⟩
      rw [upd_upd]
      exact ⟨_, _, rfl, rfl, pos + 1, _, _, cnt, rfl, by omega, Int.emod_nonneg _ (by decide), Int.emod_lt_of_pos _ (by decide)⟩
  · rintro _ _ ⟨_, oc, rfl, rfl, pos, big, seed, cnt, rfl, p0, s0, s1⟩
    refine ⟨_, rfl, s, _, _, _, rfl, rfl, SqL.of upd_same, rfl, _, _, rfl, rfl, _, rfl, ?_⟩
    refine if_dec (fun h1 => ?_) (fun h1 => ?_)
    · refine ⟨_, rfl, s, _, _, _, rfl, rfl, SqL.of upd_same, rfl, .inl ⟨_, rfl, _, rfl, _, _, rfl, rfl, m0, ?_⟩⟩
      refine ⟨_, rfl, s, _, _, _, rfl, rfl, SqL.of upd_same, rfl, _, rfl, _, _, rfl, rfl, ⟨m0, m1⟩, _, rfl, s, _, _, 2, rfl, rfl, upd_same, rfl, _, rfl, ?_⟩
      rw [upd_upd]
      exact q _ _ (Int.emod_nonneg _ (by omega)) (Int.emod_lt_of_pos _ m0) ⟨pos, _, seed, cnt, rfl, p0, s0, s1⟩
    · refine ⟨_, rfl, s, _, _, _, rfl, rfl, SqL.of upd_same, rfl, _, _, rfl, rfl, _, rfl, s, _, _, 4, rfl, rfl, upd_same, rfl, ?_⟩
      rw [upd_upd]
      refine ⟨_, rfl, s, _, _, _, rfl, rfl, SqL.of upd_same, rfl, _, rfl, s, _, _, _, rfl, rfl, SqL.of upd_same, rfl, _, _, rfl, rfl, .inl ⟨by omega, by omega⟩, .inl ⟨_, rfl, _, _, rfl, rfl, (by show (0 : Int) < _; decide), _, rfl, s, _, _, _, rfl, rfl, SqL.of upd_same, rfl, _, _, rfl, rfl, .inl ⟨by decide, by decide⟩, _, _, rfl, rfl, ?_⟩⟩
      refine ⟨_, rfl, _, _, rfl, rfl, .inr ⟨by decide, by decide⟩, _, rfl, s, _, _, _, rfl, rfl, SqL.of upd_same, rfl, _, _, rfl, rfl, _, _, rfl, rfl, .inl ⟨_, rfl, _, _, rfl, rfl, (by show (0 : Int) < _; decide), _, rfl, s, _, _, 3, rfl, rfl, upd_same, rfl, ?_⟩⟩
      rw [upd_upd]
      refine ⟨_, rfl, s, _, _, _, rfl, rfl, SqL.of upd_same, rfl, _, _, rfl, rfl, ⟨by decide, by decide⟩, _, rfl, s, _, _, _, rfl, rfl, SqL.of upd_same, rfl, .inl ⟨_, rfl, _, _, rfl, rfl, (by show (0 : Int) < _; decide), _, _, rfl, rfl, .inr ⟨by decide, by decide⟩, _, _, rfl, rfl, .inl ⟨_, rfl, _, rfl, _, _, rfl, rfl, m0, ?_⟩⟩⟩
      exact q _ _ (Int.emod_nonneg _ (by omega)) (Int.emod_lt_of_pos _ m0) ⟨pos, _, _, _, rfl, p0, Int.emod_nonneg _ (by decide), Int.emod_lt_of_pos _ (by decide)⟩
theorem take_hid (D : Def P w K mg base "_law_take" 1 ["_law_source_here", "_law_many"] spTakeL) : Def P w K mg base "_law_take" 1 ["_law_source_here", "_law_many"] spTake := by
  refine D.open_ (fun vs H Q E h => ?_) (fun vs H Q E h => ?_)
  · obtain ⟨s, many, rfl, _⟩ := h
    rfl
  · obtain ⟨s, many, rfl, m0, m1, ⟨c, ns, hs, hc⟩, q⟩ := h
    have ncs : c ≠ s := by
      intro e
      rw [e, hs] at hc
      cases hc
    refine ⟨s, srcGood c, hs, fun xs hg => ⟨s, c, many, xs, ns, rfl, m0, m1, upd_same, hg, by rw [upd_ne ncs]; exact hc, ncs, fun n ys n0 n1 hy => ⟨ys, upd_same, hy, ?_⟩⟩⟩
    rw [upd_upd, upd_back hs]
    exact q n n0 n1
end
end FF
namespace FF
open PySem PySem.Spec PyProof.Rows L2
theorem cutV_map {α : Type} {f : α → V} {l : List α} {lo hi : Option Int} : ∃ m : List α, cutV (l.map f) lo hi = m.map f ∧ m.length ≤ l.length := by
  refine ⟨(l.drop (HT.sIx l.length 0 lo)).take (HT.sIx l.length l.length hi - HT.sIx l.length 0 lo), ?_, ?_⟩
  · unfold cutV
    rw [List.length_map, List.map_take, List.map_drop]
  · rw [List.length_take, List.length_drop]
    omega
theorem cut_front {xs : List V} {k : Int} (h0 : 0 ≤ k) : cutV xs none (some k) = xs.take k.toNat := by
  obtain ⟨n, rfl⟩ : ∃ n : Nat, k = (n : Int) := ⟨k.toNat, by omega⟩
  unfold cutV
  rw [HT.sIx_none, HT.sIx_nat, List.drop_zero, Nat.sub_zero, Int.toNat_natCast]
  rcases Nat.le_total n xs.length with h | h
  · rw [Nat.min_eq_left h]
  · rw [Nat.min_eq_right h, List.take_length, List.take_of_length_le h]
def spSourceL (K : PySem.W.Frag) : Sp := fun vs H Q _ => ∃ (a : Addr) (ns : List Int), vs = [.ref a] ∧ SqL K H a (ns.map V.int) ∧
  ∀ (r c : Addr) (ms : List Int) H', H r = none → Same H H' → H' r = some (.lst [.ref c, .int 0, .int 0, .int 3818, .int 0]) → H' c = some (.lst (ms.map V.int)) → r ≠ c → Q (.ref r) H'
def spSource (K : PySem.W.Frag) : Sp := fun vs H Q _ => ∃ (a : Addr) (ns : List Int), vs = [.ref a] ∧ SqL K H a (ns.map V.int) ∧ ∀ (r : Addr) H', Same H H' → Src H' r → Q (.ref r) H'
def spPick (K : PySem.W.Frag) : Sp := fun vs H Q _ => ∃ (s r : Addr) (xs : List V), vs = [.ref s, .ref r] ∧ Src H s ∧ SqL K H r xs ∧ xs ≠ [] ∧ xs.length ≤ 20000 ∧ ∀ v, v ∈ xs → Q v H
def spMixed (K : PySem.W.Frag) : Sp := fun vs H Q _ => ∃ (s r : Addr) (xs : List V), vs = [.ref s, .ref r] ∧ Src H s ∧ SqL K H r xs ∧ xs.length ≤ 20000 ∧
  ∀ (p : Addr) H' ys, H p = none → Same H H' → H' p = some (.lst ys) → ys.Perm xs → Q (.ref p) H'
section
variable {P : Program} {w : World} {K : PySem.W.Frag} {mg : Str → Option Value} {base : Heap}
theorem ok_source {f : Addr} {fd : FuncData} (F : FunD K "_law_source" "_law_source" (defArgs s_law_source) (defBody s_law_source) (defScope s_law_source) [] [] f fd) (hm : mg "_law_source" = some (.ref f)) (T : Top K mg) : Def P w K mg base "_law_source" 1 ["_law_script"] (spSource K) := by
  have D : Def P w K mg base "_law_source" 1 ["_law_script"] (spSourceL K) := by
    refine def_mk F hm (F.bindsN fun _ _ _ _ _ _ us hl => match us, hl with | [_], _ => rfl) sc_law_source (fun vs H Q E h => ?_) (fun cdv A outer s H vs Q E hr h => ?_)
    · obtain ⟨a, ns, rfl, _⟩ := h
      rfl
    obtain ⟨a, ns, rfl, hS, q⟩ := h
    refine ⟨_, (pss_one (ps_ret (pe_lst (pa_cons (pe_callTy (call_list_ofK K) (by rfl) T.b_list (by decide +kernel) (pa_cons (pe_slice (sl_listK K) (pv 0) po_none (po_some pe_int)) pa_nil)) (pa_cons pe_int (pa_cons pe_int (pa_cons pe_int (pa_cons pe_int pa_nil)))))))), ?_⟩
    refine ⟨_, rfl, 63, rfl, a, _, rfl, hS, fun p hp => ⟨p, _, rfl, .inl (SqL.of upd_same), fun l hl => ⟨(by show 5 ≤ sizeLine; decide), fun r hr0 => ?_⟩⟩⟩
    obtain ⟨ms, hms, _⟩ := cutV_map (f := V.int) (l := ns) (lo := none) (hi := some 63)
    rw [hms] at hl hr0 ⊢
    have e1 := same_new hp (.lst (ms.map V.int))
    have e2 := same_new hl (.lst (ms.map V.int))
    have e3 := same_new hr0 (.lst [.ref l, .int 0, .int 0, .int 3818, .int 0])
    have nrl : r ≠ l := fun z => by rw [z, upd_same] at hr0; cases hr0
    exact q r l ms _ ((e1.trans e2).free hr0) ((e1.trans e2).trans e3) upd_same (by rw [upd_ne nrl.symm]; exact upd_same) nrl
  refine D.shut_ (fun vs H Q E h => ?_) (fun vs H Q E h => ?_)
  · obtain ⟨a, ns, rfl, _⟩ := h
    rfl
  · obtain ⟨a, ns, rfl, hS, q⟩ := h
    refine ⟨a, ns, rfl, hS, fun r c ms H' hr0 e hr1 hc nrc => ⟨r, srcGood c, _, hr0, hr1, ⟨0, 0, 3818, 0, rfl, by omega, by omega, by omega⟩, ?_⟩⟩
    refine q r _ (fun b o h => ?_) ⟨c, ms, upd_same, by rw [upd_ne nrc.symm]; exact hc⟩
    rw [upd_ne (ne_of_none h hr0)]
    exact e _ _ h
theorem ok_pick {f : Addr} {fd : FuncData} (F : FunD K "_law_pick" "_law_pick" (defArgs s_law_pick) (defBody s_law_pick) (defScope s_law_pick) [] [] f fd) (hm : mg "_law_pick" = some (.ref f)) (T : Top K mg)
    (D_law_take : Def P w K mg base "_law_take" 1 ["_law_source_here", "_law_many"] spTake) : Def P w K mg base "_law_pick" 2 ["_law_source_here", "_law_row"] (spPick K) := by
  refine def_mk F hm (F.bindsN fun _ _ _ _ _ _ us hl => match us, hl with | [_, _], _ => rfl) sc_law_pick (fun vs H Q E h => ?_) (fun cdv A outer s H vs Q E hr h => ?_)
  · obtain ⟨s, r, xs, rfl, _⟩ := h
    rfl
  obtain ⟨s, r, xs, rfl, hs, hx, hn, hz, q⟩ := h
  have hl : 0 < xs.length := List.length_pos_iff.mpr hn
  refine ⟨_, (pss_one (ps_ret (pe_ix (ix_listK K) (pv 1) (pe_def D_law_take hr (by first | decide | omega) (pa_cons (pv 0) (pa_cons (pe_callB (call_lenK K) (by rfl) T.b_len (by decide +kernel) (pa_cons (pv 1) pa_nil)) pa_nil))) (fun _ _ => rfl)))), ?_⟩
  refine ⟨_, rfl, _, rfl, _, rfl, _, xs.length, rfl, .inl ⟨_, hx, rfl⟩, s, _, rfl, by omega, by omega, hs, fun k k0 k1 => ?_⟩
  have hk : k.toNat < xs.length := by omega
  have hat : atI xs k = some xs[k.toNat] := by
    have e : ((k.toNat : Nat) : Int) = k := by omega
    have h : atI xs ((k.toNat : Nat) : Int) = some xs[k.toNat] := atI_nat (List.getElem?_eq_getElem hk)
    rw [e] at h
    exact h
  exact ⟨r, xs, k, _, rfl, rfl, hx, hat, q _ (List.getElem_mem hk)⟩
theorem ok_mixed {f : Addr} {fd : FuncData} (F : FunD K "_law_mixed" "_law_mixed" (defArgs s_law_mixed) (defBody s_law_mixed) (defScope s_law_mixed) [] [] f fd) (hm : mg "_law_mixed" = some (.ref f)) (T : Top K mg)
    (D_law_take : Def P w K mg base "_law_take" 1 ["_law_source_here", "_law_many"] spTake) : Def P w K mg base "_law_mixed" 2 ["_law_source_here", "_law_row"] (spMixed K) := by
  refine def_mk F hm (F.bindsN fun _ _ _ _ _ _ us hl => match us, hl with | [_, _], _ => rfl) sc_law_mixed (fun vs H Q E h => ?_) (fun cdv A outer s H vs Q E hr h => ?_)
  · obtain ⟨s, r, xs, rfl, _⟩ := h
    rfl
  obtain ⟨s, r, xs, rfl, hs, hx, hz, q⟩ := h
  refine ⟨_, (pss_cons (ps_set (i := 2) sc_law_mixed.nd rfl (Or.inl rfl) (pe_lst pa_nil))
  (pss_cons (ps_for PassesOwn.never rfl (pi_listK K (pv 1)) (pg_name (i := 3) sc_law_mixed.nd rfl (Or.inl rfl) (.inl rfl))
  (pss_one (ps_expr (pe_bmK K PySem.F.plainAttrs_list PySem.F.slot_list_insert PySem.F.type_list_insert mt_insert (pv 2) (pa_cons (pe_def D_law_take hr (by first | decide | omega) (pa_cons (pv 0) (pa_cons (pe_op op_add (pe_callB (call_lenK K) (by rfl) T.b_len (by decide +kernel) (pa_cons (pv 2) pa_nil)) pe_int) pa_nil))) (pa_cons (pv 3) pa_nil))))))
  (pss_one (ps_ret (pv 2))))), ?_⟩
  refine ⟨by decide, fun p hp => ?_⟩
  have e1 := same_new hp (.lst [])
  refine ⟨_, rfl, r, rfl, ⟨_, up_l e1 hx⟩, for_list (K := K) (a := r) (xs := xs) (fun i σ H' => ∃ (ys : List V) (o : Option V), σ = [some (.ref s), some (.ref r), some (.ref p), o] ∧ Same H H' ∧ H' p = some (.lst ys) ∧ ys.Perm (xs.take i))
    ⟨[], none, rfl, e1, upd_same, by rw [List.take_zero]⟩ (fun i σ H' _ ⟨_, _, _, e, _⟩ => up_l e hx) ?_ ?_⟩
  · rintro i x σ H' hi ⟨ys, o, rfl, e, hp1, hperm⟩
    have hi2 := (List.getElem?_eq_some_iff.mp hi).1
    have hyl : ys.length = i := by
      rw [hperm.length_eq, List.length_take]
      omega
    refine ⟨_, rfl, .inl ⟨rfl, _, SqL.of hp1⟩, _, rfl, _, rfl, _, ys.length, rfl, .inl ⟨_, SqL.of hp1, rfl⟩, _, _, rfl, rfl, s, _, rfl, by omega, by omega, hs.up e, fun k k0 k1 => ?_⟩
    refine ⟨_, rfl, p, ys, k, x, rfl, rfl, hp1, lt_line (by omega), k0, by omega, ?_⟩
    refine ⟨_, _, rfl, fun b o2 h => ?_, upd_same, ?_⟩
    · rw [upd_ne (ne_of_none h hp)]
      exact e _ _ h
    · rw [List.take_succ, hi]
      have h1 : (ys.take k.toNat ++ [x] ++ ys.drop k.toNat).Perm (x :: ys) := by
        rw [List.append_assoc]
        refine List.perm_middle.trans ?_
        show (x :: (ys.take k.toNat ++ ys.drop k.toNat)).Perm _
        rw [List.take_append_drop]
      refine h1.trans ?_
      refine (List.Perm.cons x hperm).trans ?_
      exact (List.perm_append_singleton x (xs.take i)).symm
  · rintro σ H' ⟨ys, o, rfl, e, hp1, hperm⟩
    rw [List.take_length] at hperm
    exact ⟨_, rfl, q p H' ys hp e hp1 hperm⟩
end
end FF
namespace FF
open PySem PySem.Spec PyProof.Rows L2
/-! ### drawn terms -/
/-- a drawn term: n operators deep at most -/
def Drawn : Nat → PyData → Prop
  | 0, d => isLet d = true
  | n + 1, d => isLet d = true ∨ ∃ o ps, d = .tuple (o :: ps) ∧ isOp o = true ∧ 2 ≤ ps.length ∧ ps.length ≤ 4 ∧ ∀ p, p ∈ ps → Drawn n p
theorem let_shape {d : PyData} (h : isLet d = true) : ∃ c, d = .str ⟨#[c]⟩ ∧ c ∈ lettersS.cps.toList := by
  cases d with
  | str z =>
    obtain ⟨⟨l⟩⟩ := z
    match l, h with
    | [c], h => exact ⟨c, rfl, of_decide_eq_true h⟩
  | _ => cases h
theorem lettersS_val : lettersS.cps.toList = [97, 98, 99, 100, 101, 102, 103, 104] := by decide +kernel
theorem let_nice {d : PyData} (h : isLet d = true) : nice d = true := by
  obtain ⟨c, rfl, hc⟩ := let_shape h
  rw [lettersS_val] at hc
  simp only [nice, Bool.and_eq_true, decide_eq_true_eq]
  refine ⟨by show 1 ≤ 20000; decide, ?_⟩
  show (#[c].all fun x => decide (x < 0x110000)) = true
  have : c < 0x110000 := by
    simp only [List.mem_cons, List.not_mem_nil, or_false] at hc
    omega
  simp [this]
theorem let_depth {d : PyData} (h : isLet d = true) : d.depth = 0 := by
  obtain ⟨c, rfl, hc⟩ := let_shape h
  rw [PyData.depth]
theorem op_shape {d : PyData} (h : isOp d = true) : d = .str ("&" : Str) ∨ d = .str ("|" : Str) := by
  cases d with
  | str z =>
    have h2 : (decide (z = ("&" : Str)) || decide (z = ("|" : Str))) = true := h
    rw [Bool.or_eq_true, decide_eq_true_eq, decide_eq_true_eq] at h2
    rcases h2 with e | e
    · exact .inl (by rw [e])
    · exact .inr (by rw [e])
  | _ => cases h
theorem op_nice {d : PyData} (h : isOp d = true) : Nice 0 d := by
  rcases op_shape h with rfl | rfl
  · exact ⟨by decide +kernel, by rw [PyData.depth]; exact Nat.le_refl _⟩
  · exact ⟨by decide +kernel, by rw [PyData.depth]; exact Nat.le_refl _⟩
theorem drawn_nice : ∀ {n : Nat} {d : PyData}, Drawn n d → Nice n d
  | 0, d, h => ⟨let_nice h, Nat.le_of_eq (let_depth h)⟩
  | n + 1, d, h => by
    rcases h with h | ⟨o, ps, rfl, ho, h2, h4, hp⟩
    · exact ⟨let_nice h, by rw [let_depth h]; omega⟩
    · refine Nice.tuple (by simp; omega) fun p hm => ?_
      rcases List.mem_cons.mp hm with e | hm
      · rw [e]
        exact (op_nice ho).mono (Nat.zero_le _)
      · exact drawn_nice (hp p hm)
theorem drawn_mono : ∀ {m n : Nat} {d : PyData}, Drawn m d → m ≤ n → Drawn n d
  | 0, 0, _, h, _ => h
  | 0, _ + 1, _, h, _ => .inl h
  | m + 1, n + 1, _, h, hm => by
    rcases h with h | ⟨o, ps, e, ho, h2, h4, hp⟩
    · exact .inl h
    · exact .inr ⟨o, ps, e, ho, h2, h4, fun p hm2 => drawn_mono (hp p hm2) (by omega)⟩
def spSigns : Sp := fun vs H Q _ => ∃ (s : Addr) (most : Int), vs = [.ref s, .int most] ∧ 0 < most ∧ most < 1073741824 ∧ Src H s ∧
  ∀ (p : Addr) H' zs, Same H H' → H' p = some (.lst (zs.map V.str)) → zs ≠ [] → zs.length ≤ 8 → (∀ z, z ∈ zs → isLetS z = true) → Q (.ref p) H'
section
variable {P : Program} {w : World} {K : PySem.W.Frag} {mg : Str → Option Value} {base : Heap}
theorem ok_signs {f : Addr} {fd : FuncData} (F : FunD K "_law_signs" "_law_signs" (defArgs s_law_signs) (defBody s_law_signs) (defScope s_law_signs) [] [] f fd) (hm : mg "_law_signs" = some (.ref f)) (T : Top K mg)
    (D_law_take : Def P w K mg base "_law_take" 1 ["_law_source_here", "_law_many"] spTake) (D_law_mixed : Def P w K mg base "_law_mixed" 2 ["_law_source_here", "_law_row"] (spMixed K)) : Def P w K mg base "_law_signs" 3 ["_law_source_here", "_law_most"] spSigns := by
  refine def_mk F hm (F.bindsN fun _ _ _ _ _ _ us hl => match us, hl with | [_, _], _ => rfl) sc_law_signs (fun vs H Q E h => ?_) (fun cdv A outer s H vs Q E hr h => ?_)
  · obtain ⟨s, m, rfl, _⟩ := h
    rfl
  obtain ⟨s, m, rfl, m0, m1, hs, q⟩ := h
  refine ⟨_, (pss_cons (ps_set (i := 2) sc_law_signs.nd rfl (Or.inl rfl) (pe_def D_law_mixed hr (by first | decide | omega) (pa_cons (pv 0) (pa_cons (pe_callTy (call_list_s rfl) (by rfl) T.b_list (by decide +kernel) (pa_cons pe_str pa_nil)) pa_nil))))
  (pss_one (ps_ret (pe_slice (sl_listK K) (pv 2) po_none (po_some (pe_op op_add pe_int (pe_def D_law_take hr (by first | decide | omega) (pa_cons (pv 0) (pa_cons (pv 1) pa_nil))))))))), ?_⟩
  refine ⟨_, rfl, lettersS, rfl, by decide +kernel, fun l hl => ?_⟩
  have e1 := same_new hl (.lst (lettersS.cps.toList.map fun c => V.str ⟨#[c]⟩))
  refine ⟨s, l, _, rfl, hs.up e1, SqL.of upd_same, by rw [List.length_map, lettersS_val]; decide, fun p H' ys hp e2 hp2 hperm => ?_⟩
  have e3 := e1.trans e2
  refine ⟨_, rfl, _, rfl, _, rfl, s, m, rfl, m0, m1, hs.up e3, fun n n0 n1 => ?_⟩
  refine ⟨_, _, rfl, rfl, _, rfl, p, _, rfl, SqL.of hp2, fun r hr0 => ?_⟩
  have ek : (1 + n).toNat = n.toNat + 1 := by omega
  have hperm2 : ys.Perm (lettersS.cps.toList.map fun c => V.str ⟨#[c]⟩) := hperm
  have hlen : ys.length = 8 := by rw [hperm2.length_eq, List.length_map, lettersS_val] <;> rfl
  have hall : ∀ y, y ∈ ys → ∃ z : Str, y = .str z ∧ isLetS z = true := fun y hy => by
    obtain ⟨c, hc, rfl⟩ := List.mem_map.mp (hperm2.mem_iff.mp hy)
    exact ⟨_, rfl, decide_eq_true hc⟩
  obtain ⟨zs, hzs, hz2⟩ : ∃ zs : List Str, ys = zs.map V.str ∧ ∀ z, z ∈ zs → isLetS z = true := by
    clear hperm hperm2 hlen hp2 hr0
    induction ys with
    | nil => exact ⟨[], rfl, fun z h => by cases h⟩
    | cons y ys ih =>
      obtain ⟨z, rfl, hz⟩ := hall y (List.mem_cons_self ..)
      obtain ⟨zs, rfl, h2⟩ := ih fun y hy => hall y (List.mem_cons_of_mem _ hy)
      refine ⟨z :: zs, rfl, fun u hu => ?_⟩
      rcases List.mem_cons.mp hu with e | hu
      · rw [e]; exact hz
      · exact h2 u hu
  subst hzs
  rw [cut_front (by omega), ek, ← List.map_take]
  rw [List.length_map] at hlen
  refine q r _ (zs.take (n.toNat + 1)) (e3.trans (same_new hr0 _)) upd_same ?_ ?_ (fun z hz => hz2 z (List.mem_of_mem_take hz))
  · intro e
    have := congrArg List.length e
    rw [List.length_take, List.length_nil] at this
    omega
  · rw [List.length_take]
    omega
end
end FF
namespace FF
open PySem PySem.Spec PyProof.Rows L2
theorem sum_in {f : PyData → Int} {B : Int} : ∀ {l : List PyData}, (∀ p ∈ l, 1 ≤ f p ∧ f p ≤ B) → (0 : Int) ∉ l.map f ∧ (l.length : Int) ≤ (l.map f).sum ∧ (l.map f).sum ≤ (l.length : Int) * B
  | [], _ => ⟨by simp, by simp, by simp⟩
  | x :: r, h => by
    obtain ⟨h1, h2, h3⟩ := sum_in (l := r) fun p hp => h p (List.mem_cons_of_mem _ hp)
    obtain ⟨a1, a2⟩ := h x List.mem_cons_self
    refine ⟨fun z => ?_, ?_, ?_⟩
    · rcases List.mem_cons.mp (show (0 : Int) ∈ f x :: r.map f from z) with z | z
      · omega
      · exact h1 z
    · rw [List.map_cons, List.sum_cons, List.length_cons]
      omega
    · rw [List.map_cons, List.sum_cons, List.length_cons]
      have : ((r.length + 1 : Nat) : Int) * B = (r.length : Int) * B + B := by
        rw [Int.natCast_add, Int.add_mul]
        simp
      omega
theorem tup_let {ps : List PyData} : isLet (.tuple ps) = false := rfl
theorem meas_drawn : ∀ {n : Nat} {d : PyData}, Drawn n d → ∀ m, n < m → 1 ≤ meas m d ∧ meas m d ≤ ((4 ^ n : Nat) : Int)
  | 0, d, h, m, hm => by
    rw [meas_let (show isLet d = true from h), if_pos (by omega)]
    exact ⟨Int.le_refl _, Int.le_refl _⟩
  | n + 1, d, h, m, hm => by
    rcases h with h | ⟨o, ps, rfl, ho, h2, h4, hp⟩
    · rw [meas_let h, if_pos (by omega)]
      refine ⟨Int.le_refl _, ?_⟩
      have : 1 ≤ 4 ^ (n + 1) := Nat.one_le_pow _ _ (by decide)
      omega
    obtain ⟨k, rfl⟩ : ∃ k, m = k + 1 := ⟨m - 1, by omega⟩
    rw [meas_up tup_let (by omega)]
    have hs := sum_in (f := meas k) (B := ((4 ^ n : Nat) : Int)) (l := ps) fun p hpp => meas_drawn (hp p hpp) k (by omega)
    match ps, h2, h4, hs with
    | y :: z :: r, h2, h4, hs =>
      show 1 ≤ (if isOp o = true then (if (0 : Int) ∈ ((y :: z :: r).map (meas k)) then 0 else ((y :: z :: r).map (meas k)).sum) else 0) ∧ (if isOp o = true then (if (0 : Int) ∈ ((y :: z :: r).map (meas k)) then 0 else ((y :: z :: r).map (meas k)).sum) else 0) ≤ _
      rw [if_pos ho, if_neg hs.1]
      refine ⟨Int.le_trans (by simp only [List.length_cons]; omega) hs.2.1, Int.le_trans hs.2.2 ?_⟩
      rw [Nat.pow_succ, Nat.mul_comm, Int.natCast_mul]
      exact Int.mul_le_mul_of_nonneg_right (by omega) (Int.natCast_nonneg _)
end FF
namespace FF
open PySem PySem.Spec PyProof.Rows L2
def spTermR (K : PySem.W.Frag) (n : Nat) : Sp := fun vs H Q _ => ∃ (s g rm c : Addr) (deep r : Int) (zs : List Str) (ns : List Int), vs = [.ref s, .ref g, .int deep, .ref rm] ∧ H s = some (hid (srcGood c) s) ∧ H c = some (.lst (ns.map V.int)) ∧ c ≠ rm ∧ H g = some (.lst (zs.map V.str)) ∧ zs ≠ [] ∧ zs.length ≤ 20000 ∧ (∀ z, z ∈ zs → isLetS z = true) ∧
  H rm = some (.lst [.int r]) ∧ 0 ≤ r ∧ r < 1000 ∧ deep.toNat < n ∧ ∀ v H' d r', SameB rm H H' → H' rm = some (.lst [.int r']) → 0 ≤ r' → r' ≤ r → Tp K H' v d → Drawn (deep.toNat - 1) d → (∀ m, deep.toNat - 1 < m → meas m d = r - r' + 1) → Q v H'
def spAnyR (K : PySem.W.Frag) : Sp := fun vs H Q _ => ∃ (s : Addr), vs = [.ref s] ∧ Src H s ∧ ∀ v H' d, Same H H' → Tp K H' v d → Drawn 4 d → meas 5 d ≤ 24 → Q v H'
theorem sameB_refl {a : Addr} {H : Hp} : SameB a H H := fun _ _ _ h => h
theorem SameB.trans' {a : Addr} {H H1 H2 : Hp} (x : SameB a H H1) (y : SameB a H1 H2) : SameB a H H2 := fun b u n h => y b u n (x b u n h)
theorem sameB_of {a : Addr} {H H1 : Hp} (x : Same H H1) : SameB a H H1 := fun b u _ h => x b u h
theorem sameB_upd {a : Addr} {H : Hp} {o : HO} : SameB a H (upd H a o) := fun b u n h => by rw [upd_ne n]; exact h
theorem tpa_snoc {K : PySem.W.Frag} {H : Hp} {v : V} {d : PyData} (h : Tp K H v d) : ∀ {vs : List V} {ds : List PyData}, TpAll K H vs ds → TpAll K H (vs ++ [v]) (ds ++ [d])
  | _, _, .nil => .cons h .nil
  | _, _, .cons x r => .cons x (tpa_snoc h r)
section
variable {P : Program} {w : World} {K : PySem.W.Frag} {mg : Str → Option Value} {base : Heap}
theorem ok_termR_step {n : Nat} {f : Addr} {fd : FuncData} (F : FunD K "_law_term" "_law_term" (defArgs s_law_term) (defBody s_law_term) (defScope s_law_term) [] [] f fd) (hm : mg "_law_term" = some (.ref f)) (T : Top K mg)
    (D_law_take : Def P w K mg base "_law_take" 1 ["_law_source_here", "_law_many"] spTake) (D_law_pick : Def P w K mg base "_law_pick" 2 ["_law_source_here", "_law_row"] (spPick K))
    (D_law_term : Def P w K mg base "_law_term" (n + 2) ["_law_source_here", "_law_signs_here", "_law_deep", "_law_room"] (spTermR K n)) : Def P w K mg base "_law_term" (n + 3) ["_law_source_here", "_law_signs_here", "_law_deep", "_law_room"] (spTermR K (n + 1)) := by
  refine def_mk F hm (F.bindsN fun _ _ _ _ _ _ us hl => match us, hl with | [_, _, _, _], _ => rfl) sc_law_term (fun vs H Q E h => ?_) (fun cdv A outer s H vs Q E hr h => ?_)
  · obtain ⟨s, g, rm, c, m, r, zs, ns, rfl, _⟩ := h
    rfl
  obtain ⟨s, g, rm, c, m, r, zs, ns, rfl, hs, hc, hcr, hg, hz, hzl, hlet, hrm, r0, r1, hmn, q⟩ := h
  have hsrc : Src H s := ⟨c, ns, hs, hc⟩
  have hgr : g ≠ rm := fun e => by
    rw [e, hrm] at hg
    have e2 : ([V.int r] : List V) = zs.map V.str := HO.lst.inj (Option.some.inj hg)
    cases zs with
    | nil => exact hz rfl
    | cons z t => cases (List.cons.inj e2).1
  have hsr : s ≠ rm := fun e => by
    rw [e, hrm] at hs
    exact hid_lst (Option.some.inj hs).symm
  refine ⟨_, (pss_cons (ps_set (i := 4) sc_law_term.nd rfl (Or.inl rfl) (pe_op op_add pe_int (pe_op op_fdiv (pe_def D_law_take hr (by first | decide | omega) (pa_cons (pv 0) (pa_cons pe_int pa_nil))) pe_int)))
  (pss_cons (ps_if (PW.pt (pw_or (pt_cmpR op_lt (pv 2) pe_int (nomark _)) (pw_or (pt_cmpR op_lt (pe_ix (ix_listK K) (pv 3) pe_int (fun _ _ => rfl)) (pe_op op_sub (pv 4) pe_int) (nomark _)) (pw_or1 (pt_cmpR op_eq (pe_def D_law_take hr (by first | decide | omega) (pa_cons (pv 0) (pa_cons pe_int pa_nil))) pe_int (nomark _))))))
  (pss_one (ps_ret (pe_def D_law_pick hr (by first | decide | omega) (pa_cons (pv 0) (pa_cons (pv 1) pa_nil)))))
  pss_nil)
  (pss_cons (ps_asg (pe_op op_add (pe_op op_sub (pe_ix (ix_listK K) (pv 3) pe_int (fun _ _ => rfl)) (pv 4)) pe_int) (pg_sub (pv 3) pe_int set_list))
  (pss_cons (ps_set (i := 5) sc_law_term.nd rfl (Or.inl rfl) (pe_def D_law_pick hr (by first | decide | omega) (pa_cons (pv 0) (pa_cons (pe_lst (pa_cons pe_str (pa_cons pe_str pa_nil))) pa_nil))))
  (pss_one (ps_ret (pe_callTy (call_tuple_ofK K) (by rfl) T.b_tuple (by decide +kernel) (pa_cons (pe_op op_cat (pe_lst (pa_cons (pv 5) pa_nil)) (pe_lc (own := [("_law_k", 6)]) rfl sc_law_term.nd (pi_range1 (by rfl) T.b_range (pa_cons (pv 4) pa_nil)) (blkOk_by (by kernel_rfl)) (fun _ _ _ _ _ => (pg_name (i := 6) sc_law_term.nd rfl (Or.inl rfl) (.inr rfl))) (fun _ _ _ _ _ => pts_nil) (fun _ _ _ _ _ => (pe_def D_law_term hr (by first | decide | omega) (pa_cons (pv 0) (pa_cons (pv 1) (pa_cons (pe_op op_sub (pv 2) pe_int) (pa_cons (pv 3) pa_nil)))))))) pa_nil)))))))), ?_⟩
  refine ⟨_, rfl, s, 5, rfl, by omega, by omega, hsrc, fun t t0 t1 => ?_⟩
  refine ⟨_, _, rfl, rfl, ⟨by decide, by decide⟩, _, _, rfl, rfl, ?_⟩
  have pick : spPick K [.ref s, .ref g] H Q E := by
    refine ⟨s, g, _, rfl, hsrc, SqL.of hg, fun e => hz (List.map_eq_nil_iff.mp e), by rw [List.length_map]; exact hzl, fun v hv => ?_⟩
    obtain ⟨z, hz3, rfl⟩ := List.mem_map.mp hv
    have h0 : Drawn 0 (.str z) := hlet z hz3
    refine q _ H _ r sameB_refl hrm r0 (Int.le_refl _) (.str z) (drawn_mono h0 (Nat.zero_le _)) fun m hm => ?_
    rw [meas_let (show isLet (.str z) = true from hlet z hz3), if_pos (by omega)]
    omega
  refine ⟨_, rfl, _, _, rfl, rfl, _, rfl, ?_⟩
  refine if_dec (fun h1 => ⟨_, rfl, _, rfl, pick⟩) (fun h1 => ?_)
  refine ⟨_, rfl, rm, _, _, _, rfl, rfl, SqL.of hrm, at0, _, rfl, _, _, rfl, rfl, _, _, rfl, rfl, _, rfl, ?_⟩
  refine if_dec (fun h2 => ⟨_, rfl, _, rfl, pick⟩) (fun h2 => ?_)
  refine ⟨_, rfl, s, 4, rfl, by omega, by omega, hsrc, fun t2 t20 t21 => ⟨rfl, _, rfl, ?_⟩⟩
  refine if_int (fun h3 => ⟨_, rfl, _, rfl, pick⟩) (fun h3 => ?_)
  refine ⟨_, rfl, rm, _, _, _, rfl, rfl, SqL.of hrm, at0, _, rfl, _, _, rfl, rfl, _, _, rfl, rfl, _, rfl, rm, _, 0, 0, rfl, rfl, hrm, rfl, ?_⟩
  have eB : SameB rm H (upd H rm (.lst (([V.int r] : List V).set 0 (.int (r - (2 + t / 2) + 1))))) := sameB_upd
  have hrmB : upd H rm (.lst (([V.int r] : List V).set 0 (.int (r - (2 + t / 2) + 1)))) rm = some (.lst [.int (r - (2 + t / 2) + 1)]) := upd_same
  generalize upd H rm (.lst (([V.int r] : List V).set 0 (.int (r - (2 + t / 2) + 1)))) = HB at eB hrmB ⊢
  have hrB : (r - (2 + t / 2) + 1 : Int) ≥ 0 := by omega
  have hrB2 : (r - (2 + t / 2) + 1 : Int) ≤ r := by omega
  obtain ⟨mn, hmn2⟩ : ∃ mn : Nat, (2 + t / 2 : Int) = mn := ⟨(2 + t / 2).toNat, by omega⟩
  have hsB := eB _ _ hsr hs
  have hcB := eB _ _ hcr hc
  have hgB := eB _ _ hgr hg
  refine ⟨_, rfl, by decide +kernel, fun p1 hp1 => ?_⟩
  have e1 := same_new hp1 (.lst [.str ("&" : Str), .str ("|" : Str)])
  refine ⟨s, p1, _, rfl, ⟨c, ns, e1 _ _ hsB, e1 _ _ hcB⟩, SqL.of upd_same, by simp, by simp, fun o ho => ?_⟩
  have ho2 : ∃ z, o = .str z ∧ isOp (.str z) = true := by
    simp only [List.mem_cons, List.not_mem_nil, or_false] at ho
    rcases ho with rfl | rfl
    · exact ⟨_, rfl, by decide +kernel⟩
    · exact ⟨_, rfl, by decide +kernel⟩
  obtain ⟨z, rfl, hz9⟩ := ho2
  refine ⟨_, rfl, (by show 1 ≤ sizeLine; decide), fun p2 hp2 => ?_⟩
  have e2 := e1.trans (same_new hp2 (.lst [.str z]))
  refine ⟨_, rfl, _, rfl, by omega, by omega, fun D hD => ?_⟩
  have hp22 : upd (upd HB p1 (.lst [.str ("&" : Str), .str ("|" : Str)])) p2 (.lst [.str z]) p2 = some (.lst [.str z]) := upd_same
  generalize upd (upd HB p1 (.lst [.str ("&" : Str), .str ("|" : Str)])) p2 (.lst [.str z]) = H2 at e2 hD hp22 ⊢
  have hDr : D ≠ rm := fun e => by
    have := e2 _ _ hrmB
    rw [← e, hD] at this
    cases this
  have hp2r : p2 ≠ rm := fun e => by
    have := e2 _ _ hrmB
    rw [← e, hp22] at this
    have e3 : ([V.str z] : List V) = [V.int (r - (2 + t / 2) + 1)] := HO.lst.inj (Option.some.inj this)
    cases (List.cons.inj e3).1
  rw [show (2 + t / 2 : Int).toNat = mn by omega]
  refine lc_range (fun i H' => SameB rm H2 H' ∧ ∃ ys ds r', H' D = some (.lst ys) ∧ ys.length = i ∧ TpAll K H' ys ds ∧ (∀ d ∈ ds, Drawn (m.toNat - 1 - 1) d) ∧ H' rm = some (.lst [.int r']) ∧ 0 ≤ r' ∧ r' ≤ r - (2 + t / 2) + 1 ∧
    ∀ m', m.toNat - 1 - 1 < m' → (ds.map (meas m')).sum = r - (2 + t / 2) + 1 - r' + i) ⟨sameB_of (same_new hD _), [], [], _, upd_same, rfl, .nil, (fun d h => by cases h), ?_, hrB, Int.le_refl _, (fun m' _ => by simp)⟩ ?_ ?_
  · rw [upd_ne (Ne.symm hDr)]
    exact e2 _ _ hrmB
  · rintro i H' hi ⟨e, ys, ds, r', hD', hl, hds, hdr, hrm', r0', rle, hsum⟩
    refine ⟨rfl, ?_⟩
    refine ⟨_, rfl, _, rfl, _, rfl, _, _, rfl, rfl, _, rfl, s, g, rm, c, m - 1, r', zs, ns, rfl, e _ _ hsr (e2 _ _ hsB), e _ _ hcr (e2 _ _ hcB), hcr, e _ _ hgr (e2 _ _ hgB), hz, hzl, hlet, hrm', r0', by omega, by omega, fun v H3 d r'' e3 hrm3 r0'' rle' hd hdd hmm => ⟨ys, e3 _ _ hDr hD', le_line (by omega), ?_⟩⟩
    have hD3 := e3 _ _ hDr hD'
    have sT : SameT H3 (upd H3 D (.lst (ys ++ [v]))) := (SameT.refl H3).updL hD3
    refine ⟨fun b u hb hu => ?_, ys ++ [v], ds ++ [d], r'', upd_same, by rw [List.length_append, hl] <;> rfl, tpa_snoc (hd.up sT) ((hds.up (sameT_b hrm' e3)).up sT), fun x hx => ?_, ?_, r0'', by omega, fun m' hm' => ?_⟩
    · rw [upd_ne (ne_of_none hu hD)]
      exact e3 _ _ hb (e _ _ hb hu)
    · rw [show (m - 1).toNat - 1 = m.toNat - 1 - 1 by omega] at hdd
      rcases List.mem_append.mp hx with hx | hx
      · exact hdr x hx
      · rw [List.mem_singleton.mp hx]
        exact hdd
    · rw [upd_ne (Ne.symm hDr)]
      exact hrm3
    · rw [List.map_append, List.sum_append, hsum m' hm', List.map_cons, List.map_nil, List.sum_cons, List.sum_nil, hmm m' (by omega)]
      push_cast
      omega
  · rintro H' ⟨e, ys, ds, r', hD', hl, hds, hdr, hrm', r0', rle, hsum⟩
    have hlen := hds.len
    refine ⟨p2, D, _, _, rfl, rfl, e _ _ hp2r hp22, hD', le_line (by simp; omega), fun p3 hp3 => ?_⟩
    have e4 := same_new hp3 (.lst ([.str z] ++ ys))
    refine ⟨p3, _, rfl, .inl ⟨SqL.of upd_same, fun p4 hp4 => ?_⟩⟩
    have e5 := same_new hp4 (.tup ([.str z] ++ ys))
    have e45 := e4.trans e5
    refine q _ _ (.tuple (.str z :: ds)) r' (((eB.trans' (sameB_of e2)).trans' e).trans' (sameB_of e45)) (e45 _ _ hrm') r0' (by omega) (.tup (.inl upd_same) (.cons (.str z) ((hds.up (Same.T e4)).up (Same.T e5)))) ?_ fun m' hm' => ?_
    · have h9 : Drawn (m.toNat - 1 - 1 + 1) (.tuple (.str z :: ds)) := .inr ⟨_, ds, rfl, hz9, by omega, by omega, hdr⟩
      rw [show m.toNat - 1 - 1 + 1 = m.toNat - 1 by omega] at h9
      exact h9
    · obtain ⟨j, rfl⟩ : ∃ j, m' = j + 1 := ⟨m' - 1, by omega⟩
      have hs4 := hsum j (by omega)
      have hin := sum_in (f := meas j) (B := ((4 ^ (m.toNat - 1 - 1) : Nat) : Int)) (l := ds) fun p hp => meas_drawn (hdr p hp) j (by omega)
      rw [meas_up tup_let (by omega)]
      match ds, hin, hs4, hlen with
      | [], _, _, hlen => exact absurd hlen (by rw [hl]; simp; omega)
      | [_], _, _, hlen => exact absurd hlen (by rw [hl]; simp; omega)
      | y :: x :: r2, hin, hs4, _ =>
        show (if isOp (.str z) = true then (if (0 : Int) ∈ ((y :: x :: r2).map (meas j)) then 0 else ((y :: x :: r2).map (meas j)).sum) else 0) = _
        rw [if_pos hz9, if_neg hin.1, hs4]
        omega
theorem ok_termR {f : Addr} {fd : FuncData} (F : FunD K "_law_term" "_law_term" (defArgs s_law_term) (defBody s_law_term) (defScope s_law_term) [] [] f fd) (hm : mg "_law_term" = some (.ref f)) (T : Top K mg)
    (D_law_take : Def P w K mg base "_law_take" 1 ["_law_source_here", "_law_many"] spTake) (D_law_pick : Def P w K mg base "_law_pick" 2 ["_law_source_here", "_law_row"] (spPick K)) :
    ∀ n : Nat, Def P w K mg base "_law_term" (n + 2) ["_law_source_here", "_law_signs_here", "_law_deep", "_law_room"] (spTermR K n)
  | 0 => (def_none F hm (F.bindsN fun _ _ _ _ _ _ us hl => match us, hl with | [_, _, _, _], _ => rfl) fun vs H Q E ⟨_, _, _, _, _, _, _, _, _, _, _, _, _, _, _, _, _, _, _, h, _⟩ => by omega).mono (Nat.zero_le _)
  | n + 1 => ok_termR_step F hm T D_law_take D_law_pick (ok_termR F hm T D_law_take D_law_pick n)
theorem ok_anyR {f : Addr} {fd : FuncData} (F : FunD K "_law_any_term" "_law_any_term" (defArgs s_law_any_term) (defBody s_law_any_term) (defScope s_law_any_term) [] [] f fd) (hm : mg "_law_any_term" = some (.ref f)) (T : Top K mg)
    (D_law_take : Def P w K mg base "_law_take" 1 ["_law_source_here", "_law_many"] spTake) (D_law_pick : Def P w K mg base "_law_pick" 2 ["_law_source_here", "_law_row"] (spPick K)) (D_law_signs : Def P w K mg base "_law_signs" 3 ["_law_source_here", "_law_most"] spSigns)
    (D_law_term : Def P w K mg base "_law_term" 8 ["_law_source_here", "_law_signs_here", "_law_deep", "_law_room"] (spTermR K 6)) : Def P w K mg base "_law_any_term" 9 ["_law_source_here"] (spAnyR K) := by
  refine def_mk F hm (F.bindsN fun _ _ _ _ _ _ us hl => match us, hl with | [_], _ => rfl) sc_law_any_term (fun vs H Q E h => ?_) (fun cdv A outer s H vs Q E hr h => ?_)
  · obtain ⟨s, rfl, _⟩ := h
    rfl
  obtain ⟨s, rfl, hs, q⟩ := h
  refine ⟨_, (pss_cons (ps_set (i := 1) sc_law_any_term.nd rfl (Or.inl rfl) (pe_def D_law_signs hr (by first | decide | omega) (pa_cons (pv 0) (pa_cons pe_int pa_nil))))
  (pss_one (ps_ret (pe_def D_law_term hr (by first | decide | omega) (pa_cons (pv 0) (pa_cons (pv 1) (pa_cons (pe_op op_add pe_int (pe_def D_law_take hr (by first | decide | omega) (pa_cons (pv 0) (pa_cons pe_int pa_nil)))) (pa_cons (pe_lst (pa_cons (pe_def D_law_pick hr (by first | decide | omega) (pa_cons (pv 0) (pa_cons (pe_lst (pa_cons pe_int (pa_cons pe_int (pa_cons pe_int pa_nil)))) pa_nil))) pa_nil)) pa_nil)))))))), ?_⟩
  refine ⟨_, rfl, s, 8, rfl, by omega, by omega, hs, fun g H1 zs e1 hg hz hzl hlet => ?_⟩
  refine ⟨_, rfl, _, rfl, _, rfl, s, 5, rfl, by omega, by omega, hs.up e1, fun t t0 t1 => ?_⟩
  refine ⟨_, _, rfl, rfl, _, rfl, (by show 3 ≤ sizeLine; decide), fun p1 hp1 => ?_⟩
  have e2 := e1.trans (same_new hp1 (.lst [.int 2, .int 7, .int 23]))
  refine ⟨s, p1, _, rfl, hs.up e2, SqL.of upd_same, by simp, by simp, fun r hr1 => ?_⟩
  obtain ⟨ri, rfl, hri, hri2⟩ : ∃ i, r = .int i ∧ 0 ≤ i ∧ i ≤ 23 := by
    simp only [List.mem_cons, List.not_mem_nil, or_false] at hr1
    rcases hr1 with rfl | rfl | rfl <;> exact ⟨_, rfl, by decide, by decide⟩
  refine ⟨(by show 1 ≤ sizeLine; decide), fun p2 hp2 => ?_⟩
  obtain ⟨c, ns, h1, h2⟩ := hs.up e2
  have e3 := same_new hp2 (.lst [.int ri])
  refine ⟨s, g, p2, c, _, ri, zs, ns, rfl, e3 _ _ h1, e3 _ _ h2, ne_of_none h2 hp2, e3 _ _ ((same_new hp1 _) _ _ hg), hz, by omega, hlet, upd_same, hri, by omega, by omega, fun v H' d r' e4 _ r0' _ hd1 hd2 hmm => q v H' d ?_ hd1 (drawn_mono hd2 (by omega)) ?_⟩
  · intro b u hu
    have hu2 := e2 _ _ hu
    exact e4 _ _ (ne_of_none hu2 hp2) (e3 _ _ hu2)
  · rw [hmm 5 (by omega)]
    omega
end
end FF
namespace FF
open PySem PySem.Spec PyProof.Rows L2
section
variable {P : Program} {w : World} {K : PySem.W.Frag} {mg : Str → Option Value} {base : Heap}
theorem fn_fe {f : Addr} {fd : FuncData} (F : FunD K "__init__" "FaultError.__init__" (defArgs s_FaultError_init) (defBody s_FaultError_init) (defScope s_FaultError_init) [] [] f fd) (T : Top K mg) : FnOk P w K mg base CX0 1 f fd ["self", "code"] (spFE K) := by
  refine FunD.ok F sc_FaultError_init (fun vs H Q E h => ?_) (fun cdv A outer s0 H vs Q E hr h => ?_)
  · obtain ⟨a, C, z, rfl, _⟩ := h
    rfl
  obtain ⟨a, C, z, rfl, hC, hno, ha, q⟩ := h
  refine ⟨_, PSs.nox (pss_cons (ps_expr (pe_veinit (by rfl) T.b_ValueError T.fe.ve (pa_cons (pv 0) (pa_cons (pv 1) pa_nil)))) (pss_one (ps_ost (pv 0) (pv 1)))), ?_⟩
  refine ⟨_, rfl, _, rfl, a, C, [z], rfl, (show 1 ≤ 1000 by decide), hC, ha, ?_⟩
  exact ⟨_, rfl, _, rfl, a, C, rfl, hC, hno, .inl ⟨ha, fun dx hdx hne => q dx hdx hne⟩⟩
theorem fn_InvalidTerm {f : Addr} {fd fdg : FuncData} (F : FunD K "__init__" "InvalidTerm.__init__" (defArgs s_InvalidTerm_init) (defBody s_InvalidTerm_init) (defScope s_InvalidTerm_init) [] [] f fd) (T : Top K mg)
    (FE : FnOk P w K mg base CX0 1 (He.ma K (He.ga K "FaultError") "__init__") fdg ["self", "code"] (spFE K)) (hb : Binds K fdg ["self", "code"] []) : FnOk P w K mg base CX0 2 f fd ["self"] (spIni K "InvalidTerm") := by
  refine FunD.ok F sc_InvalidTerm_init (fun vs H Q E h => ?_) (fun cdv A outer s0 H vs Q E hr h => ?_)
  · obtain ⟨a, C, rfl, _⟩ := h
    rfl
  obtain ⟨a, C, rfl, hC, hno, ha, q⟩ := h
  refine ⟨_, PSs.nox (pss_one (ps_expr (pe_clsfn (by rfl) T.c_FaultError T.fe.rd ⟨T.fe.at_, rfl⟩ FE hr T.fe.kp hb pass0 (pa_cons (pv 0) (pa_cons pe_str pa_nil))))), ?_⟩
  exact ⟨_, rfl, a, C, _, rfl, hC, hno, ha, q⟩
theorem fn_InvalidText {f : Addr} {fd fdg : FuncData} (F : FunD K "__init__" "InvalidText.__init__" (defArgs s_InvalidText_init) (defBody s_InvalidText_init) (defScope s_InvalidText_init) [] [] f fd) (T : Top K mg)
    (FE : FnOk P w K mg base CX0 1 (He.ma K (He.ga K "FaultError") "__init__") fdg ["self", "code"] (spFE K)) (hb : Binds K fdg ["self", "code"] []) : FnOk P w K mg base CX0 2 f fd ["self"] (spIni K "InvalidText") := by
  refine FunD.ok F sc_InvalidText_init (fun vs H Q E h => ?_) (fun cdv A outer s0 H vs Q E hr h => ?_)
  · obtain ⟨a, C, rfl, _⟩ := h
    rfl
  obtain ⟨a, C, rfl, hC, hno, ha, q⟩ := h
  refine ⟨_, PSs.nox (pss_one (ps_expr (pe_clsfn (by rfl) T.c_FaultError T.fe.rd ⟨T.fe.at_, rfl⟩ FE hr T.fe.kp hb pass0 (pa_cons (pv 0) (pa_cons pe_str pa_nil))))), ?_⟩
  exact ⟨_, rfl, a, C, _, rfl, hC, hno, ha, q⟩
end
theorem gives_law_call {X : Cx} (T : Top X.K X.mg) {g : Addr} {cdg : Value} {q : Str} : GivesS X ["_law_ask", "_law_told", "_law_word", "e"] "_law_call" (defScope s_law_call) g cdg (defBody s_law_call) "_law_ask" q (TTc X.K (He.ga X.K "FaultError")) := by
  intro f c' s H Q tl act hc h
  refine ⟨_, pss_cons (ps_set (i := 1) sc_law_call.nd rfl (Or.inl rfl) pe_non) (pss_cons (ps_set (i := 2) sc_law_call.nd rfl (Or.inl rfl) pe_str) (pss_cons
    (ps_try_manyA (X := (cxOf C8.CX0 X.prog X.w X.K X.mg X.base ["_law_ask", "_law_told", "_law_word", "e"] "_law_call" (defScope s_law_call) g cdg X.A X.stack s H C8.E0).nox) (i := 3)
      (tb := fun W D σ H => ∃ E : XK, (∀ cls d H', E cls d H' → W cls d σ H') ∧ σ[0]? = some (some (.ref f)) ∧ H c' = some (LamX.CodeO c' q) ∧ ∃ Q' : VK, (∀ v H', Q' v H' → D.nx (σ.set 1 (some v)) H') ∧ tl E H Q')
      (l := [(.ref (He.ga X.K "FaultError"), fun a cls d D σ H => ∃ C, OwnC X.K C ∧ tAsg (tXf a cls d C "code" (tVar 3)) (gName 2) D σ H), (.ref (He.ga X.K "Missing"), fun a cls d D σ H => ∃ C, OwnC X.K C ∧ tAsg (tXf a cls d C "code" (tVar 3)) (gName 2) D σ H),
        (.ref (He.ga X.K "NothingLeft"), fun a cls d D σ H => ∃ C, OwnC X.K C ∧ tAsg (tXf a cls d C "code" (tVar 3)) (gName 2) D σ H)])
      rfl rfl sc_law_call.nd rfl rfl LamX.takes0 (fun W pn xe tk _ => ?_)
      (.cons ⟨rfl, by decide, .inl T.c_FaultError⟩ (fun a oe cls d pn hz hf => pss_ex fun C hC => pss_one (ps_set (i := 2) sc_law_call.nd rfl (Or.inl rfl) (pe_xf hC.xf hC.noc hz hf (pv 3))))
        (.cons ⟨rfl, by decide, .inl T.c_Missing⟩ (fun a oe cls d pn hz hf => pss_ex fun C hC => pss_one (ps_set (i := 2) sc_law_call.nd rfl (Or.inl rfl) (pe_xf hC.xf hC.noc hz hf (pv 3))))
          (.cons ⟨rfl, by decide, .inl T.c_NothingLeft⟩ (fun a oe cls d pn hz hf => pss_ex fun C hC => pss_one (ps_set (i := 2) sc_law_call.nd rfl (Or.inl rfl) (pe_xf hC.xf hC.noc hz hf (pv 3)))) .nil))))
    (pss_one (ps_ret (pe_tup (pa_cons (pv 1) (pa_cons (pv 2) pa_nil))))))), ?_⟩
  · refine ⟨fun pins s' σ H' D I h' => ?_⟩
    obtain ⟨E, hW, h1, h2, Q', hQ, h3⟩ := h'
    exact (pss_one (ps_set (i := 1) sc_law_call.nd rfl (Or.inl rfl) (pe_mono (act W pn xe _ _ tk)))).run pins s' σ H' D I ⟨Q', hQ, h1, h2, E, hW, h3⟩
  · refine ⟨fun cls d H' => ∃ (C : Addr) (z : Str), cls = .ref C ∧ OwnC X.K C ∧ PySem.W.exmOne X.K (.ref C) (.ref (He.ga X.K "FaultError")) = some true ∧ Thr z d H' ∧ ∀ p, H' p = none → Q (.ref p) (upd H' p (.tup [.non, .str z])), fun cls d H' hE => ?_, rfl, hc, ?_⟩
    · obtain ⟨C, z, rfl, hC, he, ⟨dd, fs, rfl, hd, hz⟩, hq⟩ := hE
      refine ⟨true, he, fun _ a ha => ?_, fun z => by cases z⟩
      exact ⟨C, hC, _, rfl, rfl, rfl, dd, fs, _, rfl, hd, hz, _, rfl, _, rfl, (show 2 ≤ sizeLine by decide), hq⟩
    · exact ⟨_, fun v H' hq => ⟨_, rfl, _, rfl, (show 2 ≤ sizeLine by decide), hq⟩, h⟩
end FF
namespace FF
open PySem PySem.Spec PyProof.Rows L2
section
variable {P : Program} {w : World} {K : PySem.W.Frag} {mg : Str → Option Value} {base : Heap}
theorem fn_InvalidLetter {f : Addr} {fd fdg : FuncData} (F : FunD K "__init__" "InvalidLetter.__init__" (defArgs s_InvalidLetter_init) (defBody s_InvalidLetter_init) (defScope s_InvalidLetter_init) [] [] f fd) (T : Top K mg)
    (FE : FnOk P w K mg base CX0 1 (He.ma K (He.ga K "FaultError") "__init__") fdg ["self", "code"] (spFE K)) (hb : Binds K fdg ["self", "code"] []) : FnOk P w K mg base CX0 2 f fd ["self", "letter"] (spIni1 K "InvalidLetter" "letter") := by
  refine FunD.ok F sc_InvalidLetter_init (fun vs H Q E h => ?_) (fun cdv A outer s0 H vs Q E hr h => ?_)
  · obtain ⟨a, C, y, rfl, _⟩ := h
    rfl
  obtain ⟨a, C, y, rfl, hC, hno, hnf, ha, q⟩ := h
  refine ⟨_, PSs.nox (pss_cons (ps_expr (pe_clsfn (by rfl) T.c_FaultError T.fe.rd ⟨T.fe.at_, rfl⟩ FE hr T.fe.kp hb pass0 (pa_cons (pv 0) (pa_cons pe_str pa_nil)))) (pss_one (ps_ost (pv 0) (pv 1)))), ?_⟩
  refine ⟨_, rfl, a, C, _, rfl, hC, hno, ha, fun dx hdx hne => ?_⟩
  exact ⟨_, rfl, _, rfl, a, C, rfl, hC, hnf, .inr ⟨dx, [("code", .str "InvalidLetter")], upd_same, by rw [upd_ne hne, upd_same], (show 1 ≤ 900 by decide), q dx hdx hne⟩⟩
end
def TTl (K : PySem.W.Frag) (IL : Addr) : (XK → Hp → VK → Prop) → Hp → VK → Prop := fun tl H Q =>
  tl (fun cls d H' => ∃ (dd : Addr) (fs : List (Str × V)) (z : Str), cls = .ref IL ∧ PySem.W.exmOne K (.ref IL) (.ref IL) = some true ∧ XfC K IL ∧ PySem.W.findIn K (.ref IL) "letter" = some none ∧ d = some dd ∧ H' dd = some (.xd fs) ∧ fs.lookup ("letter" : Str) = some (V.str z) ∧ Q (.str z) H') H fun _ H' => Q (.str "none") H'
theorem gives_law_letter_told {X : Cx} (T : Top X.K X.mg) {g : Addr} {cdg : Value} {q : Str} : GivesS X ["_law_ask", "_law_told", "e"] "_law_letter_told" (defScope s_law_letter_told) g cdg (defBody s_law_letter_told) "_law_ask" q (TTl X.K (He.ga X.K "InvalidLetter")) := by
  intro f c' s H Q tl act hc h
  refine ⟨_, pss_cons (ps_set (i := 1) sc_law_letter_told.nd rfl (Or.inl rfl) pe_str) (pss_cons
    (ps_try_manyA (X := (cxOf C8.CX0 X.prog X.w X.K X.mg X.base ["_law_ask", "_law_told", "e"] "_law_letter_told" (defScope s_law_letter_told) g cdg X.A X.stack s H C8.E0).nox) (i := 2)
      (tb := fun W D σ H => ∃ E : XK, (∀ cls d H', E cls d H' → W cls d σ H') ∧ σ[0]? = some (some (.ref f)) ∧ H c' = some (LamX.CodeO c' q) ∧ ∃ Q' : VK, (∀ v H', Q' v H' → D.nx σ H') ∧ tl E H Q')
      (l := [(.ref (He.ga X.K "InvalidLetter"), fun a cls d D σ H => ∃ C, (XfC X.K C ∧ PySem.W.findIn X.K (.ref C) "letter" = some none) ∧ tAsg (tXf a cls d C "letter" (tVar 2)) (gName 1) D σ H)])
      rfl rfl sc_law_letter_told.nd rfl rfl LamX.takes0 (fun W pn xe tk _ => ?_)
      (.cons ⟨rfl, by decide, .inl T.c_InvalidLetter⟩ (fun a oe cls d pn hz hf => pss_ex fun C hC => pss_one (ps_set (i := 1) sc_law_letter_told.nd rfl (Or.inl rfl) (pe_xf hC.1 hC.2 hz hf (pv 2)))) .nil))
    (pss_one (ps_ret (pv 1)))), ?_⟩
  · refine ⟨fun pins s' σ H' D I h' => ?_⟩
    obtain ⟨E, hW, h1, h2, Q', hQ, h3⟩ := h'
    exact (pss_one (ps_expr (pe_mono (act W pn xe _ _ tk)))).run pins s' σ H' D I ⟨Q', hQ, h1, h2, E, hW, h3⟩
  · refine ⟨fun cls d H' => ∃ (dd : Addr) (fs : List (Str × V)) (z : Str), cls = .ref (He.ga X.K "InvalidLetter") ∧ PySem.W.exmOne X.K (.ref (He.ga X.K "InvalidLetter")) (.ref (He.ga X.K "InvalidLetter")) = some true ∧ XfC X.K (He.ga X.K "InvalidLetter") ∧ PySem.W.findIn X.K (.ref (He.ga X.K "InvalidLetter")) "letter" = some none ∧
      d = some dd ∧ H' dd = some (.xd fs) ∧ fs.lookup ("letter" : Str) = some (V.str z) ∧ Q (.str z) H', fun cls d H' hE => ?_, rfl, hc, ?_⟩
    · obtain ⟨dd, fs, z, rfl, he, hx, hno, rfl, hd, hz, hq⟩ := hE
      refine ⟨true, he, fun _ a ha => ?_, fun z => by cases z⟩
      exact ⟨_, ⟨hx, hno⟩, _, rfl, rfl, rfl, dd, fs, _, rfl, hd, hz, _, rfl, hq⟩
    · exact ⟨_, fun v H' hq => ⟨_, rfl, hq⟩, h⟩
end FF
namespace FF
open PySem PySem.Spec PyProof.Rows L2
section
variable {P : Program} {w : World} {K : PySem.W.Frag} {mg : Str → Option Value} {base : Heap}
/-- is_letter(value): for data -/
def spIsLetter (K : PySem.W.Frag) : Sp := fun vs H Q _ => ∃ (v : V) (d : PyData), vs = [v] ∧ Dp K H v d ∧ nice d = true ∧ Q (.bl (isLet d)) H
theorem ok_is_letter {f : Addr} {fd : FuncData} (F : FunD K "is_letter" "is_letter" (defArgs s_is_letter) (defBody s_is_letter) (defScope s_is_letter) [] [] f fd) (hm : mg "is_letter" = some (.ref f)) (T : Top K mg) : Def P w K mg base "is_letter" 1 ["value"] (spIsLetter K) := by
  refine def_mk F hm (F.bindsN fun _ _ _ _ _ _ us hl => match us, hl with | [_], _ => rfl) sc_is_letter (fun vs H Q E h => ?_) (fun cdv A outer s H vs Q E hr h => ?_)
  · obtain ⟨v, d, rfl, _⟩ := h
    rfl
  obtain ⟨v, d, rfl, hd, hn, q⟩ := h
  refine ⟨_, (pss_one (ps_ret (pe_and (pe_callB (call_isK K kb_str) (by rfl) T.b_isinstance (by decide +kernel) (pa_cons (pv 0) (pa_cons (pe_bltn (v := .ty "str") (by rfl) T.b_str (by decide +kernel) rfl) pa_nil))) (pe_and (pe_cmpR op_eq (pe_callB (call_lenK K) (by rfl) T.b_len (by decide +kernel) (pa_cons (pv 0) pa_nil)) pe_int (nomark _)) (pe_one (pe_cmpR op_in_sign (pv 0) (pe_gs T.g_LETTERS) rfl)))))), ?_⟩
  refine ⟨_, rfl, v, d, rfl, hd, _, rfl, ?_⟩
  cases hd with
  | str z =>
    refine iteT ⟨_, rfl, _, z.length, rfl, ⟨nice_str hn, rfl⟩, rfl, _, rfl, ?_⟩
    refine if_int (fun h1 => ?_) (fun h1 => ?_)
    · obtain ⟨c, rfl⟩ := len1 (z := z) (by omega)
      exact ⟨_, rfl, c, lettersS, rfl, rfl, q⟩
    · rw [show isLet (.str z) = false from isLetS_no (by omega)] at q
      exact q
  | non => exact iteF q
  | bl b => exact iteF q
  | int i => exact iteF q
  | lst _ _ => exact iteF q
  | tup _ _ => exact iteF q
/-- measured(value, max_depth), below n deep -/
def spMeasured (K : PySem.W.Frag) (n : Nat) : Sp := fun vs H Q _ => ∃ (v : V) (d : PyData) (m : Int), vs = [v, .int m] ∧ Dp K H v d ∧ nice d = true ∧ m.toNat < n ∧ ∀ H', Same H H' → Q (.int (meas m.toNat d)) H'
theorem inv_op {z : Str} : inV (.str z) [.str ("&" : Str), .str ("|" : Str)] = isOp (.str z) := by
  show ((("&" : Str) == z) || ((("|" : Str) == z) || false)) = (decide (z = ("&" : Str)) || decide (z = ("|" : Str)))
  rw [Bool.or_false, Bool.beq_comm (a := ("&" : Str)), Bool.beq_comm (a := ("|" : Str)), Bool.beq_eq_decide_eq, Bool.beq_eq_decide_eq]
theorem flat_ints (ns : List Int) : (ns.map V.int).all flatV = true := by
  rw [List.all_eq_true]
  intro v hv
  obtain ⟨n, _, rfl⟩ := List.mem_map.mp hv
  rfl
theorem in_ints {i : Int} {ns : List Int} : inV (.int i) (ns.map V.int) = decide (i ∈ ns) := by
  unfold inV
  rw [List.any_map]
  induction ns with
  | nil => rfl
  | cons n ns ih =>
    rw [List.any_cons, ih]
    show ((n == i) || decide (i ∈ ns)) = decide (i ∈ n :: ns)
    by_cases h : i = n
    · subst h; simp
    · have : (n == i) = false := beq_eq_false_iff_ne.mpr (fun z => h z.symm)
      rw [this, Bool.false_or]
      simp [h]
theorem ok_measured_step {n : Nat} {f : Addr} {fd : FuncData} (F : FunD K "measured" "measured" (defArgs s_measured) (defBody s_measured) (defScope s_measured) [] [] f fd) (hm : mg "measured" = some (.ref f)) (T : Top K mg) (D_is_letter : Def P w K mg base "is_letter" 1 ["value"] (spIsLetter K))
    (D_measured : Def P w K mg base "measured" (n + 1) ["value", "max_depth"] (spMeasured K n)) : Def P w K mg base "measured" (n + 2) ["value", "max_depth"] (spMeasured K (n + 1)) := by
  refine def_mk F hm (F.bindsN fun _ _ _ _ _ _ us hl => match us, hl with | [_, _], _ => rfl) sc_measured (fun vs H Q E h => ?_) (fun cdv A outer s H vs Q E hr h => ?_)
  · obtain ⟨v, d, m, rfl, _⟩ := h
    rfl
  obtain ⟨v, d, m, rfl, hd, hn, hm, q⟩ := h
  refine ⟨_, (pss_cons (ps_if (pt_val (pe_def D_is_letter hr (by first | decide | omega) (pa_cons (pv 0) pa_nil)))
  (pss_one (ps_ret (pe_callTy call_int1 (by rfl) T.b_int (by decide +kernel) (pa_cons (pe_cmpR op_gt (pv 1) pe_int (nomark _)) pa_nil))))
  pss_nil)
  (pss_cons (ps_if (PW.pt (pw_or (pt_cmpR op_lt (pv 1) pe_int (nomark _)) (pw_or (pt_not (pt_val (pe_callB (call_isK K kb_tup) (by rfl) T.b_isinstance (by decide +kernel) (pa_cons (pv 0) (pa_cons (pe_bltn (v := .ty "tuple") (by rfl) T.b_tuple (by decide +kernel) rfl) pa_nil))))) (pw_or1 (pt_cmpR op_lt (pe_callB (call_lenK K) (by rfl) T.b_len (by decide +kernel) (pa_cons (pv 0) pa_nil)) pe_int (nomark _))))))
  (pss_one (ps_ret pe_int))
  pss_nil)
  (pss_cons (ps_if (PW.pt (pw_or (pt_not (pt_val (pe_callB (call_isK K kb_str) (by rfl) T.b_isinstance (by decide +kernel) (pa_cons (pe_ix (ix_tupK K) (pv 0) pe_int (fun _ _ => rfl)) (pa_cons (pe_bltn (v := .ty "str") (by rfl) T.b_str (by decide +kernel) rfl) pa_nil))))) (pw_or1 (pt_cmpR (op_notIn_seqK K) (pe_ix (ix_tupK K) (pv 0) pe_int (fun _ _ => rfl)) (pe_gT T.g_OPERATORS) (by rfl)))))
  (pss_one (ps_ret pe_int))
  pss_nil)
  (pss_cons (ps_setLc (i := 2) (own := [("part", 3)]) rfl sc_measured.nd rfl rfl (sw_true rfl rfl rfl (by kernel_rfl)) (pi_tupK K (pe_slice (sl_tupK K) (pv 0) (po_some pe_int) po_none)) (blkOk_by (by kernel_rfl)) (fun _ _ _ _ _ => (pg_name (i := 3) sc_measured.nd rfl (Or.inl rfl) (.inr rfl))) (fun _ _ _ _ _ => pts_nil) (fun _ _ _ _ _ => (pe_def D_measured hr (by first | decide | omega) (pa_cons (pv 3) (pa_cons (pe_op op_sub (pv 1) pe_int) pa_nil)))))
  (pss_one (ps_ret (pe_ifExp (pt_cmpR (op_in_seqK K) pe_int (pv 2) (by rfl)) pe_int (pe_callB (cr_sumK K rfl) (by rfl) T.b_sum (by decide +kernel) (pa_cons (pv 2) pa_nil))))))))), ?_⟩
  refine ⟨_, rfl, v, d, rfl, hd, hn, _, rfl, ?_⟩
  refine if_b (fun hl => ?_) (fun hl => ?_)
  · refine ⟨_, rfl, _, _, rfl, rfl, .inr ⟨_, rfl, ?_⟩⟩
    refine qi (q H (Same.refl H)) ?_
    rw [meas_let hl]
    by_cases h0 : 0 < m
    · rw [if_pos (by omega), if_pos (decide_eq_true h0)]
    · rw [if_neg (by omega), if_neg (by simpa using h0)]
  refine ⟨_, rfl, _, _, rfl, rfl, _, rfl, ?_⟩
  refine if_dec (fun h2 => ?_) (fun h2 => ?_)
  · exact (qi (q H (Same.refl H)) (meas_low hl (by omega)))
  obtain ⟨k, hk⟩ : ∃ k, m.toNat = k + 2 := ⟨m.toNat - 2, by omega⟩
  rw [hk] at q hm
  have no : measP (meas (k + 1)) d = 0 → Q (.int 0) H := fun e => qi (q H (Same.refl H)) (by rw [meas_up hl (by omega), e])
  refine ⟨_, rfl, v, d, rfl, hd, _, rfl, ?_⟩
  cases hd with
  | tup ht ha =>
    rename_i a xs ds
    refine ⟨_, rfl, _, xs.length, rfl, .inr ⟨xs, ht, rfl⟩, _, _, rfl, rfl, _, rfl, ?_⟩
    have hlen := da_len ha
    refine if_dec (fun h3 => ?_) (fun h3 => ?_)
    · refine no ?_
      match ds, hlen with
      | [], _ => rfl
      | [_], _ => rfl
      | [_, _], _ => rfl
      | _ :: _ :: _ :: _, e => simp at e; omega
    have h4 : 3 ≤ ds.length := by omega
    match ds, ha, h4 with
    | [], _, e => exact absurd e (by simp)
    | [_], _, e => exact absurd e (by simp)
    | [_, _], _, e => exact absurd e (by simp)
    | x :: y :: z :: r, .cons (v := vx) (vs := vr) hx hp, e =>
    refine ⟨_, rfl, a, _, _, vx, rfl, rfl, ht, at0, _, x, rfl, hx, _, rfl, ?_⟩
    have noOp : isOp x = false → Q (.int 0) H := fun e => no (by show (if isOp x = true then _ else _) = _; rw [if_neg (by rw [e]; decide)])
    refine if_nb (fun h5 => ?_) (fun h5 => ?_)
    · exact noOp (by cases x <;> first | rfl | cases h5)
    cases hx with
    | str zx =>
    refine ⟨_, rfl, a, _, _, _, rfl, rfl, ht, at0, _, _, rfl, .inr (T.t_OPERATORS H), rfl, rfl, _, rfl, ?_⟩
    refine if_nb (fun h6 => ?_) (fun h6 => ?_)
    · exact noOp (inv_op.symm.trans h6)
    refine ⟨_, rfl, _, rfl, a, _, rfl, ht, notWhole1, fun p hp0 => ⟨p, rfl, ⟨_, SqT.of upd_same⟩, fun D hD => ?_⟩⟩
    rw [cut1] at hD ⊢
    have e1 := same_new hp0 (.tup vr)
    refine lc_mapT (j := 3) (fun i u _ => ∃ d, (y :: z :: r)[i]? = some d ∧ u = .int (meas (k + 1) d)) (fun _ _ _ _ _ h => h) hD (SqT.of upd_same) ?_ (fun _ => rfl) ?_ ?_
    · have := nice_tl hn
      have := da_len hp
      exact le_line (by simp at *; omega)
    · intro i x H2 hx e2 Q' k'
      obtain ⟨d, hd1, hd2⟩ := da_get hp hx
      refine ⟨_, rfl, _, rfl, _, _, rfl, rfl, x, d, m - 1, rfl, up_d (e1.trans e2) hd2, nice_ti hn (List.mem_cons_of_mem _ (List.mem_of_getElem? hd1)), by omega, fun H' e3 => k' _ _ e3 ⟨d, hd1, ?_⟩⟩
      rw [show (m - 1).toNat = k + 1 by omega]
    · intro H2 ys e2 hD2 hl2 hy
      have hmap : ys = ((y :: z :: r).map (meas (k + 1))).map V.int := by
        rw [List.map_map]
        exact eq_map_of (hl2.trans (da_len hp)) fun i u hu => hy i u hu
      subst hmap
      refine ⟨_, rfl, D, _, rfl, .inl (SqL.of hD2), rfl, flat_ints _, _, rfl, ?_⟩
      have e3 := e1.trans e2
      have fin := q H2 e3
      rw [meas_up hl (by omega)] at fin
      have fin2 : Q (.int (if (0 : Int) ∈ ((y :: z :: r).map (meas (k + 1))) then 0 else ((y :: z :: r).map (meas (k + 1))).sum)) H2 := by
        refine qi fin ?_
        show (if isOp (.str zx) = true then _ else _) = _
        rw [if_pos (inv_op.symm.trans h6)]
      show (if (inV (.int 0) (((y :: z :: r).map (meas (k + 1))).map V.int)) = true then _ else _)
      rw [in_ints]
      refine if_dec (fun h7 => ?_) (fun h7 => ?_)
      · rw [if_pos h7] at fin2
        exact fin2
      · rw [if_neg h7] at fin2
        exact ⟨_, rfl, D, _, rfl, SqL.of hD2, fin2⟩
    | _ => cases h5
  | str z => exact no rfl
  | non => exact no rfl
  | bl b => exact no rfl
  | int i => exact no rfl
  | lst _ _ => exact no rfl
end
end FF
namespace FF
open PySem PySem.Spec PyProof.Rows L2
abbrev inB (m s : Int) : Bool := decide (1 ≤ m) && decide (m ≤ s)
def spIsTerm (K : PySem.W.Frag) : Sp := fun vs H Q _ => ∃ (v : V) (d : PyData) (md ms : Int), vs = [v, .int md, .int ms] ∧ Dp K H v d ∧ nice d = true ∧ md.toNat < 11 ∧ ∀ H', Same H H' → Q (.bl (inB (meas md.toNat d) ms)) H'
section
variable {P : Program} {w : World} {K : PySem.W.Frag} {mg : Str → Option Value} {base : Heap}
theorem fn_is_term {f : Addr} {fd : FuncData} (F : FunD K "is_term" "is_term" (defArgs s_is_term) (defBody s_is_term) (defScope s_is_term) [] [("max_depth", .int 5), ("max_size", .int 24)] f fd) (T : Top K mg)
    (D_measured : Def P w K mg base "measured" 12 ["value", "max_depth"] (spMeasured K 11)) : FnOk P w K mg base CX0 13 f fd ["value", "max_depth", "max_size"] (spIsTerm K) := by
  refine fn_mk F sc_is_term (fun vs H Q E h => ?_) (fun cdv A outer s H vs Q E hr h => ?_)
  · obtain ⟨v, d, md, ms, rfl, _⟩ := h
    rfl
  obtain ⟨v, d, md, ms, rfl, hd, hn, h10, q⟩ := h
  refine ⟨_, (pss_one (ps_ret (pe_chain op_le op_le pe_int (pe_def D_measured hr (by first | decide | omega) (pa_cons (pv 0) (pa_cons (pv 1) pa_nil))) (pv 2)))), ?_⟩
  refine ⟨_, rfl, _, rfl, v, d, md, rfl, hd, hn, h10, fun H1 e => ?_⟩
  refine ⟨_, _, rfl, rfl, _, rfl, ?_⟩
  have q1 := q H1 e
  refine if_dec (fun h1 => ?_) (fun h1 => ?_)
  · refine ⟨_, rfl, _, _, rfl, rfl, qb q1 ?_⟩
    show (decide (1 ≤ meas md.toNat d) && decide (meas md.toNat d ≤ ms)) = decide (meas md.toNat d ≤ ms)
    rw [decide_eq_true (show (1 : Int) ≤ meas md.toNat d from h1), Bool.true_and]
  · refine qb q1 ?_
    show (decide (1 ≤ meas md.toNat d) && decide (meas md.toNat d ≤ ms)) = false
    rw [decide_eq_false (show ¬ (1 : Int) ≤ meas md.toNat d from h1), Bool.false_and]
section
variable {f : Addr} {fd : FuncData} (F : FunD K "is_term" "is_term" (defArgs s_is_term) (defBody s_is_term) (defScope s_is_term) [] [("max_depth", .int 5), ("max_size", .int 24)] f fd)
theorem bind_a (F : FunD K "is_term" "is_term" (defArgs s_is_term) (defBody s_is_term) (defScope s_is_term) [] [("max_depth", .int 5), ("max_size", .int 24)] f fd) : ∃ ds, Vals [.int 5, .int 24] ds ∧ Binds K fd ["value", "max_depth", "max_size"] ds :=
  F.binds0 1 (by simp) rfl fun D doc pm an cdv ct us ks hu hk => match us, ks, hu, hk with
    | [_], [_, _], _, _ => ⟨_, _, _, _, _, _, rfl, rfl, _, _, _, _, _, _, rfl, rfl, rfl⟩
end
end
end FF
namespace FF
open PySem PySem.Spec PyProof.Rows L2
def spMeasure (K : PySem.W.Frag) (n : Nat) : Sp := fun vs H Q _ => ∃ (v : V) (d : PyData) (m : Int), vs = [v, .int m] ∧ Dp K H v d ∧ Nice 60 d ∧ m.toNat < n ∧ ∀ H', Same H H' → Q (.int (meas m.toNat d)) H'
section
variable {P : Program} {w : World} {K : PySem.W.Frag} {mg : Str → Option Value} {base : Heap}
theorem inv_op2 {z : PyData} : (([.str ("&" : Str), .str ("|" : Str)] : List PyData).any fun y => PyData.eqv y z) = isOp z := by
  cases z with
  | str z =>
    show (PyData.eqv (.str ("&" : Str)) (.str z) || (PyData.eqv (.str ("|" : Str)) (.str z) || false)) = (decide (z = ("&" : Str)) || decide (z = ("|" : Str)))
    rw [PyData.eqv, PyData.eqv, Bool.or_false, Bool.beq_comm (a := ("&" : Str)), Bool.beq_comm (a := ("|" : Str)), Bool.beq_eq_decide_eq, Bool.beq_eq_decide_eq]
  | _ => rfl
theorem ok_law_measure_step {n : Nat} {f : Addr} {fd : FuncData} (F : FunD K "_law_measure" "_law_measure" (defArgs s_law_measure) (defBody s_law_measure) (defScope s_law_measure) [] [] f fd) (hm : mg "_law_measure" = some (.ref f)) (T : Top K mg)
    (D_law_measure : Def P w K mg base "_law_measure" n ["_law_word", "_law_deep"] (spMeasure K n)) : Def P w K mg base "_law_measure" (n + 1) ["_law_word", "_law_deep"] (spMeasure K (n + 1)) := by
  refine def_mk F hm (F.bindsN fun _ _ _ _ _ _ us hl => match us, hl with | [_, _], _ => rfl) sc_law_measure (fun vs H Q E h => ?_) (fun cdv A outer s H vs Q E hr h => ?_)
  · obtain ⟨v, d, m, rfl, _⟩ := h
    rfl
  obtain ⟨v, d, m, rfl, hd, hn60, hm, q⟩ := h
  have hn := hn60.ok
  refine ⟨_, (pss_cons (ps_if (pt_val (pe_callB (call_isK K kb_str) (by rfl) T.b_isinstance (by decide +kernel) (pa_cons (pv 0) (pa_cons (pe_bltn (v := .ty "str") (by rfl) T.b_str (by decide +kernel) rfl) pa_nil))))
  (pss_one (ps_ret (pe_callTy call_int1 (by rfl) T.b_int (by decide +kernel) (pa_cons (pe_and (pe_cmpR op_eq (pe_callB (call_lenK K) (by rfl) T.b_len (by decide +kernel) (pa_cons (pv 0) pa_nil)) pe_int (nomark _)) (pe_and (pe_cmpR op_in_sign (pv 0) pe_str rfl) (pe_one (pe_cmpR op_gt (pv 1) pe_int (nomark _))))) pa_nil))))
  pss_nil)
  (pss_cons (ps_if (PW.pt (pw_or (pt_cmpR op_lt (pv 1) pe_int (nomark _)) (pw_or (pt_not (pt_val (pe_callB (call_isK K kb_tup) (by rfl) T.b_isinstance (by decide +kernel) (pa_cons (pv 0) (pa_cons (pe_bltn (v := .ty "tuple") (by rfl) T.b_tuple (by decide +kernel) rfl) pa_nil))))) (pw_or (pt_cmpR op_lt (pe_callB (call_lenK K) (by rfl) T.b_len (by decide +kernel) (pa_cons (pv 0) pa_nil)) pe_int (nomark _)) (pw_or1 (pt_cmpR (op_notInK K (r65 hr)) (pe_ix (ix_tupK K) (pv 0) pe_int (fun _ _ => rfl)) (pe_tup (pa_cons pe_str (pa_cons pe_str pa_nil))) (by rfl)))))))
  (pss_one (ps_ret pe_int))
  pss_nil)
  (pss_cons (ps_setLc (i := 2) (own := [("_law_one", 3)]) rfl sc_law_measure.nd rfl rfl (sw_true rfl rfl rfl (by kernel_rfl)) (pi_tupK K (pe_slice (sl_tupK K) (pv 0) (po_some pe_int) po_none)) (blkOk_by (by kernel_rfl)) (fun _ _ _ _ _ => (pg_name (i := 3) sc_law_measure.nd rfl (Or.inl rfl) (.inr rfl))) (fun _ _ _ _ _ => pts_nil) (fun _ _ _ _ _ => (pe_def D_law_measure hr (by first | decide | omega) (pa_cons (pv 3) (pa_cons (pe_op op_sub (pv 1) pe_int) pa_nil)))))
  (pss_one (ps_ret (pe_ifExp (pt_cmpR (op_in_seqK K) pe_int (pv 2) (by rfl)) pe_int (pe_callB (cr_sumK K rfl) (by rfl) T.b_sum (by decide +kernel) (pa_cons (pv 2) pa_nil)))))))), ?_⟩
  refine ⟨_, rfl, v, d, rfl, hd, _, rfl, ?_⟩
  refine if_b (fun hl => ?_) (fun hns => ?_)
  · cases hd with
    | str z =>
      have fin : ∀ b : Bool, (b = true → isLetS z = true ∧ 0 < m) → (b = false → isLetS z = false ∨ ¬ 0 < m) → Q (.int (if b = true then 1 else 0)) H := fun b h1 h2 => by
        refine qi (q H (Same.refl H)) ?_
        cases b with
        | true =>
          obtain ⟨h3, h4⟩ := h1 rfl
          rw [meas_let (d := .str z) h3, if_pos (by omega)] <;> rfl
        | false =>
          rcases h2 rfl with h3 | h3
          · cases hk : m.toNat with
            | zero => rfl
            | succ k =>
              cases k with
              | zero => exact meas_low (d := .str z) h3 (by omega)
              | succ k => rw [meas_up (d := .str z) h3 (by omega)] <;> rfl
          · rw [show m.toNat = 0 by omega] <;> rfl
      refine ⟨_, rfl, _, z.length, rfl, ⟨nice_str hn, rfl⟩, rfl, _, rfl, ?_⟩
      refine if_int (fun h1 => ?_) (fun h1 => ?_)
      · obtain ⟨c, rfl⟩ := len1 (z := z) (by omega)
        refine ⟨_, rfl, c, lettersS, rfl, rfl, _, rfl, ?_⟩
        refine if_dec (fun h2 => ?_) (fun h2 => ?_)
        · refine ⟨_, rfl, _, _, rfl, rfl, .inr ⟨_, rfl, ?_⟩⟩
          exact fin _ (fun h => ⟨decide_eq_true h2, of_decide_eq_true h⟩) (fun h => .inr (of_decide_eq_false h))
        · exact .inr ⟨_, rfl, fin false (fun h => by cases h) (fun _ => .inl (decide_eq_false h2))⟩
      · exact .inr ⟨_, rfl, fin false (fun h => by cases h) (fun _ => .inl (isLetS_no (by omega)))⟩
    | _ => cases hl
  have hl : isLet d = false := by cases d <;> first | rfl | cases hns
  refine ⟨_, rfl, _, _, rfl, rfl, _, rfl, ?_⟩
  refine if_dec (fun h2 => ?_) (fun h2 => ?_)
  · exact qi (q H (Same.refl H)) (meas_low hl (by omega))
  obtain ⟨k, hk⟩ : ∃ k, m.toNat = k + 2 := ⟨m.toNat - 2, by omega⟩
  rw [hk] at q hm
  have no : measP (meas (k + 1)) d = 0 → ∀ H', Same H H' → Q (.int 0) H' := fun e H' e' => qi (q H' e') (by rw [meas_up hl (by omega), e])
  refine ⟨_, rfl, v, d, rfl, hd, _, rfl, ?_⟩
  cases hd with
  | tup ht ha =>
    rename_i a xs ds
    refine ⟨_, rfl, _, xs.length, rfl, .inr ⟨xs, ht, rfl⟩, _, _, rfl, rfl, _, rfl, ?_⟩
    have hlen := da_len ha
    refine if_dec (fun h3 => ?_) (fun h3 => ?_)
    · refine no ?_ H (Same.refl H)
      match ds, hlen with
      | [], _ => rfl
      | [_], _ => rfl
      | [_, _], _ => rfl
      | _ :: _ :: _ :: _, e => simp at e; omega
    have h4 : 3 ≤ ds.length := by omega
    match ds, ha, h4 with
    | [], _, e => exact absurd e (by simp)
    | [_], _, e => exact absurd e (by simp)
    | [_, _], _, e => exact absurd e (by simp)
    | x :: y :: z :: r, .cons (v := vx) (vs := vr) hx hp, e =>
    refine ⟨_, rfl, a, _, _, vx, rfl, rfl, ht, at0, (by show 2 ≤ sizeLine; decide), fun p5 hp5 => ?_⟩
    have e5 := same_new hp5 (.tup [.str ("&" : Str), .str ("|" : Str)])
    have noOp : isOp x = false → ∀ H', Same H H' → Q (.int 0) H' := fun e => no (by show (if isOp x = true then _ else _) = _; rw [if_neg (by rw [e]; decide)])
    refine ⟨x, [.str ("&" : Str), .str ("|" : Str)], up_d e5 hx, .inr (.tup (SqT.of upd_same) (.cons (.str _) (.cons (.str _) .nil))), (hn60.itemT (List.mem_cons_self ..)).shaped, by decide +kernel, _, rfl, ?_⟩
    refine if_nb (fun h6 => ?_) (fun h6 => ?_)
    · exact noOp (inv_op2.symm.trans h6) _ e5
    refine ⟨_, rfl, _, rfl, a, _, rfl, up_t e5 ht, notWhole1, fun p hp0 => ⟨p, rfl, ⟨_, SqT.of upd_same⟩, fun D hD => ?_⟩⟩
    rw [cut1] at hD ⊢
    have e1 := e5.trans (same_new hp0 (.tup vr))
    refine lc_mapT (j := 3) (fun i u _ => ∃ d, (y :: z :: r)[i]? = some d ∧ u = .int (meas (k + 1) d)) (fun _ _ _ _ _ h => h) hD (SqT.of upd_same) ?_ (fun _ => rfl) ?_ ?_
    · have := nice_tl hn
      have := da_len hp
      exact le_line (by simp at *; omega)
    · intro i x H2 hx e2 Q' k'
      obtain ⟨d, hd1, hd2⟩ := da_get hp hx
      refine ⟨_, rfl, _, rfl, _, _, rfl, rfl, x, d, m - 1, rfl, up_d (e1.trans e2) hd2, hn60.itemT (List.mem_cons_of_mem _ (List.mem_of_getElem? hd1)), by omega, fun H' e3 => k' _ _ e3 ⟨d, hd1, ?_⟩⟩
      rw [show (m - 1).toNat = k + 1 by omega]
    · intro H2 ys e2 hD2 hl2 hy
      have hmap : ys = ((y :: z :: r).map (meas (k + 1))).map V.int := by
        rw [List.map_map]
        exact eq_map_of (hl2.trans (da_len hp)) fun i u hu => hy i u hu
      subst hmap
      refine ⟨_, rfl, D, _, rfl, .inl (SqL.of hD2), rfl, flat_ints _, _, rfl, ?_⟩
      have e3 := e1.trans e2
      have fin := q H2 e3
      rw [meas_up hl (by omega)] at fin
      have fin2 : Q (.int (if (0 : Int) ∈ ((y :: z :: r).map (meas (k + 1))) then 0 else ((y :: z :: r).map (meas (k + 1))).sum)) H2 := by
        refine qi fin ?_
        show (if isOp x = true then _ else _) = _
        rw [if_pos (inv_op2.symm.trans h6)]
      show (if (inV (.int 0) (((y :: z :: r).map (meas (k + 1))).map V.int)) = true then _ else _)
      rw [in_ints]
      refine if_dec (fun h7 => ?_) (fun h7 => ?_)
      · rw [if_pos h7] at fin2
        exact fin2
      · rw [if_neg h7] at fin2
        exact ⟨_, rfl, D, _, rfl, SqL.of hD2, fin2⟩
  | str z => exact no rfl H (Same.refl H)
  | non => exact no rfl H (Same.refl H)
  | bl b => exact no rfl H (Same.refl H)
  | int i => exact no rfl H (Same.refl H)
  | lst _ _ => exact no rfl H (Same.refl H)
end
end FF
namespace FF
open PySem PySem.Spec PyProof.Rows L2
/-- _law_same(found, due) of the same data -/
def spSame (K : PySem.W.Frag) (n : Nat) : Sp := fun vs H Q _ => ∃ (v v' : V) (d : PyData), vs = [v, v'] ∧ Dp K H v d ∧ Dp K H v' d ∧ nice d = true ∧ d.depth < n ∧ n ≤ 60 ∧ ∀ H', Same H H' → Q (.bl true) H'
def spFits (K : PySem.W.Frag) : Sp := fun vs H Q _ => ∃ (v : V) (d : PyData), vs = [v] ∧ Dp K H v d ∧ Nice 60 d ∧ ∀ H', Same H H' → Q (.bl (decide (1 ≤ meas 5 d) && decide (meas 5 d ≤ 24))) H'
/-- a nest of so many operators -/
def nestD : Nat → PyData
  | 0 => .str ("a" : Str)
  | k + 1 => .tuple [.str (if k % 2 = 0 then ("&" : Str) else ("|" : Str)), nestD k, .str ("b" : Str)]
def spNest (K : PySem.W.Frag) : Sp := fun vs H Q _ => ∃ (m : Nat), vs = [.int m] ∧ m ≤ 40 ∧ ∀ v H', Same H H' → Tp K H' v (nestD m) → Q v H'
theorem nest_nice : ∀ n, Nice n (nestD n)
  | 0 => ⟨by decide +kernel, by decide +kernel⟩
  | n + 1 => by
    refine Nice.tuple (by show 3 ≤ 20000; decide) fun d hd => ?_
    simp only [List.mem_cons, List.not_mem_nil, or_false] at hd
    have s : ∀ z : Str, nice (.str z) = true → Nice n (.str z) := fun z h => ⟨h, by rw [PyData.depth]; exact Nat.zero_le _⟩
    rcases hd with rfl | rfl | rfl
    · split
      · exact s _ (by decide +kernel)
      · exact s _ (by decide +kernel)
    · exact nest_nice n
    · exact s _ (by decide +kernel)
section
variable {P : Program} {w : World} {K : PySem.W.Frag} {mg : Str → Option Value} {base : Heap}
theorem same_none {f : Addr} {fd : FuncData} (F : FunD K "_law_same" "_law_same" (defArgs s_law_same) (defBody s_law_same) (defScope s_law_same) [] [] f fd) (hm : mg "_law_same" = some (.ref f)) : Def P w K mg base "_law_same" 0 ["_law_found", "_law_due"] (spSame K 0) := by
  have no : ∀ vs H Q E, ¬ spSame K 0 vs H Q E := fun vs H Q E ⟨_, _, _, _, _, _, _, h, _⟩ => by omega
  exact ⟨f, fd, ⟨fun vs H Q E h => absurd h (no vs H Q E), fun A outer s H args us vs Q E _ _ _ _ h => absurd h (no vs H Q E)⟩, hm, F.kp, F.bindsN fun _ _ _ _ _ _ us hl => match us, hl with | [_, _], _ => rfl⟩
theorem ok_same_step {n : Nat} {f : Addr} {fd : FuncData} (F : FunD K "_law_same" "_law_same" (defArgs s_law_same) (defBody s_law_same) (defScope s_law_same) [] [] f fd) (hm : mg "_law_same" = some (.ref f)) (T : Top K mg)
    (D_law_same : Def P w K mg base "_law_same" n ["_law_found", "_law_due"] (spSame K n)) : Def P w K mg base "_law_same" (n + 1) ["_law_found", "_law_due"] (spSame K (n + 1)) := by
  refine def_mk F hm (F.bindsN fun _ _ _ _ _ _ us hl => match us, hl with | [_, _], _ => rfl) sc_law_same (fun vs H Q E h => ?_) (fun cdv A outer s H vs Q E hr h => ?_)
  · obtain ⟨v, v', d, rfl, _⟩ := h
    rfl
  obtain ⟨v, v', d, rfl, hd, hd', hn, hdn, h60, q⟩ := h
  have hsh : SeqAt.shaped d = true := Nice.shaped (n := 60) ⟨hn, by omega⟩
  have hq := q H (Same.refl H)
  have heq : Q (.bl (PyData.eqv d d)) H := qb hq (SeqAt.eqv_refl d (SeqAt.canLay_of_shaped hsh)).symm
  refine ⟨_, (pss_cons (ps_if (PW.pt (pw_or (pt_cmp (pc_isN (pv 1)) (by rfl)) (pw_or1 (pt_cmp (pc_isN (pv 0)) (by rfl)))))
  (pss_one (ps_ret (pe_and (pe_cmp (pc_isN (pv 1)) (by rfl)) (pe_one (pe_cmp (pc_isN (pv 0)) (by rfl))))))
  pss_nil)
  (pss_cons (ps_if (PW.pt (pw_or (pt_val (pe_callB (call_isK K kb_bool) (by rfl) T.b_isinstance (by decide +kernel) (pa_cons (pv 1) (pa_cons (pe_bltn (v := .ty "bool") (by rfl) T.b_bool (by decide +kernel) rfl) pa_nil)))) (pw_or1 (pt_val (pe_callB (call_isK K kb_bool) (by rfl) T.b_isinstance (by decide +kernel) (pa_cons (pv 0) (pa_cons (pe_bltn (v := .ty "bool") (by rfl) T.b_bool (by decide +kernel) rfl) pa_nil)))))))
  (pss_one (ps_ret (pe_and (pe_callB (call_isK K kb_bool) (by rfl) T.b_isinstance (by decide +kernel) (pa_cons (pv 1) (pa_cons (pe_bltn (v := .ty "bool") (by rfl) T.b_bool (by decide +kernel) rfl) pa_nil))) (pe_and (pe_callB (call_isK K kb_bool) (by rfl) T.b_isinstance (by decide +kernel) (pa_cons (pv 0) (pa_cons (pe_bltn (v := .ty "bool") (by rfl) T.b_bool (by decide +kernel) rfl) pa_nil))) (pe_one (pe_cmpR (op_eqK K hr.units) (pv 0) (pv 1) (nomark _)))))))
  pss_nil)
  (pss_cons (ps_if (PW.pt (pw_or (pt_val (pe_callB (call_isK K kb_int) (by rfl) T.b_isinstance (by decide +kernel) (pa_cons (pv 1) (pa_cons (pe_bltn (v := .ty "int") (by rfl) T.b_int (by decide +kernel) rfl) pa_nil)))) (pw_or1 (pt_val (pe_callB (call_isK K kb_str) (by rfl) T.b_isinstance (by decide +kernel) (pa_cons (pv 1) (pa_cons (pe_bltn (v := .ty "str") (by rfl) T.b_str (by decide +kernel) rfl) pa_nil)))))))
  (pss_one (ps_ret (pe_and (pe_cmpR op_eq (pe_callB (call_isK K kb_int) (by rfl) T.b_isinstance (by decide +kernel) (pa_cons (pv 0) (pa_cons (pe_bltn (v := .ty "int") (by rfl) T.b_int (by decide +kernel) rfl) pa_nil))) (pe_callB (call_isK K kb_int) (by rfl) T.b_isinstance (by decide +kernel) (pa_cons (pv 1) (pa_cons (pe_bltn (v := .ty "int") (by rfl) T.b_int (by decide +kernel) rfl) pa_nil))) (nomark _)) (pe_one (pe_cmpR (op_eqK K hr.units) (pv 0) (pv 1) (nomark _))))))
  pss_nil)
  (pss_cons (ps_if (pt_val (pe_callB (call_isK K kb_dict) (by rfl) T.b_isinstance (by decide +kernel) (pa_cons (pv 1) (pa_cons (pe_bltn (v := .ty "dict") (by rfl) T.b_dict (by decide +kernel) rfl) pa_nil))))
  pss_never
  pss_nil)
  (pss_cons (ps_if (PW.pt (pw_or (pt_cmpR op_ne (pe_callB (call_isK K kb_lst) (by rfl) T.b_isinstance (by decide +kernel) (pa_cons (pv 0) (pa_cons (pe_bltn (v := .ty "list") (by rfl) T.b_list (by decide +kernel) rfl) pa_nil))) (pe_callB (call_isK K kb_lst) (by rfl) T.b_isinstance (by decide +kernel) (pa_cons (pv 1) (pa_cons (pe_bltn (v := .ty "list") (by rfl) T.b_list (by decide +kernel) rfl) pa_nil))) (nomark _)) (pw_or1 (pt_cmpR op_ne (pe_callB (call_isK K kb_tup) (by rfl) T.b_isinstance (by decide +kernel) (pa_cons (pv 0) (pa_cons (pe_bltn (v := .ty "tuple") (by rfl) T.b_tuple (by decide +kernel) rfl) pa_nil))) (pe_callB (call_isK K kb_tup) (by rfl) T.b_isinstance (by decide +kernel) (pa_cons (pv 1) (pa_cons (pe_bltn (v := .ty "tuple") (by rfl) T.b_tuple (by decide +kernel) rfl) pa_nil))) (nomark _)))))
  (pss_one (ps_ret pe_bl))
  pss_nil)
  (pss_one (ps_ret (pe_and (pe_cmpR op_eq (pe_callB (call_lenK K) (by rfl) T.b_len (by decide +kernel) (pa_cons (pv 0) pa_nil)) (pe_callB (call_lenK K) (by rfl) T.b_len (by decide +kernel) (pa_cons (pv 1) pa_nil)) (nomark _)) (pe_one (pe_callB (cr_allK K rfl) (by rfl) T.b_all (by decide +kernel) (pa_cons (pe_lc (own := [("_law_one", 3), ("_law_other", 4)]) rfl sc_law_same.nd (pi_zipK K (by rfl) T.b_zip (pa_cons (pv 0) (pa_cons (pv 1) pa_nil))) (blkOk_by (by kernel_rfl)) (fun _ _ _ _ _ => (pg_tupK K (n := 2) rfl (pgs_cons (pg_name (i := 3) sc_law_same.nd rfl (Or.inl rfl) (.inr rfl)) (pgs_cons (pg_name (i := 4) sc_law_same.nd rfl (Or.inl rfl) (.inr rfl)) pgs_nil)))) (fun _ _ _ _ _ => pts_nil) (fun _ _ _ _ _ => (pe_def D_law_same hr (by first | decide | omega) (pa_cons (pv 3) (pa_cons (pv 4) pa_nil))))) pa_nil))))))))))), ?_⟩
  refine ⟨_, rfl, _, rfl, ?_⟩
  cases d with
  | none =>
    cases hd; cases hd'
    exact ⟨_, rfl, _, rfl, _, rfl, hq⟩
  | bool b =>
    cases hd; cases hd'
    exact ⟨_, rfl, _, rfl, _, rfl, _, _, rfl, .bl b, _, rfl, _, rfl, _, _, rfl, .bl b, _, rfl, _, rfl, _, _, rfl, .bl b, _, rfl, _, rfl, _, rfl, _, _, .bl b, .bl b, hsh, hsh, heq⟩
  | int i =>
    cases hd; cases hd'
    exact ⟨_, rfl, _, rfl, _, rfl, _, _, rfl, .int i, _, rfl, _, rfl, _, _, rfl, .int i, _, rfl, _, rfl, _, _, rfl, .int i, _, rfl, _, rfl, _, _, rfl, .int i, _, rfl, _, _, rfl, .int i, rfl, _, rfl, _, rfl, _, rfl, _, _, .int i, .int i, hsh, hsh, heq⟩
  | str z =>
    cases hd; cases hd'
    exact ⟨_, rfl, _, rfl, _, rfl, _, _, rfl, .str z, _, rfl, _, rfl, _, _, rfl, .str z, _, rfl, _, rfl, _, _, rfl, .str z, _, rfl, _, rfl, _, _, rfl, .str z, _, rfl, _, rfl, _, _, rfl, .str z, _, rfl, _, _, rfl, .str z, rfl, _, rfl, _, rfl, _, rfl, _, _, .str z, .str z, hsh, hsh, heq⟩
  | dict _ => cases hd
  | list ds =>
    cases hd with
    | lst hs ha =>
    cases hd' with
    | lst hs' ha' =>
    rename_i a xs a' xs'
    have l1 := da_len ha
    have l2 := da_len ha'
    refine ⟨_, rfl, _, rfl, _, rfl, _, _, rfl, .lst hs' ha', _, rfl, _, rfl, _, _, rfl, .lst hs ha, _, rfl, ?_⟩
    refine ⟨_, rfl, _, _, rfl, .lst hs' ha', _, rfl, _, rfl, _, _, rfl, .lst hs' ha', _, rfl, ?_⟩
    refine ⟨_, rfl, _, _, rfl, .lst hs' ha', _, rfl, ?_⟩
    refine ⟨_, rfl, _, _, rfl, .lst hs ha, _, rfl, _, _, rfl, .lst hs' ha', rfl, _, rfl, ?_⟩
    refine ⟨_, rfl, _, _, rfl, .lst hs ha, _, rfl, _, _, rfl, .lst hs' ha', rfl, _, rfl, ?_⟩
    refine ⟨_, rfl, _, xs.length, rfl, .inl ⟨_, hs, rfl⟩, _, rfl, _, xs'.length, rfl, .inl ⟨_, hs', rfl⟩, rfl, _, rfl, ?_⟩
    refine if_int (fun _ => ?_) (fun h => absurd (by omega) h)
    refine ⟨_, rfl, _, rfl, a, a', xs, xs', rfl, .inl ⟨hs, hs', fun D hD => ?_⟩⟩
    refine lc_zipS (S := SqL K) (j := 3) (k := 4) (fun e h => up_l e h) (fun _ u _ => u = .bl true) (fun _ _ _ _ _ h => h) hD hs hs' (by omega) (le_line (by have := nice_ll hn; omega)) (fun _ _ => rfl) ?_ ?_
    · intro i x y H2 hx hy e Q' k'
      obtain ⟨d, hd1, hd2⟩ := da_get ha hx
      obtain ⟨d', hd1', hd2'⟩ := da_get ha' hy
      rw [hd1] at hd1'
      cases hd1'
      have hmem := List.mem_of_getElem? hd1
      have := depthAll_mem hmem
      rw [PyData.depth] at hdn
      exact ⟨_, rfl, _, rfl, x, y, d, rfl, up_d e hd2, up_d e hd2', nice_li hn hmem, by omega, by omega, fun H' e' => k' _ _ e' rfl⟩
    · intro H2 us e hD2 hl2 hu
      have hus : us = (List.replicate xs.length true).map V.bl := by
        rw [List.map_replicate]
        exact List.eq_replicate_iff.mpr ⟨hl2, fun b hb => by
          obtain ⟨i, hi, rfl⟩ := List.mem_iff_getElem.mp hb
          exact hu i _ (List.getElem?_eq_getElem hi)⟩
      rw [hus] at hD2
      exact ⟨D, _, rfl, SqL.of hD2, qb (q H2 e) (all_true _).symm⟩
  | tuple ds =>
    cases hd with
    | tup hs ha =>
    cases hd' with
    | tup hs' ha' =>
    rename_i a xs a' xs'
    have l1 := da_len ha
    have l2 := da_len ha'
    refine ⟨_, rfl, _, rfl, _, rfl, _, _, rfl, .tup hs' ha', _, rfl, _, rfl, _, _, rfl, .tup hs ha, _, rfl, ?_⟩
    refine ⟨_, rfl, _, _, rfl, .tup hs' ha', _, rfl, _, rfl, _, _, rfl, .tup hs' ha', _, rfl, ?_⟩
    refine ⟨_, rfl, _, _, rfl, .tup hs' ha', _, rfl, ?_⟩
    refine ⟨_, rfl, _, _, rfl, .tup hs ha, _, rfl, _, _, rfl, .tup hs' ha', rfl, _, rfl, ?_⟩
    refine ⟨_, rfl, _, _, rfl, .tup hs ha, _, rfl, _, _, rfl, .tup hs' ha', rfl, _, rfl, ?_⟩
    refine ⟨_, rfl, _, xs.length, rfl, .inr ⟨_, hs, rfl⟩, _, rfl, _, xs'.length, rfl, .inr ⟨_, hs', rfl⟩, rfl, _, rfl, ?_⟩
    refine if_int (fun _ => ?_) (fun h => absurd (by omega) h)
    refine ⟨_, rfl, _, rfl, a, a', xs, xs', rfl, .inr ⟨hs, hs', fun D hD => ?_⟩⟩
    refine lc_zipS (S := SqT K) (j := 3) (k := 4) (fun e h => up_t e h) (fun _ u _ => u = .bl true) (fun _ _ _ _ _ h => h) hD hs hs' (by omega) (le_line (by have := nice_tl hn; omega)) (fun _ _ => rfl) ?_ ?_
    · intro i x y H2 hx hy e Q' k'
      obtain ⟨d, hd1, hd2⟩ := da_get ha hx
      obtain ⟨d', hd1', hd2'⟩ := da_get ha' hy
      rw [hd1] at hd1'
      cases hd1'
      have hmem := List.mem_of_getElem? hd1
      have := depthAll_mem hmem
      rw [PyData.depth] at hdn
      exact ⟨_, rfl, _, rfl, x, y, d, rfl, up_d e hd2, up_d e hd2', nice_ti hn hmem, by omega, by omega, fun H' e' => k' _ _ e' rfl⟩
    · intro H2 us e hD2 hl2 hu
      have hus : us = (List.replicate xs.length true).map V.bl := by
        rw [List.map_replicate]
        exact List.eq_replicate_iff.mpr ⟨hl2, fun b hb => by
          obtain ⟨i, hi, rfl⟩ := List.mem_iff_getElem.mp hb
          exact hu i _ (List.getElem?_eq_getElem hi)⟩
      rw [hus] at hD2
      exact ⟨D, _, rfl, SqL.of hD2, qb (q H2 e) (all_true _).symm⟩
end
end FF
namespace FF
open PySem PySem.Spec PyProof.Rows L2
section
variable {P : Program} {w : World} {K : PySem.W.Frag} {mg : Str → Option Value} {base : Heap}
theorem ok_fits {f : Addr} {fd : FuncData} (F : FunD K "_law_fits" "_law_fits" (defArgs s_law_fits) (defBody s_law_fits) (defScope s_law_fits) [] [] f fd) (hm : mg "_law_fits" = some (.ref f)) (T : Top K mg)
    (D_law_measure : Def P w K mg base "_law_measure" 12 ["_law_word", "_law_deep"] (spMeasure K 12)) : Def P w K mg base "_law_fits" 13 ["_law_word"] (spFits K) := by
  refine def_mk F hm (F.bindsN fun _ _ _ _ _ _ us hl => match us, hl with | [_], _ => rfl) sc_law_fits (fun vs H Q E h => ?_) (fun cdv A outer s H vs Q E hr h => ?_)
  · obtain ⟨v, d, rfl, _⟩ := h
    rfl
  obtain ⟨v, d, rfl, hd, hn, q⟩ := h
  refine ⟨_, (pss_one (ps_ret (pe_chain op_le op_le pe_int (pe_def D_law_measure hr (by first | decide | omega) (pa_cons (pv 0) (pa_cons pe_int pa_nil))) pe_int))), ?_⟩
  refine ⟨_, rfl, v, d, 5, rfl, hd, hn, by omega, fun H1 e => ?_⟩
  refine ⟨_, _, rfl, rfl, _, rfl, ?_⟩
  have q1 := q H1 e
  refine if_dec (fun h1 => ?_) (fun h1 => ?_)
  · rw [decide_eq_true (show (1 : Int) ≤ meas 5 d from h1), Bool.true_and] at q1
    exact ⟨_, _, rfl, rfl, q1⟩
  · rw [decide_eq_false (show ¬ (1 : Int) ≤ meas 5 d from h1), Bool.false_and] at q1
    exact q1
end
end FF
namespace FF
open PySem PySem.Spec PyProof.Rows L2
/-- what is no term of any size -/
theorem m3 {x y z : PyData} (h : isOp x = false ∨ meas 8 y = 0 ∨ meas 8 z = 0) : meas 9 (.tuple [x, y, z]) = 0 := by
  rw [meas_up tup_let (by decide)]
  show (if isOp x = true then (if (0 : Int) ∈ [meas 8 y, meas 8 z] then 0 else [meas 8 y, meas 8 z].sum) else 0) = 0
  rcases h with h | h | h
  · rw [if_neg (by rw [h]; decide)]
  · split
    · rw [if_pos (by simp [h])]
    · rfl
  · split
    · rw [if_pos (by simp [h])]
    · rfl
def spOdd0 (K : PySem.W.Frag) : Sp := fun vs H Q _ => ∃ (s : Addr) (v : V) (d : PyData), vs = [.ref s, v] ∧ Src H s ∧ Dp K H v d ∧ Nice 20 d ∧ ∀ v' H' d', Same H H' → Dp K H' v' d' → Nice 30 d' → meas 9 d' = 0 → Q v' H'
end FF
namespace FF
open PySem PySem.Spec PyProof.Rows L2
theorem nice_w {d : PyData} (hd : Nice 20 d) : ∀ e, e ∈ ([.str ("&" : Str), .str ("|" : Str), .str ("" : Str), .tuple [.str ("a" : Str), .str ("b" : Str)], .tuple [.str ("|" : Str), .str ("b" : Str)], .list [.str ("a" : Str)], d] : List PyData) → Nice 25 e := by
  intro e he
  simp only [List.mem_cons, List.not_mem_nil, or_false] at he
  rcases he with rfl | rfl | rfl | rfl | rfl | rfl | rfl
  all_goals first
    | exact hd.mono (by decide)
    | exact ⟨by decide +kernel, by decide +kernel⟩
section
variable {P : Program} {w : World} {K : PySem.W.Frag} {mg : Str → Option Value} {base : Heap}
theorem ok_nest {f : Addr} {fd : FuncData} (F : FunD K "_law_nest" "_law_nest" (defArgs s_law_nest) (defBody s_law_nest) (defScope s_law_nest) [] [] f fd) (hm : mg "_law_nest" = some (.ref f)) (T : Top K mg) : Def P w K mg base "_law_nest" 1 ["_law_many"] (spNest K) := by
  refine def_mk F hm (F.bindsN fun _ _ _ _ _ _ us hl => match us, hl with | [_], _ => rfl) sc_law_nest (fun vs H Q E h => ?_) (fun cdv A outer s H vs Q E hr h => ?_)
  · obtain ⟨m, rfl, _⟩ := h
    rfl
  obtain ⟨m, rfl, h40, q⟩ := h
  refine ⟨_, (pss_cons (ps_set (i := 1) sc_law_nest.nd rfl (Or.inl rfl) pe_str)
  (pss_cons (ps_for PassesOwn.never rfl (pi_range1 (by rfl) T.b_range (pa_cons (pv 0) pa_nil)) (pg_name (i := 2) sc_law_nest.nd rfl (Or.inl rfl) (.inl rfl))
  (pss_one (ps_set (i := 1) sc_law_nest.nd rfl (Or.inl rfl) (pe_tup (pa_cons (pe_ix (ix_listK K) (pe_lst (pa_cons pe_str (pa_cons pe_str pa_nil))) (pe_op op_mod (pe_callTy call_int1 (by rfl) T.b_int (by decide +kernel) (pa_cons (pv 2) pa_nil)) pe_int) (fun _ _ => rfl)) (pa_cons (pv 1) (pa_cons pe_str pa_nil)))))))
  (pss_one (ps_ret (pv 1))))), ?_⟩
  refine ⟨_, rfl, (m : Int), rfl, by omega, by omega, ?_⟩
  rw [Int.toNat_natCast]
  refine for_range (lo := 0) (n := m) (fun i σ H' => ∃ v o, σ = [some (.int m), some v, o] ∧ Same H H' ∧ Tp K H' v (nestD i)) ⟨_, none, rfl, Same.refl H, .str _⟩ ?_ ?_
  · rintro i σ H' hi ⟨v, o, rfl, e, hv⟩
    refine ⟨(by show 2 ≤ sizeLine; decide), fun p hp => ?_⟩
    have e1 := same_new hp (.lst [.str ("&" : Str), .str ("|" : Str)])
    refine ⟨_, rfl, .inl ⟨_, rfl, _, _, rfl, rfl, (by show (0 : Int) < 2; decide), ?_⟩⟩
    have hat : atI [V.str ("&" : Str), V.str ("|" : Str)] ((0 + (i : Int)) % 2) = some (.str (if i % 2 = 0 then ("&" : Str) else ("|" : Str))) := by
      by_cases h : i % 2 = 0
      · rw [if_pos h, show (0 + (i : Int)) % 2 = 0 by omega] <;> rfl
      · rw [if_neg h, show (0 + (i : Int)) % 2 = 1 by omega] <;> rfl
    refine ⟨p, _, _, _, rfl, rfl, SqL.of upd_same, hat, _, rfl, (by show 3 ≤ sizeLine; decide), fun t ht => ?_⟩
    have e2 := e1.trans (same_new ht (.tup [.str (if i % 2 = 0 then ("&" : Str) else ("|" : Str)), v, .str ("b" : Str)]))
    exact ⟨_, _, rfl, e.trans e2, .tup (.inl upd_same) (.cons (.str _) (.cons (hv.up (Same.T e2)) (.cons (.str _) .nil)))⟩
  · rintro σ H' ⟨v, o, rfl, e, hv⟩
    exact ⟨_, rfl, q v H' e hv⟩
theorem ok_odd0 {f : Addr} {fd : FuncData} (F : FunD K "_law_odd" "_law_odd" (defArgs s_law_odd) (defBody s_law_odd) (defScope s_law_odd) [] [] f fd) (hm : mg "_law_odd" = some (.ref f)) (T : Top K mg)
    (D_law_pick : Def P w K mg base "_law_pick" 2 ["_law_source_here", "_law_row"] (spPick K)) (D_law_nest : Def P w K mg base "_law_nest" 1 ["_law_many"] (spNest K)) : Def P w K mg base "_law_odd" 3 ["_law_source_here", "_law_word"] (spOdd0 K) := by
  refine def_mk F hm (F.bindsN fun _ _ _ _ _ _ us hl => match us, hl with | [_, _], _ => rfl) sc_law_odd (fun vs H Q E h => ?_) (fun cdv A outer s H vs Q E hr h => ?_)
  · obtain ⟨s, v, d, rfl, _⟩ := h
    rfl
  obtain ⟨s, v, d, rfl, hs, hd, hn, q⟩ := h
  refine ⟨_, (pss_cons (ps_set (i := 2) sc_law_odd.nd rfl (Or.inl rfl) (pe_lst (pa_cons pe_non (pa_cons pe_int (pa_cons pe_str (pa_cons pe_str (pa_cons pe_str (pa_cons pe_str (pa_cons (pe_tup pa_nil) (pa_cons (pe_tup (pa_cons pe_str pa_nil)) (pa_cons (pe_tup (pa_cons pe_str (pa_cons pe_str pa_nil))) (pa_cons (pe_tup (pa_cons pe_str (pa_cons pe_str (pa_cons pe_str pa_nil)))) (pa_cons (pe_tup (pa_cons pe_str (pa_cons pe_str (pa_cons pe_str pa_nil)))) (pa_cons (pe_lst (pa_cons pe_str (pa_cons pe_str (pa_cons pe_str pa_nil)))) pa_nil))))))))))))))
  (pss_cons (ps_set (i := 2) sc_law_odd.nd rfl (Or.inl rfl) (pe_op op_cat (pv 2) (pe_lst (pa_cons (pe_tup (pa_cons pe_str (pa_cons pe_str (pa_cons pe_non pa_nil)))) (pa_cons (pe_tup (pa_cons pe_str (pa_cons (pv 1) (pa_cons (pe_tup (pa_cons pe_str (pa_cons pe_str pa_nil))) pa_nil)))) (pa_cons (pe_tup (pa_cons (pv 1) pa_nil)) (pa_cons (pe_tup (pa_cons pe_str (pa_cons (pe_tup (pa_cons pe_str (pa_cons pe_str pa_nil))) (pa_cons (pv 1) pa_nil)))) (pa_cons (pe_tup (pa_cons pe_bl (pa_cons pe_str (pa_cons pe_str pa_nil)))) pa_nil))))))))
  (pss_cons (ps_set (i := 2) sc_law_odd.nd rfl (Or.inl rfl) (pe_op op_cat (pv 2) (pe_lst (pa_cons (pe_tup (pa_cons pe_str (pa_cons (pe_lst (pa_cons pe_str pa_nil)) (pa_cons (pv 1) pa_nil)))) (pa_cons (pe_tup (pa_cons pe_str (pa_cons (pv 1) (pa_cons pe_str pa_nil)))) (pa_cons (pe_tup (pa_cons pe_str (pa_cons (pv 1) (pa_cons (pv 1) pa_nil)))) (pa_cons (pe_tup (pa_cons (pe_tup (pa_cons pe_str (pa_cons pe_str (pa_cons pe_str pa_nil)))) (pa_cons pe_str (pa_cons pe_str pa_nil)))) (pa_cons (pe_def D_law_nest hr (by first | decide | omega) (pa_cons pe_int pa_nil)) pa_nil))))))))
  (pss_one (ps_ret (pe_def D_law_pick hr (by first | decide | omega) (pa_cons (pv 0) (pa_cons (pv 2) pa_nil)))))))), ?_⟩
  refine seq_asg ?_
  refine evl_lst (K := K) (H := H) (by (repeat (first | exact evs_nil | exact ev_non | exact ev_bl | exact ev_int | exact ev_str | exact ev_var rfl (by assumption) | apply ev_tup | apply ev_lst | apply evs_cons | exact Nat.le_of_ble_eq_true rfl))) (by decide) H (Same.refl H) _ fun p1 vs1 H1 n1 e1 hp1 hd1 => ?_
  refine seq_asg (op_of ⟨_, rfl, ?_⟩)
  have hdH1 := up_d e1 hd
  show tLst _ _ _ _
  refine evl_lst (K := K) (H := H1) (by (repeat (first | exact evs_nil | exact ev_non | exact ev_bl | exact ev_int | exact ev_str | exact ev_var rfl (by assumption) | apply ev_tup | apply ev_lst | apply evs_cons | exact Nat.le_of_ble_eq_true rfl))) (by simp) H1 (Same.refl H1) _ fun p2 vs2 H2 n2 e2 hp2 hd2 => ?_
  refine ⟨p1, p2, _, _, rfl, rfl, e2 _ _ hp1, hp2, le_line (by rw [da_len hd1, da_len hd2]; simp), fun p3 hp3 => ?_⟩
  refine seq_asg (op_of ⟨_, rfl, ?_⟩)
  have e12 := e1.trans e2
  have e3 := same_new hp3 (.lst (vs1 ++ vs2))
  have e13 := e12.trans e3
  have hdH2 := up_d e13 hd
  have hd3 := da_app (up_da (e2.trans e3) hd1) (up_da e3 hd2)
  show tLst _ _ _ _
  refine evl_lst (K := K) (H := upd H2 p3 (.lst (vs1 ++ vs2))) (evs_cons (by (repeat (first | exact evs_nil | exact ev_non | exact ev_bl | exact ev_int | exact ev_str | exact ev_var rfl (by assumption) | apply ev_tup | apply ev_lst | apply evs_cons | exact Nat.le_of_ble_eq_true rfl))) (evs_cons (by (repeat (first | exact evs_nil | exact ev_non | exact ev_bl | exact ev_int | exact ev_str | exact ev_var rfl (by assumption) | apply ev_tup | apply ev_lst | apply evs_cons | exact Nat.le_of_ble_eq_true rfl))) (evs_cons (by (repeat (first | exact evs_nil | exact ev_non | exact ev_bl | exact ev_int | exact ev_str | exact ev_var rfl (by assumption) | apply ev_tup | apply ev_lst | apply evs_cons | exact Nat.le_of_ble_eq_true rfl))) (evs_cons (by (repeat (first | exact evs_nil | exact ev_non | exact ev_bl | exact ev_int | exact ev_str | exact ev_var rfl (by assumption) | apply ev_tup | apply ev_lst | apply evs_cons | exact Nat.le_of_ble_eq_true rfl))) (evs_cons (d := nestD 10) (fun H5 e5 Q' k' => ⟨10, rfl, by decide, fun v6 H6 e6 h6 => k' v6 H6 e6 h6.dp⟩) evs_nil))))) (by simp) _ (Same.refl _) _ fun p4 vs4 H4 n4 e4 hp4 hd4 => ?_
  refine ⟨p3, p4, _, _, rfl, rfl, e4 _ _ upd_same, hp4, le_line (by rw [List.length_append, da_len hd1, da_len hd2, da_len hd4]; simp), fun p5 hp5 => ?_⟩
  have e5 := same_new hp5 (.lst ((vs1 ++ vs2) ++ vs4))
  have hd5 := da_app (up_da (e4.trans e5) hd3) (up_da e5 hd4)
  have e15 := e13.trans (e4.trans e5)
  refine ⟨_, rfl, _, rfl, s, p5, _, rfl, hs.up e15, SqL.of upd_same, ?_, ?_, fun v' hv' => ?_⟩
  · intro z
    have := congrArg List.length z
    rw [da_len hd5] at this
    simp at this
  · rw [da_len hd5]
    simp
  obtain ⟨d', hd1', hd2'⟩ := da_mem hd5 hv'
  suffices both : Nice 30 d' ∧ meas 9 d' = 0 from q v' _ d' e15 hd2' both.1 both.2
  have w1 := nice_w hn
  have mk : ∀ ds : List PyData, ds.length ≤ 20000 → (∀ e, e ∈ ds → e ∈ ([.str ("&" : Str), .str ("|" : Str), .str ("" : Str), .tuple [.str ("a" : Str), .str ("b" : Str)], .tuple [.str ("|" : Str), .str ("b" : Str)], .list [.str ("a" : Str)], d] : List PyData)) → Nice 30 (.tuple ds) := fun ds hl hm => (Nice.tuple hl fun e he => w1 e (hm e he)).mono (by decide)
  simp only [List.mem_append, List.mem_cons, List.not_mem_nil, or_false, or_assoc] at hd1'
  rcases hd1' with rfl | rfl | rfl | rfl | rfl | rfl | rfl | rfl | rfl | rfl | rfl | rfl | rfl | rfl | rfl | rfl | rfl | rfl | rfl | rfl | rfl | rfl
  all_goals refine ⟨?_, ?_⟩
  all_goals first
    | exact ⟨by decide +kernel, by decide +kernel⟩
    | exact mk _ (by simp) (by simp)
    | exact (nest_nice 10).mono (by decide)
    | decide +kernel
    | exact m3 (.inl (by decide +kernel))
    | exact m3 (.inr (.inl (by decide +kernel)))
    | exact m3 (.inr (.inr (by decide +kernel)))
    | rfl
end
end FF
namespace FF
open PySem PySem.Spec PyProof.Rows L2
abbrev fitsB (d : PyData) : Bool := inB (meas 5 d) 24
def spNeed (K : PySem.W.Frag) : Sp := fun vs H Q E => ∃ (v : V) (d : PyData), vs = [v] ∧ Dp K H v d ∧ nice d = true ∧ (fitsB d = true → ∀ H', Same H H' → Q .non H') ∧
  (fitsB d = false → ∀ dd H', Same H H' → Thr ("InvalidTerm" : Str) dd H' → E (.ref (He.ga K "InvalidTerm")) dd H')
section
variable {P : Program} {w : World} {K : PySem.W.Frag} {mg : Str → Option Value} {base : Heap}
theorem ok_need_term {f fT : Addr} {fd fdT : FuncData} (F : FunD K "need_term" "need_term" (defArgs s_need_term) (defBody s_need_term) (defScope s_need_term) [] [] f fd) (hm : mg "need_term" = some (.ref f)) (T : Top K mg)
    (FT0 : FunD K "is_term" "is_term" (defArgs s_is_term) (defBody s_is_term) (defScope s_is_term) [] [("max_depth", .int 5), ("max_size", .int 24)] fT fdT) (hmT : mg "is_term" = some (.ref fT)) (FT : FnOk P w K mg base CX0 13 fT fdT ["value", "max_depth", "max_size"] (spIsTerm K))
    (x_InvalidTerm : RaiseD P w K mg base "InvalidTerm" "FaultError" 2 "InvalidTerm") : DefX P w K mg base "need_term" 14 ["value"] (spNeed K) := by
  obtain ⟨da, va, ba⟩ := bind_a FT0
  refine defx_mk F hm (F.bindsN fun _ _ _ _ _ _ us hl => match us, hl with | [_], _ => rfl) sc_need_term (fun vs H Q E h => ?_) (fun cdv A outer s0 H vs Q E hr h tk => ?_)
  · obtain ⟨v, d, rfl, _⟩ := h
    rfl
  obtain ⟨v, d, rfl, hd, hn, q1, q2⟩ := h
  refine ⟨_, (pss_one (ps_if (pt_not (pt_val (pe_call FT (hr.mono (by decide)) rfl hmT FT0.kp ba va pass0 (pa_cons (pv 0) pa_nil))))
  (pss_one (ps_raise rfl tk (pmk_raise x_InvalidTerm hr (by first | decide | omega))))
  pss_nil)), ?_⟩
  refine ⟨_, rfl, v, d, 5, 24, rfl, hd, hn, by decide, fun H1 e1 => ⟨_, rfl, ?_⟩⟩
  refine if_nb (fun h1 => ?_) (fun h1 => ?_)
  · exact fun dd H2 e2 ht => q2 h1 dd H2 (e1.trans e2) ht
  · exact q1 h1 H1 e1
end
end FF
namespace FF
open PySem PySem.Spec PyProof.Rows L2
def partT (f : PyData → Str) : PyData → Str
  | .str z => z
  | p => ("(" : Str) ++ f p ++ ")"
/-- the text of a term, at most n deep -/
def textD : Nat → PyData → Str
  | 0, _ => ""
  | n + 1, d => match d with
    | .str z => z
    | .tuple (.str o :: ps) => Txt.join ((" " : Str) ++ o ++ " ") (ps.map (partT (textD n)))
    | _ => ""
def spText (K : PySem.W.Frag) (n : Nat) : Sp := fun vs H Q _ => ∃ (v : V) (d : PyData) (m : Nat), vs = [v] ∧ Tp K H v d ∧ Drawn m d ∧ m < n ∧ n ≤ 10 ∧ ∀ H', Same H H' → Q (.str (textD (m + 1) d)) H'
theorem drawn_shape {m : Nat} {d : PyData} (h : Drawn m d) : (∃ z, d = .str z ∧ isLet d = true) ∨ ∃ o ps k, d = .tuple (.str o :: ps) ∧ isOp (.str o) = true ∧ 2 ≤ ps.length ∧ ps.length ≤ 4 ∧ m = k + 1 ∧ ∀ p ∈ ps, Drawn k p := by
  have lt : isLet d = true → ∃ z, d = .str z ∧ isLet d = true := fun hl => by
    cases d with
    | str z => exact ⟨z, rfl, hl⟩
    | _ => cases hl
  match m, h with
  | 0, h => exact .inl (lt h)
  | k + 1, .inl h => exact .inl (lt h)
  | k + 1, .inr ⟨o, ps, e, ho, h2, h4, hp⟩ =>
    cases o with
    | str z => exact .inr ⟨z, ps, k, e, ho, h2, h4, rfl, hp⟩
    | _ => cases ho
theorem tpa_get {K : PySem.W.Frag} {H : Hp} : ∀ {vs : List V} {ds : List PyData} {i : Nat} {v : V}, TpAll K H vs ds → vs[i]? = some v → ∃ d, ds[i]? = some d ∧ Tp K H v d
  | _, _, 0, _, .cons h _, e => by cases e; exact ⟨_, rfl, h⟩
  | _, _, i + 1, _, .cons _ t, e => tpa_get (i := i) t e
theorem sum_le {f : PyData → Str} {B : Nat} : ∀ {l : List PyData}, (∀ p ∈ l, (f p).length ≤ B) → ((l.map f).map (·.length)).sum ≤ l.length * B
  | [], _ => Nat.zero_le _
  | x :: r, h => by
    have h1 := h x List.mem_cons_self
    have h2 := sum_le (l := r) fun p hp => h p (List.mem_cons_of_mem _ hp)
    rw [List.map_cons, List.map_cons, List.sum_cons, List.length_cons, Nat.succ_mul]
    omega
theorem sep_len {o : Str} (ho : isOp (.str o) = true) : ((" " : Str) ++ o ++ " ").length = 3 := by
  rcases op_shape ho with h | h
  · rw [PyData.str.inj h]
    decide +kernel
  · rw [PyData.str.inj h]
    decide +kernel
theorem app_len (a b : Str) : (a ++ b).length = a.length + b.length := by
  show (a.cps ++ b.cps).size = _
  rw [Array.size_append] <;> rfl
theorem text_len : ∀ {n : Nat} {d : PyData}, Drawn n d → (textD (n + 1) d).length + 7 ≤ 8 * 4 ^ n := by
  have lt : ∀ {z : Str}, isLet (.str z) = true → z.length = 1 := fun {z} h => by
    obtain ⟨c, e, _⟩ := let_shape h
    rw [PyData.str.inj e] <;> rfl
  intro n
  induction n with
  | zero =>
    intro d h
    rcases drawn_shape h with ⟨z, rfl, hz⟩ | ⟨_, _, _, _, _, _, _, e, _⟩
    · show z.length + 7 ≤ _
      rw [lt hz]
      decide
    · cases e
  | succ n ih =>
    intro d h
    have p1 : 1 ≤ 4 ^ n := Nat.one_le_pow _ _ (by decide)
    rcases drawn_shape h with ⟨z, rfl, hz⟩ | ⟨o, ps, k, rfl, ho, l2, l4, e, hp⟩
    · show z.length + 7 ≤ _
      rw [lt hz, Nat.pow_succ]
      omega
    · cases e
      have hs : ∀ p ∈ ps, (partT (textD (n + 1)) p).length ≤ 8 * 4 ^ n - 5 := fun p hpp => by
        have h1 := ih (hp p hpp)
        rcases drawn_shape (hp p hpp) with ⟨z, rfl, hz⟩ | ⟨o2, ps2, _, rfl, _⟩
        · show z.length ≤ _
          rw [lt hz]
          omega
        · show (("(" : Str) ++ textD (n + 1) _ ++ ")").length ≤ _
          rw [app_len, app_len]
          have e1 : ("(" : Str).length = 1 := by decide +kernel
          have e2 : (")" : Str).length = 1 := by decide +kernel
          omega
      have hj := StrLaws.join_length_le ((" " : Str) ++ o ++ " ") (ps.map (partT (textD (n + 1))))
      have hsum := sum_le hs
      rw [sep_len ho, List.length_map] at hj
      show (Txt.join ((" " : Str) ++ o ++ " ") (ps.map (partT (textD (n + 1))))).length + 7 ≤ _
      have hj2 : (Txt.join ((" " : Str) ++ o ++ " ") (ps.map (partT (textD (n + 1))))).length ≤ ((ps.map (partT (textD (n + 1)))).map (·.length)).sum + ps.length * 3 := by
        rw [TL.join_eq]
        exact hj
      have hm : ps.length * (8 * 4 ^ n - 5) ≤ 4 * (8 * 4 ^ n - 5) := Nat.mul_le_mul_right _ l4
      rw [Nat.pow_succ]
      omega
section
variable {P : Program} {w : World} {K : PySem.W.Frag} {mg : Str → Option Value} {base : Heap}
theorem ok_text_of_step {n : Nat} {f : Addr} {fd : FuncData} (F : FunD K "text_of" "text_of" (defArgs s_text_of) (defBody s_text_of) (defScope s_text_of) [] [] f fd) (hm : mg "text_of" = some (.ref f)) (T : Top K mg)
    (D_text_of : Def P w K mg base "text_of" n ["term"] (spText K n)) : Def P w K mg base "text_of" (n + 1) ["term"] (spText K (n + 1)) := by
  refine def_mk F hm (F.bindsN fun _ _ _ _ _ _ us hl => match us, hl with | [_], _ => rfl) sc_text_of (fun vs H Q E h => ?_) (fun cdv A outer s H vs Q E hr h => ?_)
  · obtain ⟨v, d, m, rfl, _⟩ := h
    rfl
  obtain ⟨v, d, m, rfl, hd, hdr, hmn, hn10, q⟩ := h
  refine ⟨_, (pss_cons (ps_if (pt_val (pe_callB (call_isK K kb_str) (by rfl) T.b_isinstance (by decide +kernel) (pa_cons (pv 0) (pa_cons (pe_bltn (v := .ty "str") (by rfl) T.b_str (by decide +kernel) rfl) pa_nil))))
  (pss_one (ps_ret (pv 0)))
  pss_nil)
  (pss_cons (ps_asg (pv 0) (pg_star2 rfl (pgs_cons (pg_name (i := 1) sc_text_of.nd rfl (Or.inl rfl) (.inl rfl)) (pgs_cons (pg_name (i := 2) sc_text_of.nd rfl (Or.inl rfl) (.inl rfl)) pgs_nil))))
  (pss_cons (ps_setLc (i := 3) (own := [("part", 4)]) rfl sc_text_of.nd rfl rfl (sw_true rfl rfl rfl (by kernel_rfl)) (pi_listK K (pv 2)) (blkOk_by (by kernel_rfl)) (fun _ _ _ _ _ => (pg_name (i := 4) sc_text_of.nd rfl (Or.inl rfl) (.inr rfl))) (fun _ _ _ _ _ => pts_nil) (fun _ _ _ _ _ => (pe_ifExp (pt_val (pe_callB (call_isK K kb_str) (by rfl) T.b_isinstance (by decide +kernel) (pa_cons (pv 4) (pa_cons (pe_bltn (v := .ty "str") (by rfl) T.b_str (by decide +kernel) rfl) pa_nil)))) (pv 4) (pe_joined (PJ.cons pe_str (PJ.cons (pe_fmt (pe_def D_text_of hr (by first | decide | omega) (pa_cons (pv 4) pa_nil))) (PJ.cons pe_str PJ.nil)))))))
  (pss_one (ps_ret (pe_join (pe_joined (PJ.cons pe_str (PJ.cons (pe_fmt (pv 1)) (PJ.cons pe_str PJ.nil)))) (pv 3))))))), ?_⟩
  refine ⟨_, rfl, v, d, rfl, hd.dp, _, rfl, ?_⟩
  rcases drawn_shape hdr with ⟨z, rfl, _⟩ | ⟨o, ps, k, rfl, ho, l2, l4, rfl, hps⟩
  · cases hd with
    | str z => exact iteT ⟨_, rfl, q H (Same.refl H)⟩
  cases hd with
  | tup ht ha =>
  cases ha with
  | @cons vo vr _ _ hvo hvr =>
  rename_i a
  cases hvo with
  | str o =>
  refine iteF ?_
  refine ⟨_, rfl, a, .str o, vr, rfl, ht.sqT, fun p hp => ?_⟩
  have e1 := same_new hp (.lst vr)
  have lr := hvr.len
  have p4 : 4 ^ k ≤ 4 ^ 8 := Nat.pow_le_pow_right (by decide) (by omega)
  have hB : ∀ {n : Nat}, n ≤ 8 * 4 ^ 8 + 100 → n ≤ sizeLine := fun h => Nat.le_trans h (by decide +kernel)
  refine ⟨.str o, [.ref p], rfl, .ref p, [], rfl, rfl, ?_⟩
  refine ⟨_, rfl, p, rfl, ⟨_, SqL.of upd_same⟩, fun D hD => ?_⟩
  refine lc_mapL (j := 4) (fun i u _ => ∃ d, ps[i]? = some d ∧ u = .str (partT (textD (k + 1)) d)) (fun _ _ _ _ _ h => h) hD (SqL.of upd_same) (le_line (by omega)) (fun _ => rfl) ?_ ?_
  · intro i x H2 hx e2 Q' k'
    obtain ⟨d, hd1, hd2⟩ := tpa_get hvr hx
    have hd3 := (hd2.up (Same.T e1)).up (Same.T e2)
    have hdr2 := hps d (List.mem_of_getElem? hd1)
    have tl := text_len hdr2
    refine ⟨_, rfl, x, d, rfl, hd3.dp, _, rfl, ?_⟩
    rcases drawn_shape hdr2 with ⟨z, rfl, _⟩ | ⟨o2, ps2, k2, rfl, _⟩
    · cases hd3 with
      | str z => exact iteT ⟨_, rfl, k' _ _ (Same.refl _) ⟨_, hd1, rfl⟩⟩
    · refine iteF ?_
      refine ⟨"(", rfl, by decide +kernel, _, rfl, x, _, k, rfl, hd3, hdr2, by omega, by omega, fun H3 e3 => .inl ⟨_, rfl, hB (by omega), _, rfl, ?_, ")", rfl, ?_, k' _ _ e3 ⟨_, hd1, ?_⟩⟩⟩
      · rw [app_len]
        have h1 : (Str.empty ++ ("(" : Str)).length = 1 := by decide +kernel
        exact hB (by omega)
      · rw [app_len, app_len]
        have h1 : (Str.empty ++ ("(" : Str)).length = 1 := by decide +kernel
        have h2 : (")" : Str).length = 1 := by decide +kernel
        exact hB (by omega)
      · rfl
  intro H2 ys e2 hD2 hl2 hy
  have hmap : ys = (ps.map (partT (textD (k + 1)))).map V.str := by
    rw [List.map_map]
    exact eq_map_of (hl2.trans lr) fun i u hu => hy i u hu
  subst hmap
  have q2 := q H2 (e1.trans e2)
  have ev : textD (k + 1 + 1) (.tuple (.str o :: ps)) = Txt.join ((" " : Str) ++ o ++ " ") (ps.map (partT (textD (k + 1)))) := rfl
  rw [ev] at q2
  have sl := sep_len ho
  have hs0 : Str.empty ++ (" " : Str) = (" " : Str) := by decide +kernel
  have lo : o.length = 1 := by
    rcases op_shape ho with h | h
    · rw [PyData.str.inj h]
      decide +kernel
    · rw [PyData.str.inj h]
      decide +kernel
  have l1 : (" " : Str).length = 1 := by decide +kernel
  refine ⟨" ", rfl, by decide +kernel, _, rfl, .inl ⟨o, rfl, hB (by omega), o, rfl, ?_, " ", rfl, ?_, ⟨_, rfl⟩, _, rfl, _, D, ps.map (partT (textD (k + 1))), rfl, rfl, .inl (SqL.of hD2), ?_, ?_⟩⟩
  · rw [hs0, app_len]
    exact hB (by omega)
  · rw [hs0, sl]
    exact hB (by omega)
  · rw [hs0, sl, List.length_map]
    have hs : ∀ p ∈ ps, (partT (textD (k + 1)) p).length ≤ 8 * 4 ^ k + 2 := fun p hpp => by
      have h1 := text_len (hps p hpp)
      rcases drawn_shape (hps p hpp) with ⟨z, rfl, hz⟩ | ⟨o2, ps2, _, rfl, _⟩
      · have h2 : textD (k + 1) (.str z) = z := rfl
        rw [h2] at h1
        show z.length ≤ _
        omega
      · show (("(" : Str) ++ textD (k + 1) _ ++ ")").length ≤ _
        rw [app_len, app_len]
        have e1 : ("(" : Str).length = 1 := by decide +kernel
        have e2 : (")" : Str).length = 1 := by decide +kernel
        omega
    have hsum := sum_le hs
    have hm : ps.length * (8 * 4 ^ k + 2) ≤ 4 * (8 * 4 ^ k + 2) := Nat.mul_le_mul_right _ l4
    omega
  · rw [hs0]
    exact q2
end
end FF
namespace FF
open PySem PySem.Spec PyProof.Rows L2
section
variable {P : Program} {w : World} {K : PySem.W.Frag} {mg : Str → Option Value} {base : Heap}
theorem ok_law_text_step {n : Nat} {f : Addr} {fd : FuncData} (F : FunD K "_law_text" "_law_text" (defArgs s_law_text) (defBody s_law_text) (defScope s_law_text) [] [] f fd) (hm : mg "_law_text" = some (.ref f)) (T : Top K mg)
    (D_law_text : Def P w K mg base "_law_text" n ["_law_word"] (spText K n)) : Def P w K mg base "_law_text" (n + 1) ["_law_word"] (spText K (n + 1)) := by
  refine def_mk F hm (F.bindsN fun _ _ _ _ _ _ us hl => match us, hl with | [_], _ => rfl) sc_law_text (fun vs H Q E h => ?_) (fun cdv A outer s H vs Q E hr h => ?_)
  · obtain ⟨v, d, m, rfl, _⟩ := h
    rfl
  obtain ⟨v, d, m, rfl, hd, hdr, hmn, hn10, q⟩ := h
  refine ⟨_, (pss_cons (ps_if (pt_val (pe_callB (call_isK K kb_str) (by rfl) T.b_isinstance (by decide +kernel) (pa_cons (pv 0) (pa_cons (pe_bltn (v := .ty "str") (by rfl) T.b_str (by decide +kernel) rfl) pa_nil))))
  (pss_one (ps_ret (pv 0)))
  pss_nil)
  (pss_cons (ps_setLc (i := 1) (own := [("_law_one", 2)]) rfl sc_law_text.nd rfl rfl (sw_true rfl rfl rfl (by kernel_rfl)) (pi_tupK K (pe_slice (sl_tupK K) (pv 0) (po_some pe_int) po_none)) (blkOk_by (by kernel_rfl)) (fun _ _ _ _ _ => (pg_name (i := 2) sc_law_text.nd rfl (Or.inl rfl) (.inr rfl))) (fun _ _ _ _ _ => pts_nil) (fun _ _ _ _ _ => (pe_ifExp (pt_val (pe_callB (call_isK K kb_str) (by rfl) T.b_isinstance (by decide +kernel) (pa_cons (pv 2) (pa_cons (pe_bltn (v := .ty "str") (by rfl) T.b_str (by decide +kernel) rfl) pa_nil)))) (pv 2) (pe_op op_add_str (pe_op op_add_str pe_str (pe_def D_law_text hr (by first | decide | omega) (pa_cons (pv 2) pa_nil))) pe_str))))
  (pss_one (ps_ret (pe_join (pe_op op_add_str (pe_op op_add_str pe_str (pe_ix (ix_tupK K) (pv 0) pe_int (fun _ _ => rfl))) pe_str) (pv 1)))))), ?_⟩
  refine ⟨_, rfl, v, d, rfl, hd.dp, _, rfl, ?_⟩
  rcases drawn_shape hdr with ⟨z, rfl, _⟩ | ⟨o, ps, k, rfl, ho, l2, l4, rfl, hps⟩
  · cases hd with
    | str z => exact iteT ⟨_, rfl, q H (Same.refl H)⟩
  cases hd with
  | tup ht ha =>
  cases ha with
  | @cons vo vr _ _ hvo hvr =>
  rename_i a
  cases hvo with
  | str o =>
  refine iteF ?_
  have lr := hvr.len
  have p4 : 4 ^ k ≤ 4 ^ 8 := Nat.pow_le_pow_right (by decide) (by omega)
  have hB : ∀ {n : Nat}, n ≤ 8 * 4 ^ 8 + 100 → n ≤ sizeLine := fun h => Nat.le_trans h (by decide +kernel)
  refine ⟨_, rfl, _, rfl, a, _, rfl, ht.sqT, notWhole1, fun p hp0 => ⟨p, rfl, ⟨_, SqT.of upd_same⟩, fun D hD => ?_⟩⟩
  rw [cut1] at hD ⊢
  have e1 := same_new hp0 (.tup vr)
  refine lc_mapT (j := 2) (fun i u _ => ∃ d, ps[i]? = some d ∧ u = .str (partT (textD (k + 1)) d)) (fun _ _ _ _ _ h => h) hD (SqT.of upd_same) (le_line (by omega)) (fun _ => rfl) ?_ ?_
  · intro i x H2 hx e2 Q' k'
    obtain ⟨d, hd1, hd2⟩ := tpa_get hvr hx
    have hd3 := (hd2.up (Same.T e1)).up (Same.T e2)
    have hdr2 := hps d (List.mem_of_getElem? hd1)
    have tl := text_len hdr2
    refine ⟨_, rfl, x, d, rfl, hd3.dp, _, rfl, ?_⟩
    rcases drawn_shape hdr2 with ⟨z, rfl, _⟩ | ⟨o2, ps2, k2, rfl, _⟩
    · cases hd3 with
      | str z => exact iteT ⟨_, rfl, k' _ _ (Same.refl _) ⟨_, hd1, rfl⟩⟩
    · refine iteF ?_
      refine ⟨_, rfl, x, _, k, rfl, hd3, hdr2, by omega, by omega, fun H3 e3 => ⟨_, _, rfl, rfl, ?_, _, _, rfl, rfl, ?_, k' _ _ e3 ⟨_, hd1, rfl⟩⟩⟩
      · have h1 : ("(" : Str).length = 1 := by decide +kernel
        exact hB (by omega)
      · rw [app_len]
        have h1 : ("(" : Str).length = 1 := by decide +kernel
        have h2 : (")" : Str).length = 1 := by decide +kernel
        exact hB (by omega)
  intro H2 ys e2 hD2 hl2 hy
  have hmap : ys = (ps.map (partT (textD (k + 1)))).map V.str := by
    rw [List.map_map]
    exact eq_map_of (hl2.trans lr) fun i u hu => hy i u hu
  subst hmap
  have q2 := q H2 (e1.trans e2)
  have ev : textD (k + 1 + 1) (.tuple (.str o :: ps)) = Txt.join ((" " : Str) ++ o ++ " ") (ps.map (partT (textD (k + 1)))) := rfl
  rw [ev] at q2
  have sl := sep_len ho
  have lo : o.length = 1 := by
    rcases op_shape ho with h | h
    · rw [PyData.str.inj h]
      decide +kernel
    · rw [PyData.str.inj h]
      decide +kernel
  have l1 : (" " : Str).length = 1 := by decide +kernel
  refine ⟨_, rfl, a, _, _, _, rfl, rfl, up_t (e1.trans e2) ht.sqT, at0, _, _, rfl, rfl, ?_, _, _, rfl, rfl, ?_, ⟨_, rfl⟩, _, rfl, _, D, ps.map (partT (textD (k + 1))), rfl, rfl, .inl (SqL.of hD2), ?_, q2⟩
  · exact hB (by omega)
  · rw [app_len]
    exact hB (by omega)
  · rw [sl, List.length_map]
    have hs : ∀ p ∈ ps, (partT (textD (k + 1)) p).length ≤ 8 * 4 ^ k + 2 := fun p hpp => by
      have h1 := text_len (hps p hpp)
      rcases drawn_shape (hps p hpp) with ⟨z, rfl, hz⟩ | ⟨o2, ps2, _, rfl, _⟩
      · have h2 : textD (k + 1) (.str z) = z := rfl
        rw [h2] at h1
        show z.length ≤ _
        omega
      · show (("(" : Str) ++ textD (k + 1) _ ++ ")").length ≤ _
        rw [app_len, app_len]
        have e1 : ("(" : Str).length = 1 := by decide +kernel
        have e2 : (")" : Str).length = 1 := by decide +kernel
        omega
    have hsum := sum_le hs
    have hm : ps.length * (8 * 4 ^ k + 2) ≤ 4 * (8 * 4 ^ k + 2) := Nat.mul_le_mul_right _ l4
    omega
end
end FF
/-! the reader of terms: what it computes, on lists of signs -/
namespace FF
open PySem PySem.Spec PyProof.Rows L2
abbrev isOpC (o : Nat) : Bool := o == 38 || o == 124
abbrev RdF : Type := List Nat → Option (PyData × List Nat)
def rPart (f : RdF) : RdF
  | [] => none
  | c :: r => if c ∈ lettersS.cps.toList then some (.str ⟨#[c]⟩, r) else if c = 40 then (match f r with
    | some (d, 41 :: r2) => if isLet d = true then none else some (d, r2)
    | _ => none) else none
def rTail (g : RdF) (o : Nat) : Nat → List Nat → Option (List PyData × List Nat)
  | 0, l => some ([], l)
  | k + 1, l => match l with
    | 32 :: p :: 32 :: r => if p = o then (match g r with
      | some (d, r2) => (match rTail g o k r2 with
        | some (ds, r3) => some (d :: ds, r3)
        | none => none)
      | none => none) else some ([], l)
    | _ => some ([], l)
def rAlone (d : PyData) (r : List Nat) : Option (PyData × List Nat) := if isLet d = true then some (d, r) else none
def rEnd (o : Nat) (d : PyData) : List PyData × List Nat → Option (PyData × List Nat)
  | ([], r2) => rAlone d r2
  | (e :: es, r2) => some (.tuple (.str ⟨#[o]⟩ :: d :: e :: es), r2)
def rSeq : Nat → RdF
  | 0, _ => none
  | n + 1, l => (rPart (rSeq n) l).bind fun x => match x.2[1]? with
    | some o => if isOpC o = true then (rTail (rPart (rSeq n)) o x.2.length x.2).bind (rEnd o x.1) else rAlone x.1 x.2
    | none => rAlone x.1 x.2
def endD (d : PyData) : List Nat → Option PyData
  | [] => if inB (meas 5 d) 24 = true then some d else none
  | _ :: _ => none
def parseD (t : Str) : Option PyData := (rSeq 5 t.cps.toList).bind fun x => endD x.1 x.2
/-! ### what is left is a suffix; the data is nice -/
def RdOk (f : RdF) (n : Nat) : Prop := ∀ l d r, l.length ≤ 10000 → f l = some (d, r) → r.length < l.length ∧ r <:+ l ∧ Nice n d
theorem let_ok {c : Nat} (h : c ∈ lettersS.cps.toList) : Nice 0 (.str ⟨#[c]⟩) := by
  have h1 : isLet (.str ⟨#[c]⟩) = true := by
    show isLetS ⟨#[c]⟩ = true
    rw [isLetS_one]
    exact decide_eq_true h
  exact ⟨let_nice h1, Nat.le_of_eq (let_depth h1)⟩
theorem rPart_ok {f : RdF} {n : Nat} (h : RdOk f n) : RdOk (rPart f) n := by
  intro l d r hl e
  cases l with
  | nil => cases e
  | cons c l =>
    have e : (if c ∈ lettersS.cps.toList then some (PyData.str ⟨#[c]⟩, l) else if c = 40 then (match f l with
      | some (d, 41 :: r2) => if isLet d = true then none else some (d, r2)
      | _ => none) else none) = some (d, r) := e
    split at e
    · rename_i hc
      cases e
      exact ⟨Nat.lt_succ_self _, List.suffix_cons _ _, (let_ok hc).mono (Nat.zero_le _)⟩
    · split at e
      · rw [List.length_cons] at hl
        cases q : f l with
        | none =>
          rw [q] at e
          cases e
        | some x =>
          obtain ⟨d1, r1⟩ := x
          rw [q] at e
          obtain ⟨h1, h2, h3⟩ := h l d1 r1 (by omega) q
          match r1, e, h1, h2 with
          | 41 :: r2, e, h1, h2 =>
            have e : (if isLet d1 = true then none else some (d1, r2)) = some (d, r) := e
            split at e
            · cases e
            · cases e
              rw [List.length_cons] at h1
              exact ⟨by rw [List.length_cons]; omega, ((List.suffix_cons 41 r).trans h2).trans (List.suffix_cons _ _), h3⟩
          | [], e, _, _ => cases e
          | 0 :: _, e, _, _ => cases e
          | (k + 1) :: r2, e, h1, h2 =>
            by_cases hk : k = 40
            · subst hk
              have e : (if isLet d1 = true then none else some (d1, r2)) = some (d, r) := e
              split at e
              · cases e
              · cases e
                rw [List.length_cons] at h1
                exact ⟨by rw [List.length_cons]; omega, ((List.suffix_cons 41 r).trans h2).trans (List.suffix_cons _ _), h3⟩
            · exfalso
              revert e
              split
              · rename_i heq
                cases heq
                exact absurd rfl hk
              · exact fun z => by cases z
      · cases e
theorem rTail_ok {g : RdF} {n o : Nat} (h : RdOk g n) : ∀ (k : Nat) (l : List Nat) (ds : List PyData) (r : List Nat), l.length ≤ 10000 → rTail g o k l = some (ds, r) → r.length + ds.length ≤ l.length ∧ r <:+ l ∧ ∀ d ∈ ds, Nice n d := by
  intro k
  induction k with
  | zero =>
    intro l ds r hl e
    cases e
    exact ⟨Nat.le_refl _, List.suffix_refl _, fun d hd => by cases hd⟩
  | succ k ih =>
    intro l ds r hl e
    have stop : some (([] : List PyData), l) = some (ds, r) → r.length + ds.length ≤ l.length ∧ r <:+ l ∧ ∀ d ∈ ds, Nice n d := fun e => by
      cases e
      exact ⟨Nat.le_refl _, List.suffix_refl _, fun d hd => by cases hd⟩
    unfold rTail at e
    split at e
    · rename_i p r0
      split at e
      · split at e
        · rename_i d r2 hg
          split at e
          · rename_i ds2 r3 ht
            cases e
            simp only [List.length_cons] at hl ⊢
            obtain ⟨h1, h2, h3⟩ := h r0 d r2 (by omega) hg
            obtain ⟨h4, h5, h6⟩ := ih r2 ds2 r (by omega) ht
            refine ⟨by omega, (h5.trans h2).trans ⟨[32, p, 32], rfl⟩, fun x hx => ?_⟩
            rcases List.mem_cons.mp hx with rfl | hx
            · exact h3
            · exact h6 x hx
          · cases e
        · cases e
      · exact stop e
    · exact stop e
theorem opC_nice {o : Nat} (h : isOpC o = true) : Nice 0 (.str ⟨#[o]⟩) := by
  have h2 : o = 38 ∨ o = 124 := by
    rcases Bool.or_eq_true _ _ ▸ h with h | h
    · exact .inl (eq_of_beq h)
    · exact .inr (eq_of_beq h)
  rcases h2 with rfl | rfl
  · exact ⟨by decide +kernel, by decide +kernel⟩
  · exact ⟨by decide +kernel, by decide +kernel⟩
theorem rSeq_ok : ∀ n : Nat, RdOk (rSeq n) n := by
  intro n
  induction n with
  | zero =>
    intro l d r hl e
    cases e
  | succ n ih =>
    intro l d r hl e
    have hp := rPart_ok ih
    have e : (rPart (rSeq n) l).bind (fun x => match x.2[1]? with
      | some o => if isOpC o = true then (rTail (rPart (rSeq n)) o x.2.length x.2).bind (rEnd o x.1) else rAlone x.1 x.2
      | none => rAlone x.1 x.2) = some (d, r) := e
    cases q : rPart (rSeq n) l with
    | none =>
      rw [q] at e
      cases e
    | some x =>
      obtain ⟨d1, r1⟩ := x
      rw [q] at e
      obtain ⟨h1, h2, h3⟩ := hp l d1 r1 hl q
      have al : ∀ {r2 : List Nat}, r2.length < l.length → r2 <:+ l → rAlone d1 r2 = some (d, r) → r.length < l.length ∧ r <:+ l ∧ Nice (n + 1) d := fun {r2} a b e => by
        unfold rAlone at e
        split at e
        · cases e
          exact ⟨a, b, h3.mono (Nat.le_succ _)⟩
        · cases e
      have e : (match r1[1]? with
        | some o => if isOpC o = true then (rTail (rPart (rSeq n)) o r1.length r1).bind (rEnd o d1) else rAlone d1 r1
        | none => rAlone d1 r1) = some (d, r) := e
      split at e
      · rename_i o ho
        split at e
        · rename_i hop
          cases q2 : rTail (rPart (rSeq n)) o r1.length r1 with
          | none =>
            rw [q2] at e
            cases e
          | some y =>
            obtain ⟨ds, r2⟩ := y
            rw [q2] at e
            obtain ⟨h4, h5, h6⟩ := rTail_ok hp _ _ _ _ (by omega) q2
            cases ds with
            | nil => exact al (by simp only [List.length_nil] at h4; omega) (h5.trans h2) e
            | cons a as =>
              cases e
              simp only [List.length_cons] at h4
              refine ⟨by omega, h5.trans h2, Nice.tuple (by simp only [List.length_cons]; omega) fun x hx => ?_⟩
              rcases List.mem_cons.mp hx with rfl | hx
              · exact (opC_nice hop).mono (Nat.zero_le _)
              rcases List.mem_cons.mp hx with rfl | hx
              · exact h3
              · exact h6 x hx
        · exact al h1 h2 e
      · exact al h1 h2 e
/-! ### texts at a place -/
theorem rest_eq {t : Str} {l : List Nat} (h : l <:+ t.cps.toList) : t.cps.toList.drop (t.length - l.length) = l := (List.suffix_iff_eq_drop.mp h).symm
theorem rest_len {t : Str} {l : List Nat} (h : l <:+ t.cps.toList) : l.length ≤ t.length := h.length_le
theorem cut_one {t : Str} {l : List Nat} (h : l <:+ t.cps.toList) (a : Nat) : cutS t (some (((t.length - l.length + a : Nat)) : Int)) (some (((t.length - l.length + (a + 1) : Nat)) : Int)) = ⟨((l.drop a).take 1).toArray⟩ := by
  have hl := rest_len h
  unfold cutS
  rw [HT.sIx_nat, HT.sIx_nat]
  congr 1
  have e := rest_eq h
  have n1 : t.cps.toList.length = t.length := rfl
  rw [show ((l.drop a).take 1) = ((t.cps.toList.drop (t.length - l.length + a)).take 1) by rw [← List.drop_drop, e]]
  congr 1
  by_cases hlt : t.length - l.length + a < t.length
  · rw [Nat.min_eq_left (by omega), Nat.min_eq_left (by omega), show t.length - l.length + (a + 1) - (t.length - l.length + a) = 1 by omega]
  · rw [Nat.min_eq_right (by omega), Nat.min_eq_right (by omega), Nat.sub_self, List.take_zero]
    rw [List.drop_eq_nil_of_le (by omega)]
    rfl
theorem starts_at {t w : Str} {l : List Nat} (h : l <:+ t.cps.toList) (hw : w.length ≠ 0) : Txt.startswith3 t w ((t.length - l.length : Nat) : Int) = decide (l.take w.length = w.cps.toList) := by
  have hl := rest_len h
  unfold Txt.startswith3
  have e1 : fromIndex t.length ((t.length - l.length : Nat) : Int) = t.length - l.length := by
    unfold fromIndex
    rw [if_neg (by omega)]
    omega
  rw [e1, PySem.StrLaws.subAt_eq, rest_eq h]
  have n1 : w.cps.toList.length = w.length := rfl
  by_cases q : l.take w.length = w.cps.toList
  · rw [q]
    have : (l.take w.length).length = w.length := by rw [q]; exact n1
    rw [List.length_take] at this
    simp only [decide_true, beq_self_eq_true, Bool.and_true, decide_eq_true_eq]
    omega
  · rw [show (l.take w.length == w.cps.toList) = false from beq_eq_false_iff_ne.mpr q, Bool.and_false]
    simp [q]
end FF
/-! the class Reader, walked -/
namespace FF
open PySem PySem.Spec PyProof.Rows L2
def RdAt (K : PySem.W.Frag) (H : Hp) (r dx : Addr) (t : Str) (l : List Nat) : Prop := H r = some (.ins (He.ga K "Reader") dx [("text", .str t), ("at", .int ((t.length - l.length : Nat) : Int))]) ∧ l <:+ t.cps.toList
theorem put_at {x y v : V} : putF ("at" : Str) v [(("text" : Str), x), (("at" : Str), y)] = [(("text" : Str), x), (("at" : Str), v)] := by rfl
theorem RdAt.upd {K : PySem.W.Frag} {H : Hp} {r dx : Addr} {t : Str} {l2 : List Nat} {i : Int} (h : l2 <:+ t.cps.toList) (e : i = ((t.length - l2.length : Nat) : Int)) : RdAt K (L2.upd H r (.ins (He.ga K "Reader") dx [("text", .str t), ("at", .int i)])) r dx t l2 := ⟨by rw [e]; exact upd_same, h⟩
theorem RdAt.b {K : PySem.W.Frag} {H H' : Hp} {r dx : Addr} {t : Str} {l : List Nat} (h : RdAt K H r dx t l) (e : Same H H') : RdAt K H' r dx t l := ⟨e _ _ h.1, h.2⟩
def spSees (K : PySem.W.Frag) : Sp := fun vs H Q _ => ∃ (r dx : Addr) (t w : Str) (l : List Nat), vs = [.ref r, .str w] ∧ RdAt K H r dx t l ∧ w.length ≠ 0 ∧ Q (.bl (decide (l.take w.length = w.cps.toList))) H
def txE (K : PySem.W.Frag) (r : Addr) (H : Hp) (E : XK) : Prop := ∀ dd H', SameB r H H' → Thr ("InvalidText" : Str) dd H' → E (.ref (He.ga K "InvalidText")) dd H'
def spTakeW (K : PySem.W.Frag) : Sp := fun vs H Q E => ∃ (r dx : Addr) (t w : Str) (l : List Nat), vs = [.ref r, .str w] ∧ RdAt K H r dx t l ∧ w.length ≠ 0 ∧ w.length ≤ sizeLine ∧
  (∀ l2, l = w.cps.toList ++ l2 → ∀ H', SameB r H H' → RdAt K H' r dx t l2 → Q .non H') ∧ ((∀ l2, l ≠ w.cps.toList ++ l2) → txE K r H E)
def spAlone (K : PySem.W.Frag) : Sp := fun vs H Q E => ∃ (r : Addr) (v : V) (d : PyData), vs = [.ref r, v] ∧ Dp K H v d ∧ nice d = true ∧ (isLet d = true → ∀ H', Same H H' → Q v H') ∧ (isLet d = false → txE K r H E)
def spRd (K : PySem.W.Frag) (f : Nat → RdF) (n : Nat) : Sp := fun vs H Q E => ∃ (r dx : Addr) (t : Str) (l : List Nat) (m : Nat), vs = [.ref r, .int m] ∧ RdAt K H r dx t l ∧ t.length ≤ 10000 ∧ m < n ∧ n ≤ 20 ∧
  (∀ d l2, f m l = some (d, l2) → ∀ v H', SameB r H H' → RdAt K H' r dx t l2 → Tp K H' v d → Q v H') ∧ (f m l = none → txE K r H E)
theorem txE.b {K : PySem.W.Frag} {r : Addr} {H H1 : Hp} {E : XK} (h : txE K r H E) (e : SameB r H H1) : txE K r H1 E := fun dd H' e2 ht => h dd H' (e.tr e2) ht
theorem take_app {l w : List Nat} (h : l.take w.length = w) : l = w ++ l.drop w.length := by
  conv => lhs; rw [← List.take_append_drop w.length l, h]
section
variable {P : Program} {w : World} {K : PySem.W.Frag} {mg : Str → Option Value} {base : Heap}
theorem ok_sees {fd : FuncData} (F : FunD K "sees" "Reader.sees" (defArgs s_Reader_sees) (defBody s_Reader_sees) (defScope s_Reader_sees) [] [] (He.ma K (He.ga K "Reader") "sees") fd) (T : Top K mg) : MethD P w K mg base "Reader" "sees" 1 ["self", "word"] (spSees K) := by
  refine methd_mk F (F.bindsN fun _ _ _ _ _ _ us hl => match us, hl with | [_, _], _ => rfl) T.k_Reader T.m_Reader_sees sc_Reader_sees (fun vs H Q E h => ?_) (fun cdv A outer s H vs Q E hr h => ?_)
  · obtain ⟨r, dx, t, w, l, rfl, _⟩ := h
    rfl
  obtain ⟨r, dx, t, w, l, rfl, ha, hw, q⟩ := h
  refine ⟨_, (pss_one (ps_ret (pe_bmK K PySem.F.plainAttrs_str PySem.F.slot_str_startswith PySem.F.type_str_startswith mt_startswith3 (pe_fld (pv 0) rfl) (pa_cons (pv 1) (pa_cons (pe_fld (pv 0) rfl) pa_nil))))), ?_⟩
  refine ⟨_, rfl, r, _, dx, _, _, rfl, ha.1, T.k_Reader, T.n_Reader_text, rfl, rfl, _, rfl, _, rfl, r, _, dx, _, _, rfl, ha.1, T.k_Reader, T.n_Reader_at, rfl, t, w, _, rfl, rfl, ?_⟩
  rw [starts_at ha.2 hw]
  exact q
theorem ok_takeW {fd : FuncData} (F : FunD K "take" "Reader.take" (defArgs s_Reader_take) (defBody s_Reader_take) (defScope s_Reader_take) [] [] (He.ma K (He.ga K "Reader") "take") fd) (T : Top K mg)
    (D_Reader_sees : MethD P w K mg base "Reader" "sees" 1 ["self", "word"] (spSees K)) (x_InvalidText : RaiseD P w K mg base "InvalidText" "FaultError" 2 "InvalidText") : MethX P w K mg base "Reader" "take" 4 ["self", "word"] (spTakeW K) := by
  refine methx_mk F (F.bindsN fun _ _ _ _ _ _ us hl => match us, hl with | [_, _], _ => rfl) T.k_Reader T.m_Reader_take sc_Reader_take (fun vs H Q E h => ?_) (fun cdv A outer s0 H vs Q E hr h tk => ?_)
  · obtain ⟨r, dx, t, w, l, rfl, _⟩ := h
    rfl
  obtain ⟨r, dx, t, w, l, rfl, ha, hw, hz, q1, q2⟩ := h
  refine ⟨_, (pss_cons (ps_if (pt_not (pt_val (pe_methd D_Reader_sees hr (by first | decide | omega) (pv 0) (pa_cons (pv 1) pa_nil))))
  (pss_one (ps_raise rfl tk (pmk_raise x_InvalidText hr (by first | decide | omega))))
  pss_nil)
  (pss_one (ps_fldaug (pv 0) (pe_callB (call_lenK K) (by rfl) T.b_len (by decide +kernel) (pa_cons (pv 1) pa_nil)) in_add))), ?_⟩
  refine ⟨_, rfl, r, dx, _, rfl, ha.1, rfl, _, rfl, r, dx, t, w, l, rfl, ha, hw, ⟨_, rfl, ?_⟩⟩
  refine if_nb (fun h1 => ?_) (fun h1 => ?_)
  · refine fun dd H2 e2 ht => q2 (fun l2 e => ?_) dd H2 (sb_of e2) ht
    refine (of_decide_eq_false h1) ?_
    rw [e]
    exact List.take_left' rfl
  · have h2 := take_app (of_decide_eq_true h1)
    refine ⟨_, rfl, r, _, dx, _, _, rfl, ha.1, T.k_Reader, T.n_Reader_at, rfl, _, rfl, _, w.length, rfl, ⟨hz, rfl⟩, _, _, rfl, rfl, dx, _, ha.1, (by decide : 2 < 1000), ?_⟩
    rw [put_at]
    have hs : l.drop w.cps.toList.length <:+ t.cps.toList := (List.drop_suffix _ _).trans ha.2
    refine q1 _ h2 _ sb_upd (RdAt.upd hs ?_)
    have h3 := congrArg List.length h2
    rw [List.length_append] at h3
    have h4 := rest_len ha.2
    have h5 : w.cps.toList.length = w.length := rfl
    omega
theorem ok_alone {fd : FuncData} (F : FunD K "alone" "Reader.alone" (defArgs s_Reader_alone) (defBody s_Reader_alone) (defScope s_Reader_alone) [] [] (He.ma K (He.ga K "Reader") "alone") fd) (T : Top K mg)
    (D_is_letter : Def P w K mg base "is_letter" 1 ["value"] (spIsLetter K)) (x_InvalidText : RaiseD P w K mg base "InvalidText" "FaultError" 2 "InvalidText") : MethX P w K mg base "Reader" "alone" 4 ["self", "part"] (spAlone K) := by
  refine methx_mk F (F.bindsN fun _ _ _ _ _ _ us hl => match us, hl with | [_, _], _ => rfl) T.k_Reader T.m_Reader_alone sc_Reader_alone (fun vs H Q E h => ?_) (fun cdv A outer s0 H vs Q E hr h tk => ?_)
  · obtain ⟨r, v, d, rfl, _⟩ := h
    rfl
  obtain ⟨r, v, d, rfl, hd, hn, q1, q2⟩ := h
  refine ⟨_, (pss_cons (ps_if (pt_not (pt_val (pe_def D_is_letter hr (by first | decide | omega) (pa_cons (pv 1) pa_nil))))
  (pss_one (ps_raise rfl tk (pmk_raise x_InvalidText hr (by first | decide | omega))))
  pss_nil)
  (pss_one (ps_ret (pv 1)))), ?_⟩
  refine ⟨_, rfl, v, d, rfl, hd, hn, ⟨_, rfl, ?_⟩⟩
  refine if_nb (fun h1 => ?_) (fun h1 => ?_)
  · exact fun dd H2 e2 ht => q2 h1 dd H2 (sb_of e2) ht
  · exact ⟨_, rfl, q1 h1 H (Same.refl H)⟩
theorem fn_reader_init {fd : FuncData} (F : FunD K "__init__" "Reader.__init__" (defArgs s_Reader___init__) (defBody s_Reader___init__) (defScope s_Reader___init__) [] [] (He.ma K (He.ga K "Reader") "__init__") fd) (T : Top K mg) :
    FnOk P w K mg base CX0 1 (He.ma K (He.ga K "Reader") "__init__") fd ["self", "text"] (fun vs H Q _ => ∃ (r dx : Addr) (t : Str), vs = [.ref r, .str t] ∧ H r = some (.ins (He.ga K "Reader") dx []) ∧ ∀ H', SameB r H H' → RdAt K H' r dx t t.cps.toList → Q .non H') := by
  refine fnm_mk F sc_Reader___init__ (fun vs H Q E h => ?_) (fun cdv A outer s0 H vs Q E hr h => ?_)
  · obtain ⟨r, dx, t, rfl, _⟩ := h
    rfl
  obtain ⟨r, dx, t, rfl, ha, q⟩ := h
  refine ⟨_, (pss_cons (ps_fld (pv 0) (pv 1) rfl)
  (pss_one (ps_fld (pv 0) pe_int rfl))), ?_⟩
  refine ⟨_, rfl, _, rfl, r, _, dx, _, rfl, ha, T.k_Reader, T.n_Reader_text, (by decide : 0 < 1000), _, rfl, r, _, dx, _, rfl, upd_same, T.k_Reader, T.n_Reader_at, (by decide : 1 < 1000), ?_⟩
  rw [upd_upd]
  refine q _ sb_upd (RdAt.upd (List.suffix_refl _) ?_)
  have : t.cps.toList.length = t.length := rfl
  rw [this, Nat.sub_self]
  rfl
end
end FF
/-! Reader.part, Reader.sequence, parse_term -/
namespace FF
open PySem PySem.Spec PyProof.Rows L2
theorem cut_a {t : Str} {l : List Nat} (h : l <:+ t.cps.toList) : cutS t (some ((t.length - l.length : Nat) : Int)) (some (((t.length - l.length : Nat) : Int) + 1)) = ⟨(l.take 1).toArray⟩ := cut_one h 0
theorem cut_b {t : Str} {l : List Nat} (h : l <:+ t.cps.toList) : cutS t (some (((t.length - l.length : Nat) : Int) + 1)) (some (((t.length - l.length : Nat) : Int) + 2)) = ⟨((l.drop 1).take 1).toArray⟩ := cut_one h 1
theorem inOps (o : Nat) : inV (.str ⟨#[o]⟩) [.str ("&" : Str), .str ("|" : Str)] = isOpC o := by
  have h1 : ("&" : Str) = ⟨#[38]⟩ := by decide +kernel
  have h2 : ("|" : Str) = ⟨#[124]⟩ := by decide +kernel
  rw [h1, h2]
  show ((⟨#[38]⟩ : Str) == ⟨#[o]⟩ || ((⟨#[124]⟩ : Str) == ⟨#[o]⟩ || false)) = (o == 38 || o == 124)
  have key : ∀ k : Nat, ((⟨#[k]⟩ : Str) == ⟨#[o]⟩) = (o == k) := fun k => by
    by_cases e : o = k
    · subst e
      rw [beq_self_eq_true, beq_self_eq_true]
    · rw [beq_eq_false_iff_ne.mpr e, beq_eq_false_iff_ne.mpr fun z => e (by injection z with z; injection z with z; injection z with z; exact z.symm)]
  rw [key, key, Bool.or_false]
theorem if_eqb {p b : Bool} {A B : Prop} (e : p = b) (h1 : b = true → A) (h2 : b = false → B) : if p = true then A else B := by
  subst e
  exact if_b h1 h2
theorem inOps0 : inV (.str ⟨#[]⟩) [.str ("&" : Str), .str ("|" : Str)] = false := by decide +kernel
def headLet : List Nat → Bool
  | [] => false
  | c :: _ => decide (c ∈ lettersS.cps.toList)
theorem ans_sign {σ : L2.St} {H : Hp} {l : List Nat} {i : Nat} (h : σ[i]? = some (some (.str ⟨(l.take 1).toArray⟩))) :
    ∀ Q : Bool → Hp → Prop, Q (headLet l) H → (tAnd (tTest (tOp rNe (tVar i) (tC (.str ("" : Str))))) (tTest (tOp (fun x y H Q => ∃ (c : Nat) (z : Str), x = .str ⟨#[c]⟩ ∧ y = .str z ∧ Q (.bl (decide (c ∈ z.cps.toList))) H) (tVar i) (tC (.str lettersS))))) σ H Q := by
  intro Q q
  cases l with
  | nil =>
    refine ⟨_, h, rfl, _, rfl, ?_⟩
    dsimp only
    rw [if_neg (by decide +kernel)]
    exact q
  | cons c l =>
    refine ⟨_, h, rfl, _, rfl, ?_⟩
    have e : (⟨#[c]⟩ : Str) ≠ ("" : Str) := fun z => by
      have := congrArg Str.length z
      exact absurd this (by show 1 ≠ 0; decide)
    dsimp only
    rw [if_pos (by
      show (!decide (V.str ⟨#[c]⟩ = V.str ("" : Str))) = true
      rw [decide_eq_false fun z => e (V.str.inj z)] <;> rfl)]
    exact ⟨_, h, c, lettersS, rfl, rfl, _, rfl, q⟩
theorem rPart_paren {f : RdF} {l : List Nat} : rPart f (40 :: l) = match f l with
    | some (d, 41 :: r2) => if isLet d = true then none else some (d, r2)
    | _ => none := by
  show (if 40 ∈ lettersS.cps.toList then some (PyData.str ⟨#[40]⟩, l) else if 40 = 40 then (match f l with
    | some (d, 41 :: r2) => if isLet d = true then none else some (d, r2)
    | _ => none) else none) = _
  rw [if_neg (by rw [lettersS_val]; decide), if_pos rfl]
theorem rPart_off {f : RdF} {l : List Nat} (h : headLet l = false) (h2 : ∀ l2, l ≠ 40 :: l2) : rPart f l = none := by
  cases l with
  | nil => rfl
  | cons c l =>
    show (if c ∈ lettersS.cps.toList then some (PyData.str ⟨#[c]⟩, l) else if c = 40 then (match f l with
    | some (d, 41 :: r2) => if isLet d = true then none else some (d, r2)
    | _ => none) else none) = none
    rw [if_neg (of_decide_eq_false h), if_neg fun z => h2 l (by rw [z])]
section
variable {P : Program} {w : World} {K : PySem.W.Frag} {mg : Str → Option Value} {base : Heap}
theorem ok_part {n : Nat} {fd : FuncData} (F : FunD K "part" "Reader.part" (defArgs s_Reader_part) (defBody s_Reader_part) (defScope s_Reader_part) [] [] (He.ma K (He.ga K "Reader") "part") fd) (T : Top K mg)
    (D_Reader_take : MethX P w K mg base "Reader" "take" 4 ["self", "word"] (spTakeW K)) (D_is_letter : Def P w K mg base "is_letter" 1 ["value"] (spIsLetter K)) (x_InvalidText : RaiseD P w K mg base "InvalidText" "FaultError" 2 "InvalidText")
    (D_Reader_sequence : MethX P w K mg base "Reader" "sequence" (2 * n + 4) ["self", "max_depth"] (spRd K rSeq n)) : MethX P w K mg base "Reader" "part" (2 * n + 5) ["self", "max_depth"] (spRd K (fun m => rPart (rSeq m)) n) := by
  refine methx_mk F (F.bindsN fun _ _ _ _ _ _ us hl => match us, hl with | [_, _], _ => rfl) T.k_Reader T.m_Reader_part sc_Reader_part (fun vs H Q E h => ?_) (fun cdv A outer s0 H vs Q E hr h tk => ?_)
  · obtain ⟨r, dx, t, l, m, rfl, _⟩ := h
    rfl
  obtain ⟨r, dx, t, l, m, rfl, ha, hz, hm, hn, q1, q2⟩ := h
  have hlt := rest_len ha.2
  refine ⟨_, (pss_cons (ps_set (i := 2) sc_Reader_part.nd rfl (Or.inl rfl) (pe_slice sl_str (pe_fld (pv 0) rfl) (po_some (pe_fld (pv 0) rfl)) (po_some (pe_op op_add (pe_fld (pv 0) rfl) pe_int))))
  (pss_cons (ps_if (PW.pt (pw_and (pt_cmpR op_ne (pv 2) pe_str (nomark _)) (pw_and1 (pt_cmpR op_in_sign (pv 2) (pe_gs T.g_LETTERS) rfl))))
  (pss_cons (ps_fldaug (pv 0) pe_int in_add)
  (pss_one (ps_ret (pv 2))))
  pss_nil)
  (pss_cons (ps_expr (pe_methx (E := E) D_Reader_take tk (fun _ _ _ _ h => h) hr (by first | decide | omega) (pv 0) (pa_cons pe_str pa_nil)))
  (pss_cons (ps_set (i := 3) sc_Reader_part.nd rfl (Or.inl rfl) (pe_methx (E := E) D_Reader_sequence tk (fun _ _ _ _ h => h) hr (by first | decide | omega) (pv 0) (pa_cons (pv 1) pa_nil)))
  (pss_cons (ps_if (pt_val (pe_def D_is_letter hr (by first | decide | omega) (pa_cons (pv 3) pa_nil)))
  (pss_one (ps_raise rfl tk (pmk_raise x_InvalidText hr (by first | decide | omega))))
  pss_nil)
  (pss_cons (ps_expr (pe_methx (E := E) D_Reader_take tk (fun _ _ _ _ h => h) hr (by first | decide | omega) (pv 0) (pa_cons pe_str pa_nil)))
  (pss_one (ps_ret (pv 3))))))))), ?_⟩
  refine ⟨_, rfl, r, _, dx, _, _, rfl, ha.1, T.k_Reader, T.n_Reader_text, rfl, ?_⟩
  refine ⟨_, rfl, r, _, dx, _, _, rfl, ha.1, T.k_Reader, T.n_Reader_at, rfl, _, rfl, ?_⟩
  refine ⟨_, rfl, r, _, dx, _, _, rfl, ha.1, T.k_Reader, T.n_Reader_at, rfl, _, _, rfl, rfl, _, rfl, t, rfl, Nat.le_trans hz (by decide), ?_⟩
  rw [cut_a ha.2]
  refine ans_sign (l := l) (i := 2) rfl _ ?_
  refine if_b (fun h => ?_) (fun h => ?_)
  · cases l with
    | nil => cases h
    | cons c l =>
      have hc : c ∈ lettersS.cps.toList := of_decide_eq_true h
      refine ⟨_, rfl, r, _, dx, _, _, rfl, ha.1, T.k_Reader, T.n_Reader_at, rfl, _, _, rfl, rfl, dx, _, ha.1, (by decide : 2 < 1000), ?_⟩
      rw [put_at]
      have hs : l <:+ t.cps.toList := (List.suffix_cons c l).trans ha.2
      refine ⟨_, rfl, q1 (.str ⟨#[c]⟩) l (if_pos hc) _ _ sb_upd (RdAt.upd hs ?_) (.str _)⟩
      rw [List.length_cons] at hlt ⊢
      omega
  have e40 : ("(" : Str).cps.toList = [40] := by decide +kernel
  have e41 : (")" : Str).cps.toList = [41] := by decide +kernel
  refine ⟨_, rfl, r, dx, _, rfl, ha.1, rfl, r, dx, t, "(", l, rfl, ha, by decide +kernel, by decide +kernel, fun l2 el H1 e1 ha1 => ?_, fun no => q2 (rPart_off h fun l2 e => no l2 (by rw [e40]; exact e))⟩
  rw [e40] at el
  have el : l = 40 :: l2 := el
  subst el
  rw [List.length_cons] at hlt
  refine ⟨_, rfl, r, dx, _, rfl, ha1.1, rfl, _, rfl, r, dx, t, l2, m, rfl, ha1, hz, hm, hn, fun d l3 e3 v H2 e2 ha2 hv => ?_, fun e3 => ?_⟩
  · obtain ⟨k1, k2, k3⟩ := rSeq_ok m l2 d l3 (by omega) e3
    refine ⟨_, rfl, v, d, rfl, hv.dp, k3.ok, _, rfl, ?_⟩
    refine if_b (fun h1 => ?_) (fun h1 => ?_)
    · refine fun dd H3 e4 ht => q2 ?_ dd H3 ((e1.tr e2).tr (sb_of e4)) ht
      show rPart (rSeq m) (40 :: l2) = none
      rw [rPart_paren, e3]
      split
      · rename_i heq
        cases heq
        rw [if_pos h1]
      · rfl
    · refine ⟨_, rfl, r, dx, _, rfl, ha2.1, rfl, r, dx, t, ")", l3, rfl, ha2, by decide +kernel, by decide +kernel, fun l4 el H3 e4 ha3 => ?_, fun no => (q2 ?_).b (e1.tr e2)⟩
      · rw [e41] at el
        have el : l3 = 41 :: l4 := el
        subst el
        refine ⟨_, rfl, q1 d l4 ?_ v H3 ((e1.tr e2).tr e4) ha3 (hv.up (sameT_i ha2.1 e4))⟩
        show rPart (rSeq m) (40 :: l2) = some (d, l4)
        rw [rPart_paren, e3]
        show (if isLet d = true then none else some (d, l4)) = _
        rw [if_neg (by rw [h1]; decide)]
      · show rPart (rSeq m) (40 :: l2) = none
        rw [rPart_paren, e3]
        split
        · rename_i heq
          cases heq
          exact absurd (by rw [e41]; rfl) (no _)
        · rfl
  · refine (q2 ?_).b e1
    show rPart (rSeq m) (40 :: l2) = none
    rw [rPart_paren, e3]
theorem rTail_end {g : RdF} {o : Nat} : ∀ {k : Nat} {l : List Nat}, ¬ l.take 3 = [32, o, 32] → rTail g o k l = some ([], l)
  | 0, _, _ => rfl
  | k + 1, l, h => by
    unfold rTail
    split
    · rename_i p r
      rw [if_neg fun e => h (by rw [e] <;> rfl)]
    · rfl
theorem rTail_more {g : RdF} {o k : Nat} {l : List Nat} : rTail g o (k + 1) (32 :: o :: 32 :: l) = (g l).bind fun x => (rTail g o k x.2).map fun y => (x.1 :: y.1, y.2) := by
  show (if o = o then (match g l with
      | some (d, r2) => (match rTail g o k r2 with
        | some (ds, r3) => some (d :: ds, r3)
        | none => none)
      | none => none) else some ([], 32 :: o :: 32 :: l)) = _
  rw [if_pos rfl]
  cases g l with
  | none => rfl
  | some x =>
    obtain ⟨d, r2⟩ := x
    show (match rTail g o k r2 with
        | some (ds, r3) => some (d :: ds, r3)
        | none => none) = (rTail g o k r2).map _
    cases rTail g o k r2 <;> rfl
theorem ok_sequence {n : Nat} {fd : FuncData} (F : FunD K "sequence" "Reader.sequence" (defArgs s_Reader_sequence) (defBody s_Reader_sequence) (defScope s_Reader_sequence) [] [] (He.ma K (He.ga K "Reader") "sequence") fd) (T : Top K mg)
    (D_Reader_sees : MethD P w K mg base "Reader" "sees" 1 ["self", "word"] (spSees K)) (D_Reader_alone : MethX P w K mg base "Reader" "alone" 4 ["self", "part"] (spAlone K)) (x_InvalidText : RaiseD P w K mg base "InvalidText" "FaultError" 2 "InvalidText")
    (D_Reader_part : MethX P w K mg base "Reader" "part" (2 * n + 5) ["self", "max_depth"] (spRd K (fun m => rPart (rSeq m)) n)) : MethX P w K mg base "Reader" "sequence" (2 * (n + 1) + 4) ["self", "max_depth"] (spRd K rSeq (n + 1)) := by
  refine methx_mk F (F.bindsN fun _ _ _ _ _ _ us hl => match us, hl with | [_, _], _ => rfl) T.k_Reader T.m_Reader_sequence sc_Reader_sequence (fun vs H Q E h => ?_) (fun cdv A outer s0 H vs Q E hr h tk => ?_)
  · obtain ⟨r, dx, t, l, m, rfl, _⟩ := h
    rfl
  obtain ⟨r, dx, t, l, m, rfl, ha, hz, hm, hn, q1, q2⟩ := h
  have hlt := rest_len ha.2
  refine ⟨_, (pss_cons (ps_if (pt_cmpR op_eq (pv 1) pe_int (nomark _))
  (pss_one (ps_raise rfl tk (pmk_raise x_InvalidText hr (by first | decide | omega))))
  pss_nil)
  (pss_cons (ps_set (i := 2) sc_Reader_sequence.nd rfl (Or.inl rfl) (pe_lst (pa_cons (pe_methx (E := E) D_Reader_part tk (fun _ _ _ _ h => h) hr (by first | decide | omega) (pv 0) (pa_cons (pe_op op_sub (pv 1) pe_int) pa_nil)) pa_nil)))
  (pss_cons (ps_set (i := 3) sc_Reader_sequence.nd rfl (Or.inl rfl) (pe_slice sl_str (pe_fld (pv 0) rfl) (po_some (pe_op op_add (pe_fld (pv 0) rfl) pe_int)) (po_some (pe_op op_add (pe_fld (pv 0) rfl) pe_int))))
  (pss_cons (ps_if (pt_cmpR (op_notIn_seqK K) (pv 3) (pe_tup (pa_cons pe_str (pa_cons pe_str pa_nil))) (by rfl))
  (pss_one (ps_ret (pe_methx (E := E) D_Reader_alone tk (fun _ _ _ _ h => h) hr (by first | decide | omega) (pv 0) (pa_cons (pe_ix (ix_listK K) (pv 2) pe_int (fun _ _ => rfl)) pa_nil))))
  pss_nil)
  (pss_cons (ps_while (passes_of rfl) (pt_val (pe_methd D_Reader_sees hr (by first | decide | omega) (pv 0) (pa_cons (pe_joined (PJ.cons pe_str (PJ.cons (pe_fmt (pv 3)) (PJ.cons pe_str PJ.nil)))) pa_nil)))
  (pss_cons (ps_fldaug (pv 0) pe_int in_add)
  (pss_one (ps_expr (pe_bmK K PySem.F.plainAttrs_list PySem.F.slot_list_append PySem.F.type_list_append mt_append (pv 2) (pa_cons (pe_methx (E := E) D_Reader_part tk (fun _ _ _ _ h => h) hr (by first | decide | omega) (pv 0) (pa_cons (pe_op op_sub (pv 1) pe_int) pa_nil)) pa_nil))))))
  (pss_one (ps_ret (pe_ifExp (pt_cmpR op_eq (pe_callB (call_lenK K) (by rfl) T.b_len (by decide +kernel) (pa_cons (pv 2) pa_nil)) pe_int (nomark _)) (pe_methx (E := E) D_Reader_alone tk (fun _ _ _ _ h => h) hr (by first | decide | omega) (pv 0) (pa_cons (pe_ix (ix_listK K) (pv 2) pe_int (fun _ _ => rfl)) pa_nil)) (pe_tup (pa_cons (pv 3) (StX.pa_star (pv 2) pa_nil))))))))))), ?_⟩
  refine ⟨_, rfl, rfl, _, rfl, ?_⟩
  refine if_int (fun h0 => ?_) (fun h0 => ?_)
  · have h0 : m = 0 := by omega
    subst h0
    exact fun dd H2 e2 ht => q2 rfl dd H2 (sb_of e2) ht
  obtain ⟨k, rfl⟩ : ∃ k, m = k + 1 := ⟨m - 1, by omega⟩
  have hk : ((k + 1 : Nat) : Int) - 1 = (k : Int) := by omega
  have argk : ∀ r : Addr, [V.ref r, V.int (((k + 1 : Nat) : Int) - 1)] = [V.ref r, V.int (k : Int)] := fun r => by rw [hk]
  have hg := rPart_ok (rSeq_ok k)
  generalize hgg : rPart (rSeq k) = g at hg
  have eSeq : ∀ l, rSeq (k + 1) l = (g l).bind fun x => match x.2[1]? with
      | some o => if isOpC o = true then (rTail g o x.2.length x.2).bind (rEnd o x.1) else rAlone x.1 x.2
      | none => rAlone x.1 x.2 := fun l => by
    rw [← hgg]
    rfl
  refine ⟨_, rfl, r, dx, _, rfl, ha.1, rfl, _, rfl, _, _, rfl, rfl, r, dx, t, l, k, argk r, ha, hz, by omega, by omega, fun d l2 e2 v H1 e1 ha1 hv => ⟨(by show 1 ≤ sizeLine; decide), fun p hp => ?_⟩, fun e2 => ?_⟩
  rotate_left
  · refine q2 ?_
    have e2 : rPart (rSeq k) l = none := e2
    rw [eSeq, ← hgg, e2]
    rfl
  replace e2 : rPart (rSeq k) l = some (d, l2) := e2
  rw [hgg] at e2
  obtain ⟨k1, k2, k3⟩ := hg l d l2 (by omega) e2
  have eS : rSeq (k + 1) l = match l2[1]? with
      | some o => if isOpC o = true then (rTail g o l2.length l2).bind (rEnd o d) else rAlone d l2
      | none => rAlone d l2 := by
    rw [eSeq, e2]
    rfl
  have hpr : r ≠ p := fun e => by
    rw [← e, ha1.1] at hp
    cases hp
  have e3 := same_new hp (.lst [v])
  have eB := e1.tr (sb_of e3)
  have ha2 := ha1.b e3
  have hv2 := hv.up (Same.T e3)
  have hp2 : upd H1 p (.lst [v]) p = some (.lst [v]) := upd_same
  have hpH : H p = none := by
    cases q : H p with
    | none => rfl
    | some u =>
      have := e1 p u (fun z => hpr z.symm) q
      rw [hp] at this
      cases this
  generalize upd H1 p (.lst [v]) = H2 at eB ha2 hv2 hp2 ⊢
  refine ⟨_, rfl, r, _, dx, _, _, rfl, ha2.1, T.k_Reader, T.n_Reader_text, rfl, ?_⟩
  refine ⟨_, rfl, r, _, dx, _, _, rfl, ha2.1, T.k_Reader, T.n_Reader_at, rfl, _, _, rfl, rfl, _, rfl, ?_⟩
  refine ⟨_, rfl, r, _, dx, _, _, rfl, ha2.1, T.k_Reader, T.n_Reader_at, rfl, _, _, rfl, rfl, _, rfl, t, rfl, Nat.le_trans hz (by decide), ?_⟩
  rw [cut_b ha2.2]
  refine ⟨_, rfl, (by show 2 ≤ sizeLine; decide), fun q hq => ⟨q, _, rfl, .inr (SqT.of upd_same), rfl, by decide +kernel, _, rfl, ?_⟩⟩
  have e4 := same_new hq (.tup [.str ("&" : Str), .str ("|" : Str)])
  replace eB := eB.tr (sb_of e4)
  have ha3 := ha2.b e4
  have hv3 := hv2.up (Same.T e4)
  have hp3 := e4 _ _ hp2
  generalize upd H2 q (.tup [.str ("&" : Str), .str ("|" : Str)]) = H3 at eB ha3 hv3 hp3 ⊢
  have alone : ∀ {H4 : Hp} {l4 : List Nat}, SameB r H H4 → Tp K H4 v d → RdAt K H4 r dx t l4 → rSeq (k + 1) l = rAlone d l4 → spAlone K [V.ref r, v] H4 Q E := fun {H4 l4} a1 a2 a3 a4 =>
    ⟨r, v, d, rfl, a2.dp, k3.ok, fun h H' e => q1 d l4 (a4.trans (if_pos h)) v H' (a1.tr (sb_of e)) (a3.b e) (a2.up (Same.T e)), fun h => (q2 (a4.trans (if_neg (by rw [h]; decide)))).b a1⟩
  have alone1 : rSeq (k + 1) l = rAlone d l2 → spAlone K [V.ref r, v] H3 Q E := alone eB hv3 ha3
  cases ho : l2[1]? with
  | none =>
    have ez : (l2.drop 1).take 1 = [] := by
      rw [List.drop_eq_nil_of_le (List.getElem?_eq_none_iff.mp ho)]
      rfl
    rw [ez]
    rw [ho] at eS
    refine if_eqb (b := true) (by rw [if_pos rfl]; exact congrArg Bool.not inOps0) (fun h1 => ?_) (fun h1 => ?_)
    · exact ⟨_, rfl, r, dx, _, rfl, ha3.1, rfl, _, rfl, p, _, _, _, rfl, rfl, SqL.of hp3, at0, alone1 eS⟩
    · cases h1
  | some o =>
    have ez : (l2.drop 1).take 1 = [o] := by
      match l2, ho with
      | _ :: o' :: _, ho =>
        cases ho
        rfl
    rw [ez]
    rw [ho] at eS
    have eS : rSeq (k + 1) l = if isOpC o = true then (rTail g o l2.length l2).bind (rEnd o d) else rAlone d l2 := eS
    refine if_eqb (b := !isOpC o) (by rw [if_pos rfl]; exact congrArg Bool.not (inOps o)) (fun h1 => ?_) (fun h1 => ?_)
    · have h1 : isOpC o = false := by
        cases q : isOpC o with
        | true =>
          rw [q] at h1
          cases h1
        | false => rfl
      rw [if_neg (by rw [h1]; decide)] at eS
      exact ⟨_, rfl, r, dx, _, rfl, ha3.1, rfl, _, rfl, p, _, _, _, rfl, rfl, SqL.of hp3, at0, alone1 eS⟩
    have h1 : isOpC o = true := by
      cases q : isOpC o with
      | true => rfl
      | false =>
        rw [q] at h1
        cases h1
    rw [if_pos h1] at eS
    let w3 : Str := Str.empty ++ (" " : Str) ++ ⟨#[o]⟩ ++ (" " : Str)
    have hw3 : w3.cps.toList = [32, o, 32] := by
      show ((Str.empty ++ (" " : Str)).cps ++ #[o] ++ (" " : Str).cps).toList = _
      rw [show (Str.empty ++ (" " : Str)).cps = #[32] by decide +kernel, show (" " : Str).cps = #[32] by decide +kernel]
      rfl
    have hw3l : w3.length = 3 := congrArg List.length hw3
    have hop := opC_nice h1
    refine ⟨fun mm σ' H' => ∃ (vs : List V) (ds : List PyData) (l' : List Nat) (kf : Nat), σ' = [some (.ref r), some (.int ((k + 1 : Nat) : Int)), some (.ref p), some (.str ⟨#[o]⟩)] ∧ H' p = some (.lst (v :: vs)) ∧ TpAll K H' (v :: vs) (d :: ds) ∧ RdAt K H' r dx t l' ∧ l'.length ≤ kf ∧ mm = l'.length ∧
      rTail g o l2.length l2 = (rTail g o kf l').map (fun y => (ds ++ y.1, y.2)) ∧ SameB r H H' ∧ vs.length + l'.length ≤ 10000, ⟨_, [], [], l2, l2.length, rfl, hp3, .cons hv3 .nil, ha3, Nat.le_refl _, rfl, ?_, eB, by simp only [List.length_nil]; omega⟩, ?_⟩
    · cases rTail g o l2.length l2 <;> rfl
    rintro mm σ' H' ⟨vs, ds, l', kf, rfl, hp', ht', ha', hkf, rfl, eT, eB', hsz⟩
    have hl't := rest_len ha'.2
    have hB : ∀ {n : Nat}, n ≤ 10000 → n ≤ sizeLine := fun h => Nat.le_trans h (by decide)
    refine ⟨_, rfl, r, dx, _, rfl, ha'.1, rfl, " ", rfl, by decide +kernel, _, rfl, .inl ⟨⟨#[o]⟩, rfl, by show 1 ≤ sizeLine; decide, ⟨#[o]⟩, rfl, ?_, " ", rfl, ?_, r, dx, t, w3, l', rfl, ha', by omega, _, rfl, ?_⟩⟩
    · rw [app_len]
      have h2 : (Str.empty ++ (" " : Str)).length = 1 := by decide +kernel
      have h3 : (⟨#[o]⟩ : Str).length = 1 := rfl
      exact hB (by omega)
    · show w3.length ≤ _
      exact hB (by omega)
    rw [hw3, hw3l]
    refine if_dec (fun h2 => ?_) (fun h2 => ?_)
    · -- another part
      obtain ⟨l5, rfl⟩ : ∃ l5, l' = 32 :: o :: 32 :: l5 := ⟨l'.drop 3, (List.take_append_drop 3 l').symm.trans (by rw [h2] <;> rfl)⟩
      simp only [List.length_cons] at hkf hsz hl't
      obtain ⟨j, rfl⟩ : ∃ j, kf = j + 1 := ⟨kf - 1, by omega⟩
      rw [rTail_more] at eT
      refine ⟨_, fun _ _ h => h, ?_⟩
      refine ⟨_, rfl, r, _, dx, _, _, rfl, ha'.1, T.k_Reader, T.n_Reader_at, rfl, _, _, rfl, rfl, dx, _, ha'.1, (by decide : 2 < 1000), ?_⟩
      rw [put_at]
      have hs5 : l5 <:+ t.cps.toList := (List.suffix_append [32, o, 32] l5).trans ha'.2
      have e5 : SameB r H' (upd H' r (.ins (He.ga K "Reader") dx [("text", .str t), ("at", .int (((t.length - (32 :: o :: 32 :: l5).length : Nat) : Int) + 3))])) := sb_upd
      have ha5 := RdAt.upd (K := K) (H := H') (r := r) (dx := dx) (t := t) (i := ((t.length - (32 :: o :: 32 :: l5).length : Nat) : Int) + 3) hs5 (by simp only [List.length_cons]; omega)
      generalize upd H' r (.ins (He.ga K "Reader") dx [("text", .str t), ("at", .int (((t.length - (32 :: o :: 32 :: l5).length : Nat) : Int) + 3))]) = H5 at e5 ha5 ⊢
      have hp5 := e5 _ _ (fun z => hpr z.symm) hp'
      have ht5 := ht'.up (sameT_i ha'.1 e5)
      refine ⟨_, rfl, .inl ⟨rfl, _, SqL.of hp5⟩, ?_⟩
      refine ⟨_, rfl, r, dx, _, rfl, ha5.1, rfl, _, rfl, _, _, rfl, rfl, r, dx, t, l5, k, argk r, ha5, hz, by omega, by omega, fun d6 l6 e6 v6 H6 e6' ha6 hv6 => ?_, fun e6 => ?_⟩
      · replace e6 : rPart (rSeq k) l5 = some (d6, l6) := e6
        rw [hgg] at e6
        obtain ⟨k4, k5, k6⟩ := hg l5 d6 l6 (by omega) e6
        have hp6 := e6' _ _ (fun z => hpr z.symm) hp5
        have ht6 := ht5.up (sameT_i ha5.1 e6')
        refine ⟨p, _, _, rfl, rfl, hp6, ?_, ?_⟩
        · rw [List.length_cons]
          exact Nat.lt_of_le_of_lt (show vs.length + 1 ≤ 10001 by omega) (by decide)
        have eU : SameT H6 (upd H6 p (.lst (v :: vs ++ [v6]))) := (SameT.refl H6).updL hp6
        refine ⟨l6.length, by simp only [List.length_cons]; omega, vs ++ [v6], ds ++ [d6], l6, j, rfl, upd_same, ?_, ⟨?_, ha6.2⟩, by omega, rfl, ?_, ?_, ?_⟩
        · exact (tpa_snoc hv6 ht6).up eU
        · rw [upd_ne hpr]
          exact ha6.1
        · rw [eT, e6]
          show ((rTail g o j l6).map _).map _ = _
          cases rTail g o j l6 with
          | none => rfl
          | some y =>
            show some (ds ++ (d6 :: y.1), y.2) = some (ds ++ [d6] ++ y.1, y.2)
            rw [List.append_assoc] <;> rfl
        · exact fun b u n hb => by
            rw [upd_ne (fun z => by rw [z, hpH] at hb; cases hb)]
            exact e6' b u n (e5 b u n (eB' b u n hb))
        · rw [List.length_append, List.length_singleton]
          omega
      · replace e6 : rPart (rSeq k) l5 = none := e6
        rw [hgg] at e6
        refine (q2 ?_).b (eB'.tr e5)
        rw [eS, eT, e6]
        rfl
    · -- the end
      rw [rTail_end h2] at eT
      have eS2 : rSeq (k + 1) l = rEnd o d (ds, l') := by
        rw [eS, eT]
        show rEnd o d (ds ++ [], l') = _
        rw [List.append_nil]
      have hlen := ht'.len
      refine ⟨_, rfl, _, (v :: vs).length, rfl, .inl ⟨_, SqL.of hp', rfl⟩, rfl, _, rfl, ?_⟩
      refine if_int (fun h3 => ?_) (fun h3 => ?_)
      · have : vs = [] := List.length_eq_zero_iff.mp (by rw [List.length_cons] at h3; omega)
        subst this
        have : ds = [] := List.length_eq_zero_iff.mp (by simp only [List.length_cons, List.length_nil] at hlen; omega)
        subst this
        cases ht' with
        | cons hv4 _ => exact ⟨_, rfl, r, dx, _, rfl, ha'.1, rfl, _, rfl, p, _, _, _, rfl, rfl, SqL.of hp', at0, alone eB' hv4 ha' eS2⟩
      · cases ds with
        | nil =>
          exfalso
          simp only [List.length_cons, List.length_nil] at hlen h3
          omega
        | cons a as =>
          refine ⟨_, rfl, _, rfl, p, _, rfl, .inr (SqL.of hp'), ?_, fun q hq => ?_⟩
          · rw [List.append_nil]
            simp only [List.length_cons]
            exact Nat.le_trans (show vs.length + 1 + 1 ≤ 10002 by omega) (by decide)
          rw [List.append_nil]
          have e7 := same_new hq (.tup (V.str ⟨#[o]⟩ :: v :: vs))
          exact q1 _ l' eS2 _ _ (eB'.tr (sb_of e7)) (ha'.b e7) (.tup (.inl upd_same) (.cons (.str _) (ht'.up (Same.T e7))))
end
section
variable {P : Program} {w : World} {K : PySem.W.Frag} {mg : Str → Option Value} {base : Heap}
def spParse (K : PySem.W.Frag) : Sp := fun vs H Q E => ∃ t : Str, vs = [.str t] ∧ t.length ≤ 10000 ∧ (∀ d, parseD t = some d → ∀ v H', Same H H' → Tp K H' v d → Q v H') ∧
  (parseD t = none → ∀ dd H', Same H H' → Thr ("InvalidText" : Str) dd H' → E (.ref (He.ga K "InvalidText")) dd H')
theorem fn_parse_term {f fT : Addr} {fd fdT : FuncData} (F : FunD K "parse_term" "parse_term" (defArgs s_parse_term) (defBody s_parse_term) (defScope s_parse_term) [] [] f fd) (T : Top K mg)
    (M_Reader : MakeD P w K mg base "Reader" 1 ["self", "text"] (fun vs H Q _ => ∃ (r dx : Addr) (t : Str), vs = [.ref r, .str t] ∧ H r = some (.ins (He.ga K "Reader") dx []) ∧ ∀ H', SameB r H H' → RdAt K H' r dx t t.cps.toList → Q .non H'))
    (FT0 : FunD K "is_term" "is_term" (defArgs s_is_term) (defBody s_is_term) (defScope s_is_term) [] [("max_depth", .int 5), ("max_size", .int 24)] fT fdT) (hmT : mg "is_term" = some (.ref fT)) (FT : FnOk P w K mg base CX0 13 fT fdT ["value", "max_depth", "max_size"] (spIsTerm K))
    (D_Reader_sequence : MethX P w K mg base "Reader" "sequence" 16 ["self", "max_depth"] (spRd K rSeq 6)) (x_InvalidText : RaiseD P w K mg base "InvalidText" "FaultError" 2 "InvalidText") : FnOk P w K mg base (L2.CX P w) 17 f fd ["text"] (spParse K) := by
  obtain ⟨da, va, ba⟩ := bind_a FT0
  refine FunD.ok F sc_parse_term (fun vs H Q E h => ?_) (fun cdv A outer s0 H vs Q E hr h => ?_)
  · obtain ⟨t, rfl, _⟩ := h
    rfl
  have tk : Takes (cxOf (L2.CX P w) P w K mg base ["text", "reader", "found"] "parse_term" (defScope s_parse_term) f cdv A outer s0 H E) fun cls d _ H => E cls d H := takes_of rfl rfl rfl rfl
  obtain ⟨t, rfl, hz, q1, q2⟩ := h
  refine ⟨_, (pss_cons (ps_set (i := 1) sc_parse_term.nd rfl (Or.inl rfl) (pe_mkd M_Reader hr (by first | decide | omega) (pa_cons (pv 0) pa_nil)))
  (pss_cons (ps_set (i := 2) sc_parse_term.nd rfl (Or.inl rfl) (pe_methx (E := E) D_Reader_sequence tk (fun _ _ _ _ h => h) hr (by first | decide | omega) (pv 1) (pa_cons (pe_gi T.g_MAX_DEPTH) pa_nil)))
  (pss_cons (ps_if (PW.pt (pw_or (pt_cmpR op_lt (pe_fld (pv 1) rfl) (pe_callB (call_lenK K) (by rfl) T.b_len (by decide +kernel) (pa_cons (pv 0) pa_nil)) (nomark _)) (pw_or1 (pt_not (pt_val (pe_call FT (hr.mono (by decide)) rfl hmT FT0.kp ba va pass0 (pa_cons (pv 2) pa_nil)))))))
  (pss_one (ps_raise rfl tk (pmk_raise x_InvalidText hr (by first | decide | omega))))
  pss_nil)
  (pss_one (ps_ret (pv 2)))))), ?_⟩
  refine ⟨_, rfl, fun r dx hr0 hdx hne => ⟨r, dx, t, rfl, upd_same, fun H1 e0 ha => ⟨rfl, ?_⟩⟩⟩
  have e1 : Same H H1 := fun b u hb => by
    have b1 := ne_of_none hb hr0
    refine e0 b u b1 ?_
    rw [upd_ne b1, upd_ne (ne_of_none hb hdx)]
    exact hb
  have off : ∀ {H2 : Hp}, SameB r H1 H2 → Same H H2 := fun {H2} e b u hb => e b u (ne_of_none hb hr0) (e1 b u hb)
  refine ⟨_, rfl, r, dx, _, rfl, ha.1, rfl, r, dx, t, t.cps.toList, 5, rfl, ha, hz, by decide, by decide, fun d l e v H2 e2 ha2 hv => ?_, fun e => ?_⟩
  · obtain ⟨k1, k2, k3⟩ := rSeq_ok 5 _ d l hz e
    have ep : parseD t = endD d l := by
      unfold parseD
      rw [e]
      rfl
    have hlen : t.cps.toList.length = t.length := rfl
    refine ⟨_, rfl, r, _, dx, _, _, rfl, ha2.1, T.k_Reader, T.n_Reader_at, rfl, _, rfl, _, t.length, rfl, ⟨Nat.le_trans hz (by decide), rfl⟩, _, _, rfl, rfl, _, rfl, ?_⟩
    refine if_dec (fun h1 => ?_) (fun h1 => ?_)
    · refine fun dd H3 e3 ht => q2 ?_ dd H3 ((off e2).trans e3) ht
      cases l with
      | nil =>
        exfalso
        rw [List.length_nil, Nat.sub_zero] at h1
        omega
      | cons c l => exact ep
    have hl0 : l = [] := by
      cases l with
      | nil => rfl
      | cons c l =>
        exfalso
        rw [List.length_cons] at h1 k1
        omega
    subst hl0
    refine ⟨_, rfl, v, d, 5, 24, rfl, hv.dp, k3.ok, by decide, fun H3 e3 => ⟨_, rfl, ?_⟩⟩
    have o3 := (off e2).trans e3
    refine if_nb (fun h2 => ?_) (fun h2 => ?_)
    · have h2 : inB (meas 5 d) 24 = false := h2
      exact fun dd H4 e4 ht => q2 (ep.trans (if_neg (by rw [h2]; decide))) dd H4 (o3.trans e4) ht
    · exact ⟨_, rfl, q1 d (ep.trans (if_pos h2)) v H3 o3 (hv.up (Same.T e3))⟩
  · refine fun dd H2 e2 ht => q2 ?_ dd H2 (off e2) ht
    unfold parseD
    rw [e]
    rfl
end
end FF
/-! the reader reads what the law writes -/
namespace FF
open PySem PySem.Spec PyProof.Rows L2
abbrev tl (z : Str) : List Nat := z.cps.toList
theorem tl_app (a b : Str) : tl (a ++ b) = tl a ++ tl b := by
  show (a.cps ++ b.cps).toList = _
  rw [Array.toList_append]
def tailL (o : Nat) (ps : List (List Nat)) : List Nat := ps.flatMap fun p => 32 :: o :: 32 :: p
theorem join_tl {o : Nat} {sep : Str} (hs : tl sep = [32, o, 32]) : ∀ (x : Str) (r : List Str), tl (Str.join sep (x :: r)) = tl x ++ tailL o (r.map tl)
  | x, [] => by
    show tl x = tl x ++ []
    rw [List.append_nil]
  | x, y :: r => by
    show tl (x ++ sep ++ Str.join sep (y :: r)) = _
    rw [tl_app, tl_app, hs, join_tl hs y r]
    show tl x ++ [32, o, 32] ++ (tl y ++ tailL o (r.map tl)) = tl x ++ ((32 :: o :: 32 :: tl y) ++ tailL o (r.map tl))
    rw [List.append_assoc] <;> rfl
theorem op_sign {o : Str} (h : isOp (.str o) = true) : ∃ c, o = ⟨#[c]⟩ ∧ isOpC c = true := by
  rcases op_shape h with h | h
  · exact ⟨38, (PyData.str.inj h).trans (by decide +kernel), by decide⟩
  · exact ⟨124, (PyData.str.inj h).trans (by decide +kernel), by decide⟩
theorem sep_tl {c : Nat} : tl ((" " : Str) ++ ⟨#[c]⟩ ++ (" " : Str)) = [32, c, 32] := by
  rw [tl_app, tl_app, show tl (" " : Str) = [32] by decide +kernel] <;> rfl
def Stop (l : List Nat) : Prop := l = [] ∨ ∃ r, l = 41 :: r
theorem part_let {f : RdF} {z : Str} (h : isLet (.str z) = true) (rest : List Nat) : rPart f (tl z ++ rest) = some (.str z, rest) := by
  obtain ⟨c, e, hc⟩ := let_shape h
  rw [PyData.str.inj e]
  exact if_pos hc
theorem text_tup {n c : Nat} {p : PyData} {ps : List PyData} : tl (textD (n + 1) (.tuple (.str ⟨#[c]⟩ :: p :: ps))) = tl (partT (textD n) p) ++ tailL c (ps.map fun q => tl (partT (textD n) q)) := by
  show tl (Txt.join ((" " : Str) ++ ⟨#[c]⟩ ++ " ") ((p :: ps).map (partT (textD n)))) = _
  rw [TL.join_eq, List.map_cons, join_tl sep_tl, List.map_map] <;> rfl
theorem par_tl (x : Str) : tl (("(" : Str) ++ x ++ ")") = 40 :: (tl x ++ [41]) := by
  rw [tl_app, tl_app, show tl ("(" : Str) = [40] by decide +kernel, show tl (")" : Str) = [41] by decide +kernel] <;> rfl
theorem rTail_all {g : RdF} {o : Nat} {f : PyData → List Nat} {rest : List Nat} (hr : Stop rest) : ∀ (ps : List PyData) (k : Nat), (∀ p ∈ ps, ∀ r, g (f p ++ r) = some (p, r)) → ps.length ≤ k → rTail g o k (tailL o (ps.map f) ++ rest) = some (ps, rest)
  | [], k, _, _ => by
    refine rTail_end ?_
    rcases hr with rfl | ⟨r, rfl⟩
    · exact fun z => by cases z
    · exact fun z => by
        have := List.head_eq_of_cons_eq z
        cases this
  | p :: ps, k, h, hk => by
    obtain ⟨j, rfl⟩ : ∃ j, k = j + 1 := ⟨k - 1, by rw [List.length_cons] at hk; omega⟩
    show rTail g o (j + 1) ((32 :: o :: 32 :: f p) ++ tailL o (ps.map f) ++ rest) = _
    rw [show (32 :: o :: 32 :: f p) ++ tailL o (ps.map f) ++ rest = 32 :: o :: 32 :: (f p ++ (tailL o (ps.map f) ++ rest)) by rw [List.append_assoc] <;> rfl]
    rw [rTail_more, h p List.mem_cons_self]
    show ((rTail g o j (tailL o (ps.map f) ++ rest)).map fun y => (p :: y.1, y.2)) = _
    rw [rTail_all hr ps j (fun q hq => h q (List.mem_cons_of_mem _ hq)) (by rw [List.length_cons] at hk; omega)] <;> rfl
theorem tail_len {o : Nat} : ∀ (ps : List (List Nat)), ps.length ≤ (tailL o ps).length
  | [] => Nat.le_refl _
  | p :: ps => by
    have := tail_len (o := o) ps
    show ps.length + 1 ≤ ((32 :: o :: 32 :: p) ++ tailL o ps).length
    rw [List.length_append, List.length_cons]
    omega
theorem read_seq : ∀ {n : Nat} {d : PyData}, Drawn n d → isTup d = true → ∀ rest, Stop rest → rSeq (n + 1) (tl (textD (n + 1) d) ++ rest) = some (d, rest) := by
  intro n
  induction n with
  | zero =>
    intro d h ht
    rcases drawn_shape h with ⟨z, rfl, _⟩ | ⟨_, _, _, _, _, _, _, e, _⟩
    · cases ht
    · cases e
  | succ n ih =>
    intro d h ht rest hr
    rcases drawn_shape h with ⟨z, rfl, _⟩ | ⟨o, ps, k, rfl, ho, l2, l4, e, hp⟩
    · cases ht
    cases e
    obtain ⟨c, rfl, hc⟩ := op_sign ho
    have part : ∀ p ∈ ps, ∀ r, rPart (rSeq (n + 1)) (tl (partT (textD (n + 1)) p) ++ r) = some (p, r) := fun p hpp r => by
      rcases drawn_shape (hp p hpp) with ⟨z, rfl, hz⟩ | ⟨o2, ps2, _, rfl, _⟩
      · exact part_let hz r
      · show rPart (rSeq (n + 1)) (tl (("(" : Str) ++ textD (n + 1) (.tuple (.str o2 :: ps2)) ++ ")") ++ r) = _
        rw [par_tl]
        show rPart (rSeq (n + 1)) (40 :: ((tl (textD (n + 1) (.tuple (.str o2 :: ps2))) ++ [41]) ++ r)) = _
        rw [List.append_assoc, rPart_paren, ih (hp _ hpp) rfl ([41] ++ r) (.inr ⟨r, rfl⟩)]
        rfl
    match ps, l2, part with
    | p :: q :: ps, _, part =>
    rw [text_tup, List.append_assoc]
    show (rPart (rSeq (n + 1)) (tl (partT (textD (n + 1)) p) ++ (tailL c ((q :: ps).map fun q => tl (partT (textD (n + 1)) q)) ++ rest))).bind _ = _
    rw [part p List.mem_cons_self]
    show (match (tailL c ((q :: ps).map fun q => tl (partT (textD (n + 1)) q)) ++ rest)[1]? with
      | some o => if isOpC o = true then (rTail (rPart (rSeq (n + 1))) o (tailL c ((q :: ps).map fun q => tl (partT (textD (n + 1)) q)) ++ rest).length (tailL c ((q :: ps).map fun q => tl (partT (textD (n + 1)) q)) ++ rest)).bind (rEnd o p) else rAlone p (tailL c ((q :: ps).map fun q => tl (partT (textD (n + 1)) q)) ++ rest)
      | none => rAlone p (tailL c ((q :: ps).map fun q => tl (partT (textD (n + 1)) q)) ++ rest)) = _
    have e1 : (tailL c ((q :: ps).map fun q => tl (partT (textD (n + 1)) q)) ++ rest)[1]? = some c := rfl
    rw [e1]
    show (if isOpC c = true then _ else _) = _
    rw [if_pos hc, rTail_all hr (q :: ps) _ (fun x hx => part x (List.mem_cons_of_mem _ hx)) ?_]
    · rfl
    · rw [List.length_append]
      have := tail_len (o := c) ((q :: ps).map fun q => tl (partT (textD (n + 1)) q))
      rw [List.length_map] at this
      omega
theorem parse_text {d : PyData} (h : Drawn 4 d) (hm : inB (meas 5 d) 24 = true) : parseD (textD 5 d) = some d := by
  unfold parseD
  have e : rSeq 5 (tl (textD 5 d)) = some (d, []) := by
    rcases drawn_shape h with ⟨z, rfl, hz⟩ | ⟨o, ps, k, rfl, _⟩
    · show (rPart (rSeq 4) (tl z)).bind _ = _
      have := part_let (f := rSeq 4) hz []
      rw [List.append_nil] at this
      rw [this]
      exact if_pos hz
    · have := read_seq h rfl [] (.inl rfl)
      rw [List.append_nil] at this
      exact this
  rw [e]
  exact if_pos hm
end FF
/-! words of terms: walked, their texts in order -/
namespace FF
open PySem PySem.Spec PyProof.Rows L2
def partsD : PyData → List PyData
  | .tuple (_ :: ps) => ps
  | _ => []
def walkD : Nat → PyData → List PyData
  | 0, d => [d]
  | n + 1, d => d :: (partsD d).flatMap (walkD n)
theorem let_parts {d : PyData} (h : isLet d = true) : partsD d = [] := by
  cases d with
  | str z => rfl
  | _ => cases h
theorem parts_drawn {k : Nat} {d p : PyData} (h : Drawn (k + 1) d) (hp : p ∈ partsD d) : Drawn k p := by
  rcases h with h | ⟨o, ps, rfl, _, _, _, hps⟩
  · rw [let_parts h] at hp
    cases hp
  · exact hps p hp
theorem parts0 {d : PyData} (h : Drawn 0 d) : partsD d = [] := let_parts h
theorem parts_len {n : Nat} {d : PyData} (h : Drawn n d) : (partsD d).length ≤ 4 := by
  cases n with
  | zero =>
    rw [parts0 h]
    decide
  | succ n =>
    rcases h with h | ⟨o, ps, rfl, _, _, h4, _⟩
    · rw [let_parts h]
      decide
    · exact h4
theorem flat_le {f : PyData → List PyData} {B : Nat} : ∀ {l : List PyData}, (∀ p ∈ l, (f p).length ≤ B) → (l.flatMap f).length ≤ l.length * B
  | [], _ => Nat.zero_le _
  | x :: r, h => by
    have h1 := h x List.mem_cons_self
    have h2 := flat_le (l := r) fun p hp => h p (List.mem_cons_of_mem _ hp)
    rw [List.flatMap_cons, List.length_append, List.length_cons, Nat.succ_mul]
    omega
theorem walk_len : ∀ {n : Nat} {d : PyData}, Drawn n d → (walkD (n + 1) d).length + 1 ≤ 2 * 4 ^ n := by
  intro n
  induction n with
  | zero =>
    intro d h
    show (d :: (partsD d).flatMap (walkD 0)).length + 1 ≤ 2
    rw [parts0 h]
    exact Nat.le_refl 2
  | succ n ih =>
    intro d h
    show (d :: (partsD d).flatMap (walkD (n + 1))).length + 1 ≤ _
    have hl := parts_len h
    have h1 : ∀ p ∈ partsD d, (walkD (n + 1) p).length ≤ 2 * 4 ^ n - 1 := fun p hp => by
      have := ih (parts_drawn h hp)
      omega
    have h2 := flat_le h1
    have h3 : (partsD d).length * (2 * 4 ^ n - 1) ≤ 4 * (2 * 4 ^ n - 1) := Nat.mul_le_mul_right _ hl
    have h4 : 1 ≤ 4 ^ n := Nat.one_le_pow _ _ (by decide)
    rw [List.length_cons, Nat.pow_succ]
    omega
/-! ### the texts in order -/
def leS (a b : Str) : Bool := !ltCps b.cps.toList a.cps.toList
theorem leS_trans (a b c : Str) (h1 : leS a b = true) (h2 : leS b c = true) : leS a c = true := by
  unfold leS at *
  rw [ltCps_eq] at *
  simp only [Bool.not_eq_true', decide_eq_false_iff_not, List.not_lt] at *
  exact List.le_trans h1 h2
theorem leS_total (a b : Str) : (leS a b || leS b a) = true := by
  unfold leS
  rw [ltCps_eq, ltCps_eq]
  simp only [Bool.or_eq_true, Bool.not_eq_true', decide_eq_false_iff_not, List.not_lt]
  exact List.le_total _ _
theorem leS_antisymm {a b : Str} (h1 : leS a b = true) (h2 : leS b a = true) : a = b := by
  unfold leS at *
  rw [ltCps_eq] at *
  simp only [Bool.not_eq_true', decide_eq_false_iff_not, List.not_lt] at *
  have := List.le_antisymm h1 h2
  obtain ⟨⟨x⟩⟩ := a
  obtain ⟨⟨y⟩⟩ := b
  cases this
  rfl
theorem rising_all : ∀ {l : List Str} {p : Str}, risingS p l = true → (∀ x ∈ l, leS p x = true) ∧ l.Pairwise fun a b => leS a b = true
  | [], _, _ => ⟨(fun x h => by cases h), List.Pairwise.nil⟩
  | y :: l, p, h => by
    have h : (!ltCps y.cps.toList p.cps.toList && risingS y l) = true := h
    obtain ⟨h1, h2⟩ := Bool.and_eq_true_iff.mp h
    obtain ⟨k1, k2⟩ := rising_all h2
    have k0 : leS p y = true := h1
    refine ⟨fun x hx => ?_, .cons k1 k2⟩
    rcases List.mem_cons.mp hx with rfl | hx
    · exact k0
    · exact leS_trans _ _ _ k0 (k1 x hx)
theorem sorted_pw {l : List Str} (h : sortedS l = true) : l.Pairwise fun a b => leS a b = true := by
  cases l with
  | nil => exact .nil
  | cons x l => exact .cons (rising_all h).1 (rising_all h).2
def sortT (ks : List Str) : List Str := ks.mergeSort leS
theorem sort_eq {ys ks : List Str} (hp : ys.Perm ks) (hs : sortedS ys = true) : ys = sortT ks := by
  refine List.Perm.eq_of_pairwise (le := fun a b => leS a b = true) (fun a b _ _ h1 h2 => leS_antisymm h1 h2) (sorted_pw hs) ?_ (hp.trans (List.mergeSort_perm ks leS).symm)
  exact List.pairwise_mergeSort leS_trans leS_total ks
/-! ### dicts of data by texts -/
abbrev DD := List (Str × PyData)
def ddPut (dd : DD) (k : Str) (v : PyData) : DD := if (dd.any fun e => decide (e.1 = k)) = true then dd.map (fun e => if e.1 = k then (e.1, v) else e) else dd ++ [(k, v)]
def ddGet (dd : DD) (k : Str) : Option PyData := (dd.find? fun e => decide (e.1 = k)).map (·.2)
inductive DRel (K : PySem.W.Frag) (H : Hp) : List (Key × V) → DD → Prop
  | nil : DRel K H [] []
  | cons {k : Str} {v : V} {d : PyData} {kvs : List (Key × V)} {dd : DD} : Tp K H v d → DRel K H kvs dd → DRel K H ((.inr k, v) :: kvs) ((k, d) :: dd)
section
variable {K : PySem.W.Frag} {H H' : Hp}
theorem DRel.up (e : SameT H H') : ∀ {kvs : List (Key × V)} {dd : DD}, DRel K H kvs dd → DRel K H' kvs dd
  | _, _, .nil => .nil
  | _, _, .cons h r => .cons (h.up e) (r.up e)
theorem DRel.keys : ∀ {kvs : List (Key × V)} {dd : DD}, DRel K H kvs dd → kvs.map (·.1) = (dd.map (·.1)).map Sum.inr
  | _, _, .nil => rfl
  | _, _, .cons _ r => by
    show _ :: _ = _ :: _
    rw [r.keys] <;> rfl
theorem DRel.len {kvs : List (Key × V)} {dd : DD} (h : DRel K H kvs dd) : kvs.length = dd.length := by
  have := congrArg List.length h.keys
  simpa using this
theorem DRel.any {k : Str} : ∀ {kvs : List (Key × V)} {dd : DD}, DRel K H kvs dd → (kvs.any fun e => decide (e.1 = Sum.inr k)) = dd.any fun e => decide (e.1 = k)
  | _, _, .nil => rfl
  | _, _, .cons (k := k2) _ r => by
    rw [List.any_cons, List.any_cons, r.any]
    congr 1
    exact decide_eq_decide.mpr ⟨fun e => Sum.inr.inj e, fun e => congrArg Sum.inr e⟩
theorem DRel.repl {k : Str} {v : V} {d : PyData} (h : Tp K H v d) : ∀ {kvs : List (Key × V)} {dd : DD}, DRel K H kvs dd → DRel K H (kvs.map fun e => if e.1 = (Sum.inr k : Key) then (e.1, v) else e) (dd.map fun e => if e.1 = k then (e.1, d) else e)
  | _, _, .nil => .nil
  | _, _, .cons (k := k2) (v := v2) (d := d2) h2 r => by
    rw [List.map_cons, List.map_cons]
    by_cases e : k2 = k
    · subst e
      rw [if_pos rfl, if_pos rfl]
      exact .cons h (r.repl h)
    · rw [if_neg (fun z => e (Sum.inr.inj z)), if_neg e]
      exact .cons h2 (r.repl h)
theorem DRel.snoc {k : Str} {v : V} {d : PyData} (h : Tp K H v d) : ∀ {kvs : List (Key × V)} {dd : DD}, DRel K H kvs dd → DRel K H (kvs ++ [(.inr k, v)]) (dd ++ [(k, d)])
  | _, _, .nil => .cons h .nil
  | _, _, .cons h2 r => .cons h2 (r.snoc h)
theorem DRel.put {k : Str} {v : V} {d : PyData} {kvs : List (Key × V)} {dd : DD} (r : DRel K H kvs dd) (h : Tp K H v d) : DRel K H (putK kvs (.inr k) v) (ddPut dd k d) := by
  unfold putK ddPut
  rw [r.any (k := k)]
  split
  · exact r.repl h
  · exact r.snoc h
theorem DRel.get {k : Str} {d : PyData} : ∀ {kvs : List (Key × V)} {dd : DD}, DRel K H kvs dd → ddGet dd k = some d → ∃ v, valV kvs (.inr k) = some v ∧ Tp K H v d
  | _, _, .nil, e => by cases e
  | _, _, .cons (k := k2) (v := v2) (d := d2) (kvs := kvs) (dd := dd) h2 r, e => by
    by_cases hk : k2 = k
    · subst hk
      have : ddGet ((k2, d2) :: dd) k2 = some d2 := by simp [ddGet]
      rw [this] at e
      cases e
      exact ⟨v2, valV_pos rfl, h2⟩
    · have : ddGet ((k2, d2) :: dd) k = ddGet dd k := by simp [ddGet, List.find?_cons, hk]
      rw [this] at e
      obtain ⟨v, h3, h4⟩ := r.get e
      exact ⟨v, (valV_neg fun z => hk (Sum.inr.inj z)).trans h3, h4⟩
end
end FF
/-! parts_of, walked and the law's twins -/
namespace FF
open PySem PySem.Spec PyProof.Rows L2
def spParts (K : PySem.W.Frag) : Sp := fun vs H Q _ => ∃ (v : V) (d : PyData) (m : Nat), vs = [v] ∧ Tp K H v d ∧ Drawn m d ∧ ∀ p us H', Same H H' → H p = none → H' p = some (.tup us) → TpAll K H' us (partsD d) → Q (.ref p) H'
def spPartsL (K : PySem.W.Frag) : Sp := fun vs H Q _ => ∃ (v : V) (d : PyData) (m : Nat), vs = [v] ∧ Tp K H v d ∧ Drawn m d ∧ ∀ p us H', Same H H' → H p = none → H' p = some (.lst us) → TpAll K H' us (partsD d) → Q (.ref p) H'
def spWalked (K : PySem.W.Frag) (n : Nat) : Sp := fun vs H Q _ => ∃ (v : V) (d : PyData) (m : Nat), vs = [v] ∧ Tp K H v d ∧ Drawn m d ∧ m < n ∧ n ≤ 10 ∧ ∀ p us H', Same H H' → H p = none → H' p = some (.lst us) → TpAll K H' us (walkD (m + 1) d) → Q (.ref p) H'
theorem walk_step {k : Nat} {d : PyData} : walkD (k + 2) d = d :: (partsD d).flatMap (walkD (k + 1)) := rfl
theorem walk_zero {d : PyData} (h : Drawn 0 d) : ∀ n, walkD n d = [d]
  | 0 => rfl
  | n + 1 => by
    show d :: (partsD d).flatMap (walkD n) = _
    rw [parts0 h] <;> rfl
/-- one step of walking serves every depth -/
theorem walk_parts {m : Nat} {d : PyData} (h : Drawn m d) : ∃ j, walkD (m + 1) d = d :: (partsD d).flatMap (walkD (j + 1)) ∧ (∀ p ∈ partsD d, Drawn j p) ∧ (m = 0 ∧ j = 0 ∨ m = j + 1) := by
  cases m with
  | zero =>
    refine ⟨0, ?_, fun p hp => ?_, .inl ⟨rfl, rfl⟩⟩
    · rw [walk_zero h, parts0 h] <;> rfl
    · rw [parts0 h] at hp
      cases hp
  | succ k => exact ⟨k, rfl, fun p hp => parts_drawn h hp, .inr rfl⟩
theorem flat_take {α β : Type} {f : α → List β} {l : List α} {i : Nat} {x : α} (h : l[i]? = some x) : (l.take (i + 1)).flatMap f = (l.take i).flatMap f ++ f x := by
  have : l.take (i + 1) = l.take i ++ [x] := by
    rw [List.take_add_one, h] <;> rfl
  rw [this, List.flatMap_append, List.flatMap_singleton]
section
variable {P : Program} {w : World} {K : PySem.W.Frag} {mg : Str → Option Value} {base : Heap}
theorem ok_parts_of {f : Addr} {fd : FuncData} (F : FunD K "parts_of" "parts_of" (defArgs s_parts_of) (defBody s_parts_of) (defScope s_parts_of) [] [] f fd) (hm : mg "parts_of" = some (.ref f)) (T : Top K mg) : Def P w K mg base "parts_of" 1 ["term"] (spParts K) := by
  refine def_mk F hm (F.bindsN fun _ _ _ _ _ _ us hl => match us, hl with | [_], _ => rfl) sc_parts_of (fun vs H Q E h => ?_) (fun cdv A outer s H vs Q E hr h => ?_)
  · obtain ⟨v, d, m, rfl, _⟩ := h
    rfl
  obtain ⟨v, d, m, rfl, hd, hdr, q⟩ := h
  refine ⟨_, (pss_one (ps_ret (pe_ifExp (pt_val (pe_callB (call_isK K kb_str) (by rfl) T.b_isinstance (by decide +kernel) (pa_cons (pv 0) (pa_cons (pe_bltn (v := .ty "str") (by rfl) T.b_str (by decide +kernel) rfl) pa_nil)))) (pe_tup pa_nil) (pe_slice (sl_tupK K) (pv 0) (po_some pe_int) po_none)))), ?_⟩
  refine ⟨_, rfl, v, d, rfl, hd.dp, _, rfl, ?_⟩
  rcases drawn_shape hdr with ⟨z, rfl, _⟩ | ⟨o, ps, k, rfl, ho, l2, l4, rfl, hps⟩
  · exact iteT ⟨(by show 0 ≤ sizeLine; decide), fun p hp => q p _ _ (same_new hp _) hp upd_same .nil⟩
  cases hd with
  | tup ht ha =>
  cases ha with
  | @cons vo vr _ _ hvo hvr =>
  rename_i a
  refine iteF ⟨_, rfl, _, rfl, a, _, rfl, ht.sqT, notWhole1, fun p hp0 => ?_⟩
  rw [cut1]
  exact q p vr _ (same_new hp0 _) hp0 upd_same (hvr.up (Same.T (same_new hp0 _)))
theorem ok_law_parts {f : Addr} {fd : FuncData} (F : FunD K "_law_parts" "_law_parts" (defArgs s_law_parts) (defBody s_law_parts) (defScope s_law_parts) [] [] f fd) (hm : mg "_law_parts" = some (.ref f)) (T : Top K mg) : Def P w K mg base "_law_parts" 1 ["_law_word"] (spPartsL K) := by
  refine def_mk F hm (F.bindsN fun _ _ _ _ _ _ us hl => match us, hl with | [_], _ => rfl) sc_law_parts (fun vs H Q E h => ?_) (fun cdv A outer s H vs Q E hr h => ?_)
  · obtain ⟨v, d, m, rfl, _⟩ := h
    rfl
  obtain ⟨v, d, m, rfl, hd, hdr, q⟩ := h
  refine ⟨_, (pss_one (ps_ret (pe_ifExp (pt_val (pe_callB (call_isK K kb_str) (by rfl) T.b_isinstance (by decide +kernel) (pa_cons (pv 0) (pa_cons (pe_bltn (v := .ty "str") (by rfl) T.b_str (by decide +kernel) rfl) pa_nil)))) (pe_lst pa_nil) (pe_callTy (call_list_ofK K) (by rfl) T.b_list (by decide +kernel) (pa_cons (pe_slice (sl_tupK K) (pv 0) (po_some pe_int) po_none) pa_nil))))), ?_⟩
  refine ⟨_, rfl, v, d, rfl, hd.dp, _, rfl, ?_⟩
  rcases drawn_shape hdr with ⟨z, rfl, _⟩ | ⟨o, ps, k, rfl, ho, l2, l4, rfl, hps⟩
  · exact iteT ⟨(by show 0 ≤ sizeLine; decide), fun p hp => q p _ _ (same_new hp _) hp upd_same .nil⟩
  cases hd with
  | tup ht ha =>
  cases ha with
  | @cons vo vr _ _ hvo hvr =>
  rename_i a
  refine iteF ⟨_, rfl, _, rfl, a, _, rfl, ht.sqT, notWhole1, fun p hp0 => ?_⟩
  rw [cut1]
  have e1 := same_new hp0 (.tup vr)
  refine ⟨p, vr, rfl, .inr (SqT.of upd_same), fun l hl => ?_⟩
  have hl0 : H l = none := by
    cases e : H l with
    | none => rfl
    | some u =>
      rw [e1 _ _ e] at hl
      cases hl
  exact q l vr _ (e1.trans (same_new hl _)) hl0 upd_same (hvr.up ((Same.T e1).trans (Same.T (same_new hl _))))
theorem ok_walked_step {n : Nat} {f : Addr} {fd : FuncData} (F : FunD K "walked" "walked" (defArgs s_walked) (defBody s_walked) (defScope s_walked) [] [] f fd) (hm : mg "walked" = some (.ref f)) (T : Top K mg)
    (D_parts_of : Def P w K mg base "parts_of" 1 ["term"] (spParts K)) (D_walked : Def P w K mg base "walked" (n + 1) ["term"] (spWalked K n)) : Def P w K mg base "walked" (n + 2) ["term"] (spWalked K (n + 1)) := by
  refine def_mk F hm (F.bindsN fun _ _ _ _ _ _ us hl => match us, hl with | [_], _ => rfl) sc_walked (fun vs H Q E h => ?_) (fun cdv A outer s H vs Q E hr h => ?_)
  · obtain ⟨v, d, m, rfl, _⟩ := h
    rfl
  obtain ⟨v, d, m, rfl, hd, hdr, hmn, hn10, q⟩ := h
  refine ⟨_, (pss_cons (ps_set (i := 1) sc_walked.nd rfl (Or.inl rfl) (pe_lst (pa_cons (pv 0) pa_nil)))
  (pss_cons (ps_for PassesOwn.never rfl (pi_tupK K (pe_def D_parts_of hr (by first | decide | omega) (pa_cons (pv 0) pa_nil))) (pg_name (i := 2) sc_walked.nd rfl (Or.inl rfl) (.inl rfl))
  (pss_one (ps_expr (pe_bmK K PySem.F.plainAttrs_list PySem.F.slot_list_extend PySem.F.type_list_extend mt_extend (pv 1) (pa_cons (pe_def D_walked hr (by first | decide | omega) (pa_cons (pv 2) pa_nil)) pa_nil)))))
  (pss_one (ps_ret (pv 1))))), ?_⟩
  refine ⟨_, rfl, (by show 1 ≤ sizeLine; decide), fun p hp => ?_⟩
  have e1 := same_new hp (.lst [v])
  have hd1 := hd.up (Same.T e1)
  refine ⟨_, rfl, v, d, m, rfl, hd1, hdr, fun t us H2 e2 ht0 ht2 hu2 => ?_⟩
  refine ⟨t, rfl, ⟨us, SqT.of ht2⟩, ?_⟩
  obtain ⟨j, ew, hj, hmj⟩ := walk_parts hdr
  have hul := hu2.len
  have hpl := parts_len hdr
  have wl := walk_len hdr
  have p4 : 4 ^ m ≤ 4 ^ 9 := Nat.pow_le_pow_right (by decide) (by omega)
  have hB : ∀ {n : Nat}, n ≤ 2 * 4 ^ 9 → n ≤ sizeLine := fun h => Nat.le_trans h (by decide +kernel)
  have tp : p ≠ t := fun z => by
    subst z
    rw [upd_same] at ht0
    cases ht0
  refine for_tup (xs := us) (fun i σ H' => ∃ (fs : List V) (o : Option V), σ = [some v, some (.ref p), o] ∧ Same H H' ∧ H' p = some (.lst fs) ∧ H' t = some (.tup us) ∧ TpAll K H' us (partsD d) ∧ TpAll K H' fs (d :: ((partsD d).take i).flatMap (walkD (j + 1))))
    ⟨[v], none, rfl, e1.trans e2, e2 _ _ upd_same, ht2, hu2, .cons (hd1.up (Same.T e2)) .nil⟩ (fun i σ H' _ ⟨fs, o, _, _, _, ht, _⟩ => SqT.of ht) ?_ ?_
  · rintro i x σ H' hx ⟨fs, o, rfl, e3, hp3, ht3, hu3, hf3⟩
    obtain ⟨y, hy1, hy2⟩ := hu3.get hx
    have hyd := hj y (List.mem_of_getElem? hy1)
    have hjn : j < n := by
      rcases hmj with ⟨hm0, _⟩ | hm1
      · subst hm0
        rw [parts0 hdr] at hy1
        cases hy1
      · omega
    refine ⟨_, rfl, .inl ⟨rfl, _, SqL.of hp3⟩, _, rfl, x, y, j, rfl, hy2, hyd, hjn, by omega, fun r rs H4 e4 hr0 hr4 hrs => ?_⟩
    have hp4 := e4 _ _ hp3
    have lf := hf3.len
    have lr := hrs.len
    have wr := walk_len hyd
    have pj : 4 ^ j ≤ 4 ^ 8 := Nat.pow_le_pow_right (by decide) (by omega)
    refine ⟨p, r, fs, rs, rfl, rfl, hp4, hr4, ?_, ?_⟩
    · -- the size: what is made is a part of the whole
      have h1 := flat_le (f := walkD (j + 1)) (B := 2 * 4 ^ 8) (l := (partsD d).take i) (fun p hp => by
        have := walk_len (hj p (List.mem_of_mem_take hp))
        omega)
      have h2 : ((partsD d).take i).length ≤ 4 := by
        rw [List.length_take]
        omega
      have h3 : ((partsD d).take i).length * (2 * 4 ^ 8) ≤ 4 * (2 * 4 ^ 8) := Nat.mul_le_mul_right _ h2
      rw [List.length_cons] at lf
      refine Nat.le_trans ?_ (show 5 * (2 * 4 ^ 8) + 1 ≤ sizeLine by decide +kernel)
      omega
    have eU : SameT H4 (upd H4 p (.lst (fs ++ rs))) := (SameT.refl H4).updL hp4
    refine ⟨fs ++ rs, _, rfl, ?_, upd_same, ?_, ?_, ?_⟩
    · intro b u hb
      rw [upd_ne (ne_of_none hb hp)]
      exact e4 _ _ (e3 _ _ hb)
    · rw [upd_ne (Ne.symm tp)]
      exact e4 _ _ ht3
    · exact (hu3.up (Same.T e4)).up eU
    · rw [flat_take hy1]
      exact TpAll.app (vs := fs) (ws := rs) ((hf3.up (Same.T e4)).up eU) (hrs.up eU)
  · rintro σ H' ⟨fs, o, rfl, e3, hp3, ht3, hu3, hf3⟩
    refine ⟨_, rfl, q p fs H' e3 hp hp3 ?_⟩
    rw [ew]
    rw [hul, List.take_length] at hf3
    exact hf3
theorem ok_law_walk_step {n : Nat} {f : Addr} {fd : FuncData} (F : FunD K "_law_walk" "_law_walk" (defArgs s_law_walk) (defBody s_law_walk) (defScope s_law_walk) [] [] f fd) (hm : mg "_law_walk" = some (.ref f)) (T : Top K mg)
    (D_law_parts : Def P w K mg base "_law_parts" 1 ["_law_word"] (spPartsL K)) (D_law_walk : Def P w K mg base "_law_walk" (n + 1) ["_law_word"] (spWalked K n)) : Def P w K mg base "_law_walk" (n + 2) ["_law_word"] (spWalked K (n + 1)) := by
  refine def_mk F hm (F.bindsN fun _ _ _ _ _ _ us hl => match us, hl with | [_], _ => rfl) sc_law_walk (fun vs H Q E h => ?_) (fun cdv A outer s H vs Q E hr h => ?_)
  · obtain ⟨v, d, m, rfl, _⟩ := h
    rfl
  obtain ⟨v, d, m, rfl, hd, hdr, hmn, hn10, q⟩ := h
  refine ⟨_, (pss_cons (ps_set (i := 1) sc_law_walk.nd rfl (Or.inl rfl) (pe_lst (pa_cons (pv 0) pa_nil)))
  (pss_cons (ps_for PassesOwn.never rfl (pi_listK K (pe_def D_law_parts hr (by first | decide | omega) (pa_cons (pv 0) pa_nil))) (pg_name (i := 2) sc_law_walk.nd rfl (Or.inl rfl) (.inl rfl))
  (pss_one (ps_set (i := 1) sc_law_walk.nd rfl (Or.inl rfl) (pe_op op_cat (pv 1) (pe_def D_law_walk hr (by first | decide | omega) (pa_cons (pv 2) pa_nil))))))
  (pss_one (ps_ret (pv 1))))), ?_⟩
  refine ⟨_, rfl, (by show 1 ≤ sizeLine; decide), fun p0 hp0 => ?_⟩
  have e1 := same_new hp0 (.lst [v])
  have hd1 := hd.up (Same.T e1)
  refine ⟨_, rfl, v, d, m, rfl, hd1, hdr, fun t us H2 e2 ht0 ht2 hu2 => ?_⟩
  refine ⟨t, rfl, ⟨us, SqL.of ht2⟩, ?_⟩
  obtain ⟨j, ew, hj, hmj⟩ := walk_parts hdr
  have hul := hu2.len
  have hpl := parts_len hdr
  have wl := walk_len hdr
  refine for_list (xs := us) (fun i σ H' => ∃ (p : Addr) (fs : List V) (o : Option V), σ = [some v, some (.ref p), o] ∧ H p = none ∧ Same H H' ∧ H' p = some (.lst fs) ∧ H' t = some (.lst us) ∧ TpAll K H' us (partsD d) ∧ TpAll K H' fs (d :: ((partsD d).take i).flatMap (walkD (j + 1))))
    ⟨p0, [v], none, rfl, hp0, e1.trans e2, e2 _ _ upd_same, ht2, hu2, .cons (hd1.up (Same.T e2)) .nil⟩ (fun i σ H' _ ⟨p, fs, o, _, _, _, _, ht, _⟩ => SqL.of ht) ?_ ?_
  · rintro i x σ H' hx ⟨p, fs, o, rfl, hp, e3, hp3, ht3, hu3, hf3⟩
    obtain ⟨y, hy1, hy2⟩ := hu3.get hx
    have hyd := hj y (List.mem_of_getElem? hy1)
    have hjn : j < n := by
      rcases hmj with ⟨hm0, _⟩ | hm1
      · subst hm0
        rw [parts0 hdr] at hy1
        cases hy1
      · omega
    refine ⟨_, rfl, _, rfl, x, y, j, rfl, hy2, hyd, hjn, by omega, fun r rs H4 e4 hr0 hr4 hrs => ?_⟩
    have lf := hf3.len
    have lr := hrs.len
    have wr := walk_len hyd
    have pj : 4 ^ j ≤ 4 ^ 8 := Nat.pow_le_pow_right (by decide) (by omega)
    refine ⟨p, r, fs, rs, rfl, rfl, e4 _ _ hp3, hr4, ?_, fun p2 hp2 => ?_⟩
    · have h1 := flat_le (f := walkD (j + 1)) (B := 2 * 4 ^ 8) (l := (partsD d).take i) (fun p hp => by
        have := walk_len (hj p (List.mem_of_mem_take hp))
        omega)
      have h2 : ((partsD d).take i).length ≤ 4 := by
        rw [List.length_take]
        omega
      have h3 : ((partsD d).take i).length * (2 * 4 ^ 8) ≤ 4 * (2 * 4 ^ 8) := Nat.mul_le_mul_right _ h2
      rw [List.length_cons] at lf
      refine Nat.le_trans ?_ (show 5 * (2 * 4 ^ 8) + 1 ≤ sizeLine by decide +kernel)
      omega
    have e5 := same_new hp2 (.lst (fs ++ rs))
    have e35 := e3.trans (e4.trans e5)
    have hn2 : H p2 = none := by
      cases e : H p2 with
      | none => rfl
      | some u =>
        rw [(e3.trans e4) _ _ e] at hp2
        cases hp2
    refine ⟨p2, fs ++ rs, _, rfl, hn2, e35, upd_same, e5 _ _ (e4 _ _ ht3), hu3.up (Same.T (e4.trans e5)), ?_⟩
    rw [flat_take hy1]
    exact TpAll.app (vs := fs) (ws := rs) (hf3.up (Same.T (e4.trans e5))) (hrs.up (Same.T e5))
  · rintro σ H' ⟨p, fs, o, rfl, hp, e3, hp3, ht3, hu3, hf3⟩
    refine ⟨_, rfl, q p fs H' e3 hp hp3 ?_⟩
    rw [ew]
    rw [hul, List.take_length] at hf3
    exact hf3
end
end FF
namespace FF
open PySem PySem.Spec PyProof.Rows L2
def turnD : Nat → PyData → PyData
  | 0, d => d
  | n + 1, d => match d with
    | .tuple (.str o :: ps) => .tuple (.str (if V.str o = V.str ("&" : Str) then ("|" : Str) else ("&" : Str)) :: ps.map (turnD n))
    | d => d
def spTurn (K : PySem.W.Frag) (n : Nat) : Sp := fun vs H Q _ => ∃ (v : V) (d : PyData) (m : Nat), vs = [v] ∧ Tp K H v d ∧ Drawn m d ∧ m < n ∧ ∀ v' H', Same H H' → Tp K H' v' (turnD (m + 1) d) → Q v' H'
/-- the table's entries are terms -/
def TabR (K : PySem.W.Frag) (H : Hp) (kvs : List (Key × V)) (tm : Str → Option PyData) : Prop := ∀ z, (valV kvs (.inr z) = none ∧ tm z = none) ∨ ∃ v d, valV kvs (.inr z) = some v ∧ tm z = some d ∧ Tp K H v d
theorem TabR.up {K : PySem.W.Frag} {H H' : Hp} {kvs : List (Key × V)} {tm : Str → Option PyData} (h : TabR K H kvs tm) (e : Same H H') : TabR K H' kvs tm := fun z => (h z).imp id fun ⟨v, d, h1, h2, h3⟩ => ⟨v, d, h1, h2, h3.up (Same.T e)⟩
theorem tpa_of {K : PySem.W.Frag} {H : Hp} {f : PyData → PyData} : ∀ {ys : List V} {ps : List PyData}, ys.length = ps.length → (∀ (i : Nat) (y : V), ys[i]? = some y → ∃ d, ps[i]? = some d ∧ Tp K H y (f d)) → TpAll K H ys (ps.map f)
  | [], [], _, _ => .nil
  | y :: ys, p :: ps, hl, h => by
    obtain ⟨d, e, t⟩ := h 0 y rfl
    cases e
    exact .cons t (tpa_of (Nat.succ.inj hl) fun i z hz => h (i + 1) z hz)
section
variable {P : Program} {w : World} {K : PySem.W.Frag} {mg : Str → Option Value} {base : Heap}
theorem ok_turned_in_step {n : Nat} {f : Addr} {fd : FuncData} (F : FunD K "turned_in" "turned_in" (defArgs s_turned_in) (defBody s_turned_in) (defScope s_turned_in) [] [] f fd) (hm : mg "turned_in" = some (.ref f)) (T : Top K mg)
    (D_turned_in : Def P w K mg base "turned_in" n ["term"] (spTurn K n)) : Def P w K mg base "turned_in" (n + 1) ["term"] (spTurn K (n + 1)) := by
  refine def_mk F hm (F.bindsN fun _ _ _ _ _ _ us hl => match us, hl with | [_], _ => rfl) sc_turned_in (fun vs H Q E h => ?_) (fun cdv A outer s H vs Q E hr h => ?_)
  · obtain ⟨v, d, m, rfl, _⟩ := h
    rfl
  obtain ⟨v, d, m, rfl, hd, hdr, hmn, q⟩ := h
  refine ⟨_, (pss_cons (ps_if (pt_val (pe_callB (call_isK K kb_str) (by rfl) T.b_isinstance (by decide +kernel) (pa_cons (pv 0) (pa_cons (pe_bltn (v := .ty "str") (by rfl) T.b_str (by decide +kernel) rfl) pa_nil))))
  (pss_one (ps_ret (pv 0)))
  pss_nil)
  (pss_cons (ps_set (i := 1) sc_turned_in.nd rfl (Or.inl rfl) (pe_ifExp (pt_cmpR op_eq (pe_ix (ix_tupK K) (pv 0) pe_int (fun _ _ => rfl)) pe_str (nomark _)) pe_str pe_str))
  (pss_one (ps_ret (pe_tup (pa_cons (pv 1) (StX.pa_star (pe_lc (own := [("part", 2)]) rfl sc_turned_in.nd (pi_tupK K (pe_slice (sl_tupK K) (pv 0) (po_some pe_int) po_none)) (blkOk_by (by kernel_rfl)) (fun _ _ _ _ _ => (pg_name (i := 2) sc_turned_in.nd rfl (Or.inl rfl) (.inr rfl))) (fun _ _ _ _ _ => pts_nil) (fun _ _ _ _ _ => (pe_def D_turned_in hr (by first | decide | omega) (pa_cons (pv 2) pa_nil)))) pa_nil))))))), ?_⟩
  refine ⟨_, rfl, v, d, rfl, hd.dp, _, rfl, ?_⟩
  rcases drawn_shape hdr with ⟨z, rfl, _⟩ | ⟨o, ps, k, rfl, ho, l2, l4, rfl, hps⟩
  · exact ⟨_, rfl, q v H (Same.refl H) hd⟩
  cases hd with
  | tup ht ha =>
  cases ha with
  | @cons vo vr _ _ hvo hvr =>
  rename_i a
  cases hvo with
  | str o =>
  refine iteF ?_
  have ev : turnD (k + 1 + 1) (.tuple (.str o :: ps)) = .tuple (.str (if V.str o = V.str ("&" : Str) then ("|" : Str) else ("&" : Str)) :: ps.map (turnD (k + 1))) := rfl
  rw [ev] at q
  refine ⟨_, rfl, a, _, _, _, rfl, rfl, ht.sqT, at0, rfl, _, rfl, ?_⟩
  refine if_dec (fun h => ?_) (fun h => ?_)
  · rw [if_pos h] at q
    refine ⟨_, rfl, _, rfl, _, rfl, a, _, rfl, ht.sqT, notWhole1, fun p hp0 => ⟨p, rfl, ⟨_, SqT.of upd_same⟩, fun D hD => ?_⟩⟩
    rw [cut1] at hD ⊢
    have e1 := (Same.refl H).trans (same_new hp0 (.tup vr))
    have lr := hvr.len
    refine lc_mapT (j := 2) (fun i u H' => ∃ d, ps[i]? = some d ∧ Tp K H' u (turnD (k + 1) d)) (fun i y _ _ e ⟨d, h1, h2⟩ => ⟨d, h1, h2.up e⟩) hD (SqT.of upd_same) (le_line (by omega)) (fun _ => rfl) ?_ ?_
    · intro i x H2 hx e2 Q' k'
      obtain ⟨d, hd1, hd2⟩ := tpa_get hvr hx
      exact ⟨_, rfl, x, d, k, rfl, (hd2.up (Same.T e1)).up (Same.T e2), hps d (List.mem_of_getElem? hd1), by omega, fun v' H3 e3 ht3 => k' _ _ e3 ⟨d, hd1, ht3⟩⟩
    intro H2 ys e2 hD2 hl2 hy
    have hps2 := tpa_of (f := turnD (k + 1)) (hl2.trans lr) hy
    refine ⟨D, ys, rfl, .inr (SqL.of hD2), le_line (by simp; omega), fun t ht2 => ?_⟩
    rw [List.append_nil]
    exact q _ _ (e1.trans (e2.trans (same_new ht2 _))) (.tup (.inl upd_same) (.cons (.str _) (hps2.up (Same.T (same_new ht2 _)))))
  · rw [if_neg h] at q
    refine ⟨_, rfl, _, rfl, _, rfl, a, _, rfl, ht.sqT, notWhole1, fun p hp0 => ⟨p, rfl, ⟨_, SqT.of upd_same⟩, fun D hD => ?_⟩⟩
    rw [cut1] at hD ⊢
    have e1 := (Same.refl H).trans (same_new hp0 (.tup vr))
    have lr := hvr.len
    refine lc_mapT (j := 2) (fun i u H' => ∃ d, ps[i]? = some d ∧ Tp K H' u (turnD (k + 1) d)) (fun i y _ _ e ⟨d, h1, h2⟩ => ⟨d, h1, h2.up e⟩) hD (SqT.of upd_same) (le_line (by omega)) (fun _ => rfl) ?_ ?_
    · intro i x H2 hx e2 Q' k'
      obtain ⟨d, hd1, hd2⟩ := tpa_get hvr hx
      exact ⟨_, rfl, x, d, k, rfl, (hd2.up (Same.T e1)).up (Same.T e2), hps d (List.mem_of_getElem? hd1), by omega, fun v' H3 e3 ht3 => k' _ _ e3 ⟨d, hd1, ht3⟩⟩
    intro H2 ys e2 hD2 hl2 hy
    have hps2 := tpa_of (f := turnD (k + 1)) (hl2.trans lr) hy
    refine ⟨D, ys, rfl, .inr (SqL.of hD2), le_line (by simp; omega), fun t ht2 => ?_⟩
    rw [List.append_nil]
    exact q _ _ (e1.trans (e2.trans (same_new ht2 _))) (.tup (.inl upd_same) (.cons (.str _) (hps2.up (Same.T (same_new ht2 _)))))
theorem ok_law_turned_step {n : Nat} {f : Addr} {fd : FuncData} (F : FunD K "_law_turned" "_law_turned" (defArgs s_law_turned) (defBody s_law_turned) (defScope s_law_turned) [] [] f fd) (hm : mg "_law_turned" = some (.ref f)) (T : Top K mg)
    (D_law_turned : Def P w K mg base "_law_turned" n ["_law_word"] (spTurn K n)) : Def P w K mg base "_law_turned" (n + 1) ["_law_word"] (spTurn K (n + 1)) := by
  refine def_mk F hm (F.bindsN fun _ _ _ _ _ _ us hl => match us, hl with | [_], _ => rfl) sc_law_turned (fun vs H Q E h => ?_) (fun cdv A outer s H vs Q E hr h => ?_)
  · obtain ⟨v, d, m, rfl, _⟩ := h
    rfl
  obtain ⟨v, d, m, rfl, hd, hdr, hmn, q⟩ := h
  refine ⟨_, (pss_cons (ps_if (pt_val (pe_callB (call_isK K kb_str) (by rfl) T.b_isinstance (by decide +kernel) (pa_cons (pv 0) (pa_cons (pe_bltn (v := .ty "str") (by rfl) T.b_str (by decide +kernel) rfl) pa_nil))))
  (pss_one (ps_ret (pv 0)))
  pss_nil)
  (pss_one (ps_ret (pe_callTy (call_tuple_ofK K) (by rfl) T.b_tuple (by decide +kernel) (pa_cons (pe_op op_cat (pe_lst (pa_cons (pe_ix (ix_listK K) (pe_lst (pa_cons pe_str (pa_cons pe_str pa_nil))) (pe_callTy call_int1 (by rfl) T.b_int (by decide +kernel) (pa_cons (pe_cmpR op_eq (pe_ix (ix_tupK K) (pv 0) pe_int (fun _ _ => rfl)) pe_str (nomark _)) pa_nil)) (fun _ _ => rfl)) pa_nil)) (pe_lc (own := [("_law_one", 1)]) rfl sc_law_turned.nd (pi_tupK K (pe_slice (sl_tupK K) (pv 0) (po_some pe_int) po_none)) (blkOk_by (by kernel_rfl)) (fun _ _ _ _ _ => (pg_name (i := 1) sc_law_turned.nd rfl (Or.inl rfl) (.inr rfl))) (fun _ _ _ _ _ => pts_nil) (fun _ _ _ _ _ => (pe_def D_law_turned hr (by first | decide | omega) (pa_cons (pv 1) pa_nil))))) pa_nil))))), ?_⟩
  refine ⟨_, rfl, v, d, rfl, hd.dp, _, rfl, ?_⟩
  rcases drawn_shape hdr with ⟨z, rfl, _⟩ | ⟨o, ps, k, rfl, ho, l2, l4, rfl, hps⟩
  · exact ⟨_, rfl, q v H (Same.refl H) hd⟩
  cases hd with
  | tup ht ha =>
  cases ha with
  | @cons vo vr _ _ hvo hvr =>
  rename_i a
  cases hvo with
  | str o =>
  refine iteF ?_
  have ev : turnD (k + 1 + 1) (.tuple (.str o :: ps)) = .tuple (.str (if V.str o = V.str ("&" : Str) then ("|" : Str) else ("&" : Str)) :: ps.map (turnD (k + 1))) := rfl
  rw [ev] at q
  refine ⟨(by show 2 ≤ sizeLine; decide), fun pa hpa => ?_⟩
  have ea := same_new hpa (.lst [.str ("&" : Str), .str ("|" : Str)])
  refine ⟨_, rfl, a, _, _, _, rfl, rfl, up_t ea ht.sqT, at0, rfl, .inr ⟨_, rfl, pa, _, _, .str (if V.str o = V.str ("&" : Str) then ("|" : Str) else ("&" : Str)), rfl, rfl, SqL.of upd_same, ?_, (by show 1 ≤ sizeLine; decide), fun pb hpb => ?_⟩⟩
  · by_cases h : V.str o = V.str ("&" : Str)
    · rw [decide_eq_true h, if_pos rfl, if_pos h]
      exact atI_nat (j := 1) rfl
    · rw [decide_eq_false h, if_neg (by decide), if_neg h]
      exact atI_nat (j := 0) rfl
  generalize (if V.str o = V.str ("&" : Str) then ("|" : Str) else ("&" : Str)) = op at q hpb ⊢
  have eb := ea.trans (same_new hpb (.lst [.str op]))
  refine ⟨_, rfl, _, rfl, a, _, rfl, up_t eb ht.sqT, notWhole1, fun p hp0 => ⟨p, rfl, ⟨_, SqT.of upd_same⟩, fun D hD => ?_⟩⟩
  rw [cut1] at hD ⊢
  have e1 := eb.trans (same_new hp0 (.tup vr))
  have lr := hvr.len
  refine lc_mapT (j := 1) (fun i u H' => ∃ d, ps[i]? = some d ∧ Tp K H' u (turnD (k + 1) d)) (fun i y _ _ e ⟨d, h1, h2⟩ => ⟨d, h1, h2.up e⟩) hD (SqT.of upd_same) (le_line (by omega)) (fun _ => rfl) ?_ ?_
  · intro i x H2 hx e2 Q' k'
    obtain ⟨d, hd1, hd2⟩ := tpa_get hvr hx
    exact ⟨_, rfl, x, d, k, rfl, (hd2.up (Same.T e1)).up (Same.T e2), hps d (List.mem_of_getElem? hd1), by omega, fun v' H3 e3 ht3 => k' _ _ e3 ⟨d, hd1, ht3⟩⟩
  intro H2 ys e2 hD2 hl2 hy
  have hps2 := tpa_of (f := turnD (k + 1)) (hl2.trans lr) hy
  refine ⟨pb, D, _, _, rfl, rfl, e2 _ _ ((same_new hp0 (.tup vr)) _ _ upd_same), hD2, le_line (by rw [List.length_singleton]; omega), fun p3 hp3 => ?_⟩
  have e4 := same_new hp3 (.lst ([.str op] ++ ys))
  refine ⟨p3, _, rfl, .inl ⟨SqL.of upd_same, fun p4 hp4 => ?_⟩⟩
  have e5 := same_new hp4 (.tup ([.str op] ++ ys))
  exact q _ _ (e1.trans (e2.trans (e4.trans e5))) (.tup (.inl upd_same) (.cons (.str _) ((hps2.up (Same.T e4)).up (Same.T e5))))
end
end FF
/-! terms: depth, leaves, letters, without repetitions (plain) -/
namespace FF
open PySem PySem.Spec PyProof.Rows L2
theorem cnt_flat {g : PyData → List PyData} {f : PyData → Int} : ∀ {l : List PyData}, (∀ p ∈ l, ((g p).length : Int) + 1 ≤ 2 * f p) → ((l.flatMap g).length : Int) + l.length ≤ 2 * (l.map f).sum
  | [], _ => by simp
  | x :: r, h => by
    have h1 := cnt_flat (l := r) fun p hp => h p (List.mem_cons_of_mem _ hp)
    have h2 := h x List.mem_cons_self
    rw [List.flatMap_cons, List.length_append, List.map_cons, List.sum_cons, List.length_cons]
    omega
theorem meas_tup {o : PyData} {ps : List PyData} {k : Nat} (hk : 0 < k) (ho : isOp o = true) (h2 : 2 ≤ ps.length) (hn : ∀ p ∈ ps, 1 ≤ meas k p) : meas (k + 1) (.tuple (o :: ps)) = (ps.map (meas k)).sum := by
  rw [meas_up tup_let hk]
  have h0 : (0 : Int) ∉ ps.map (meas k) := fun z => by
    obtain ⟨p, hp, e⟩ := List.mem_map.mp z
    have := hn p hp
    omega
  match ps, h2, h0 with
  | y :: z :: r, _, h0 =>
    show (if isOp o = true then (if (0 : Int) ∈ ((y :: z :: r).map (meas k)) then 0 else ((y :: z :: r).map (meas k)).sum) else 0) = _
    rw [if_pos ho, if_neg h0]
theorem walk_cnt : ∀ {n : Nat} {d : PyData}, Drawn n d → ∀ m, n < m → ((walkD (n + 1) d).length : Int) + 1 ≤ 2 * meas m d
  | 0, d, h, m, hm => by
    rw [walk_zero h, meas_let (show isLet d = true from h), if_pos (by omega)]
    simp
  | n + 1, d, h, m, hm => by
    rcases h with h | ⟨o, ps, rfl, ho, h2, h4, hp⟩
    · rw [walk_step, let_parts h, meas_let h, if_pos (by omega)]
      simp
    obtain ⟨k, rfl⟩ : ∃ k, m = k + 1 := ⟨m - 1, by omega⟩
    rw [meas_tup (by omega) ho h2 fun p hpp => (meas_drawn (hp p hpp) k (by omega)).1, walk_step]
    have := cnt_flat (g := walkD (n + 1)) (f := meas k) (l := ps) fun p hpp => walk_cnt (hp p hpp) k (by omega)
    show (((.tuple (o :: ps) : PyData) :: ps.flatMap (walkD (n + 1))).length : Int) + 1 ≤ _
    rw [List.length_cons]
    omega
/-- the number of letters -/
def leaD : Nat → PyData → Int
  | 0, _ => 0
  | n + 1, d => if isLet d = true then 1 else ((partsD d).map (leaD n)).sum
/-- the texts among values -/
def strsOf (ds : List PyData) : List Str := ds.filterMap fun d => match d with
  | .str z => some z
  | _ => none
def dedS : List Str → List Str
  | [] => []
  | z :: zs => if z ∈ zs then dedS zs else z :: dedS zs
theorem dedS_mem {k : Str} : ∀ {zs : List Str}, k ∈ dedS zs ↔ k ∈ zs
  | [] => Iff.rfl
  | z :: zs => by
    unfold dedS
    split
    · rename_i h
      rw [dedS_mem, List.mem_cons]
      exact ⟨.inr, fun q => q.elim (fun e => e ▸ h) id⟩
    · rw [List.mem_cons, List.mem_cons, dedS_mem]
theorem dedS_nodup : ∀ (zs : List Str), (dedS zs).Nodup
  | [] => List.nodup_nil
  | z :: zs => by
    unfold dedS
    split
    · exact dedS_nodup zs
    · rename_i h
      exact List.nodup_cons.mpr ⟨fun q => h (dedS_mem.mp q), dedS_nodup zs⟩
/-- sorted(set(zs)) -/
def setS (zs : List Str) : List Str := sortT (dedS zs)
theorem setS_of {ys zs : List Str} (nd : ys.Nodup) (hm : ∀ k, k ∈ ys ↔ k ∈ zs) (hs : sortedS ys = true) : ys = setS zs :=
  sort_eq ((List.perm_ext_iff_of_nodup nd (dedS_nodup zs)).mpr fun k => (hm k).trans dedS_mem.symm) hs
end FF
/-! depth_in, letters_in, without_repeats, walk and the law's twins -/
namespace FF
open PySem PySem.Spec PyProof.Rows L2
def spInt (K : PySem.W.Frag) (f : Nat → PyData → Int) (n : Nat) : Sp := fun vs H Q _ => ∃ (v : V) (d : PyData) (m : Nat), vs = [v] ∧ Tp K H v d ∧ Drawn m d ∧ m < n ∧ ∀ H', Same H H' → Q (.int (f (m + 1) d)) H'
theorem lea_tup {o : Str} {ps : List PyData} {k : Nat} : leaD (k + 2) (.tuple (.str o :: ps)) = (ps.map (leaD (k + 1))).sum := by
  show (if isLet (.tuple (.str o :: ps)) = true then (1 : Int) else (ps.map (leaD (k + 1))).sum) = _
  rw [if_neg (by rw [tup_let]; decide)]
section
variable {P : Program} {w : World} {K : PySem.W.Frag} {mg : Str → Option Value} {base : Heap}
theorem ok_lawlea_step {n : Nat} {f : Addr} {fd : FuncData} (F : FunD K "_law_leaves" "_law_leaves" (defArgs s_law_leaves) (defBody s_law_leaves) (defScope s_law_leaves) [] [] f fd) (hm : mg "_law_leaves" = some (.ref f)) (T : Top K mg)
    (D_law_leaves : Def P w K mg base "_law_leaves" (n + 1) ["_law_word"] (spInt K leaD n)) : Def P w K mg base "_law_leaves" (n + 2) ["_law_word"] (spInt K leaD (n + 1)) := by
  refine def_mk F hm (F.bindsN fun _ _ _ _ _ _ us hl => match us, hl with | [_], _ => rfl) sc_law_leaves (fun vs H Q E h => ?_) (fun cdv A outer s H vs Q E hr h => ?_)
  · obtain ⟨v, d, m, rfl, _⟩ := h
    rfl
  obtain ⟨v, d, m, rfl, hd, hdr, hmn, q⟩ := h
  refine ⟨_, (pss_one (ps_ret (pe_ifExp (pt_val (pe_callB (call_isK K kb_str) (by rfl) T.b_isinstance (by decide +kernel) (pa_cons (pv 0) (pa_cons (pe_bltn (v := .ty "str") (by rfl) T.b_str (by decide +kernel) rfl) pa_nil)))) pe_int (pe_callB (cr_sumK K rfl) (by rfl) T.b_sum (by decide +kernel) (pa_cons (pe_lc (own := [("_law_one", 1)]) rfl sc_law_leaves.nd (pi_tupK K (pe_slice (sl_tupK K) (pv 0) (po_some pe_int) po_none)) (blkOk_by (by kernel_rfl)) (fun _ _ _ _ _ => (pg_name (i := 1) sc_law_leaves.nd rfl (Or.inl rfl) (.inr rfl))) (fun _ _ _ _ _ => pts_nil) (fun _ _ _ _ _ => (pe_def D_law_leaves hr (by first | decide | omega) (pa_cons (pv 1) pa_nil)))) pa_nil))))), ?_⟩
  refine ⟨_, rfl, v, d, rfl, hd.dp, _, rfl, ?_⟩
  rcases drawn_shape hdr with ⟨z, rfl, hz⟩ | ⟨o, ps, k, rfl, ho, l2, l4, rfl, hps⟩
  · refine iteT ?_
    have := q H (Same.refl H)
    rw [show leaD (m + 1) (.str z) = 1 from if_pos hz] at this
    exact this
  cases hd with
  | tup ht ha =>
  cases ha with
  | @cons vo vr _ _ hvo hvr =>
  rename_i a
  refine iteF ⟨_, rfl, _, rfl, a, _, rfl, ht.sqT, notWhole1, fun p hp0 => ?_⟩
  rw [cut1]
  have e1 := same_new hp0 (.tup vr)
  have hp1 : (upd H p (.tup vr)) p = some (.tup vr) := upd_same
  generalize upd H p (.tup vr) = H1 at e1 hp1 ⊢
  refine ⟨p, rfl, ⟨vr, SqT.of hp1⟩, fun D hD => ?_⟩
  have hvl := hvr.len
  refine lc_mapT (xs := vr) (j := 1) (fun i u _ => ∃ y, ps[i]? = some y ∧ u = .int (leaD (k + 1) y)) (fun _ _ _ _ _ h => h) hD (SqT.of hp1) (le_line (by omega)) (fun _ => rfl) ?_ ?_
  · intro i u H3 hu e3 Q' k'
    obtain ⟨y, hy, hyt⟩ := hvr.get hu
    exact ⟨_, rfl, u, y, k, rfl, hyt.up (Same.T (e1.trans e3)), hps y (List.mem_of_getElem? hy), by omega, fun H' e' => k' _ _ e' ⟨y, hy, rfl⟩⟩
  · intro H3 ys e3 hD3 hyl hy
    have hys : ys = (ps.map (leaD (k + 1))).map V.int := by
      rw [List.map_map]
      exact eq_map_of (by rw [hyl, hvl]) fun i y h => hy i y h
    subst hys
    have := q H3 (e1.trans e3)
    rw [lea_tup] at this
    exact ⟨D, _, rfl, SqL.of hD3, this⟩
end
end FF
/-! letters_in, without_repeats, the law's letters and _law_once -/
namespace FF
open PySem PySem.Spec PyProof.Rows L2
def lettersT (m : Nat) (d : PyData) : List Str := setS (strsOf (walkD (m + 1) d))
def spLets (K : PySem.W.Frag) : Sp := fun vs H Q _ => ∃ (v : V) (d : PyData) (m : Nat), vs = [v] ∧ Tp K H v d ∧ Drawn m d ∧ m ≤ 8 ∧ meas 9 d ≤ 400 ∧ ∀ p H', Same H H' → H p = none → H' p = some (.lst ((lettersT m d).map V.str)) → Q (.ref p) H'
theorem strsOf_mem {ds : List PyData} {k : Str} : k ∈ strsOf ds ↔ PyData.str k ∈ ds := by
  unfold strsOf
  rw [List.mem_filterMap]
  constructor
  · rintro ⟨d, hd, e⟩
    cases d with
    | str z => rw [Option.some.inj e] at hd; exact hd
    | _ => cases e
  · exact fun h => ⟨_, h, rfl⟩
def strO : PyData → Option Str
  | .str z => some z
  | _ => none
theorem isStr_strO {v : V} {d : PyData} {K : PySem.W.Frag} {H : Hp} (h : Dp K H v d) (hz : ∃ z, strO d = some z) : ∃ z, v = .str z ∧ strO d = some z := by
  obtain ⟨z, e⟩ := hz
  cases h with
  | str y => exact ⟨y, rfl, rfl⟩
  | _ => cases e
def isSV : V → Bool
  | .str _ => true
  | _ => false
theorem isSV_dp {K : PySem.W.Frag} {H : Hp} {v : V} {d : PyData} (h : Dp K H v d) : isSV v = (strO d).isSome := by cases h <;> rfl
theorem filt_strs {K : PySem.W.Frag} {H : Hp} : ∀ {us : List V} {ds : List PyData}, TpAll K H us ds → us.filter isSV = (strsOf ds).map V.str
  | _, _, .nil => rfl
  | _, _, .cons (v := v) (d := d) h t => by
    have ih := filt_strs t
    have hd := h.dp
    cases hd with
    | str z =>
      rw [List.filter_cons_of_pos rfl, ih]
      rfl
    | _ =>
      rw [List.filter_cons_of_neg (by simp [isSV]), ih]
      rfl
section
variable {P : Program} {w : World} {K : PySem.W.Frag} {mg : Str → Option Value} {base : Heap}
theorem ok_letters_in {f : Addr} {fd : FuncData} (F : FunD K "letters_in" "letters_in" (defArgs s_letters_in) (defBody s_letters_in) (defScope s_letters_in) [] [] f fd) (hm : mg "letters_in" = some (.ref f)) (T : Top K mg)
    (D_walked : Def P w K mg base "walked" 11 ["term"] (spWalked K 10)) : Def P w K mg base "letters_in" 12 ["term"] (spLets K) := by
  refine def_mk F hm (F.bindsN fun _ _ _ _ _ _ us hl => match us, hl with | [_], _ => rfl) sc_letters_in (fun vs H Q E h => ?_) (fun cdv A outer s H vs Q E hr h => ?_)
  · obtain ⟨v, d, m, rfl, _⟩ := h
    rfl
  obtain ⟨v, d, m, rfl, hd, hdr, hm8, h400, q⟩ := h
  refine ⟨_, (pss_one (ps_ret (pe_callB (cr_sortedT rfl) (by rfl) T.b_sorted (by decide +kernel) (pa_cons (pe_scF (txtF P w) (own := [("one", 1)]) rfl sc_letters_in.nd (pi_listK K (pe_def D_walked hr (by first | decide | omega) (pa_cons (pv 0) pa_nil))) (blkOk_by (by kernel_rfl)) (fun _ _ _ _ _ => (pg_name (i := 1) sc_letters_in.nd rfl (Or.inl rfl) (.inr rfl))) (fun _ _ _ _ _ => (pts_one (pt_val (pe_callB (call_isK K kb_str) (by rfl) T.b_isinstance (by decide +kernel) (pa_cons (pv 1) (pa_cons (pe_bltn (v := .ty "str") (by rfl) T.b_str (by decide +kernel) rfl) pa_nil)))))) (fun _ _ _ _ _ => (pv 1))) pa_nil)))), ?_⟩
  refine ⟨_, rfl, v, d, m, rfl, hd, hdr, by omega, by decide, fun t us H2 e2 ht0 ht2 hu2 => ⟨t, rfl, ⟨us, SqL.of ht2⟩, fun D hD => ?_⟩⟩
  have hul := hu2.len
  have wc := walk_cnt hdr 9 (by omega)
  refine sc_lst (xs := us) (j := 1) (fun i => ((walkD (m + 1) d)[i]?).bind strO) hD (SqL.of ht2) (by unfold scanBound; omega) (fun _ => rfl) ?_ ?_ ?_
  · intro i x H3 hx e3 Qb k
    obtain ⟨y, hy, hyt⟩ := hu2.get hx
    refine ⟨_, rfl, x, y, rfl, (hyt.up (Same.T e3)).dp, ?_⟩
    have := k H3 (Same.refl _)
    rw [hy] at this
    cases y <;> exact ⟨_, rfl, this⟩
  · intro i x z H3 hx hf e3 Q' k
    obtain ⟨y, hy, hyt⟩ := hu2.get hx
    rw [hy] at hf
    obtain ⟨z2, rfl, e⟩ := isStr_strO hyt.dp ⟨z, hf⟩
    rw [show strO y = some z from hf] at e
    cases e
    exact ⟨_, rfl, k H3 (Same.refl _)⟩
  · intro H3 S n e3 hD3 hn hS
    refine ⟨D, S, n, rfl, hD3, fun ys p nd hmem hl hs hp => ?_⟩
    have ey : ys = lettersT m d := setS_of nd (fun k => by
      rw [hmem k, hS k, strsOf_mem, List.mem_iff_getElem?]
      constructor
      · rintro ⟨i, hi, q⟩
        cases hw : (walkD (m + 1) d)[i]? with
        | none => rw [hw] at q; cases q
        | some y =>
          rw [hw] at q
          cases y with
          | str z => exact ⟨i, by rw [hw, show z = k from Option.some.inj q]⟩
          | _ => cases q
      · rintro ⟨i, q⟩
        refine ⟨i, by have := (List.getElem?_eq_some_iff.mp q).1; omega, by rw [q] <;> rfl⟩) hs
    subst ey
    exact q p _ (e2.trans (e3.trans (same_new hp _))) (by
      cases e : H p with
      | none => rfl
      | some u => rw [e3 _ _ (e2 _ _ e)] at hp; cases hp) upd_same
theorem ok_signs_in {f : Addr} {fd : FuncData} (F : FunD K "_law_signs_in" "_law_signs_in" (defArgs s_law_signs_in) (defBody s_law_signs_in) (defScope s_law_signs_in) [] [] f fd) (hm : mg "_law_signs_in" = some (.ref f)) (T : Top K mg)
    (D_law_walk : Def P w K mg base "_law_walk" 11 ["_law_word"] (spWalked K 10)) : Def P w K mg base "_law_signs_in" 12 ["_law_word"] (spLets K) := by
  refine def_mk F hm (F.bindsN fun _ _ _ _ _ _ us hl => match us, hl with | [_], _ => rfl) sc_law_signs_in (fun vs H Q E h => ?_) (fun cdv A outer s H vs Q E hr h => ?_)
  · obtain ⟨v, d, m, rfl, _⟩ := h
    rfl
  obtain ⟨v, d, m, rfl, hd, hdr, hm8, h400, q⟩ := h
  refine ⟨_, (pss_one (ps_ret (pe_callB (cr_sortedT rfl) (by rfl) T.b_sorted (by decide +kernel) (pa_cons (pe_callTy (cr_setS rfl) (by rfl) T.b_set (by decide +kernel) (pa_cons (pe_lc (own := [("_law_one", 1)]) rfl sc_law_signs_in.nd (pi_listK K (pe_def D_law_walk hr (by first | decide | omega) (pa_cons (pv 0) pa_nil))) (blkOk_by (by kernel_rfl)) (fun _ _ _ _ _ => (pg_name (i := 1) sc_law_signs_in.nd rfl (Or.inl rfl) (.inr rfl))) (fun _ _ _ _ _ => (pts_one (pt_val (pe_callB (call_isK K kb_str) (by rfl) T.b_isinstance (by decide +kernel) (pa_cons (pv 1) (pa_cons (pe_bltn (v := .ty "str") (by rfl) T.b_str (by decide +kernel) rfl) pa_nil)))))) (fun _ _ _ _ _ => (pv 1))) pa_nil)) pa_nil)))), ?_⟩
  refine ⟨_, rfl, v, d, m, rfl, hd, hdr, by omega, by decide, fun t us H2 e2 ht0 ht2 hu2 => ⟨t, rfl, ⟨us, SqL.of ht2⟩, fun D hD => ?_⟩⟩
  have hul := hu2.len
  have wc := walk_cnt hdr 9 (by omega)
  refine lc_filtW (j := 1) isSV hD (SqL.of ht2) (le_line (by omega)) (fun _ => rfl) ?_ (fun v H2 Q' k => ⟨_, rfl, k⟩) ?_
  · intro i x H3 hx e3 Qb k
    obtain ⟨y, hy, hyt⟩ := hu2.get hx
    refine ⟨_, rfl, x, y, rfl, (hyt.up (Same.T e3)).dp, ?_⟩
    have := k H3 (Same.refl _)
    rw [isSV_dp hyt.dp] at this
    cases y <;> exact ⟨_, rfl, this⟩
  · intro H3 e3 hD3
    rw [filt_strs hu2] at hD3
    have l3 : (strsOf (walkD (m + 1) d)).length ≤ 1000 := by
      have : (strsOf (walkD (m + 1) d)).length ≤ (walkD (m + 1) d).length := List.length_filterMap_le _ _
      omega
    refine ⟨D, _, rfl, SqL.of hD3, l3, fun S n hS hn => ?_⟩
    refine ⟨S, _, n, rfl, upd_same, fun ys p nd hmem hl hs hp => ?_⟩
    have ey : ys = lettersT m d := setS_of nd (fun k => by rw [hmem k, decide_eq_true_eq]) hs
    subst ey
    have e4 := e3.trans (same_new hS (SetTO w S (fun j => decide (j ∈ strsOf (walkD (m + 1) d))) n))
    exact q p _ (e2.trans (e4.trans (same_new hp _))) (by
      cases e : H p with
      | none => rfl
      | some u =>
        have h9 := (e4 _ _ (e2 _ _ e)).symm.trans hp
        cases h9) upd_same
end
end FF
/-! class Expr: __init__, term, turned, &, |, str, repr, len, in -/
namespace FF
open PySem PySem.Spec PyProof.Rows L2
/-- an expression object with the term d -/
def ObE (K : PySem.W.Frag) (H : Hp) (v : V) (d : PyData) : Prop := ∃ a dx x, v = .ref a ∧ H a = some (.ins (He.ga K "Expr") dx [("held", x)]) ∧ Tp K H x d
theorem ObE.up {K : PySem.W.Frag} {H H' : Hp} {v : V} {d : PyData} (h : ObE K H v d) (e : Same H H') : ObE K H' v d := by
  obtain ⟨a, dx, x, e1, e2, e3⟩ := h
  exact ⟨a, dx, x, e1, e _ _ e2, e3.up (Same.T e)⟩
def itE (K : PySem.W.Frag) (H : Hp) (E : XK) : Prop := ∀ dd H', Same H H' → Thr ("InvalidTerm" : Str) dd H' → E (.ref (He.ga K "InvalidTerm")) dd H'
theorem itE.up {K : PySem.W.Frag} {H H' : Hp} {E : XK} (h : itE K H E) (e : Same H H') : itE K H' E := fun dd H2 e2 t => h dd H2 (e.trans e2) t
def spExI (K : PySem.W.Frag) : Sp := fun vs H Q E => ∃ (b dx : Addr) (v : V) (d : PyData), vs = [.ref b, v] ∧ H b = some (.ins (He.ga K "Expr") dx []) ∧ Dp K H v d ∧ nice d = true ∧
  (fitsB d = true → ∀ H', SameB b H H' → H' b = some (.ins (He.ga K "Expr") dx [("held", v)]) → Q .non H') ∧ (fitsB d = false → itE K H E)
theorem ex_mk {K : PySem.W.Frag} {H : Hp} {v : V} {d : PyData} {Q : VK} {E : XK} (h : Dp K H v d) (hn : nice d = true) (q1 : fitsB d = true → ∀ b dx H', Same H H' → H' b = some (.ins (He.ga K "Expr") dx [("held", v)]) → Q (.ref b) H')
    (q2 : fitsB d = false → itE K H E) : ∀ x dx, H x = none → H dx = none → dx ≠ x → spExI K (.ref x :: ([v] ++ [])) (upd (upd H dx (.own x)) x (.ins (He.ga K "Expr") dx [])) (fun v H2 => v = .non ∧ Q (.ref x) H2) E := by
  intro x dx hx hdx hne
  have e1 : Same H (upd (upd H dx (.own x)) x (.ins (He.ga K "Expr") dx [])) := fun c o hc => by
    rw [upd_ne (ne_of_none hc hx), upd_ne (ne_of_none hc hdx)]
    exact hc
  refine ⟨x, dx, v, d, rfl, upd_same, up_d e1 h, hn, fun f H' sb hb => ⟨rfl, q1 f x dx H' (fun c o hc => ?_) hb⟩, fun f => (q2 f).up e1⟩
  exact sb c o (ne_of_none hc hx) (e1 c o hc)
section
variable {P : Program} {w : World} {K : PySem.W.Frag} {mg : Str → Option Value} {base : Heap}
theorem fn_expr_init {fd : FuncData} (F : FunD K "__init__" "Expr.__init__" (defArgs s_Expr___init__) (defBody s_Expr___init__) (defScope s_Expr___init__) [] [] (He.ma K (He.ga K "Expr") "__init__") fd) (T : Top K mg)
    (D_need_term : DefX P w K mg base "need_term" 14 ["value"] (spNeed K)) : FnOk P w K mg base (L2.CX P w) 15 (He.ma K (He.ga K "Expr") "__init__") fd ["self", "term"] (spExI K) := by
  refine FunD.ok F sc_Expr___init__ (fun vs H Q E h => ?_) (fun cdv A outer s0 H vs Q E hr h => ?_)
  · obtain ⟨b, dx, v, d, rfl, _⟩ := h
    rfl
  obtain ⟨b, dx, v, d, rfl, hb, hd, hn, q1, q2⟩ := h
  have tk : Takes (cxOf (L2.CX P w) P w K mg base ["self", "term"] "Expr.__init__" (defScope s_Expr___init__) (He.ma K (He.ga K "Expr") "__init__") cdv A outer s0 H E) (fun cls d _ H => E cls d H) := takes_of rfl rfl rfl rfl
  refine ⟨_, (pss_cons (ps_expr (pe_defx (E := E) D_need_term tk (fun _ _ _ _ h => h) hr (by first | decide | omega) (pa_cons (pv 1) pa_nil)))
  (pss_one (ps_fld (pv 0) (pv 1) rfl))), ?_⟩
  refine ⟨_, rfl, v, d, rfl, hd, hn, fun f H' e => ?_, fun f dd H' e t => q2 f dd H' e t⟩
  exact ⟨_, rfl, _, rfl, b, _, dx, _, rfl, e _ _ hb, T.k_Expr, T.n_Expr_held, (by show 0 < 1000; decide), q1 f _ ((sb_of e).tr sb_upd) upd_same⟩
/-- the property term -/
def spTermP (K : PySem.W.Frag) : Sp := fun vs H Q _ => ∃ (v : V) (d : PyData), vs = [v] ∧ ObE K H v d ∧ ∀ x, Tp K H x d → Q x H
theorem ok_term {fd : FuncData} (F : FunD K "term" "Expr.term" (defArgs s_Expr_term) (defBody s_Expr_term) (defScope s_Expr_term) [] [] (gAd K "property" "Expr" "term") fd) (T : Top K mg) : PropD P w K mg base "Expr" "term" 1 (spTermP K) := by
  refine propd_mk F (F.bindsN fun _ _ _ _ _ _ us hl => match us, hl with | [_], _ => rfl) T.k_Expr T.p_Expr_term sc_Expr_term (fun vs H Q E h => ?_) (fun cdv A outer s H vs Q E hr h => ?_)
  · obtain ⟨v, d, rfl, _⟩ := h
    rfl
  obtain ⟨v, d, rfl, ⟨a, dx, x, rfl, ha, hx⟩, q⟩ := h
  refine ⟨_, (pss_one (ps_ret (pe_fld (pv 0) rfl))), ?_⟩
  exact ⟨_, rfl, a, _, dx, _, x, rfl, ha, T.k_Expr, T.n_Expr_held, rfl, q x hx⟩
/-- turned: a new expression -/
def spTurnE (K : PySem.W.Frag) : Sp := fun vs H Q E => ∃ (v : V) (d : PyData) (m : Nat), vs = [v] ∧ ObE K H v d ∧ Drawn m d ∧ m < 8 ∧ nice (turnD (m + 1) d) = true ∧ fitsB (turnD (m + 1) d) = true ∧ ∀ v' H', Same H H' → ObE K H' v' (turnD (m + 1) d) → Q v' H'
theorem ok_turnedE {fd : FuncData} (F : FunD K "turned" "Expr.turned" (defArgs s_Expr_turned) (defBody s_Expr_turned) (defScope s_Expr_turned) [] [] (He.ma K (He.ga K "Expr") "turned") fd) (T : Top K mg)
    (M_Expr : MakeX P w K mg base "Expr" 15 ["self", "term"] (spExI K)) (D_turned_in : Def P w K mg base "turned_in" 8 ["term"] (spTurn K 8)) : MethX P w K mg base "Expr" "turned" 17 ["self"] (spTurnE K) := by
  refine methx_mk F (F.bindsN fun _ _ _ _ _ _ us hl => match us, hl with | [_], _ => rfl) T.k_Expr T.m_Expr_turned sc_Expr_turned (fun vs H Q E h => ?_) (fun cdv A outer s H vs Q E hr h tk => ?_)
  · obtain ⟨v, d, m, rfl, _⟩ := h
    rfl
  obtain ⟨v, d, m, rfl, ⟨a, dx, x, rfl, ha, hx⟩, hdr, hm, hn, hf, q⟩ := h
  refine ⟨_, (pss_one (ps_ret (pe_mkxK K (E := E) M_Expr tk (fun _ _ _ _ h => h) hr (by first | decide | omega) (pa_cons (pe_def D_turned_in hr (by first | decide | omega) (pa_cons (pe_fld (pv 0) rfl) pa_nil)) pa_nil)))), ?_⟩
  refine ⟨_, rfl, a, _, dx, _, x, rfl, ha, T.k_Expr, T.n_Expr_held, rfl, x, d, m, rfl, hx, hdr, hm, fun v' H1 e1 ht => ?_⟩
  exact ex_mk ht.dp hn (fun _ b dx H' e hb => q _ _ (e1.trans e) ⟨b, dx, _, rfl, hb, ht.up (Same.T e)⟩) (fun z => by rw [hf] at z; cases z)
/-- x & y, x | y -/
def spBinE (K : PySem.W.Frag) (o : Str) : Sp := fun vs H Q E => ∃ (v v2 : V) (d d2 : PyData), vs = [v, v2] ∧ ObE K H v d ∧ ObE K H v2 d2 ∧ nice (.tuple [.str o, d, d2]) = true ∧
  (fitsB (.tuple [.str o, d, d2]) = true → ∀ v' H', Same H H' → ObE K H' v' (.tuple [.str o, d, d2]) → Q v' H') ∧ (fitsB (.tuple [.str o, d, d2]) = false → itE K H E)
theorem ok_and {fd : FuncData} (F : FunD K "__and__" "Expr.__and__" (defArgs s_Expr___and__) (defBody s_Expr___and__) (defScope s_Expr___and__) [] [] (He.ma K (He.ga K "Expr") "__and__") fd) (T : Top K mg)
    (M_Expr : MakeX P w K mg base "Expr" 15 ["self", "term"] (spExI K)) : MethX P w K mg base "Expr" "__and__" 17 ["self", "other"] (spBinE K "&") := by
  refine methx_mk F (F.bindsN fun _ _ _ _ _ _ us hl => match us, hl with | [_, _], _ => rfl) T.k_Expr T.m_Expr___and__ sc_Expr___and__ (fun vs H Q E h => ?_) (fun cdv A outer s H vs Q E hr h tk => ?_)
  · obtain ⟨v, v2, d, d2, rfl, _⟩ := h
    rfl
  obtain ⟨v, v2, d, d2, rfl, ⟨a, dx, x, rfl, ha, hx⟩, ⟨a2, dx2, x2, rfl, ha2, hx2⟩, hn, q1, q2⟩ := h
  refine ⟨_, (pss_one (ps_ret (pe_mkxK K (E := E) M_Expr tk (fun _ _ _ _ h => h) hr (by first | decide | omega) (pa_cons (pe_tup (pa_cons pe_str (pa_cons (pe_fld (pv 0) rfl) (pa_cons (pe_fld (pv 1) rfl) pa_nil)))) pa_nil)))), ?_⟩
  refine ⟨_, rfl, a, _, dx, _, x, rfl, ha, T.k_Expr, T.n_Expr_held, rfl, _, rfl, a2, _, dx2, _, x2, rfl, ha2, T.k_Expr, T.n_Expr_held, rfl, (by show 3 ≤ sizeLine; decide), fun p hp => ?_⟩
  have e1 := same_new hp (.tup [.str "&", x, x2])
  have ht : Tp K (upd H p (.tup [.str "&", x, x2])) (.ref p) (.tuple [.str "&", d, d2]) := .tup (.inl upd_same) (.cons (.str _) (.cons (hx.up (Same.T e1)) (.cons (hx2.up (Same.T e1)) .nil)))
  exact ex_mk ht.dp hn (fun f b dx H' e hb => q1 f _ _ (e1.trans e) ⟨b, dx, _, rfl, hb, ht.up (Same.T e)⟩) (fun f => (q2 f).up e1)
theorem ok_or {fd : FuncData} (F : FunD K "__or__" "Expr.__or__" (defArgs s_Expr___or__) (defBody s_Expr___or__) (defScope s_Expr___or__) [] [] (He.ma K (He.ga K "Expr") "__or__") fd) (T : Top K mg)
    (M_Expr : MakeX P w K mg base "Expr" 15 ["self", "term"] (spExI K)) : MethX P w K mg base "Expr" "__or__" 17 ["self", "other"] (spBinE K "|") := by
  refine methx_mk F (F.bindsN fun _ _ _ _ _ _ us hl => match us, hl with | [_, _], _ => rfl) T.k_Expr T.m_Expr___or__ sc_Expr___or__ (fun vs H Q E h => ?_) (fun cdv A outer s H vs Q E hr h tk => ?_)
  · obtain ⟨v, v2, d, d2, rfl, _⟩ := h
    rfl
  obtain ⟨v, v2, d, d2, rfl, ⟨a, dx, x, rfl, ha, hx⟩, ⟨a2, dx2, x2, rfl, ha2, hx2⟩, hn, q1, q2⟩ := h
  refine ⟨_, (pss_one (ps_ret (pe_mkxK K (E := E) M_Expr tk (fun _ _ _ _ h => h) hr (by first | decide | omega) (pa_cons (pe_tup (pa_cons pe_str (pa_cons (pe_fld (pv 0) rfl) (pa_cons (pe_fld (pv 1) rfl) pa_nil)))) pa_nil)))), ?_⟩
  refine ⟨_, rfl, a, _, dx, _, x, rfl, ha, T.k_Expr, T.n_Expr_held, rfl, _, rfl, a2, _, dx2, _, x2, rfl, ha2, T.k_Expr, T.n_Expr_held, rfl, (by show 3 ≤ sizeLine; decide), fun p hp => ?_⟩
  have e1 := same_new hp (.tup [.str "|", x, x2])
  have ht : Tp K (upd H p (.tup [.str "|", x, x2])) (.ref p) (.tuple [.str "|", d, d2]) := .tup (.inl upd_same) (.cons (.str _) (.cons (hx.up (Same.T e1)) (.cons (hx2.up (Same.T e1)) .nil)))
  exact ex_mk ht.dp hn (fun f b dx H' e hb => q1 f _ _ (e1.trans e) ⟨b, dx, _, rfl, hb, ht.up (Same.T e)⟩) (fun f => (q2 f).up e1)
/-- str(x) -/
def spStrE (K : PySem.W.Frag) : Sp := fun vs H Q _ => ∃ (v : V) (d : PyData) (m : Nat), vs = [v] ∧ ObE K H v d ∧ Drawn m d ∧ m < 8 ∧ (textD (m + 1) d).length ≤ 19000 ∧ ∀ H', Same H H' → Q (.str (textD (m + 1) d)) H'
theorem ok_str {fd : FuncData} (F : FunD K "__str__" "Expr.__str__" (defArgs s_Expr___str__) (defBody s_Expr___str__) (defScope s_Expr___str__) [] [] (He.ma K (He.ga K "Expr") "__str__") fd) (T : Top K mg)
    (D_text_of : Def P w K mg base "text_of" 8 ["term"] (spText K 8)) : MethD P w K mg base "Expr" "__str__" 9 ["self"] (spStrE K) := by
  refine methd_mk F (F.bindsN fun _ _ _ _ _ _ us hl => match us, hl with | [_], _ => rfl) T.k_Expr T.m_Expr___str__ sc_Expr___str__ (fun vs H Q E h => ?_) (fun cdv A outer s H vs Q E hr h => ?_)
  · obtain ⟨v, d, m, rfl, _⟩ := h
    rfl
  obtain ⟨v, d, m, rfl, ⟨a, dx, x, rfl, ha, hx⟩, hdr, hm, hz, q⟩ := h
  refine ⟨_, (pss_one (ps_ret (pe_joined1 (pe_fmt (pe_def D_text_of hr (by first | decide | omega) (pa_cons (pe_fld (pv 0) rfl) pa_nil)))))), ?_⟩
  refine ⟨_, rfl, a, _, dx, _, x, rfl, ha, T.k_Expr, T.n_Expr_held, rfl, x, d, m, rfl, hx, hdr, hm, by decide, fun H1 e1 => ?_⟩
  exact .inl ⟨_, rfl, le_line (Nat.le_trans hz (by decide)), q H1 e1⟩
/-- repr(x) -/
def spReprE (K : PySem.W.Frag) : Sp := fun vs H Q _ => ∃ (v : V) (d : PyData) (m : Nat), vs = [v] ∧ ObE K H v d ∧ Drawn m d ∧ m < 8 ∧ (textD (m + 1) d).length ≤ 19000 ∧ ∀ H', Same H H' → Q (.str (((Str.empty ++ ("Expr(" : Str)) ++ textD (m + 1) d) ++ (")" : Str))) H'
theorem ok_repr {fd : FuncData} (F : FunD K "__repr__" "Expr.__repr__" (defArgs s_Expr___repr__) (defBody s_Expr___repr__) (defScope s_Expr___repr__) [] [] (He.ma K (He.ga K "Expr") "__repr__") fd) (T : Top K mg)
    (D_text_of : Def P w K mg base "text_of" 8 ["term"] (spText K 8)) : MethD P w K mg base "Expr" "__repr__" 9 ["self"] (spReprE K) := by
  refine methd_mk F (F.bindsN fun _ _ _ _ _ _ us hl => match us, hl with | [_], _ => rfl) T.k_Expr T.m_Expr___repr__ sc_Expr___repr__ (fun vs H Q E h => ?_) (fun cdv A outer s H vs Q E hr h => ?_)
  · obtain ⟨v, d, m, rfl, _⟩ := h
    rfl
  obtain ⟨v, d, m, rfl, ⟨a, dx, x, rfl, ha, hx⟩, hdr, hm, hz, q⟩ := h
  refine ⟨_, (pss_one (ps_ret (pe_joined (PJ.cons pe_str (PJ.cons (pe_fmt (pe_def D_text_of hr (by first | decide | omega) (pa_cons (pe_fld (pv 0) rfl) pa_nil))) (PJ.cons pe_str PJ.nil)))))), ?_⟩
  have l0 : (Str.empty ++ ("Expr(" : Str)).length = 5 := by decide +kernel
  have l1 : ((Str.empty ++ ("Expr(" : Str)) ++ textD (m + 1) d).length = 5 + (textD (m + 1) d).length := by
    show ((Str.empty ++ ("Expr(" : Str)).cps ++ (textD (m + 1) d).cps).size = _
    rw [Array.size_append]
    exact congrArg (· + _) l0
  have l2 : (((Str.empty ++ ("Expr(" : Str)) ++ textD (m + 1) d) ++ (")" : Str)).length = 5 + (textD (m + 1) d).length + 1 := by
    show (((Str.empty ++ ("Expr(" : Str)) ++ textD (m + 1) d).cps ++ (")" : Str).cps).size = _
    rw [Array.size_append]
    have h3 : (")" : Str).cps.size = 1 := by decide +kernel
    rw [h3]
    exact congrArg (· + 1) l1
  refine ⟨_, rfl, le_line (by decide +kernel), _, rfl, a, _, dx, _, x, rfl, ha, T.k_Expr, T.n_Expr_held, rfl, x, d, m, rfl, hx, hdr, hm, by decide, fun H1 e1 => ?_⟩
  exact .inl ⟨_, rfl, le_line (by omega), _, rfl, le_line (by omega), _, rfl, le_line (by omega), q H1 e1⟩
/-- len(x) -/
def spLenE (K : PySem.W.Frag) : Sp := fun vs H Q _ => ∃ (v : V) (d : PyData) (m : Nat), vs = [v] ∧ ObE K H v d ∧ Drawn m d ∧ m < 8 ∧ (walkD (m + 1) d).length ≤ 20000 ∧ ∀ H', Same H H' → Q (.int ((strsOf (walkD (m + 1) d)).length : Nat)) H'
theorem ok_lenE {fd : FuncData} (F : FunD K "__len__" "Expr.__len__" (defArgs s_Expr___len__) (defBody s_Expr___len__) (defScope s_Expr___len__) [] [] (He.ma K (He.ga K "Expr") "__len__") fd) (T : Top K mg)
    (D_walked : Def P w K mg base "walked" 11 ["term"] (spWalked K 10)) : MethD P w K mg base "Expr" "__len__" 12 ["self"] (spLenE K) := by
  refine methd_mk F (F.bindsN fun _ _ _ _ _ _ us hl => match us, hl with | [_], _ => rfl) T.k_Expr T.m_Expr___len__ sc_Expr___len__ (fun vs H Q E h => ?_) (fun cdv A outer s H vs Q E hr h => ?_)
  · obtain ⟨v, d, m, rfl, _⟩ := h
    rfl
  obtain ⟨v, d, m, rfl, ⟨a, dx, x, rfl, ha, hx⟩, hdr, hm, hz, q⟩ := h
  refine ⟨_, (pss_one (ps_ret (pe_callB (call_lenK K) (by rfl) T.b_len (by decide +kernel) (pa_cons (pe_lc (own := [("one", 1)]) rfl sc_Expr___len__.nd (pi_listK K (pe_def D_walked hr (by first | decide | omega) (pa_cons (pe_fld (pv 0) rfl) pa_nil))) (blkOk_by (by kernel_rfl)) (fun _ _ _ _ _ => (pg_name (i := 1) sc_Expr___len__.nd rfl (Or.inl rfl) (.inr rfl))) (fun _ _ _ _ _ => (pts_one (pt_val (pe_callB (call_isK K kb_str) (by rfl) T.b_isinstance (by decide +kernel) (pa_cons (pv 1) (pa_cons (pe_bltn (v := .ty "str") (by rfl) T.b_str (by decide +kernel) rfl) pa_nil)))))) (fun _ _ _ _ _ => (pv 1))) pa_nil)))), ?_⟩
  refine ⟨_, rfl, a, _, dx, _, x, rfl, ha, T.k_Expr, T.n_Expr_held, rfl, x, d, m, rfl, hx, hdr, by omega, by decide, fun t us H1 e1 ht0 ht hus => ⟨t, rfl, ⟨us, SqL.of ht⟩, fun D hD => ?_⟩⟩
  have hul := hus.len
  refine lc_filtW (j := 1) isSV hD (SqL.of ht) (by rw [hul]; exact le_line hz) (fun _ => rfl) (fun i y H2 hy e2 Qb kb => ?_) (fun y H2 Q' h => ⟨_, rfl, h⟩) fun H2 e2 h2 => ?_
  · obtain ⟨dy, hdy, hyt⟩ := hus.get hy
    have hdp := (hyt.up (Same.T e2)).dp
    have e : isStr dy = isSV y := by cases hdp <;> rfl
    refine ⟨_, rfl, y, dy, rfl, hdp, _, rfl, ?_⟩
    rw [e]
    exact kb H2 (Same.refl H2)
  · refine ⟨_, _, rfl, .inl ⟨_, SqL.of h2, rfl⟩, ?_⟩
    rw [filt_strs hus, List.length_map]
    exact q H2 (e1.trans e2)
/-- z in x -/
def spInE (K : PySem.W.Frag) : Sp := fun vs H Q _ => ∃ (v : V) (d : PyData) (m : Nat) (z : Str), vs = [v, .str z] ∧ ObE K H v d ∧ Drawn m d ∧ m ≤ 8 ∧ meas 9 d ≤ 400 ∧ ∀ H', Same H H' → Q (.bl (inV (.str z) ((lettersT m d).map V.str))) H'
theorem ok_inE {fd : FuncData} (F : FunD K "__contains__" "Expr.__contains__" (defArgs s_Expr___contains__) (defBody s_Expr___contains__) (defScope s_Expr___contains__) [] [] (He.ma K (He.ga K "Expr") "__contains__") fd) (T : Top K mg)
    (D_letters_in : Def P w K mg base "letters_in" 12 ["term"] (spLets K)) : MethD P w K mg base "Expr" "__contains__" 13 ["self", "letter"] (spInE K) := by
  refine methd_mk F (F.bindsN fun _ _ _ _ _ _ us hl => match us, hl with | [_, _], _ => rfl) T.k_Expr T.m_Expr___contains__ sc_Expr___contains__ (fun vs H Q E h => ?_) (fun cdv A outer s H vs Q E hr h => ?_)
  · obtain ⟨v, d, m, z, rfl, _⟩ := h
    rfl
  obtain ⟨v, d, m, z, rfl, ⟨a, dx, x, rfl, ha, hx⟩, hdr, hm, h4, q⟩ := h
  refine ⟨_, (pss_one (ps_ret (pe_cmpR (op_in_seqK K) (pv 1) (pe_def D_letters_in hr (by first | decide | omega) (pa_cons (pe_fld (pv 0) rfl) pa_nil)) (by rfl)))), ?_⟩
  refine ⟨_, rfl, _, rfl, a, _, dx, _, x, rfl, ha, T.k_Expr, T.n_Expr_held, rfl, x, d, m, rfl, hx, hdr, hm, h4, fun p H1 e1 hp0 hp => ?_⟩
  exact ⟨p, _, rfl, .inl (SqL.of hp), rfl, by rw [List.all_map]; exact List.all_eq_true.mpr fun _ _ => rfl, q H1 e1⟩
/-- x == y -/
def spEqE (K : PySem.W.Frag) : Sp := fun vs H Q _ => ∃ (v v2 : V) (d d2 : PyData), vs = [v, v2] ∧ ObE K H v d ∧ nice d = true ∧ nice d2 = true ∧ d.depth ≤ 60 ∧ d2.depth ≤ 60 ∧ ((ObE K H v2 d2 ∧ Q (.bl (PyData.eqv d d2)) H) ∨ ∃ T, BtK K H v2 T ∧ Q (.bl false) H)
theorem ok_eqE {fd : FuncData} (F : FunD K "__eq__" "Expr.__eq__" (defArgs s_Expr___eq__) (defBody s_Expr___eq__) (defScope s_Expr___eq__) [] [] (He.ma K (He.ga K "Expr") "__eq__") fd) (T : Top K mg) : MethD P w K mg base "Expr" "__eq__" 1 ["self", "other"] (spEqE K) := by
  refine methd_mk F (F.bindsN fun _ _ _ _ _ _ us hl => match us, hl with | [_, _], _ => rfl) T.k_Expr T.m_Expr___eq__ sc_Expr___eq__ (fun vs H Q E h => ?_) (fun cdv A outer s H vs Q E hr h => ?_)
  · obtain ⟨v, v2, d, d2, rfl, _⟩ := h
    rfl
  obtain ⟨v, v2, d, d2, rfl, ⟨a, dx, x, rfl, ha, hx⟩, hn, hn2, h6, h62, q⟩ := h
  refine ⟨_, (pss_one (ps_ret (pe_and (pe_callB call_isi (by rfl) T.b_isinstance (by decide +kernel) (pa_cons (pv 1) (pa_cons (pe_gT T.c_Expr) pa_nil))) (pe_one (pe_cmpR (op_eqK K hr.units) (pe_fld (pv 0) rfl) (pe_fld (pv 1) rfl) (nomark _)))))), ?_⟩
  rcases q with ⟨⟨a2, dx2, x2, rfl, ha2, hx2⟩, q⟩ | ⟨U, hb, q⟩
  rotate_left
  · refine ⟨_, rfl, _, _, .type U, .ref (He.ga K "Expr"), false, rfl, .own _, hb.ty, kit_bt T.i_Expr (hb.mro _), _, rfl, ?_⟩
    show if false = true then _ else _
    rw [if_neg (by decide)]
    exact q
  refine ⟨_, rfl, _, _, .ref (He.ga K "Expr"), .ref (He.ga K "Expr"), true, rfl, .own _, .base (.ins ha2 T.i_Expr.cl T.i_Expr.ha T.i_Expr.hn T.i_Expr.htk T.i_Expr.hm), T.i_Expr.me, _, rfl, ?_⟩
  show if true = true then _ else _
  rw [if_pos rfl]
  exact ⟨_, rfl, a, _, dx, _, x, rfl, ha, T.k_Expr, T.n_Expr_held, rfl, _, rfl, a2, _, dx2, _, x2, rfl, ha2, T.k_Expr, T.n_Expr_held, rfl, d, d2, hx.dp, hx2.dp, Nice.shaped (n := 60) ⟨hn, h6⟩, Nice.shaped (n := 60) ⟨hn2, h62⟩, q⟩
end
end FF
/-! class Expr: parse, many -/
namespace FF
open PySem PySem.Spec PyProof.Rows L2
/-- Expr.parse(text) -/
def spPrsE (K : PySem.W.Frag) : Sp := fun vs H Q E => ∃ t : Str, vs = [.ref (He.ga K "Expr"), .str t] ∧ t.length ≤ 10000 ∧ (∀ d, parseD t = some d → nice d = true ∧ fitsB d = true ∧ ∀ v H', Same H H' → ObE K H' v d → Q v H') ∧
  (parseD t = none → ∀ dd H', Same H H' → Thr ("InvalidText" : Str) dd H' → E (.ref (He.ga K "InvalidText")) dd H')
section
variable {P : Program} {w : World} {K : PySem.W.Frag} {mg : Str → Option Value} {base : Heap}
theorem ok_parseE {fd : FuncData} (F : FunD K "parse" "Expr.parse" (defArgs s_Expr_parse) (defBody s_Expr_parse) (defScope s_Expr_parse) [] [] (gAd K "classmethod" "Expr" "parse") fd) (T : Top K mg)
    (M_Expr : MakeX P w K mg base "Expr" 15 ["self", "term"] (spExI K)) (D_parse_term : DefX P w K mg base "parse_term" 17 ["text"] (spParse K)) : ClsX P w K mg base "Expr" "parse" 18 (spPrsE K) := by
  refine clsx_mk F (F.bindsN fun _ _ _ _ _ _ us hl => match us, hl with | [_, _], _ => rfl) T.r_Expr T.m_Expr_parse sc_Expr_parse (fun vs H Q E h => ?_) (fun cdv A outer s H vs Q E hr h tk => ?_)
  · obtain ⟨t, rfl, _⟩ := h
    rfl
  obtain ⟨t, rfl, hz, q1, q2⟩ := h
  refine ⟨_, (pss_one (ps_ret (pe_mkL (E := E) M_Expr tk (fun _ _ _ _ h => h) hr (by first | decide | omega) (pv 0) (pa_cons (pe_defx (E := E) D_parse_term tk (fun _ _ _ _ h => h) hr (by first | decide | omega) (pa_cons (pv 1) pa_nil)) pa_nil)))), ?_⟩
  refine ⟨_, rfl, rfl, _, rfl, t, rfl, hz, fun d e v H1 e1 ht => ?_, q2⟩
  obtain ⟨hn, hf, q⟩ := q1 d e
  exact ex_mk ht.dp hn (fun _ b dx H' e hb => q _ _ (e1.trans e) ⟨b, dx, _, rfl, hb, ht.up (Same.T e)⟩) (fun z => by rw [hf] at z; cases z)
end
end FF
/-! Expr.many -/
namespace FF
open PySem PySem.Spec PyProof.Rows L2
theorem ObE.updD {K : PySem.W.Frag} {H : Hp} {D : Addr} {us : List V} {o : HO} {v : V} {z : Str} (hD : H D = some (.lst us)) (h : ObE K H v (.str z)) : ObE K (upd H D o) v (.str z) := by
  obtain ⟨a, dx, x, e1, e2, e3⟩ := h
  refine ⟨a, dx, x, e1, ?_, by cases e3; exact .str _⟩
  rw [upd_ne (fun z => by rw [z, hD] at e2; cases e2)]
  exact e2
/-- the first sign that is no letter -/
def badS (t : Str) : Option Str := (t.cps.toList.map fun c => (⟨#[c]⟩ : Str)).find? fun z => !isLetS z
theorem bad_none {t : Str} (h : ∀ (i c : Nat), t.cps[i]? = some c → isLetS ⟨#[c]⟩ = true) : badS t = none := by
  unfold badS
  rw [List.find?_eq_none]
  intro z hz
  obtain ⟨c, hc, rfl⟩ := List.mem_map.mp hz
  obtain ⟨i, hi⟩ := List.mem_iff_getElem?.mp hc
  rw [h i c (by rw [← Array.getElem?_toList]; exact hi)]
  simp
theorem bad_some {t : Str} {i c : Nat} (hc : t.cps[i]? = some c) (hb : isLetS ⟨#[c]⟩ = false) (h : ∀ (k c : Nat), k < i → t.cps[k]? = some c → isLetS ⟨#[c]⟩ = true) : badS t = some ⟨#[c]⟩ := by
  unfold badS
  rw [List.find?_map]
  have hc' : t.cps.toList[i]? = some c := by rw [Array.getElem?_toList]; exact hc
  have hi := (List.getElem?_eq_some_iff.mp hc').1
  have : t.cps.toList.find? ((fun z => !isLetS z) ∘ fun c => (⟨#[c]⟩ : Str)) = some c := by
    rw [List.find?_eq_some_iff_getElem]
    refine ⟨by simp [hb], i, hi, (List.getElem?_eq_some_iff.mp hc').2, fun k hk => ?_⟩
    have := h k _ hk (by rw [← Array.getElem?_toList]; exact List.getElem?_eq_getElem (Nat.lt_trans hk hi))
    simp only [Function.comp]
    rw [this]
    rfl
  rw [this]
  rfl
def spMany (K : PySem.W.Frag) : Sp := fun vs H Q E => ∃ t : Str, vs = [.str t] ∧ t.length ≤ 1000 ∧ (∀ c ∈ t.cps.toList, c < 0x110000) ∧
  (badS t = none → ∀ p us H', Same H H' → H' p = some (.lst us) → us.length = t.cps.size → (∀ (i c : Nat) (u : V), t.cps[i]? = some c → us[i]? = some u → ObE K H' u (.str ⟨#[c]⟩)) → Q (.ref p) H') ∧
  (∀ z, badS t = some z → ∀ dd H', Same H H' → H' dd = some (.xd [(("letter" : Str), .str z), (("code" : Str), .str "InvalidLetter")]) → E (.ref (He.ga K "InvalidLetter")) (some dd) H')
theorem pe_mkxNK {X : Cx} (K : PySem.W.Frag) {C : Str} {k j : Nat} {ps : List Str} {sp : Sp} {e : Expr} {es : List Expr} {p pos : Pos} {t : TA} (D : MakeX X.prog X.w X.K X.mg X.base C k ps sp) (hr : Room j X.A) (hkj : k + 1 ≤ j) (ha : PA X (e :: es) t) (hK : X.K = K := by rfl)
    (hg : Gl X C := by rfl) (hdb : (C == ("__debug__" : Str)) = false := by decide) (he : starEach (e :: es) X.env = (false, eval e X.env) :: starEach es X.env := by rfl) (hpl : (backTo pos (starEach es X.env)).any (·.1) = false := by rfl) :
    PE X (.Call (.Name C p) (e :: es) [] pos) (tMake (He.ga K C) sp [] (fun _ _ _ => False) t) := by
  subst hK
  exact pe_mkxN D hr hkj ha hg hdb he hpl
section
variable {P : Program} {w : World} {K : PySem.W.Frag} {mg : Str → Option Value} {base : Heap}
theorem ok_many {fd : FuncData} (F : FunD K "many" "Expr.many" (defArgs s_Expr_many) (defBody s_Expr_many) (defScope s_Expr_many) [] [] (gAd K "staticmethod" "Expr" "many") fd) (T : Top K mg)
    (M_Expr : MakeX P w K mg base "Expr" 15 ["self", "term"] (spExI K)) (D_is_letter : Def P w K mg base "is_letter" 1 ["value"] (spIsLetter K)) (x_InvalidLetter : RaiseD1 P w K mg base "InvalidLetter" "FaultError" 2 "InvalidLetter" "letter") : StatX P w K mg base "Expr" "many" 18 ["text"] (spMany K) := by
  refine statx_mk F (F.bindsN fun _ _ _ _ _ _ us hl => match us, hl with | [_], _ => rfl) T.r_Expr T.s_Expr_many T.c_Expr sc_Expr_many (fun vs H Q E h => ?_) (fun cdv A outer s0 H vs Q E hr h tk => ?_)
  · obtain ⟨t, rfl, _⟩ := h
    rfl
  obtain ⟨t, rfl, hz, hlow, q1, q2⟩ := h
  refine ⟨_, (pss_cons (ps_for (passes_of rfl) rfl (pi_str (pv 0)) (pg_name (i := 1) sc_Expr_many.nd rfl (Or.inl rfl) (.inl rfl))
  (pss_one (ps_if (pt_not (pt_val (pe_def D_is_letter hr (by first | decide | omega) (pa_cons (pv 1) pa_nil))))
  (pss_one (ps_raise rfl tk (pmk_raise1 x_InvalidLetter hr (by first | decide | omega) (pa_cons (pv 1) pa_nil) (mono := by intro σ H Q Q' h q; first | exact h _ _ q | exact (let ⟨v, e, q⟩ := q; ⟨v, e, h _ _ q⟩) | exact (let ⟨v, e, x, n, e2, h2, q⟩ := q; ⟨v, e, x, n, e2, h2, h _ _ q⟩) | exact (let ⟨v, e, a, b, c, d, e1, e2, h1, h2, q⟩ := q; ⟨v, e, a, b, c, d, e1, e2, h1, h2, h _ _ q⟩)))))
  pss_nil)))
  (pss_one (ps_ret (pe_lc (own := [("sign", 1)]) rfl sc_Expr_many.nd (pi_str (pv 0)) (blkOk_by (by kernel_rfl)) (fun _ _ _ _ _ => (pg_name (i := 1) sc_Expr_many.nd rfl (Or.inl rfl) (.inr rfl))) (fun _ _ _ _ _ => pts_nil) (fun _ _ _ _ _ => (pe_mkxNK K M_Expr hr (by first | decide | omega) (pa_cons (pv 1) pa_nil))))))), ?_⟩
  refine ⟨_, rfl, t, rfl, ?_⟩
  have nc : ∀ (i c : Nat), t.cps[i]? = some c → nice (.str ⟨#[c]⟩) = true := fun i c hc => by
    simp only [nice, Bool.and_eq_true, decide_eq_true_eq]
    refine ⟨by show 1 ≤ 20000; decide, ?_⟩
    show ((#[c] : Array Nat).all fun x => decide (x < 0x110000)) = true
    have := hlow c (List.mem_of_getElem? (by rw [Array.getElem?_toList]; exact hc))
    simp [this]
  refine for_it walk_str (fun i σ H' => (∃ o1, σ = [some (.str t), o1]) ∧ H' = H ∧ ∀ (k c : Nat), k < i → t.cps[k]? = some c → isLetS ⟨#[c]⟩ = true) ⟨⟨none, rfl⟩, rfl, fun k c hk => absurd hk (Nat.not_lt_zero _)⟩ (fun _ _ _ _ _ => True.intro) ?_ ?_
  · rintro i v σ H1 H2 hi ⟨⟨o1, rfl⟩, rfl, hk⟩ ⟨rfl, c, hc, rfl⟩
    refine ⟨_, rfl, .str ⟨#[c]⟩, .str ⟨#[c]⟩, rfl, .str _, nc i c hc, ?_⟩
    refine ⟨_, rfl, ?_⟩
    show if (!isLetS ⟨#[c]⟩) = true then _ else _
    by_cases hl : isLetS ⟨#[c]⟩ = true
    · rw [if_neg (by rw [hl]; decide)]
      refine ⟨⟨_, rfl⟩, rfl, fun k c' hk' hc' => ?_⟩
      by_cases h : k < i
      · exact hk k c' h hc'
      · obtain rfl : k = i := by omega
        rw [hc] at hc'
        cases hc'
        exact hl
    · have hl' : isLetS ⟨#[c]⟩ = false := by simpa using hl
      rw [if_pos (by rw [hl'] <;> rfl)]
      exact ⟨_, rfl, _, rfl, fun dd H' e hd => q2 _ (bad_some hc hl' hk) dd H' e hd⟩
  · rintro σ H1 ⟨⟨o1, rfl⟩, rfl, hk⟩
    have hbn : badS t = none := bad_none fun i c hc => hk i c (by
      have := (Array.getElem?_eq_some_iff.mp hc).1
      exact this) hc
    refine ⟨_, rfl, t, rfl, fun D hD => ?_⟩
    refine lc_it walk_str (fun i H' => Same H1 H' ∧ ∃ us, H' D = some (.lst us) ∧ us.length = i ∧ ∀ (k c : Nat) (u : V), t.cps[k]? = some c → us[k]? = some u → ObE K H' u (.str ⟨#[c]⟩)) ⟨same_new hD _, [], upd_same, rfl, fun k c u _ h => by cases h⟩ (fun _ _ _ _ => True.intro) ?_ ?_
    · rintro i v H2 H3 hi ⟨e2, us, h1, h2, h3⟩ ⟨rfl, c, hc, rfl⟩
      refine ⟨rfl, ?_⟩
      unfold tYes
      dsimp only
      rw [if_pos rfl]
      have hl : isLetS ⟨#[c]⟩ = true := hk i c hi hc
      have hf : fitsB (.str ⟨#[c]⟩) = true := by
        have : meas 5 (.str ⟨#[c]⟩) = 1 := if_pos hl
        unfold fitsB
        rw [this]
        decide
      refine ⟨_, rfl, ex_mk (E := fun _ _ _ => False) (Q := fun y H4 => ∃ acc, H4 D = some (.lst acc) ∧ acc.length < sizeLine ∧ Same H1 (upd H4 D (.lst (acc ++ [y]))) ∧ ∃ us, upd H4 D (.lst (acc ++ [y])) D = some (.lst us) ∧ us.length = i + 1 ∧ ∀ (k c : Nat) (u : V), t.cps[k]? = some c → us[k]? = some u → ObE K (upd H4 D (.lst (acc ++ [y]))) u (.str ⟨#[c]⟩)) (.str _) (nc i c hc) (fun _ b dx H4 e4 hb => ⟨us, e4 _ _ h1, ?_, same_at hD (e2.trans e4), us ++ [.ref b], upd_same, by rw [List.length_append, List.length_singleton, h2], fun k c' u hc' hu => ?_⟩) (fun z => by rw [hf] at z; cases z)⟩
      · rw [h2]
        exact lt_line (by have : t.cps.size ≤ 1000 := hz; omega)
      · have hD4 := e4 _ _ h1
        by_cases hk2 : k < us.length
        · rw [List.getElem?_append_left hk2] at hu
          exact (((h3 k c' u hc' hu).up e4)).updD hD4
        · rw [List.getElem?_append_right (by omega)] at hu
          have hl2 := (List.getElem?_eq_some_iff.mp hu).1
          rw [List.length_singleton] at hl2
          obtain rfl : k = us.length := by omega
          rw [Nat.sub_self] at hu
          cases hu
          rw [h2, hc] at hc'
          cases hc'
          exact ObE.updD hD4 ⟨b, dx, _, rfl, hb, .str _⟩
    · rintro H2 ⟨e2, us, h1, h2, h3⟩
      exact q1 hbn D us H2 e2 h1 h2 fun i c u hc hu => h3 i c u hc hu
end
end FF
/-! expressions: plain facts of terms -/
namespace FF
open PySem PySem.Spec PyProof.Rows L2
theorem turn_drawn : ∀ {n : Nat} {d : PyData}, Drawn n d → Drawn n (turnD (n + 1) d) := by
  intro n
  induction n with
  | zero =>
    intro d h
    rcases drawn_shape h with ⟨z, rfl, _⟩ | ⟨_, _, _, _, _, _, _, e, _⟩
    · exact h
    · cases e
  | succ n ih =>
    intro d h
    rcases drawn_shape h with ⟨z, rfl, _⟩ | ⟨o, ps, k, rfl, ho, l2, l4, e, hp⟩
    · exact h
    · cases e
      refine .inr ⟨.str (if V.str o = V.str ("&" : Str) then ("|" : Str) else ("&" : Str)), ps.map (turnD (n + 1)), rfl, ?_, by rw [List.length_map]; exact l2, by rw [List.length_map]; exact l4, fun p hpp => ?_⟩
      · split <;> decide +kernel
      · obtain ⟨q, hq, rfl⟩ := List.mem_map.mp hpp
        exact ih (hp q hq)
theorem meas_turn : ∀ {n : Nat} {d : PyData}, Drawn n d → ∀ m, n < m → meas m (turnD (n + 1) d) = meas m d := by
  intro n
  induction n with
  | zero =>
    intro d h m hm
    obtain ⟨c, rfl, _⟩ := let_shape (show isLet d = true from h)
    rfl
  | succ n ih =>
    intro d h m hm
    rcases drawn_shape h with ⟨z, rfl, hz⟩ | ⟨o, ps, k, rfl, ho, l2, l4, hk, hps⟩
    · rfl
    obtain rfl : n = k := by omega
    obtain ⟨j, rfl⟩ : ∃ j, m = j + 1 := ⟨m - 1, by omega⟩
    have e2 : turnD (n + 1 + 1) (.tuple (.str o :: ps)) = .tuple (.str (if V.str o = V.str ("&" : Str) then ("|" : Str) else ("&" : Str)) :: ps.map (turnD (n + 1))) := rfl
    have ho2 : isOp (.str (if V.str o = V.str ("&" : Str) then ("|" : Str) else ("&" : Str))) = true := by split <;> decide +kernel
    have p1 : ∀ p ∈ ps, 1 ≤ meas j p := fun p hp => (meas_drawn (hps p hp) j (by omega)).1
    rw [e2, meas_tup (by omega) ho l2 p1, meas_tup (by omega) ho2 (by rw [List.length_map]; exact l2) fun p hp => ?_, List.map_map]
    · exact congrArg List.sum (List.map_congr_left fun p hp => ih (hps p hp) j (by omega))
    · obtain ⟨q, hq, rfl⟩ := List.mem_map.mp hp
      rw [ih (hps q hq) j (by omega)]
      exact p1 q hq
/-! ### chains, cubes, fans -/
theorem term_fits {d : PyData} (h : Drawn 4 d) (hm : meas 5 d ≤ 24) : fitsB d = true := by
  have := (meas_drawn h 5 (by decide)).1
  unfold fitsB inB
  simp only [Bool.and_eq_true, decide_eq_true_eq]
  exact ⟨by omega, hm⟩
theorem strs_flat {f : PyData → List PyData} : ∀ ps : List PyData, strsOf (ps.flatMap f) = ps.flatMap fun p => strsOf (f p)
  | [] => rfl
  | p :: r => by
    rw [List.flatMap_cons, List.flatMap_cons, ← strs_flat r]
    unfold strsOf
    rw [List.filterMap_append]
theorem flatI_len {α β : Type} {f : α → List β} {g : α → Int} : ∀ {l : List α}, (∀ p ∈ l, ((f p).length : Int) = g p) → ((l.flatMap f).length : Int) = (l.map g).sum
  | [], _ => rfl
  | p :: r, h => by
    rw [List.flatMap_cons, List.length_append, List.map_cons, List.sum_cons, ← flatI_len (l := r) fun q hq => h q (List.mem_cons_of_mem _ hq), ← h p List.mem_cons_self]
    omega
theorem strs_lea : ∀ {n : Nat} {d : PyData}, Drawn n d → ((strsOf (walkD (n + 1) d)).length : Int) = leaD (n + 1) d
  | 0, d, h => by
    obtain ⟨c, rfl, _⟩ := let_shape (show isLet d = true from h)
    rw [walk_zero h]
    show (1 : Int) = if isLet _ = true then 1 else _
    rw [if_pos (show isLet _ = true from h)]
  | n + 1, d, h => by
    rcases h with h | ⟨o, ps, rfl, ho, h2, h4, hp⟩
    · obtain ⟨c, rfl, _⟩ := let_shape h
      rw [walk_step, let_parts h]
      show (1 : Int) = if isLet _ = true then 1 else _
      rw [if_pos h]
    · rw [walk_step]
      show ((strsOf ((.tuple (o :: ps) : PyData) :: ps.flatMap (walkD (n + 1)))).length : Int) = if isLet (.tuple (o :: ps)) = true then (1 : Int) else (ps.map (leaD (n + 1))).sum
      rw [if_neg (by rw [tup_let]; decide)]
      show ((strsOf (ps.flatMap (walkD (n + 1)))).length : Int) = _
      rw [strs_flat]
      exact flatI_len fun p hpp => strs_lea (hp p hpp)
theorem pe_propdK {X : Cx} (K : PySem.W.Frag) {C f : Str} {k j : Nat} {sp : Sp} {e : Expr} {pos : Pos} {te : TE} (D : PropD X.prog X.w K X.mg X.base C f k sp) (hr : Room j X.A) (hkj : k + 1 ≤ j) (he : PE X e te) (h : X.K = K := by rfl)
    (hab : attributeBase e f X.env (eval e X.env) = eval e X.env := by rfl) : PE X (.Attribute e f pos) (tProp (He.ga K C) sp [] E0 te) := by
  subst h
  exact pe_propd D hr hkj he hab
end FF
/-! format_term, the law's words -/
namespace FF
open PySem PySem.Spec PyProof.Rows L2
theorem text_low : ∀ {n : Nat} {d : PyData}, Drawn n d → ∀ c ∈ tl (textD (n + 1) d), c < 0x110000 := by
  have lt : ∀ {z : Str}, isLet (.str z) = true → ∀ c ∈ tl z, c < 0x110000 := fun {z} h c hc => by
    obtain ⟨k, e, hk⟩ := let_shape h
    rw [PyData.str.inj e] at hc
    rw [lettersS_val] at hk
    have : c = k := by simpa using hc
    subst this
    simp only [List.mem_cons, List.not_mem_nil, or_false] at hk
    omega
  intro n
  induction n with
  | zero =>
    intro d h
    rcases drawn_shape h with ⟨z, rfl, hz⟩ | ⟨_, _, _, _, _, _, _, e, _⟩
    · exact lt hz
    · cases e
  | succ n ih =>
    intro d h
    rcases drawn_shape h with ⟨z, rfl, hz⟩ | ⟨o, ps, k, rfl, ho, l2, l4, e, hp⟩
    · exact lt hz
    · cases e
      obtain ⟨c, rfl, hc⟩ := op_sign ho
      have hcl : c < 0x110000 := by
        rcases Bool.or_eq_true _ _ ▸ hc with h | h
        · rw [eq_of_beq h]; decide
        · rw [eq_of_beq h]; decide
      have part : ∀ p ∈ ps, ∀ x ∈ tl (partT (textD (n + 1)) p), x < 0x110000 := fun p hpp x hx => by
        have h1 := ih (hp p hpp)
        rcases drawn_shape (hp p hpp) with ⟨z, rfl, hz⟩ | ⟨o2, ps2, _, rfl, _⟩
        · exact lt hz x hx
        · have hx : x ∈ tl (("(" : Str) ++ textD (n + 1) (.tuple (.str o2 :: ps2)) ++ ")") := hx
          rw [par_tl] at hx
          rcases List.mem_cons.mp hx with rfl | hx
          · decide
          rcases List.mem_append.mp hx with hx | hx
          · exact h1 x hx
          · rw [List.mem_singleton.mp hx]; decide
      match ps, l2, part with
      | p :: ps, _, part =>
      intro x hx
      rw [text_tup] at hx
      rcases List.mem_append.mp hx with hx | hx
      · exact part p List.mem_cons_self x hx
      · obtain ⟨l, hl, hx⟩ := List.mem_flatMap.mp hx
        obtain ⟨q, hq, rfl⟩ := List.mem_map.mp hl
        rcases List.mem_cons.mp hx with rfl | hx
        · decide
        rcases List.mem_cons.mp hx with rfl | hx
        · exact hcl
        rcases List.mem_cons.mp hx with rfl | hx
        · decide
        · exact part q (List.mem_cons_of_mem _ hq) x hx
theorem nice_of {z : Str} (hl : z.length ≤ 20000) (h : ∀ c ∈ tl z, c < 0x110000) : nice (.str z) = true := by
  simp only [nice, Bool.and_eq_true, decide_eq_true_eq]
  refine ⟨hl, ?_⟩
  show (z.cps.all fun x => decide (x < 0x110000)) = true
  rw [← Array.all_toList, List.all_eq_true]
  exact fun c hc => decide_eq_true (h c hc)
theorem text_niceN {n : Nat} {d : PyData} (h : Drawn n d) (hn : n ≤ 5) : Nice 0 (.str (textD (n + 1) d)) := by
  have l := text_len h
  have p : 4 ^ n ≤ 4 ^ 5 := Nat.pow_le_pow_right (by decide) hn
  have e : 8 * 4 ^ 5 = 8192 := by decide
  exact ⟨nice_of (by omega) (text_low h), Nat.le_of_eq (by rw [PyData.depth])⟩
theorem text_szN {n : Nat} {d : PyData} (h : Drawn n d) (hn : n ≤ 5) : (textD (n + 1) d).length ≤ 8192 := by
  have l := text_len h
  have p : 4 ^ n ≤ 4 ^ 5 := Nat.pow_le_pow_right (by decide) hn
  have e : 8 * 4 ^ 5 = 8192 := by decide
  omega
theorem walk_szN {n : Nat} {d : PyData} (h : Drawn n d) (hn : n ≤ 5) : (walkD (n + 1) d).length ≤ 2048 := by
  have l := walk_len h
  have p : 4 ^ n ≤ 4 ^ 5 := Nat.pow_le_pow_right (by decide) hn
  have e : 2 * 4 ^ 5 = 2048 := by decide
  omega
theorem text_wrap {d : PyData} (h : Drawn 4 d) : Nice 0 (.str ((("Expr(" : Str) ++ textD 5 d) ++ (")" : Str))) := by
  have l : (textD 5 d).length ≤ 8192 := text_szN h (by decide)
  have lE : ("Expr(" : Str).length = 5 := by decide +kernel
  have lp : (")" : Str).length = 1 := by decide +kernel
  refine ⟨nice_of (by rw [app_len, app_len]; omega) fun c hc => ?_, Nat.le_of_eq (by rw [PyData.depth])⟩
  have hc' : c ∈ (("Expr(" : Str).cps ++ (textD 5 d).cps ++ (")" : Str).cps).toList := hc
  rw [Array.toList_append, Array.toList_append] at hc'
  rcases List.mem_append.mp hc' with h1 | h1
  · rcases List.mem_append.mp h1 with h2 | h2
    · have : ∀ c ∈ ("Expr(" : Str).cps.toList, c < 0x110000 := by decide +kernel
      exact this c h2
    · exact text_low h c h2
  · have : ∀ c ∈ (")" : Str).cps.toList, c < 0x110000 := by decide +kernel
    exact this c h1
theorem meas_nonneg : ∀ (n : Nat) (d : PyData), 0 ≤ meas n d
  | 0, _ => Int.le_refl 0
  | n + 1, d => by
    show 0 ≤ (if isLet d = true then (1 : Int) else if n = 0 then 0 else measP (meas n) d)
    split
    · decide
    · split
      · exact Int.le_refl 0
      · match d with
        | .tuple (x :: y :: z :: r) =>
          show 0 ≤ (if isOp x = true then (if (0 : Int) ∈ ((y :: z :: r).map (meas n)) then 0 else ((y :: z :: r).map (meas n)).sum) else 0)
          split
          · split
            · exact Int.le_refl 0
            · generalize y :: z :: r = l
              induction l with
              | nil => exact Int.le_refl 0
              | cons a t ih =>
                rw [List.map_cons, List.sum_cons]
                have := meas_nonneg n a
                omega
          · exact Int.le_refl 0
        | .tuple [] => exact Int.le_refl 0
        | .tuple [_] => exact Int.le_refl 0
        | .tuple [_, _] => exact Int.le_refl 0
        | .none | .bool _ | .int _ | .str _ | .list _ | .dict _ => exact Int.le_refl 0
theorem meas_down : ∀ (n : Nat) (d : PyData), meas (n + 1) d = 0 → meas n d = 0
  | 0, _, _ => rfl
  | n + 1, d, h => by
    have hl : isLet d = false := by
      cases e : isLet d with
      | false => rfl
      | true =>
        rw [meas_let e, if_pos (by omega)] at h
        cases h
    by_cases hn : n = 0
    · subst hn
      exact meas_low hl (by omega)
    rw [meas_up hl (by omega)] at h
    rw [meas_up hl (by omega)]
    match d, h with
    | .tuple (x :: y :: z :: r), h =>
      have h : (if isOp x = true then (if (0 : Int) ∈ ((y :: z :: r).map (meas (n + 1))) then 0 else ((y :: z :: r).map (meas (n + 1))).sum) else 0) = 0 := h
      show (if isOp x = true then (if (0 : Int) ∈ ((y :: z :: r).map (meas n)) then 0 else ((y :: z :: r).map (meas n)).sum) else 0) = 0
      split at h
      · rename_i ho
        rw [if_pos ho]
        split at h
        · rename_i hz
          obtain ⟨p, hp, e⟩ := List.mem_map.mp hz
          rw [if_pos (List.mem_map.mpr ⟨p, hp, meas_down n p e⟩)]
        · rename_i hz
          have ge : ∀ l : List PyData, (∀ p ∈ l, meas (n + 1) p ≠ 0) → (l.length : Int) ≤ (l.map (meas (n + 1))).sum := fun l => by
            induction l with
            | nil => exact fun _ => by simp
            | cons a t ih =>
              intro hh
              have h1 := hh a List.mem_cons_self
              have h2 := meas_nonneg (n + 1) a
              have h3 := ih fun p hp => hh p (List.mem_cons_of_mem _ hp)
              rw [List.map_cons, List.sum_cons, List.length_cons]
              omega
          have := ge (y :: z :: r) fun p hp e => hz (List.mem_map.mpr ⟨p, hp, e⟩)
          rw [h] at this
          simp only [List.length_cons] at this
          omega
      · rename_i ho
        rw [if_neg ho]
    | .tuple [], _ => rfl
    | .tuple [_], _ => rfl
    | .tuple [_, _], _ => rfl
    | .none, _ | .bool _, _ | .int _, _ | .str _, _ | .list _, _ | .dict _, _ => rfl
theorem eqv_drawn {n : Nat} {d : PyData} (h : Drawn n d) (hn : n ≤ 9) : PyData.eqv d d = true := SeqAt.eqv_refl _ (SeqAt.canLay_of_shaped ((drawn_nice h).mono (show n ≤ 9 from hn)).shaped)
/-! ### what an expression answers, told of a slot -/
section
variable {K : PySem.W.Frag} {σ : L2.St} {H : Hp} {i : Nat} {u : V} {d : PyData} {m : Nat} {Q : VK} {QA : List V → Hp → Prop}
theorem ObE.ref (h : ObE K H u d) : ∃ b, u = .ref b := let ⟨a, _, _, e, _⟩ := h; ⟨a, e⟩
theorem ob_term (hv : σ[i]? = some (some u)) (ob : ObE K H u d) (q : ∀ x, Tp K H x d → Q x H) : tProp (He.ga K "Expr") (spTermP K) [] E0 (tVar i) σ H Q := by
  obtain ⟨a, dx, x, rfl, ha, hx⟩ := ob
  exact ⟨_, hv, a, dx, _, rfl, ha, .ref a, d, rfl, ⟨a, dx, x, rfl, ha, hx⟩, q⟩
theorem ob_str (hv : σ[i]? = some (some u)) (ob : ObE K H u d) (dr : Drawn m d) (hm : m ≤ 5) (q : ∀ H', Same H H' → Q (.str (textD (m + 1) d)) H') : tCB (rStrO (He.ga K "Expr") (spStrE K) E0) (tCons (tVar i) tNil) σ H Q := by
  obtain ⟨a, dx, x, rfl, ha, hx⟩ := ob
  exact ⟨_, hv, a, dx, _, rfl, ha, .ref a, d, m, rfl, ⟨a, dx, x, rfl, ha, hx⟩, dr, by omega, Nat.le_trans (text_szN dr hm) (by decide), fun H' e => ⟨_, rfl, q H' e⟩⟩
theorem exp_lit : (Str.empty ++ ("Expr(" : Str)) = "Expr(" := by decide +kernel
theorem ob_repr (hv : σ[i]? = some (some u)) (ob : ObE K H u d) (dr : Drawn m d) (hm : m ≤ 5) (q : ∀ H', Same H H' → Q (.str ((("Expr(" : Str) ++ textD (m + 1) d) ++ (")" : Str))) H') : tCB (rReprO (He.ga K "Expr") (spReprE K) E0) (tCons (tVar i) tNil) σ H Q := by
  obtain ⟨a, dx, x, rfl, ha, hx⟩ := ob
  exact ⟨_, hv, a, dx, _, rfl, ha, .ref a, d, m, rfl, ⟨a, dx, x, rfl, ha, hx⟩, dr, by omega, Nat.le_trans (text_szN dr hm) (by decide), fun H' e => ⟨_, rfl, by rw [exp_lit]; exact q H' e⟩⟩
theorem strs_le : ∀ (l : List PyData), (strsOf l).length ≤ l.length := fun l => List.length_filterMap_le _ _
theorem ob_len (hv : σ[i]? = some (some u)) (ob : ObE K H u d) (dr : Drawn m d) (hm : m ≤ 5) (q : ∀ H', Same H H' → Q (.int (leaD (m + 1) d)) H') : tCB (rLenO (He.ga K "Expr") (spLenE K) E0) (tCons (tVar i) tNil) σ H Q := by
  obtain ⟨a, dx, x, rfl, ha, hx⟩ := ob
  refine ⟨_, hv, a, dx, _, rfl, ha, .ref a, d, m, rfl, ⟨a, dx, x, rfl, ha, hx⟩, dr, by omega, Nat.le_trans (walk_szN dr hm) (by decide), fun H' e => ⟨_, rfl, ?_, by rw [strs_lea dr]; exact q H' e⟩⟩
  have := strs_le (walkD (m + 1) d)
  have := walk_szN dr hm
  omega
theorem ob_eqo {u2 : V} {d2 : PyData} {j : Nat} (hv : σ[i]? = some (some u)) (hv2 : σ[j]? = some (some u2)) (ob : ObE K H u d) (ob2 : ObE K H u2 d2) (dr : Drawn 4 d) (dr2 : Drawn 4 d2) (q : Q (.bl (PyData.eqv d d2)) H) : tOp (rEqZ K (He.ga K "Expr") (spEqE K) E0) (tVar i) (tVar j) σ H Q := by
  obtain ⟨a, dx, x, rfl, ha, hx⟩ := ob
  obtain ⟨a2, dx2, x2, rfl, ha2, hx2⟩ := ob2
  have n1 := drawn_nice dr
  have n2 := drawn_nice dr2
  exact ⟨_, hv, _, hv2, a, dx, _, rfl, ha, .inl ⟨a2, dx2, _, rfl, ha2⟩, .ref a, .ref a2, d, d2, rfl, ⟨a, dx, x, rfl, ha, hx⟩, n1.ok, n2.ok, Nat.le_trans n1.dp (by decide), Nat.le_trans n2.dp (by decide), .inl ⟨⟨a2, dx2, x2, rfl, ha2, hx2⟩, _, rfl, q⟩⟩
theorem drawn_st {n : Nat} {d : PyData} (h : Drawn n d) : (∃ z, d = .str z) ∨ ∃ ds, d = .tuple ds := by
  rcases drawn_shape h with ⟨z, rfl, _⟩ | ⟨o, ps, k, rfl, _⟩
  · exact .inl ⟨z, rfl⟩
  · exact .inr ⟨_, rfl⟩
theorem ob_eqw {u2 : V} {d2 : PyData} {j : Nat} (hv : σ[i]? = some (some u)) (hv2 : σ[j]? = some (some u2)) (ob : ObE K H u d) (t2 : Tp K H u2 d2) (dr : Drawn 4 d) (dr2 : Drawn 4 d2) (q : Q (.bl false) H) : tOp (rEqZ K (He.ga K "Expr") (spEqE K) E0) (tVar i) (tVar j) σ H Q := by
  obtain ⟨a, dx, x, rfl, ha, hx⟩ := ob
  obtain ⟨T, hb⟩ := t2.btk (drawn_st dr2)
  have n1 := drawn_nice dr
  have n2 := drawn_nice dr2
  exact ⟨_, hv, _, hv2, a, dx, _, rfl, ha, .inr ⟨T, hb⟩, .ref a, u2, d, d2, rfl, ⟨a, dx, x, rfl, ha, hx⟩, n1.ok, n2.ok, Nat.le_trans n1.dp (by decide), Nat.le_trans n2.dp (by decide), .inr ⟨T, hb, _, rfl, q⟩⟩
/-- [e for z in "abcdefgh"] -/
theorem lc_strS {te : TE} {vs : List Nat} {j D : Nat} {σ : L2.St} {H1 : Hp} {Qd : Hp → Prop} {z : Str} (f : Nat → V) (hD : H1 D = none) (hz : z.length ≤ sizeLine) (hw : ∀ v, wipe ((wipe σ vs).set j (some v)) vs = wipe σ vs)
    (step : ∀ c H2, Same H1 H2 → ∀ Q' : VK, (∀ H3, Same H2 H3 → Q' (f c) H3) → te ((wipe σ vs).set j (some (.str ⟨#[c]⟩))) H2 Q')
    (done : ∀ H2, Same H1 H2 → H2 D = some (.lst (z.cps.toList.map f)) → Qd H2) :
    ∃ W : Nat → Nat → Hp → Prop, (∃ m, W 0 m (upd H1 D (.lst []))) ∧ ∀ i m H, W i m H →
      ((Its z).stop i H ∧ Qd H) ∨ ((Its z).go i H ∧ ∃ Nx : Hp → Prop, (∀ H', Nx H' → ∃ m', m' < m ∧ W (i + 1) m' H') ∧ ∀ v H', (Its z).yld i H v H' → gName j v (wipe σ vs) H' fun σ2 H2 => wipe σ2 vs = wipe σ vs ∧ tYes σ2 H2 fun b H3 =>
        if b = true then te σ2 H3 fun y H4 => ∃ acc, H4 D = some (.lst acc) ∧ acc.length < sizeLine ∧ Nx (upd H4 D (.lst (acc ++ [y]))) else Nx H3) := by
  refine ⟨fun i m H => m = z.cps.size - i ∧ i ≤ z.cps.size ∧ Same H1 H ∧ H D = some (.lst ((z.cps.toList.take i).map f)), ⟨_, rfl, Nat.zero_le _, same_new hD _, upd_same⟩, ?_⟩
  rintro i m H ⟨rfl, hi, e, h1⟩
  by_cases hlt : i < z.cps.size
  · refine .inr ⟨hlt, fun H' => i + 1 ≤ z.cps.size ∧ Same H1 H' ∧ H' D = some (.lst ((z.cps.toList.take (i + 1)).map f)), fun H' p' => ⟨z.cps.size - (i + 1), by omega, rfl, p'⟩, fun v H' y => ?_⟩
    obtain ⟨rfl, c, hc, rfl⟩ := y
    refine ⟨hw _, ?_⟩
    show te _ _ _
    have hc2 : z.cps.toList[i]? = some c := by rw [Array.getElem?_toList]; exact hc
    refine step c _ e _ fun H3 e3 => ⟨_, e3 _ _ h1, ?_, hlt, same_at hD (e.trans e3), ?_⟩
    · rw [List.length_map, List.length_take, Array.length_toList]
      exact Nat.lt_of_lt_of_le (by omega) (show z.cps.size ≤ sizeLine from hz)
    · have : z.cps.toList.take (i + 1) = z.cps.toList.take i ++ [c] := by
        rw [List.take_add_one, hc2] <;> rfl
      rw [this, List.map_append, upd_same] <;> rfl
  · have : i = z.cps.size := by omega
    subst this
    rw [show z.cps.size = z.cps.toList.length from rfl, List.take_length] at h1
    exact .inl ⟨Nat.le_refl _, done _ e h1⟩
theorem bools_dp {K : PySem.W.Frag} {H : Hp} (f : Nat → Bool) : ∀ l : List Nat, DpAll K H (l.map fun c => V.bl (f c)) (l.map fun c => .bool (f c))
  | [] => .nil
  | c :: r => .cons (.bl _) (bools_dp f r)
theorem ob_ne {d2 : PyData} {t2 : TE} (hv : σ[i]? = some (some u)) (ob : ObE K H u d) (dr : Drawn 4 d) (dr2 : Drawn 4 d2) (h2 : ∀ Q', (∀ H', Same H H' → ∀ u2, ObE K H' u2 d2 → Q' u2 H') → t2 σ H Q') (q : ∀ H', Same H H' → Q (.bl (!PyData.eqv d d2)) H') : tOp (rNeO (He.ga K "Expr") (spEqE K) E0) (tVar i) t2 σ H Q := by
  have n1 := drawn_nice dr
  have n2 := drawn_nice dr2
  refine ⟨_, hv, h2 _ fun H' e u2 ob2 => ?_⟩
  obtain ⟨a, dx, x, rfl, ha, hx⟩ := ob.up e
  obtain ⟨a2, dx2, x2, rfl, ha2, hx2⟩ := ob2
  exact ⟨a, dx, _, a2, dx2, _, rfl, rfl, ha, ha2, .ref a, .ref a2, d, d2, rfl, ⟨a, dx, x, rfl, ha, hx⟩, n1.ok, n2.ok, Nat.le_trans n1.dp (by decide), Nat.le_trans n2.dp (by decide), .inl ⟨⟨a2, dx2, x2, rfl, ha2, hx2⟩, _, rfl, q H' e⟩⟩
theorem ob_in {z : Str} {j : Nat} (hz : σ[j]? = some (some (.str z))) (hv : σ[i]? = some (some u)) (ob : ObE K H u d) (dr : Drawn 4 d) (q : ∀ H', Same H H' → Q (.bl (inV (.str z) ((lettersT 4 d).map V.str))) H') : tOp (rInO (He.ga K "Expr") (spInE K) E0) (tVar j) (tVar i) σ H Q := by
  obtain ⟨a, dx, x, rfl, ha, hx⟩ := ob
  have h9 := (meas_drawn dr 9 (by decide)).2
  have e : ((4 ^ 4 : Nat) : Int) = 256 := by decide
  exact ⟨_, hz, _, hv, a, dx, _, rfl, ha, .ref a, d, 4, z, rfl, ⟨a, dx, x, rfl, ha, hx⟩, dr, by decide, by omega, fun H' e => ⟨_, rfl, q H' e⟩⟩
end
end FF
/-! the law (under way) -/
namespace FF
open PySem PySem.Spec PyProof.Rows L2
def TBL (K : PySem.W.Frag) : List (Addr × Str) := [((He.cT K ("law", none)).2, (("law" : Str) ++ ".<locals>.") ++ "<lambda>")]
def spLaw (K : PySem.W.Frag) : Sp := fun vs H Q _ => ∃ (a : Addr) (ns : List Int), vs = [.ref a] ∧ SqL K H a (ns.map V.int) ∧ LamX.Tabs (TBL K) H ∧ ∀ H', Q (.bl true) H'
theorem text_len' {d : PyData} (h : Drawn 4 d) : (textD 5 d).length ≤ 2048 := by
  have : (textD 5 d).length + 7 ≤ 8 * 4 ^ 4 := text_len h
  have e : (8 * 4 ^ 4 : Nat) = 2048 := by decide
  omega
theorem made_same {H : Hp} {b dx C : Addr} (hb : H b = none) (hdx : H dx = none) : Same H (upd (upd H dx (.own b)) b (.ins C dx [])) := fun c o hc => by
  rw [upd_ne (ne_of_none hc hb), upd_ne (ne_of_none hc hdx)]
  exact hc
theorem made_off {H H1 H2 : Hp} {b : Addr} (hb : H b = none) (e : Same H H1) (s : SameB b H1 H2) : Same H H2 := fun c o hc => s c o (ne_of_none hc hb) (e c o hc)
theorem Src.upN {H H' : Hp} {s : Addr} (e : LamX.ExtN H H') (h : Src H s) : Src H' s := by
  obtain ⟨c, ns, h1, h2⟩ := h
  exact ⟨c, ns, e _ _ h1 (fun ps z => by unfold hid at z; cases z), e _ _ h2 (fun ps z => by cases z)⟩
theorem tp_n {K : PySem.W.Frag} {H H' : Hp} {v : V} {d : PyData} (h : Tp K H v d) (e : LamX.ExtN H H') : Tp K H' v d := h.up fun b xs hb => e _ _ hb fun ps z => by cases z
theorem ObE.upN {K : PySem.W.Frag} {H H' : Hp} {v : V} {d : PyData} (h : ObE K H v d) (e : LamX.ExtN H H') : ObE K H' v d := by
  obtain ⟨a, dx, x, e1, e2, e3⟩ := h
  exact ⟨a, dx, x, e1, e _ _ e2 (fun ps z => by cases z), tp_n e3 e⟩
def opL (low : Bool) : Str := if low then "&" else "|"
theorem drawn_two {n : Nat} {o : Str} {d d2 : PyData} (ho : isOp (.str o) = true) (h : Drawn n d) (h2 : Drawn n d2) : Drawn (n + 1) (.tuple [.str o, d, d2]) :=
  .inr ⟨.str o, [d, d2], rfl, ho, by show 2 ≤ 2; decide, by show 2 ≤ 4; decide, fun p hp => by
    simp only [List.mem_cons, List.not_mem_nil, or_false] at hp
    rcases hp with rfl | rfl
    · exact h
    · exact h2⟩
def abcS : Str := "abcdefgh"
def sgB (d : PyData) (c : Nat) : Bool := inV (.str ⟨#[c]⟩) ((lettersT 4 d).map V.str)
def sgV (d : PyData) (c : Nat) : V := .bl (sgB d c)
theorem sg_nice (d : PyData) : nice (.list (abcS.cps.toList.map fun c => .bool (sgB d c))) = true := (Nice.list (n := 0) (by rw [List.length_map]; decide +kernel) fun x hx => by
  obtain ⟨c, _, rfl⟩ := List.mem_map.mp hx
  exact ⟨rfl, Nat.zero_le _⟩).ok
theorem sg_dp (d : PyData) : (PyData.list (abcS.cps.toList.map fun c => .bool (sgB d c))).depth < 12 := Nat.lt_of_le_of_lt (Nice.list (n := 0) (ds := abcS.cps.toList.map fun c => PyData.bool (sgB d c)) (by rw [List.length_map]; decide +kernel) fun x hx => by
  obtain ⟨c, _, rfl⟩ := List.mem_map.mp hx
  exact ⟨rfl, Nat.zero_le _⟩).dp (by decide)
def oddT : PyData := .tuple [.none, .str "InvalidTerm"]
theorem odd_fits {d : PyData} (h : meas 9 d = 0) : fitsB d = false := by
  have h5 : meas 5 d = 0 := meas_down 5 d (meas_down 6 d (meas_down 7 d (meas_down 8 d h)))
  show (decide (1 ≤ meas 5 d) && decide (meas 5 d ≤ 24)) = false
  rw [h5] <;> rfl
def habS : Str := "hab"
def habD : PyData := .list [.str "h", .str "a", .str "b"]
def askA : Str := "a &"
def askZ : Str := "abzc"
def askY : Str := "abzyc"
def askTD : PyData := .tuple [.none, .str "InvalidText"]
def askLD : PyData := .tuple [.none, .str "InvalidLetter"]
/-- what stands over a turn -/
def InT (K : PySem.W.Frag) (r p3 : Addr) (v1 v2 u1 u2 : V) (d1 d2 : PyData) (H : Hp) : Prop := Src H r ∧ LamX.Tabs (TBL K) H ∧ Tp K H v1 d1 ∧ Tp K H v2 d2 ∧ ObE K H u1 d1 ∧ ObE K H u2 d2 ∧ H p3 = some (.tup [.bl true, .bl false])
theorem InT.up {K : PySem.W.Frag} {r p3 : Addr} {v1 v2 u1 u2 : V} {d1 d2 : PyData} {H H' : Hp} (h : InT K r p3 v1 v2 u1 u2 d1 d2 H) (e : Same H H') : InT K r p3 v1 v2 u1 u2 d1 d2 H' :=
  ⟨h.1.up e, h.2.1.ext e, h.2.2.1.up (Same.T e), h.2.2.2.1.up (Same.T e), h.2.2.2.2.1.up e, h.2.2.2.2.2.1.up e, e _ _ h.2.2.2.2.2.2⟩
theorem InT.upN {K : PySem.W.Frag} {r p3 : Addr} {v1 v2 u1 u2 : V} {d1 d2 : PyData} {H H' : Hp} (h : InT K r p3 v1 v2 u1 u2 d1 d2 H) (e : LamX.ExtN H H') (hT : LamX.Tabs (TBL K) H') : InT K r p3 v1 v2 u1 u2 d1 d2 H' :=
  ⟨h.1.upN e, hT, tp_n h.2.2.1 e, tp_n h.2.2.2.1 e, h.2.2.2.2.1.upN e, h.2.2.2.2.2.1.upN e, e _ _ h.2.2.2.2.2.2 (fun ps z => by cases z)⟩
theorem tt_bin {K : PySem.W.Frag} {H : Hp} {FE : Addr} {W : PyData} {Q : VK} {tl : XK → Hp → VK → Prop} (hc : OwnC K (He.ga K "InvalidTerm")) (hx : PySem.W.exmOne K (.ref (He.ga K "InvalidTerm")) (.ref FE) = some true)
    (hl : ∀ (E : XK) (Q' : VK), (fitsB W = true → ∀ v' H', Same H H' → ObE K H' v' W → Q' v' H') → (fitsB W = false → itE K H E) → tl E H Q')
    (q1 : fitsB W = true → ∀ v' H' p, Same H H' → ObE K H' v' W → H' p = none → Q (.ref p) (upd H' p (.tup [v', .str ""])))
    (q2 : fitsB W = false → ∀ H' p, Same H H' → H' p = none → Q (.ref p) (upd H' p (.tup [.non, .str "InvalidTerm"]))) : TTc K FE tl H Q :=
  hl _ _ (fun f v' H' e ob p hp => q1 f v' H' p e ob hp) (fun f dd H' e t => ⟨_, _, rfl, hc, hx, t, fun p hp => q2 f H' p e hp⟩)
section
variable {P : Program} {w : World} {K : PySem.W.Frag} {mg : Str → Option Value} {base : Heap}
theorem ok_law {gC gL : Addr} {fd fdC fdL : FuncData} (F : FunD K "law" "law" (defArgs s_law) (defBody s_law) (defScope s_law) [] [] (He.fAd K ("law", none)) fd) (T : Top K mg) (TB : LamX.TabB base mg (He.codeOf K ("law", none)) (He.cT K ("law", none)).2)
    (F_law_call : FunD K "_law_call" "_law_call" (defArgs s_law_call) (defBody s_law_call) (defScope s_law_call) [] [] gC fdC) (m_law_call : mg "_law_call" = some (.ref gC)) (F_law_letter_told : FunD K "_law_letter_told" "_law_letter_told" (defArgs s_law_letter_told) (defBody s_law_letter_told) (defScope s_law_letter_told) [] [] gL fdL) (m_law_letter_told : mg "_law_letter_told" = some (.ref gL))
    (M_Expr : MakeX P w K mg base "Expr" 15 ["self", "term"] (spExI K)) (D_Expr_parse : ClsX P w K mg base "Expr" "parse" 18 (spPrsE K)) (D_Expr_many : StatX P w K mg base "Expr" "many" 18 ["text"] (spMany K)) (D_Expr_term : PropD P w K mg base "Expr" "term" 1 (spTermP K))
    (D_Expr_turned : MethX P w K mg base "Expr" "turned" 17 ["self"] (spTurnE K)) (D_Expr___and__ : MethX P w K mg base "Expr" "__and__" 17 ["self", "other"] (spBinE K "&")) (D_Expr___or__ : MethX P w K mg base "Expr" "__or__" 17 ["self", "other"] (spBinE K "|"))
    (D_Expr___str__ : MethD P w K mg base "Expr" "__str__" 9 ["self"] (spStrE K)) (D_Expr___repr__ : MethD P w K mg base "Expr" "__repr__" 9 ["self"] (spReprE K)) (D_Expr___len__ : MethD P w K mg base "Expr" "__len__" 12 ["self"] (spLenE K)) (D_Expr___contains__ : MethD P w K mg base "Expr" "__contains__" 13 ["self", "letter"] (spInE K)) (D_Expr___eq__ : MethD P w K mg base "Expr" "__eq__" 1 ["self", "other"] (spEqE K))
    (D_law_source : Def P w K mg base "_law_source" 1 ["_law_script"] (spSource K)) (D_law_any_term : Def P w K mg base "_law_any_term" 9 ["_law_source_here"] (spAnyR K)) (D_law_text : Def P w K mg base "_law_text" 8 ["_law_word"] (spText K 8)) (D_law_same : Def P w K mg base "_law_same" 12 ["_law_found", "_law_due"] (spSame K 12))
    (D_law_fits : Def P w K mg base "_law_fits" 13 ["_law_word"] (spFits K)) (D_law_leaves : Def P w K mg base "_law_leaves" 9 ["_law_word"] (spInt K leaD 8)) (D_law_turned : Def P w K mg base "_law_turned" 8 ["_law_word"] (spTurn K 8)) (D_law_odd : Def P w K mg base "_law_odd" 3 ["_law_source_here", "_law_word"] (spOdd0 K))
    (D_law_signs_in : Def P w K mg base "_law_signs_in" 13 ["_law_word"] (spLets K)) :
    FnOk P w K mg base CX0 42 (He.fAd K ("law", none)) fd ["_law_script"] (spLaw K) := by
  have b_law_call : Binds K fdC ["_law_ask"] [] := F_law_call.bindsN fun _ _ _ _ _ _ us hl => match us, hl with | [_], _ => rfl
  have b_law_letter_told : Binds K fdL ["_law_ask"] [] := F_law_letter_told.bindsN fun _ _ _ _ _ _ us hl => match us, hl with | [_], _ => rfl
  refine fn_mkC F sc_law (fun vs H Q E h => ?_) (fun cdv A outer s0 H vs Q E ec hr h => ?_)
  · obtain ⟨a, ns, rfl, _⟩ := h
    rfl
  subst ec
  obtain ⟨a, ns, rfl, hS, hT, q⟩ := h
  refine ⟨_, (pss_cons (ps_set (i := 1) sc_law.nd rfl (Or.inl rfl) (pe_def D_law_source hr (by first | decide | omega) (pa_cons (pv 0) pa_nil)))
  (pss_cons (ps_for PassesOwn.never rfl (pi_range1 (by rfl) T.b_range (pa_cons pe_int pa_nil)) (pg_name (i := 2) sc_law.nd rfl (Or.inl rfl) (.inl rfl))
  (pss_cons (ps_asg (pe_tup (pa_cons (pe_def D_law_any_term hr (by first | decide | omega) (pa_cons (pv 1) pa_nil)) (pa_cons (pe_def D_law_any_term hr (by first | decide | omega) (pa_cons (pv 1) pa_nil)) pa_nil))) (pg_tupK K (n := 2) rfl (pgs_cons (pg_name (i := 3) sc_law.nd rfl (Or.inr rfl) (.inl rfl)) (pgs_cons (pg_name (i := 4) sc_law.nd rfl (Or.inl rfl) (.inl rfl)) pgs_nil))))
  (pss_cons (ps_asg (pe_tup (pa_cons (pe_mkxN M_Expr hr (by first | decide | omega) (pa_cons (pv 3) pa_nil)) (pa_cons (pe_clsN D_Expr_parse T.c_Expr hr (by first | decide | omega) (pa_cons (pe_def D_law_text hr (by first | decide | omega) (pa_cons (pv 4) pa_nil)) pa_nil)) pa_nil))) (pg_tupK K (n := 2) rfl (pgs_cons (pg_name (i := 5) sc_law.nd rfl (Or.inr rfl) (.inl rfl)) (pgs_cons (pg_name (i := 6) sc_law.nd rfl (Or.inr rfl) (.inl rfl)) pgs_nil))))
  (pss_cons (ps_for PassesOwn.never rfl (pi_tupK K (pe_tup (pa_cons pe_bl (pa_cons pe_bl pa_nil)))) (pg_name (i := 7) sc_law.nd rfl (Or.inr rfl) (.inl rfl))
  (pss_cons (ps_set (i := 8) sc_law.nd rfl (Or.inl rfl) (pe_tup (pa_cons (pe_ix (ix_listK K) (pe_lst (pa_cons pe_str (pa_cons pe_str pa_nil))) (pe_callTy call_int1 (by rfl) T.b_int (by decide +kernel) (pa_cons (pv 7) pa_nil)) (fun _ _ => rfl)) (pa_cons (pv 3) (pa_cons (pv 4) pa_nil)))))
  (pss_cons (ps_asg (pe_lamS (by rfl) m_law_call F_law_call b_law_call sc_law_call rfl (Or.inl rfl) (fun cdg => gives_law_call T) TB rfl rfl hr (lam_by (st := s_law) rfl (by decide +kernel)) rfl (fun _ _ _ _ _ => rfl) (fun A1 outer1 s1 H1 E1 f1 c1 hr1 => (pe_ifExp (pt_val (pv 7)) (pe_op (op_ownDK K (E := E1) (by rfl) T.sf_Expr D_Expr___and__ (takes_of rfl rfl rfl rfl) (fun _ _ _ _ h => h) hr1 (by first | decide | omega)) (pv 5) (pv 6)) (pe_op (op_ownDK K (E := E1) (by rfl) T.sf_Expr D_Expr___or__ (takes_of rfl rfl rfl rfl) (fun _ _ _ _ h => h) hr1 (by first | decide | omega)) (pv 5) (pv 6))))) (pg_tupK K (n := 2) rfl (pgs_cons (pg_name (i := 9) sc_law.nd rfl (Or.inl rfl) (.inl rfl)) (pgs_cons (pg_name (i := 10) sc_law.nd rfl (Or.inl rfl) (.inl rfl)) pgs_nil))))
  (pss_cons (ps_if (pt_cmpR op_ne (pv 10) (pe_ifExp (pt_val (pe_def D_law_fits hr (by first | decide | omega) (pa_cons (pv 8) pa_nil))) pe_str pe_str) (nomark _))
  (pss_one (ps_ret pe_bl))
  pss_nil)
  (pss_one (ps_if (PW.pt (pw_and (pt_cmpR op_eq (pv 10) pe_str (nomark _)) (pw_and1 (pt_not (pt_val (pe_def D_law_same hr (by first | decide | omega) (pa_cons (pe_lst (pa_cons (pe_propd D_Expr_term hr (by first | decide | omega) (pv 9)) (pa_cons (pe_callTy (call_strD D_Expr___str__ hr (by first | decide | omega)) (by rfl) T.b_str (by decide +kernel) (pa_cons (pv 9) pa_nil)) (pa_cons (pe_callB (call_lenD D_Expr___len__ hr (by first | decide | omega)) (by rfl) T.b_len (by decide +kernel) (pa_cons (pv 9) pa_nil)) pa_nil)))) (pa_cons (pe_lst (pa_cons (pv 8) (pa_cons (pe_def D_law_text hr (by first | decide | omega) (pa_cons (pv 8) pa_nil)) (pa_cons (pe_def D_law_leaves hr (by first | decide | omega) (pa_cons (pv 8) pa_nil)) pa_nil)))) pa_nil))))))))
  (pss_one (ps_ret pe_bl))
  pss_nil))))))
  (pss_cons (ps_set (i := 11) sc_law.nd rfl (Or.inl rfl) (pe_lst (pa_cons (pe_op op_add_str (pe_op op_add_str pe_str (pe_def D_law_text hr (by first | decide | omega) (pa_cons (pv 3) pa_nil))) pe_str) (pa_cons (pe_def D_law_text hr (by first | decide | omega) (pa_cons (pv 3) pa_nil)) (pa_cons (pe_def D_law_leaves hr (by first | decide | omega) (pa_cons (pv 3) pa_nil)) (pa_cons (pe_cmpR (op_eqK K hr.units) (pv 3) (pv 4) (nomark _)) (pa_cons (pe_cmpR (op_neK K hr.units) (pv 3) (pv 4) (nomark _)) pa_nil)))))))
  (pss_cons (ps_if (pt_not (pt_val (pe_def D_law_same hr (by first | decide | omega) (pa_cons (pe_lst (pa_cons (pe_callB (call_reprD D_Expr___repr__ hr (by first | decide | omega)) (by rfl) T.b_repr (by decide +kernel) (pa_cons (pv 5) pa_nil)) (pa_cons (pe_callTy (call_strD D_Expr___str__ hr (by first | decide | omega)) (by rfl) T.b_str (by decide +kernel) (pa_cons (pv 5) pa_nil)) (pa_cons (pe_callB (call_lenD D_Expr___len__ hr (by first | decide | omega)) (by rfl) T.b_len (by decide +kernel) (pa_cons (pv 5) pa_nil)) (pa_cons (pe_cmpR (op_eqZD D_Expr___eq__ T.i_Expr hr (by first | decide | omega)) (pv 5) (pv 6) (nomark _)) (pa_cons (pe_cmpR (op_neO D_Expr___eq__ T.ne_Expr T.i_Expr hr (by first | decide | omega)) (pv 5) (pv 6) (nomark _)) pa_nil)))))) (pa_cons (pv 11) pa_nil)))))
  (pss_one (ps_ret pe_bl))
  pss_nil)
  (pss_cons (ps_if (pt_not (pt_val (pe_def D_law_same hr (by first | decide | omega) (pa_cons (pe_lc (own := [("_law_sign", 12)]) rfl sc_law.nd (pi_str pe_str) (blkOk_by (by kernel_rfl)) (fun _ _ _ _ _ => (pg_name (i := 12) sc_law.nd rfl (Or.inl rfl) (.inr rfl))) (fun _ _ _ _ _ => pts_nil) (fun _ _ _ _ _ => (pe_cmpR (op_ownIDK K D_Expr___contains__ hr (by first | decide | omega)) (pv 12) (pv 5) (by rfl)))) (pa_cons (pe_lc (own := [("_law_sign", 12)]) rfl sc_law.nd (pi_str pe_str) (blkOk_by (by kernel_rfl)) (fun _ _ _ _ _ => (pg_name (i := 12) sc_law.nd rfl (Or.inl rfl) (.inr rfl))) (fun _ _ _ _ _ => pts_nil) (fun _ _ _ _ _ => (pe_cmpR (op_in_seqK K) (pv 12) (pe_def D_law_signs_in hr (by first | decide | omega) (pa_cons (pv 3) pa_nil)) (by rfl)))) pa_nil)))))
  (pss_one (ps_ret pe_bl))
  pss_nil)
  (pss_cons (ps_if (PW.pt (pw_or (pt_not (pt_val (pe_def D_law_same hr (by first | decide | omega) (pa_cons (pe_lst (pa_cons (pe_propd D_Expr_term hr (by first | decide | omega) (pe_methx0N D_Expr_turned hr (by first | decide | omega) (pv 5))) (pa_cons (pe_propd D_Expr_term hr (by first | decide | omega) (pv 5)) (pa_cons (pe_propd D_Expr_term hr (by first | decide | omega) (pv 6)) pa_nil)))) (pa_cons (pe_lst (pa_cons (pe_def D_law_turned hr (by first | decide | omega) (pa_cons (pv 3) pa_nil)) (pa_cons (pv 3) (pa_cons (pv 4) pa_nil)))) pa_nil))))) (pw_or1 (pt_cmpR (op_eqZD D_Expr___eq__ T.i_Expr hr (by first | decide | omega)) (pv 5) (pv 3) (nomark _)))))
  (pss_one (ps_ret pe_bl))
  pss_nil)
  (pss_cons (ps_set (i := 13) sc_law.nd rfl (Or.inr rfl) (pe_def D_law_odd hr (by first | decide | omega) (pa_cons (pv 1) (pa_cons (pv 3) pa_nil))))
  (pss_one (ps_if (PW.pt (pw_or (pt_cmpR (op_neK K hr.units) (pe_lamS (by rfl) m_law_call F_law_call b_law_call sc_law_call rfl (Or.inl rfl) (fun cdg => gives_law_call T) TB rfl rfl hr (lam_by (st := s_law) rfl (by decide +kernel)) rfl (fun _ _ _ _ _ => rfl) (fun A1 outer1 s1 H1 E1 f1 c1 hr1 => (pe_mkxK K (E := E1) M_Expr (takes_of rfl rfl rfl rfl) (fun _ _ _ _ h => h) hr1 (by first | decide | omega) (pa_cons (pv 13) pa_nil)))) (pe_tup (pa_cons pe_non (pa_cons pe_str pa_nil))) (nomark _)) (pw_or1 (pt_cmpR (op_neO D_Expr___eq__ T.ne_Expr T.i_Expr hr (by first | decide | omega)) (pv 5) (pe_mkxN M_Expr hr (by first | decide | omega) (pa_cons (pv 3) pa_nil)) (nomark _)))))
  (pss_one (ps_ret pe_bl))
  pss_nil)))))))))))
  (pss_cons (ps_set (i := 14) sc_law.nd rfl (Or.inl rfl) (pe_statN D_Expr_many hr (by first | decide | omega) (pa_cons pe_str pa_nil)))
  (pss_cons (ps_if (PW.pt (pw_or (pt_cmpR (op_neK K hr.units) (pe_lc (own := [("_law_part", 15)]) rfl sc_law.nd (pi_listK K (pv 14)) (blkOk_by (by kernel_rfl)) (fun _ _ _ _ _ => (pg_name (i := 15) sc_law.nd rfl (Or.inl rfl) (.inr rfl))) (fun _ _ _ _ _ => pts_nil) (fun _ _ _ _ _ => (pe_propdK K D_Expr_term hr (by first | decide | omega) (pv 15)))) (pe_lst (pa_cons pe_str (pa_cons pe_str (pa_cons pe_str pa_nil)))) (nomark _)) (pw_or1 (pt_cmpR (op_neK K hr.units) (pe_statN D_Expr_many hr (by first | decide | omega) (pa_cons pe_str pa_nil)) (pe_lst pa_nil) (nomark _)))))
  (pss_one (ps_ret pe_bl))
  pss_nil)
  (pss_cons (ps_set (i := 16) sc_law.nd rfl (Or.inl rfl) (pe_lst (pa_cons (pe_lamS (by rfl) m_law_call F_law_call b_law_call sc_law_call rfl (Or.inl rfl) (fun cdg => gives_law_call T) TB rfl rfl hr (lam_by (st := s_law) rfl (by decide +kernel)) rfl (fun _ _ _ _ _ => rfl) (fun A1 outer1 s1 H1 E1 f1 c1 hr1 => (pe_clsxK K (E := E1) D_Expr_parse T.c_Expr (takes_of rfl rfl rfl rfl) (fun _ _ _ _ h => h) hr1 (by first | decide | omega) (pa_cons pe_str pa_nil)))) (pa_cons (pe_lamS (by rfl) m_law_call F_law_call b_law_call sc_law_call rfl (Or.inl rfl) (fun cdg => gives_law_call T) TB rfl rfl hr (lam_by (st := s_law) rfl (by decide +kernel)) rfl (fun _ _ _ _ _ => rfl) (fun A1 outer1 s1 H1 E1 f1 c1 hr1 => (pe_statx (E := E1) D_Expr_many (takes_of rfl rfl rfl rfl) (fun _ _ _ _ h => h) hr1 (by first | decide | omega) (pa_cons pe_str pa_nil)))) pa_nil))))
  (pss_cons (ps_if (pt_cmpR (op_neK K hr.units) (pe_lamS (by rfl) m_law_letter_told F_law_letter_told b_law_letter_told sc_law_letter_told rfl (Or.inl rfl) (fun cdg => gives_law_letter_told T) TB rfl rfl hr (lam_by (st := s_law) rfl (by decide +kernel)) rfl (fun _ _ _ _ _ => rfl) (fun A1 outer1 s1 H1 E1 f1 c1 hr1 => (pe_statx (E := E1) D_Expr_many (takes_of rfl rfl rfl rfl) (fun _ _ _ _ h => h) hr1 (by first | decide | omega) (pa_cons pe_str pa_nil)))) pe_str (nomark _))
  (pss_one (ps_ret pe_bl))
  pss_nil)
  (pss_one (ps_ret (pe_and (pe_cmpR (op_eqK K hr.units) (pv 16) (pe_lst (pa_cons (pe_tup (pa_cons pe_non (pa_cons pe_str pa_nil))) (pa_cons (pe_tup (pa_cons pe_non (pa_cons pe_str pa_nil))) pa_nil))) (nomark _)) (pe_one (pe_cmpR op_isBl (pe_callTy (call_boolD T.nb_Expr D_Expr___len__ hr (by first | decide | omega)) (by rfl) T.b_bool (by decide +kernel) (pa_cons (pe_ix (ix_listK K) (pv 14) pe_int (fun _ _ => rfl)) pa_nil)) pe_bl (nomark _)))))))))))), ?_⟩
  refine ⟨_, rfl, a, ns, rfl, hS, fun r H1 e1 s1 => ?_⟩
  have hT1 : LamX.Tabs (TBL K) H1 := hT.ext e1
  refine ⟨6, rfl, by decide, by decide, ?_⟩
  refine for_range (lo := 0) (n := 6) (fun i σ H' => (∃ o2 o3 o4 o5 o6 o7 o8 o9 o10 o11 o13, σ = [some (.ref a), some (.ref r), o2, o3, o4, o5, o6, o7, o8, o9, o10, o11, none, o13, none, none, none]) ∧ Src H' r ∧ LamX.Tabs (TBL K) H')
    ⟨⟨none, none, none, none, none, none, none, none, none, none, none, rfl⟩, s1, hT1⟩ ?_ ?_
  · rintro i σ H2 hi ⟨⟨o2, o3, o4, o5, o6, o7, o8, o9, o10, o11, o13, rfl⟩, s2, hT2⟩
    refine ⟨_, rfl, r, rfl, s2, fun v1 H3 d1 e3 t1 dr1 m1 => ?_⟩
    refine ⟨_, rfl, r, rfl, s2.up e3, fun v2 H4 d2 e4 t2 dr2 m2 => ?_⟩
    refine ⟨(by show 2 ≤ sizeLine; decide), fun p hp => ?_⟩
    have e5 := same_new hp (.tup [v1, v2])
    have hp5 : (upd H4 p (.tup [v1, v2])) p = some (.tup [v1, v2]) := upd_same
    generalize upd H4 p (.tup [v1, v2]) = H5 at e5 hp5 ⊢
    refine ⟨p, _, rfl, SqT.of hp5, rfl, v1, [v2], rfl, v2, [], rfl, rfl, ?_⟩
    have t15 : Tp K H5 v1 d1 := t1.up (Same.T (e4.trans e5))
    have t25 : Tp K H5 v2 d2 := t2.up (Same.T e5)
    have n1 := drawn_nice dr1
    have n2 := drawn_nice dr2
    have f1 := term_fits dr1 m1
    have f2 := term_fits dr2 m2
    refine ⟨_, rfl, fun b1 dx1 hb0 hdx0 hne1 => ?_⟩
    have w1 := made_same (C := He.ga K "Expr") hb0 hdx0
    refine ⟨b1, dx1, v1, d1, rfl, upd_same, up_d w1 t15.dp, n1.ok, fun _ H6 sb1 hb1 => ⟨rfl, ?_⟩, fun z => by rw [f1] at z; cases z⟩
    have e6 : Same H5 H6 := made_off hb0 w1 sb1
    refine ⟨_, rfl, v2, d2, 4, rfl, t25.up (Same.T e6), dr2, by decide, by decide, fun H7 e7 => ?_⟩
    have e67 := e6.trans e7
    refine ⟨textD 5 d2, rfl, Nat.le_trans (text_len' dr2) (by decide), fun d hd => ?_, fun no => absurd ((parse_text dr2 f2).symm.trans no) (by simp)⟩
    cases (parse_text dr2 f2).symm.trans hd
    refine ⟨n2.ok, f2, fun w2 H8 e8 ob2 => ?_⟩
    have ob1 : ObE K H8 (.ref b1) d1 := ⟨b1, dx1, v1, rfl, (e7.trans e8) _ _ hb1, t15.up (Same.T (e6.trans (e7.trans e8)))⟩
    have e58 := e67.trans e8
    refine ⟨(by show 2 ≤ sizeLine; decide), fun p2 hp2 => ?_⟩
    have e9 := same_new hp2 (.tup [.ref b1, w2])
    have hp9 : (upd H8 p2 (.tup [.ref b1, w2])) p2 = some (.tup [.ref b1, w2]) := upd_same
    generalize upd H8 p2 (.tup [.ref b1, w2]) = H9 at e9 hp9 ⊢
    refine ⟨p2, _, rfl, SqT.of hp9, rfl, .ref b1, [w2], rfl, w2, [], rfl, rfl, ?_⟩
    refine ⟨(by show 2 ≤ sizeLine; decide), fun p3 hp3 => ?_⟩
    have e10 := same_new hp3 (.tup [.bl true, .bl false])
    have hp10 : (upd H9 p3 (.tup [.bl true, .bl false])) p3 = some (.tup [.bl true, .bl false]) := upd_same
    generalize upd H9 p3 (.tup [.bl true, .bl false]) = H10 at e10 hp10 ⊢
    refine ⟨p3, rfl, ⟨_, SqT.of hp10⟩, ?_⟩
    have eA : Same H2 H10 := e3.trans (e4.trans (e5.trans (e58.trans (e9.trans e10))))
    have I10 : InT K r p3 v1 v2 (.ref b1) w2 d1 d2 H10 := ⟨s2.up eA, hT2.ext eA, t15.up (Same.T (e58.trans (e9.trans e10))), t25.up (Same.T (e58.trans (e9.trans e10))), ob1.up (e9.trans e10), ob2.up (e9.trans e10), hp10⟩
    clear eA hp10 e10 hp9 e9 ob1 ob2 e58 e8 e67 e7 e6 hb1 sb1 w1 hne1 hdx0 hb0 t25 t15 e5 hp5 t1 t2 e3 e4 s2 hT2
    have w12 : ∀ o : Str, isOp (.str o) = true → Drawn 5 (.tuple [.str o, d1, d2]) := fun o ho => drawn_two ho dr1 dr2
    refine for_tup (xs := [.bl true, .bl false]) (fun k σ H' => ∃ o7 o8 o9 o10, σ = [some (.ref a), some (.ref r), some (.int (0 + i)), some v1, some v2, some (.ref b1), some w2, o7, o8, o9, o10, o11, none, o13, none, none, none] ∧ InT K r p3 v1 v2 (.ref b1) w2 d1 d2 H') ⟨o7, o8, o9, o10, rfl, I10⟩ ?_ ?_ ?_
    · rintro k σ H' _ ⟨_, _, _, _, _, I⟩
      exact SqT.of I.2.2.2.2.2.2
    · clear I10
      rintro k x σ H' hx ⟨o7, o8, o9, o10, rfl, I⟩
      obtain ⟨low, rfl⟩ : ∃ low, x = .bl low := match k, hx with
        | 0, hx => ⟨true, (Option.some.inj hx).symm⟩
        | 1, hx => ⟨false, (Option.some.inj hx).symm⟩
      refine ⟨(by show 2 ≤ sizeLine; decide), fun pl hpl => ?_⟩
      have I1 := I.up (same_new hpl (.lst [.str "|", .str "&"]))
      refine ⟨_, rfl, .inr ⟨low, rfl, pl, _, _, .str (opL low), rfl, rfl, SqL.of upd_same, ?_, _, rfl, _, rfl, (by show 3 ≤ sizeLine; decide), fun pw hpw => ?_⟩⟩
      · cases low
        · exact atI_nat (j := 0) rfl
        · exact atI_nat (j := 1) rfl
      have I2 := I1.up (same_new hpw (.tup [.str (opL low), v1, v2]))
      have ho : isOp (.str (opL low)) = true := by cases low <;> decide +kernel
      have hw : Tp K (upd (upd H' pl (.lst [.str "|", .str "&"])) pw (.tup [.str (opL low), v1, v2])) (.ref pw) (.tuple [.str (opL low), d1, d2]) := .tup (.inl upd_same) (.cons (.str _) (.cons I2.2.2.1 (.cons I2.2.2.2.1 .nil)))
      have dw := w12 _ ho
      generalize upd (upd H' pl (.lst [.str "|", .str "&"])) pw (.tup [.str (opL low), v1, v2]) = H3 at I2 hw ⊢
      clear I I1 hpl hpw
      refine ⟨I2.2.1, fun H4 eN T4 => ?_⟩
      have I4 := I2.upN eN T4
      have hw4 := tp_n hw eN
      clear I2 hw eN T4
      refine tt_bin T.x_InvalidTerm.c T.x_InvalidTerm.exm (W := .tuple [.str (opL low), d1, d2]) (fun E' Q' a1 a2 => ?_) (fun f v' H5 p e ob hp => ?_) (fun f H5 p e hp => ?_)
      · obtain ⟨c1, dx1, x1, ec1, hb1, hx1⟩ := I4.2.2.2.2.1
        obtain ⟨c2, dx2, x2, ec2, hb2, hx2⟩ := I4.2.2.2.2.2.1
        cases ec1
        subst ec2
        have nw := drawn_nice dw
        cases low
        · exact ⟨_, rfl, _, rfl, iteF ⟨_, rfl, _, rfl, b1, _, _, c2, _, _, rfl, rfl, hb1, hb2, .ref b1, .ref c2, d1, d2, rfl, ⟨b1, _, _, rfl, hb1, hx1⟩, ⟨c2, _, _, rfl, hb2, hx2⟩, nw.ok, fun f v' H' e ob => ⟨ob.ref, a1 f v' H' e ob⟩, a2⟩⟩
        · exact ⟨_, rfl, _, rfl, iteT ⟨_, rfl, _, rfl, b1, _, _, c2, _, _, rfl, rfl, hb1, hb2, .ref b1, .ref c2, d1, d2, rfl, ⟨b1, _, _, rfl, hb1, hx1⟩, ⟨c2, _, _, rfl, hb2, hx2⟩, nw.ok, fun f v' H' e ob => ⟨ob.ref, a1 f v' H' e ob⟩, a2⟩⟩
      · have e5 := same_new hp (.tup [v', .str ""])
        have I5 := (I4.up e).up e5
        have hw5 := (hw4.up (Same.T e)).up (Same.T e5)
        have ob5 := ob.up e5
        have hp5 : (upd H5 p (.tup [v', .str ""])) p = some (.tup [v', .str ""]) := upd_same
        generalize upd H5 p (.tup [v', .str ""]) = H6 at I5 hw5 ob5 hp5 ⊢
        clear I4 hw4 ob e5
        have nw := drawn_nice dw
        refine ⟨p, _, rfl, SqT.of hp5, rfl, v', [.str ""], rfl, .str "", [], rfl, rfl, ?_⟩
        refine ⟨_, rfl, _, rfl, .ref pw, _, rfl, hw5.dp, nw.mono (by decide), fun H7 e7 => ?_⟩
        have ef : (decide (1 ≤ meas 5 (.tuple [.str (opL low), d1, d2])) && decide (meas 5 (.tuple [.str (opL low), d1, d2]) ≤ 24)) = true := f
        rw [ef]
        refine ⟨_, rfl, iteT ⟨rfl, false, congrArg V.bl (by decide +kernel), iteF ?_⟩⟩
        have I7 := I5.up e7
        have hw7 := hw5.up (Same.T e7)
        have ob7 := ob5.up e7
        clear I5 hw5 ob5 hp5 e7 ef
        refine ⟨_, rfl, rfl, true, congrArg V.bl (by decide +kernel), iteT ?_⟩
        refine ob_term rfl ob7 fun x hx => ?_
        refine ob_str rfl ob7 dw (by decide) fun H8 e8 => ?_
        refine ob_len rfl (ob7.up e8) dw (by decide) fun H9 e9 => ?_
        refine ⟨(by show 3 ≤ sizeLine; decide), fun q1 hq1 => ?_⟩
        have f1 := same_new hq1 (.lst [x, .str (textD 6 (.tuple [.str (opL low), d1, d2])), .int (leaD 6 (.tuple [.str (opL low), d1, d2]))])
        refine ⟨_, rfl, _, rfl, .ref pw, _, 5, rfl, hw7.up (Same.T (e8.trans (e9.trans f1))), dw, by decide, by decide, fun HA eA => ?_⟩
        refine ⟨_, rfl, .ref pw, _, 5, rfl, hw7.up (Same.T (e8.trans (e9.trans (f1.trans eA)))), dw, by decide, fun HB eB => ?_⟩
        refine ⟨(by show 3 ≤ sizeLine; decide), fun q2 hq2 => ?_⟩
        have f2 := same_new hq2 (.lst [.ref pw, .str (textD 6 (.tuple [.str (opL low), d1, d2])), .int (leaD 6 (.tuple [.str (opL low), d1, d2]))])
        have nl : Nice 6 (.list [.tuple [.str (opL low), d1, d2], .str (textD 6 (.tuple [.str (opL low), d1, d2])), .int (leaD 6 (.tuple [.str (opL low), d1, d2]))]) := Nice.list (n := 5) (by simp) fun c hc => by
          simp only [List.mem_cons, List.not_mem_nil, or_false] at hc
          rcases hc with rfl | rfl | rfl
          · exact nw
          · exact (text_niceN dw (by decide)).mono (by decide)
          · exact ⟨rfl, Nat.zero_le _⟩
        have fx := e8.trans (e9.trans (f1.trans (eA.trans (eB.trans f2))))
        refine ⟨.ref q1, .ref q2, .list [.tuple [.str (opL low), d1, d2], .str (textD 6 (.tuple [.str (opL low), d1, d2])), .int (leaD 6 (.tuple [.str (opL low), d1, d2]))], rfl, .lst (SqL.of ((eA.trans (eB.trans f2)) _ _ upd_same)) (.cons (hx.up (Same.T fx)).dp (.cons (.str _) (.cons (.int _) .nil))), .lst (SqL.of upd_same) (.cons (hw7.up (Same.T fx)).dp (.cons (.str _) (.cons (.int _) .nil))), nl.ok, by have := nl.dp; omega, by decide, fun HC eC => ⟨_, rfl, iteF ?_⟩⟩
        exact ⟨_, _, _, _, rfl, I7.up (fx.trans eC)⟩
      · have e5 := same_new hp (.tup [.non, .str "InvalidTerm"])
        have I5 := (I4.up e).up e5
        have hw5 := (hw4.up (Same.T e)).up (Same.T e5)
        have hp5 : (upd H5 p (.tup [.non, .str "InvalidTerm"])) p = some (.tup [.non, .str "InvalidTerm"]) := upd_same
        generalize upd H5 p (.tup [.non, .str "InvalidTerm"]) = H6 at I5 hw5 hp5 ⊢
        clear I4 hw4 e5
        have nw := drawn_nice dw
        refine ⟨p, _, rfl, SqT.of hp5, rfl, .non, [.str "InvalidTerm"], rfl, .str "InvalidTerm", [], rfl, rfl, ?_⟩
        refine ⟨_, rfl, _, rfl, .ref pw, _, rfl, hw5.dp, nw.mono (by decide), fun H7 e7 => ?_⟩
        have ef : (decide (1 ≤ meas 5 (.tuple [.str (opL low), d1, d2])) && decide (meas 5 (.tuple [.str (opL low), d1, d2]) ≤ 24)) = false := f
        rw [ef]
        refine ⟨_, rfl, iteF ⟨rfl, false, congrArg V.bl (by decide +kernel), iteF ?_⟩⟩
        have I7 := I5.up e7
        refine ⟨_, rfl, rfl, false, congrArg V.bl (by decide +kernel), iteF (iteF ?_)⟩
        exact ⟨_, _, _, _, rfl, I7⟩
    · clear I10 w12
      rintro σ H' ⟨o7, o8, o9, o10, rfl, I⟩
      have lE : ("Expr(" : Str).length = 5 := by decide +kernel
      have lp : (")" : Str).length = 1 := by decide +kernel
      have tz : (textD 5 d1).length ≤ 8192 := text_szN dr1 (by decide)
      -- due
      refine ⟨_, rfl, v1, d1, 4, rfl, I.2.2.1, dr1, by decide, by decide, fun H1 e1 => ?_⟩
      refine ⟨_, _, rfl, rfl, le_line (by show ("Expr(" : Str).length + (textD 5 d1).length ≤ 20000; omega), _, _, rfl, rfl, le_line (by rw [app_len]; show ("Expr(" : Str).length + (textD 5 d1).length + (")" : Str).length ≤ 20000; omega), ?_⟩
      replace I := I.up e1
      refine ⟨_, rfl, v1, d1, 4, rfl, I.2.2.1, dr1, by decide, by decide, fun H2 e2 => ?_⟩
      replace I := I.up e2
      refine ⟨_, rfl, v1, d1, 4, rfl, I.2.2.1, dr1, by decide, fun H3 e3 => ?_⟩
      replace I := I.up e3
      refine ⟨_, rfl, _, rfl, d1, d2, I.2.2.1.dp, I.2.2.2.1.dp, n1.shaped, n2.shaped, ?_⟩
      refine ⟨_, rfl, _, rfl, d1, d2, I.2.2.1.dp, I.2.2.2.1.dp, n1.shaped, n2.shaped, ?_⟩
      refine ⟨(by show 5 ≤ sizeLine; decide), fun q1 hq1 => ?_⟩
      have f1 := same_new hq1 (.lst [.str ((("Expr(" : Str) ++ textD 5 d1) ++ (")" : Str)), .str (textD 5 d1), .int (leaD 5 d1), .bl (PyData.eqv d1 d2), .bl (!PyData.eqv d1 d2)])
      have hq : (upd H3 q1 (.lst [.str ((("Expr(" : Str) ++ textD 5 d1) ++ (")" : Str)), .str (textD 5 d1), .int (leaD 5 d1), .bl (PyData.eqv d1 d2), .bl (!PyData.eqv d1 d2)])) q1 = some (.lst [.str ((("Expr(" : Str) ++ textD 5 d1) ++ (")" : Str)), .str (textD 5 d1), .int (leaD 5 d1), .bl (PyData.eqv d1 d2), .bl (!PyData.eqv d1 d2)]) := upd_same
      replace I := I.up f1
      generalize upd H3 q1 (.lst [.str ((("Expr(" : Str) ++ textD 5 d1) ++ (")" : Str)), .str (textD 5 d1), .int (leaD 5 d1), .bl (PyData.eqv d1 d2), .bl (!PyData.eqv d1 d2)]) = H4 at I hq ⊢
      clear f1 hq1 e1 e2 e3
      refine ob_repr rfl I.2.2.2.2.1 dr1 (by decide) fun H5 e5 => ?_
      have I5 := I.up e5
      refine ob_str rfl I5.2.2.2.2.1 dr1 (by decide) fun H6 e6 => ?_
      have I6 := I5.up e6
      refine ob_len rfl I6.2.2.2.2.1 dr1 (by decide) fun H7 e7 => ?_
      have I7 := I6.up e7
      refine ob_eqo rfl rfl I7.2.2.2.2.1 I7.2.2.2.2.2.1 dr1 dr2 ?_
      refine ob_ne rfl I7.2.2.2.2.1 dr1 dr2 (fun Q' k' => ⟨_, rfl, k' _ (Same.refl _) _ I7.2.2.2.2.2.1⟩) fun H8 e8 => ?_
      have I8 := I7.up e8
      have hq8 := (e5.trans (e6.trans (e7.trans e8))) _ _ hq
      clear I I5 I6 I7 e5 e6 e7 e8 hq
      refine ⟨(by show 5 ≤ sizeLine; decide), fun q2 hq2 => ?_⟩
      have f2 := same_new hq2 (.lst [.str ((("Expr(" : Str) ++ textD 5 d1) ++ (")" : Str)), .str (textD 5 d1), .int (leaD 5 d1), .bl (PyData.eqv d1 d2), .bl (!PyData.eqv d1 d2)])
      have nx : Nice 0 (.str ((("Expr(" : Str) ++ textD 5 d1) ++ (")" : Str))) := text_wrap dr1
      have nl : Nice 1 (.list [.str ((("Expr(" : Str) ++ textD 5 d1) ++ (")" : Str)), .str (textD 5 d1), .int (leaD 5 d1), .bool (PyData.eqv d1 d2), .bool (!PyData.eqv d1 d2)]) := Nice.list (n := 0) (by simp) fun c hc => by
        simp only [List.mem_cons, List.not_mem_nil, or_false] at hc
        rcases hc with rfl | rfl | rfl | rfl | rfl
        · exact nx
        · exact text_niceN dr1 (by decide)
        · exact ⟨rfl, Nat.zero_le _⟩
        · exact ⟨rfl, Nat.zero_le _⟩
        · exact ⟨rfl, Nat.zero_le _⟩
      refine ⟨_, rfl, .ref q2, .ref q1, .list [.str ((("Expr(" : Str) ++ textD 5 d1) ++ (")" : Str)), .str (textD 5 d1), .int (leaD 5 d1), .bool (PyData.eqv d1 d2), .bool (!PyData.eqv d1 d2)], rfl, .lst (SqL.of upd_same) (.cons (.str _) (.cons (.str _) (.cons (.int _) (.cons (.bl _) (.cons (.bl _) .nil))))), .lst (SqL.of (f2 _ _ hq8)) (.cons (.str _) (.cons (.str _) (.cons (.int _) (.cons (.bl _) (.cons (.bl _) .nil))))), nl.ok, by have := nl.dp; omega, by decide, fun H9 e9 => ⟨_, rfl, iteF ?_⟩⟩
      have I9 := I8.up (f2.trans e9)
      clear I8 hq8 f2 e9 hq2 nl nx
      have m9 : meas 9 d1 ≤ 400 := by
        have h9 := (meas_drawn dr1 9 (by decide)).2
        have e : ((4 ^ 4 : Nat) : Int) = 256 := by decide
        omega
      -- the signs
      unfold tNext
      dsimp only
      refine ⟨abcS, rfl, fun D1 hD1 => ?_⟩
      refine lc_strS (j := 12) (sgV d1) hD1 (by decide +kernel) (fun _ => rfl) (fun c H2 e Q' k' => ob_in rfl rfl (I9.up e).2.2.2.2.1 dr1 fun H3 e3 => k' H3 e3) fun H10 e10 hD10 => ?_
      have I10 := I9.up e10
      refine ⟨abcS, rfl, fun D2 hD2 => ?_⟩
      refine lc_strS (j := 12) (sgV d1) hD2 (by decide +kernel) (fun _ => rfl) (fun c H2 e Q' k' => ⟨_, rfl, _, rfl, v1, d1, 4, rfl, (I10.up e).2.2.1, dr1, by decide, m9, fun p H3 e3 _ hp => ⟨p, _, rfl, .inl (SqL.of hp), rfl, by rw [List.all_map]; exact List.all_eq_true.mpr fun _ _ => rfl, k' H3 e3⟩⟩) fun H11 e11 hD11 => ?_
      have I11 := I10.up e11
      refine ⟨.ref D1, .ref D2, .list (abcS.cps.toList.map fun c => .bool (sgB d1 c)), rfl, .lst (SqL.of (e11 _ _ hD10)) (bools_dp _ _), .lst (SqL.of hD11) (bools_dp _ _), sg_nice d1, sg_dp d1, by decide, fun H12 e12 => ⟨_, rfl, iteF ?_⟩⟩
      have I12 := I11.up e12
      clear I9 I10 I11 e10 e11 e12 hD1 hD2 hD10 hD11
      dsimp only
      -- turned
      obtain ⟨a1, ax1, x1, ea1, ha1, hx1⟩ := id I12.2.2.2.2.1
      cases ea1
      have trd := turn_drawn dr1
      have tn := drawn_nice trd
      have tf : fitsB (turnD 5 d1) = true := term_fits trd (by rw [meas_turn dr1 5 (by decide)]; exact m1)
      refine ⟨_, rfl, b1, ax1, _, rfl, ha1, rfl, ?_⟩
      refine ⟨.ref b1, d1, 4, rfl, ⟨b1, ax1, x1, rfl, ha1, hx1⟩, dr1, by decide, tn.ok, tf, fun vt H13 e13 obt => ?_⟩
      obtain ⟨at_, axt, xt, rfl, hat, hxt⟩ := obt
      refine ⟨at_, axt, _, rfl, hat, .ref at_, _, rfl, ⟨at_, axt, xt, rfl, hat, hxt⟩, fun z1 hz1 => ?_⟩
      have I13 := I12.up e13
      refine ob_term rfl I13.2.2.2.2.1 fun z2 hz2 => ?_
      refine ob_term rfl I13.2.2.2.2.2.1 fun z3 hz3 => ?_
      refine ⟨(by show 3 ≤ sizeLine; decide), fun q3 hq3 => ?_⟩
      have f1' := same_new hq3 (.lst [z1, z2, z3])
      have hq13 : (upd H13 q3 (.lst [z1, z2, z3])) q3 = some (.lst [z1, z2, z3]) := upd_same
      have I14 := I13.up f1'
      replace hz1 := hz1.up (Same.T f1')
      replace hz2 := hz2.up (Same.T f1')
      replace hz3 := hz3.up (Same.T f1')
      generalize upd H13 q3 (.lst [z1, z2, z3]) = H14 at I14 hq13 hz1 hz2 hz3 ⊢
      clear I12 I13 f1' hq3 ha1 hx1 hat hxt e13
      refine ⟨_, rfl, v1, d1, 4, rfl, I14.2.2.1, dr1, by decide, fun vt2 H15 e15 ht2 => ?_⟩
      refine ⟨_, rfl, _, rfl, (by show 3 ≤ sizeLine; decide), fun q4 hq4 => ?_⟩
      have f2' := same_new hq4 (.lst [vt2, v1, v2])
      have nl : Nice 5 (.list [turnD 5 d1, d1, d2]) := Nice.list (n := 4) (by simp) fun c hc => by
        simp only [List.mem_cons, List.not_mem_nil, or_false] at hc
        rcases hc with rfl | rfl | rfl
        · exact tn
        · exact n1
        · exact n2
      have g2 := e15.trans f2'
      have I15 := I14.up g2
      refine ⟨.ref q3, .ref q4, .list [turnD 5 d1, d1, d2], rfl, .lst (SqL.of (g2 _ _ hq13)) (.cons (hz1.up (Same.T g2)).dp (.cons (hz2.up (Same.T g2)).dp (.cons (hz3.up (Same.T g2)).dp .nil))), .lst (SqL.of upd_same) (.cons (ht2.up (Same.T f2')).dp (.cons I15.2.2.1.dp (.cons I15.2.2.2.1.dp .nil))), nl.ok, by have := nl.dp; omega, by decide, fun H16 e16 => ⟨_, rfl, iteF ?_⟩⟩
      have I16 := I15.up e16
      clear I14 I15 g2 f2' e15 e16 hz1 hz2 hz3 ht2 hq4 hq13 nl
      refine ob_eqw rfl rfl I16.2.2.2.2.1 I16.2.2.1 dr1 dr1 ⟨false, rfl, iteF ?_⟩
      -- an odd value
      refine ⟨_, rfl, _, rfl, r, v1, d1, rfl, I16.1, I16.2.2.1.dp, n1.mono (by decide), fun ov H17 od e17 hod hno hmo => ?_⟩
      have I17 := I16.up e17
      clear I16 e17
      refine ⟨I17.2.1, fun H18 eN hT18 => ?_⟩
      have I18 := I17.upN eN hT18
      have ho18 := sn_d eN hod
      clear I17 hod eN hT18
      refine ⟨_, rfl, fun bo dxo hbo hdxo hneo => ?_⟩
      have w2' := made_same (C := He.ga K "Expr") hbo hdxo
      refine ⟨bo, dxo, ov, od, rfl, upd_same, up_d w2' ho18, hno.ok, ?_, ?_⟩
      · intro z
        rw [odd_fits hmo] at z
        cases z
      refine fun _ dd H19 e19 ht => ⟨_, _, rfl, T.x_InvalidTerm.c, T.x_InvalidTerm.exm, ht, fun t1 ht1 => ?_⟩
      have f3 := same_new ht1 (.tup [.non, .str "InvalidTerm"])
      have e20 := w2'.trans (e19.trans f3)
      refine ⟨(by show 2 ≤ sizeLine; decide), fun t2 ht2 => ?_⟩
      have f4 := same_new ht2 (.tup [.non, .str "InvalidTerm"])
      have I20 := I18.up (e20.trans f4)
      refine ⟨oddT, oddT, .tup (SqT.of (f4 _ _ upd_same)) (.cons .non (.cons (.str _) .nil)), .tup (SqT.of upd_same) (.cons .non (.cons (.str _) .nil)), by decide +kernel, by decide +kernel, ?_⟩
      refine ⟨false, congrArg V.bl (by decide +kernel), iteF ?_⟩
      refine ob_ne rfl I20.2.2.2.2.1 dr1 dr1 (fun Q' k' => ⟨_, rfl, fun bp dxp hbp hdxp hnep => ?_⟩) fun H21 e21 => ⟨false, congrArg V.bl (by rw [eqv_drawn dr1 (by decide)] <;> rfl), iteF ?_⟩
      · have w3 := made_same (C := He.ga K "Expr") hbp hdxp
        refine ⟨bp, dxp, v1, d1, rfl, upd_same, up_d w3 I20.2.2.1.dp, n1.ok, ?_, ?_⟩
        · exact fun _ H' sb hb' => ⟨rfl, k' H' (made_off hbp w3 sb) _ ⟨bp, dxp, v1, rfl, hb', I20.2.2.1.up (Same.T (made_off hbp w3 sb))⟩⟩
        · intro z
          rw [f1] at z
          cases z
      · have I21 := I20.up e21
        exact ⟨⟨_, _, _, _, _, _, _, _, _, _, _, rfl⟩, I21.1, I21.2.1⟩
  · rintro σ H2 ⟨⟨o2, o3, o4, o5, o6, o7, o8, o9, o10, o11, o13, rfl⟩, s2, hT2⟩
    clear s2 s1 hT1 hT e1 hS
    refine ⟨habS, rfl, by decide +kernel, by decide +kernel, ?_, ?_⟩
    rotate_left
    · intro z hz
      have hb : badS habS = none := by decide +kernel
      rw [hb] at hz
      cases hz
    intro _ p us H3 e3 hp hul hus
    have hT3 := hT2.ext e3
    have l3 : us.length = 3 := hul.trans (by decide +kernel)
    obtain ⟨u0, u1, u2, rfl⟩ : ∃ u0 u1 u2, us = [u0, u1, u2] := match us, l3 with
      | [a, b, c], _ => ⟨a, b, c, rfl⟩
    have ob0 : ObE K H3 u0 (.str "h") := hus 0 104 u0 (by decide +kernel) rfl
    have ob1 : ObE K H3 u1 (.str "a") := hus 1 97 u1 (by decide +kernel) rfl
    have ob2 : ObE K H3 u2 (.str "b") := hus 2 98 u2 (by decide +kernel) rfl
    clear hus l3 hul e3 hT2
    refine ⟨_, rfl, p, rfl, ⟨_, SqL.of hp⟩, fun D hD => ?_⟩
    refine lc_mapX (α := V × Str) (j := 15) (f := Prod.fst) (l := [(u0, "h"), (u1, "a"), (u2, "b")]) (fun q => V.str q.2) hD (SqL.of hp) (by show 3 ≤ 20000; decide) (fun _ => rfl) ?_ ?_
    · intro x H4 hx e4 Q' k'
      have ob : ObE K H3 x.1 (.str x.2) := by
        simp only [List.mem_cons, List.not_mem_nil, or_false] at hx
        rcases hx with rfl | rfl | rfl
        · exact ob0
        · exact ob1
        · exact ob2
      exact ob_term rfl (ob.up e4) fun y hy => by
        cases hy
        exact k' _ (Same.refl _)
    intro H4 e4 hD4
    have hp4 := e4 _ _ hp
    have ob4 := ob0.up e4
    have hT4 := hT3.ext e4
    clear ob0 ob1 ob2 hp hT3 e4 hD
    refine ⟨(by show 3 ≤ sizeLine; decide), fun D2 hD2 => ?_⟩
    have f5 := same_new hD2 (.lst [.str "h", .str "a", .str "b"])
    refine ⟨habD, habD, .lst (SqL.of (f5 _ _ hD4)) (.cons (.str _) (.cons (.str _) (.cons (.str _) .nil))), .lst (SqL.of upd_same) (.cons (.str _) (.cons (.str _) (.cons (.str _) .nil))), by decide +kernel, by decide +kernel, false, congrArg V.bl (by decide +kernel), iteF ?_⟩
    have hp5 := f5 _ _ hp4
    have ob5 := ob4.up f5
    have hT5 := hT4.ext f5
    generalize upd H4 D2 (.lst [.str "h", .str "a", .str "b"]) = H5 at hp5 ob5 hT5 ⊢
    clear hp4 ob4 hT4 f5 hD2 hD4
    refine ⟨Str.empty, rfl, by decide +kernel, by decide +kernel, ?_, ?_⟩
    rotate_left
    · intro z hz
      have hb : badS Str.empty = none := by decide +kernel
      rw [hb] at hz
      cases hz
    intro _ p6 us6 H6 e6 hp6 hul6 _
    have hp7 := e6 _ _ hp5
    have ob7 := ob5.up e6
    have hT7 := hT5.ext e6
    obtain rfl : us6 = [] := List.length_eq_zero_iff.mp (hul6.trans (by decide +kernel))
    refine ⟨(by show 0 ≤ sizeLine; decide), fun D3 hD3 => ?_⟩
    have f7 := same_new hD3 (.lst [])
    refine ⟨.list [], .list [], .lst (SqL.of (f7 _ _ hp6)) .nil, .lst (SqL.of upd_same) .nil, by decide +kernel, by decide +kernel, false, congrArg V.bl (by decide +kernel), iteF ?_⟩
    have hp8 := f7 _ _ hp7
    have ob8 := ob7.up f7
    have hT8 := hT7.ext f7
    generalize upd H6 D3 (.lst []) = H8 at hp8 ob8 hT8 ⊢
    clear hp7 ob7 hT7 f7 hD3 hp6 hul6 hp5 ob5 hT5 e6
    -- the asks
    refine ⟨hT8, fun H9 eN hT9 => ?_⟩
    have hp9 := eN _ _ hp8 (fun ps z => by cases z)
    have ob9 := ob8.upN eN
    clear hp8 ob8 hT8 eN
    refine ⟨askA, rfl, by decide +kernel, ?_, ?_⟩
    · intro d hd
      have hb : (parseD askA).isNone = true := by decide +kernel
      rw [hd] at hb
      cases hb
    refine fun _ dd HA eA tA => ⟨_, _, rfl, T.x_InvalidText.c, T.x_InvalidText.exm, tA, fun t1 ht1 => ?_⟩
    have f1 := same_new ht1 (.tup [.non, .str "InvalidText"])
    have dA : Tp K (upd HA t1 (.tup [.non, .str "InvalidText"])) (.ref t1) askTD := .tup (.inl upd_same) (.cons .non (.cons (.str _) .nil))
    have hpA := (eA.trans f1) _ _ hp9
    have obA := ob9.up (eA.trans f1)
    have hTA := hT9.ext (eA.trans f1)
    generalize upd HA t1 (.tup [.non, .str "InvalidText"]) = HB at hpA obA hTA dA ⊢
    clear hp9 ob9 hT9 f1 eA tA ht1
    refine ⟨hTA, fun HC eN hTC => ?_⟩
    have hpC := eN _ _ hpA (fun ps z => by cases z)
    have obC := obA.upN eN
    have dC := tp_n dA eN
    clear hpA obA hTA dA eN
    refine ⟨askZ, rfl, by decide +kernel, by decide +kernel, ?_, ?_⟩
    · intro z
      have hb : (badS askZ).isSome = true := by decide +kernel
      rw [z] at hb
      cases hb
    refine fun z hz dd HD eD hdd => ⟨_, ("InvalidLetter" : Str), rfl, T.x_InvalidLetter.c, T.x_InvalidLetter.exm, ⟨dd, _, rfl, hdd, rfl⟩, fun t2 ht2 => ?_⟩
    have f2 := same_new ht2 (.tup [.non, .str "InvalidLetter"])
    have dE : Tp K (upd HD t2 (.tup [.non, .str "InvalidLetter"])) (.ref t2) askLD := .tup (.inl upd_same) (.cons .non (.cons (.str _) .nil))
    have dE1 := dC.up (Same.T (eD.trans f2))
    have hpE := (eD.trans f2) _ _ hpC
    have obE := obC.up (eD.trans f2)
    have hTE := hTC.ext (eD.trans f2)
    generalize upd HD t2 (.tup [.non, .str "InvalidLetter"]) = HE at hpE obE hTE dE dE1 ⊢
    clear hpC obC hTC dC f2 eD hdd ht2 hz
    refine ⟨(by show 2 ≤ sizeLine; decide), fun p10 hp10 => ?_⟩
    have f3 := same_new hp10 (.lst [.ref t1, .ref t2])
    have hq10 : Dp K (upd HE p10 (.lst [.ref t1, .ref t2])) (.ref p10) (.list [askTD, askLD]) := .lst (SqL.of upd_same) (.cons (dE1.up (Same.T f3)).dp (.cons (dE.up (Same.T f3)).dp .nil))
    have hpF := f3 _ _ hpE
    have obF := obE.up f3
    have hTF := hTE.ext f3
    generalize upd HE p10 (.lst [.ref t1, .ref t2]) = HF at hpF obF hTF hq10 ⊢
    clear hpE obE hTE dE dE1 f3 hp10
    refine ⟨hTF, fun HG eN hTG => ?_⟩
    have hpG := eN _ _ hpF (fun ps z => by cases z)
    have obG := obF.upN eN
    have hqG := sn_d eN hq10
    clear hpF obF hTF hq10 eN hTG
    have hbY : badS askY = some ("z" : Str) := by decide +kernel
    refine ⟨askY, rfl, by decide +kernel, by decide +kernel, ?_, ?_⟩
    · intro z
      rw [hbY] at z
      cases z
    intro z hz dd HI eI hdd
    rw [hbY] at hz
    cases hz
    refine ⟨dd, _, ("z" : Str), rfl, T.e_InvalidLetter, T.x_InvalidLetter.c.xf, T.n_InvalidLetter_letter, rfl, hdd, rfl, ?_⟩
    refine ⟨.str "z", .str "z", .str _, .str _, by decide +kernel, by decide +kernel, false, congrArg V.bl (by decide +kernel), iteF ?_⟩
    refine ⟨_, rfl, (by show 2 ≤ sizeLine; decide), fun t3 ht3 => ⟨(by show 2 ≤ sizeLine; decide), fun t4 ht4 => ⟨(by show 2 ≤ sizeLine; decide), fun p11 hp11 => ?_⟩⟩⟩
    have g1 := same_new ht3 (.tup [.non, .str "InvalidText"])
    have g2 := same_new ht4 (.tup [.non, .str "InvalidLetter"])
    have g3 := same_new hp11 (.lst [.ref t3, .ref t4])
    have gA := eI.trans (g1.trans (g2.trans g3))
    refine ⟨.list [askTD, askLD], .list [askTD, askLD], up_d gA hqG, .lst (SqL.of upd_same) (.cons (.tup (SqT.of ((g2.trans g3) _ _ upd_same)) (.cons .non (.cons (.str _) .nil))) (.cons (.tup (SqT.of (g3 _ _ upd_same)) (.cons .non (.cons (.str _) .nil))) .nil)), by decide +kernel, by decide +kernel, true, congrArg V.bl (by decide +kernel), iteT ?_⟩
    refine ⟨_, rfl, p, _, _, u0, rfl, rfl, SqL.of (gA _ _ hpG), at0, ?_⟩
    have obZ := obG.up gA
    obtain ⟨a0, ax0, x0, rfl, ha0, hx0⟩ := id obZ
    refine ⟨a0, ax0, _, rfl, ha0, .ref a0, .str "h", 0, rfl, obZ, (by decide +kernel : isLet (.str "h") = true), by decide, by decide +kernel, fun HJ eJ => ⟨_, rfl, by decide +kernel, ?_⟩⟩
    refine ⟨_, true, rfl, rfl, ?_⟩
    refine Eq.mpr (congrArg (fun b => Q (V.bl b) HJ) (?_ : _ = true)) (q HJ)
    decide +kernel
end
end FF

namespace FF
open PySem PySem.Spec PyProof.Rows L2
theorem facts {P : Program} {w : World} {K : PySem.W.Frag} {h : Heap} {mg : Str → Option Value} {f : Addr} (X : K.In h) (G : h.Ns mainGlobals mg) (hfa : mg ("law" : Str) = some (.ref f)) (cx : SaysZ fa fn fp [("law", none)] ex w h K) :
    ∃ fd : FuncData, (∀ (s : Shared) (v : Value), BindsTo s fd ⟨[v], []⟩ [("_law_script", v)]) ∧ ∀ base : Heap, K.In base → base.Ns mainGlobals mg → (∀ p ∈ [He.cT K ("law", none)], LamX.TabB base mg p.1 p.2) → FnOk P w K mg base CX0 42 f fd ["_law_script"] (spLaw K) := by
  have c := cx.x.t.d
  have T := top_of X G c cx.x.more
  obtain ⟨fd_is_letter, F_is_letter⟩ := c.def_ 0 (d := d_is_letter) rfl
  have m_is_letter := He.glo_ok X G (c.fact 55 (f := .glo "is_letter") rfl)
  obtain ⟨fd_measured, F_measured⟩ := c.def_ 1 (d := d_measured) rfl
  have m_measured := He.glo_ok X G (c.fact 56 (f := .glo "measured") rfl)
  obtain ⟨fd_is_term, F_is_term⟩ := c.def_ 2 (d := d_is_term) rfl
  have m_is_term := He.glo_ok X G (c.fact 57 (f := .glo "is_term") rfl)
  obtain ⟨fd_need_term, F_need_term⟩ := c.def_ 3 (d := d_need_term) rfl
  have m_need_term := He.glo_ok X G (c.fact 58 (f := .glo "need_term") rfl)
  obtain ⟨fd_parts_of, F_parts_of⟩ := c.def_ 4 (d := d_parts_of) rfl
  have m_parts_of := He.glo_ok X G (c.fact 59 (f := .glo "parts_of") rfl)
  obtain ⟨fd_walked, F_walked⟩ := c.def_ 5 (d := d_walked) rfl
  have m_walked := He.glo_ok X G (c.fact 60 (f := .glo "walked") rfl)
  obtain ⟨fd_letters_in, F_letters_in⟩ := c.def_ 6 (d := d_letters_in) rfl
  have m_letters_in := He.glo_ok X G (c.fact 61 (f := .glo "letters_in") rfl)
  obtain ⟨fd_turned_in, F_turned_in⟩ := c.def_ 7 (d := d_turned_in) rfl
  have m_turned_in := He.glo_ok X G (c.fact 62 (f := .glo "turned_in") rfl)
  obtain ⟨fd_text_of, F_text_of⟩ := c.def_ 8 (d := d_text_of) rfl
  have m_text_of := He.glo_ok X G (c.fact 63 (f := .glo "text_of") rfl)
  obtain ⟨fd_parse_term, F_parse_term⟩ := c.def_ 9 (d := d_parse_term) rfl
  have m_parse_term := He.glo_ok X G (c.fact 64 (f := .glo "parse_term") rfl)
  obtain ⟨fd_law_source, F_law_source⟩ := c.def_ 10 (d := d_law_source) rfl
  have m_law_source := He.glo_ok X G (c.fact 65 (f := .glo "_law_source") rfl)
  obtain ⟨fd_law_take, F_law_take⟩ := c.def_ 11 (d := d_law_take) rfl
  have m_law_take := He.glo_ok X G (c.fact 66 (f := .glo "_law_take") rfl)
  obtain ⟨fd_law_pick, F_law_pick⟩ := c.def_ 12 (d := d_law_pick) rfl
  have m_law_pick := He.glo_ok X G (c.fact 67 (f := .glo "_law_pick") rfl)
  obtain ⟨fd_law_mixed, F_law_mixed⟩ := c.def_ 13 (d := d_law_mixed) rfl
  have m_law_mixed := He.glo_ok X G (c.fact 68 (f := .glo "_law_mixed") rfl)
  obtain ⟨fd_law_same, F_law_same⟩ := c.def_ 14 (d := d_law_same) rfl
  have m_law_same := He.glo_ok X G (c.fact 69 (f := .glo "_law_same") rfl)
  obtain ⟨fd_law_call, F_law_call⟩ := c.def_ 15 (d := d_law_call) rfl
  have m_law_call := He.glo_ok X G (c.fact 70 (f := .glo "_law_call") rfl)
  obtain ⟨fd_law_parts, F_law_parts⟩ := c.def_ 16 (d := d_law_parts) rfl
  have m_law_parts := He.glo_ok X G (c.fact 71 (f := .glo "_law_parts") rfl)
  obtain ⟨fd_law_text, F_law_text⟩ := c.def_ 17 (d := d_law_text) rfl
  have m_law_text := He.glo_ok X G (c.fact 72 (f := .glo "_law_text") rfl)
  obtain ⟨fd_law_leaves, F_law_leaves⟩ := c.def_ 18 (d := d_law_leaves) rfl
  have m_law_leaves := He.glo_ok X G (c.fact 73 (f := .glo "_law_leaves") rfl)
  obtain ⟨fd_law_walk, F_law_walk⟩ := c.def_ 19 (d := d_law_walk) rfl
  have m_law_walk := He.glo_ok X G (c.fact 74 (f := .glo "_law_walk") rfl)
  obtain ⟨fd_law_signs_in, F_law_signs_in⟩ := c.def_ 20 (d := d_law_signs_in) rfl
  have m_law_signs_in := He.glo_ok X G (c.fact 75 (f := .glo "_law_signs_in") rfl)
  obtain ⟨fd_law_turned, F_law_turned⟩ := c.def_ 21 (d := d_law_turned) rfl
  have m_law_turned := He.glo_ok X G (c.fact 76 (f := .glo "_law_turned") rfl)
  obtain ⟨fd_law_term, F_law_term⟩ := c.def_ 22 (d := d_law_term) rfl
  have m_law_term := He.glo_ok X G (c.fact 77 (f := .glo "_law_term") rfl)
  obtain ⟨fd_law_any_term, F_law_any_term⟩ := c.def_ 23 (d := d_law_any_term) rfl
  have m_law_any_term := He.glo_ok X G (c.fact 78 (f := .glo "_law_any_term") rfl)
  obtain ⟨fd_law_signs, F_law_signs⟩ := c.def_ 24 (d := d_law_signs) rfl
  have m_law_signs := He.glo_ok X G (c.fact 79 (f := .glo "_law_signs") rfl)
  obtain ⟨fd_law_measure, F_law_measure⟩ := c.def_ 25 (d := d_law_measure) rfl
  have m_law_measure := He.glo_ok X G (c.fact 80 (f := .glo "_law_measure") rfl)
  obtain ⟨fd_law_fits, F_law_fits⟩ := c.def_ 26 (d := d_law_fits) rfl
  have m_law_fits := He.glo_ok X G (c.fact 81 (f := .glo "_law_fits") rfl)
  obtain ⟨fd_law_odd, F_law_odd⟩ := c.def_ 27 (d := d_law_odd) rfl
  have m_law_odd := He.glo_ok X G (c.fact 82 (f := .glo "_law_odd") rfl)
  obtain ⟨fd_law_nest, F_law_nest⟩ := c.def_ 28 (d := d_law_nest) rfl
  have m_law_nest := He.glo_ok X G (c.fact 83 (f := .glo "_law_nest") rfl)
  obtain ⟨fd_law_letter_told, F_law_letter_told⟩ := c.def_ 29 (d := d_law_letter_told) rfl
  have m_law_letter_told := He.glo_ok X G (c.fact 84 (f := .glo "_law_letter_told") rfl)
  obtain ⟨fd_law, F_law⟩ := c.def_ 30 (d := d_law) rfl
  have m_law := He.glo_ok X G (c.fact 85 (f := .glo "law") rfl)
  obtain ⟨fd_FaultError_init, F_FaultError_init⟩ := c.def_ 31 (d := d_FaultError_init) rfl
  obtain ⟨fd_InvalidTerm_init, F_InvalidTerm_init⟩ := c.def_ 32 (d := d_InvalidTerm_init) rfl
  obtain ⟨fd_InvalidLetter_init, F_InvalidLetter_init⟩ := c.def_ 33 (d := d_InvalidLetter_init) rfl
  obtain ⟨fd_InvalidText_init, F_InvalidText_init⟩ := c.def_ 34 (d := d_InvalidText_init) rfl
  obtain ⟨fd_Expr_parse, F_Expr_parse⟩ := cx.get 0 (g := g_Expr_parse) rfl
  obtain ⟨fd_Expr_many, F_Expr_many⟩ := cx.get 1 (g := g_Expr_many) rfl
  obtain ⟨fd_Expr_term, F_Expr_term⟩ := cx.get 2 (g := g_Expr_term) rfl
  obtain ⟨fd_Reader___init__, F_Reader___init__⟩ := c.def_ 35 (d := d_Reader___init__) rfl
  obtain ⟨fd_Reader_sees, F_Reader_sees⟩ := c.def_ 36 (d := d_Reader_sees) rfl
  obtain ⟨fd_Reader_take, F_Reader_take⟩ := c.def_ 37 (d := d_Reader_take) rfl
  obtain ⟨fd_Reader_part, F_Reader_part⟩ := c.def_ 38 (d := d_Reader_part) rfl
  obtain ⟨fd_Reader_sequence, F_Reader_sequence⟩ := c.def_ 39 (d := d_Reader_sequence) rfl
  obtain ⟨fd_Reader_alone, F_Reader_alone⟩ := c.def_ 40 (d := d_Reader_alone) rfl
  obtain ⟨fd_Expr___init__, F_Expr___init__⟩ := c.def_ 41 (d := d_Expr___init__) rfl
  obtain ⟨fd_Expr_turned, F_Expr_turned⟩ := c.def_ 42 (d := d_Expr_turned) rfl
  obtain ⟨fd_Expr___and__, F_Expr___and__⟩ := c.def_ 43 (d := d_Expr___and__) rfl
  obtain ⟨fd_Expr___or__, F_Expr___or__⟩ := c.def_ 44 (d := d_Expr___or__) rfl
  obtain ⟨fd_Expr___eq__, F_Expr___eq__⟩ := c.def_ 45 (d := d_Expr___eq__) rfl
  obtain ⟨fd_Expr___contains__, F_Expr___contains__⟩ := c.def_ 46 (d := d_Expr___contains__) rfl
  obtain ⟨fd_Expr___len__, F_Expr___len__⟩ := c.def_ 47 (d := d_Expr___len__) rfl
  obtain ⟨fd_Expr___str__, F_Expr___str__⟩ := c.def_ 48 (d := d_Expr___str__) rfl
  obtain ⟨fd_Expr___repr__, F_Expr___repr__⟩ := c.def_ 49 (d := d_Expr___repr__) rfl
  have e := hfa.symm.trans m_law
  cases e
  have b := FunD.bindsA (ps := ["_law_script"]) F_law fun _ _ _ _ _ _ us hl => match us, hl with | [_], _ => rfl
  refine ⟨fd_law, fun s v => b s [v] rfl, fun base _ _ hTB => ?_⟩
  have D_take : Def P w K mg base "_law_take" 1 ["_law_source_here", "_law_many"] spTake := take_hid (ok_take F_law_take m_law_take T)
  have D_source : Def P w K mg base "_law_source" 1 ["_law_script"] (spSource K) := ok_source F_law_source m_law_source T
  have D_pick : Def P w K mg base "_law_pick" 2 ["_law_source_here", "_law_row"] (spPick K) := ok_pick F_law_pick m_law_pick T D_take
  have D_mixed : Def P w K mg base "_law_mixed" 2 ["_law_source_here", "_law_row"] (spMixed K) := ok_mixed F_law_mixed m_law_mixed T D_take
  have D_signs : Def P w K mg base "_law_signs" 3 ["_law_source_here", "_law_most"] spSigns := ok_signs F_law_signs m_law_signs T D_take D_mixed
  have D_term : Def P w K mg base "_law_term" 8 ["_law_source_here", "_law_signs_here", "_law_deep", "_law_room"] (spTermR K 6) := ok_termR F_law_term m_law_term T D_take D_pick 6
  have D_any : Def P w K mg base "_law_any_term" 9 ["_law_source_here"] (spAnyR K) := ok_anyR F_law_any_term m_law_any_term T D_take D_pick D_signs D_term
  have D_nest : Def P w K mg base "_law_nest" 1 ["_law_many"] (spNest K) := ok_nest F_law_nest m_law_nest T
  have D_odd : Def P w K mg base "_law_odd" 3 ["_law_source_here", "_law_word"] (spOdd0 K) := ok_odd0 F_law_odd m_law_odd T D_pick D_nest
  have D_same : ∀ n, Def P w K mg base "_law_same" n ["_law_found", "_law_due"] (spSame K n) := fun n => by
    induction n with
    | zero => exact same_none F_law_same m_law_same
    | succ n ih => exact ok_same_step F_law_same m_law_same T ih
  have D_let : Def P w K mg base "is_letter" 1 ["value"] (spIsLetter K) := ok_is_letter F_is_letter m_is_letter T
  have D_measured : ∀ n, Def P w K mg base "measured" (n + 1) ["value", "max_depth"] (spMeasured K n) := fun n => by
    induction n with
    | zero => exact (def_none F_measured m_measured (F_measured.bindsN fun _ _ _ _ _ _ us hl => match us, hl with | [_, _], _ => rfl) fun vs H Q E ⟨_, _, _, _, _, _, h, _⟩ => by omega).mono (Nat.zero_le _)
    | succ n ih => exact ok_measured_step F_measured m_measured T D_let ih
  have b_fe : Binds K fd_FaultError_init ["self", "code"] [] := F_FaultError_init.bindsN fun _ _ _ _ _ _ us hl => match us, hl with | [_, _], _ => rfl
  have FE : FnOk P w K mg base CX0 1 (He.ma K (He.ga K "FaultError") "__init__") fd_FaultError_init ["self", "code"] (spFE K) := fn_fe F_FaultError_init T
  have R_term : RaiseD P w K mg base "InvalidTerm" "FaultError" 2 "InvalidTerm" := ⟨T.x_InvalidTerm, T.c_InvalidTerm, fd_InvalidTerm_init, fn_InvalidTerm F_InvalidTerm_init T FE b_fe, F_InvalidTerm_init.bindsN fun _ _ _ _ _ _ us hl => match us, hl with | [_], _ => rfl⟩
  have R_let : RaiseD1 P w K mg base "InvalidLetter" "FaultError" 2 "InvalidLetter" "letter" := ⟨T.x_InvalidLetter, T.n_InvalidLetter_letter, T.c_InvalidLetter, fd_InvalidLetter_init, fn_InvalidLetter F_InvalidLetter_init T FE b_fe, F_InvalidLetter_init.bindsN fun _ _ _ _ _ _ us hl => match us, hl with | [_, _], _ => rfl⟩
  have R_text : RaiseD P w K mg base "InvalidText" "FaultError" 2 "InvalidText" := ⟨T.x_InvalidText, T.c_InvalidText, fd_InvalidText_init, fn_InvalidText F_InvalidText_init T FE b_fe, F_InvalidText_init.bindsN fun _ _ _ _ _ _ us hl => match us, hl with | [_], _ => rfl⟩
  have D_to : ∀ n, Def P w K mg base "text_of" n ["term"] (spText K n) := fun n => by
    induction n with
    | zero => exact def_none F_text_of m_text_of (F_text_of.bindsN fun _ _ _ _ _ _ us hl => match us, hl with | [_], _ => rfl) fun vs H Q E ⟨_, _, _, _, _, _, h, _⟩ => by omega
    | succ n ih => exact ok_text_of_step F_text_of m_text_of T ih
  have D_lt : ∀ n, Def P w K mg base "_law_text" n ["_law_word"] (spText K n) := fun n => by
    induction n with
    | zero => exact def_none F_law_text m_law_text (F_law_text.bindsN fun _ _ _ _ _ _ us hl => match us, hl with | [_], _ => rfl) fun vs H Q E ⟨_, _, _, _, _, _, h, _⟩ => by omega
    | succ n ih => exact ok_law_text_step F_law_text m_law_text T ih
  have D_measure : ∀ n, Def P w K mg base "_law_measure" n ["_law_word", "_law_deep"] (spMeasure K n) := fun n => by
    induction n with
    | zero => exact def_none F_law_measure m_law_measure (F_law_measure.bindsN fun _ _ _ _ _ _ us hl => match us, hl with | [_, _], _ => rfl) fun vs H Q E ⟨_, _, _, _, _, _, h, _⟩ => by omega
    | succ n ih => exact ok_law_measure_step F_law_measure m_law_measure T ih
  have R_sees := ok_sees (P := P) (w := w) (base := base) F_Reader_sees T
  have R_take := ok_takeW F_Reader_take T R_sees R_text
  have R_alone := ok_alone F_Reader_alone T D_let R_text
  have R_seq : ∀ n, MethX P w K mg base "Reader" "sequence" (2 * n + 4) ["self", "max_depth"] (spRd K rSeq n) := fun n => by
    induction n with
    | zero => exact (methx_none F_Reader_sequence (F_Reader_sequence.bindsN fun _ _ _ _ _ _ us hl => match us, hl with | [_, _], _ => rfl) T.k_Reader T.m_Reader_sequence fun vs H Q E ⟨_, _, _, _, _, _, _, _, h, _⟩ => by omega).mono (Nat.zero_le _)
    | succ n ih => exact ok_sequence F_Reader_sequence T R_sees R_alone R_text (ok_part F_Reader_part T R_take D_let R_text ih)
  have M_Reader : MakeD P w K mg base "Reader" 1 ["self", "text"] _ := ⟨⟨fd_Reader___init__, fn_reader_init F_Reader___init__ T, F_Reader___init__.bindsN fun _ _ _ _ _ _ us hl => match us, hl with | [_, _], _ => rfl⟩, T.mk_Reader, T.c_Reader⟩
  have D_ti : ∀ n, Def P w K mg base "turned_in" n ["term"] (spTurn K n) := fun n => by
    induction n with
    | zero => exact def_none F_turned_in m_turned_in (F_turned_in.bindsN fun _ _ _ _ _ _ us hl => match us, hl with | [_], _ => rfl) fun vs H Q E ⟨_, _, _, _, _, _, h, _⟩ => by omega
    | succ n ih => exact ok_turned_in_step F_turned_in m_turned_in T ih
  have D_ltu : ∀ n, Def P w K mg base "_law_turned" n ["_law_word"] (spTurn K n) := fun n => by
    induction n with
    | zero => exact def_none F_law_turned m_law_turned (F_law_turned.bindsN fun _ _ _ _ _ _ us hl => match us, hl with | [_], _ => rfl) fun vs H Q E ⟨_, _, _, _, _, _, h, _⟩ => by omega
    | succ n ih => exact ok_law_turned_step F_law_turned m_law_turned T ih
  have D_parts : Def P w K mg base "parts_of" 1 ["term"] (spParts K) := ok_parts_of F_parts_of m_parts_of T
  have D_lparts : Def P w K mg base "_law_parts" 1 ["_law_word"] (spPartsL K) := ok_law_parts F_law_parts m_law_parts T
  have D_walked : ∀ n, Def P w K mg base "walked" (n + 1) ["term"] (spWalked K n) := fun n => by
    induction n with
    | zero => exact (def_none F_walked m_walked (F_walked.bindsN fun _ _ _ _ _ _ us hl => match us, hl with | [_], _ => rfl) fun vs H Q E ⟨_, _, _, _, _, _, h, _⟩ => by omega).mono (Nat.zero_le _)
    | succ n ih => exact ok_walked_step F_walked m_walked T D_parts ih
  have D_lwalk : ∀ n, Def P w K mg base "_law_walk" (n + 1) ["_law_word"] (spWalked K n) := fun n => by
    induction n with
    | zero => exact (def_none F_law_walk m_law_walk (F_law_walk.bindsN fun _ _ _ _ _ _ us hl => match us, hl with | [_], _ => rfl) fun vs H Q E ⟨_, _, _, _, _, _, h, _⟩ => by omega).mono (Nat.zero_le _)
    | succ n ih => exact ok_law_walk_step F_law_walk m_law_walk T D_lparts ih
  have D_llea : ∀ n, Def P w K mg base "_law_leaves" (n + 1) ["_law_word"] (spInt K leaD n) := fun n => by
    induction n with
    | zero => exact (def_none F_law_leaves m_law_leaves (F_law_leaves.bindsN fun _ _ _ _ _ _ us hl => match us, hl with | [_], _ => rfl) fun vs H Q E ⟨_, _, _, _, _, _, h, _⟩ => by omega).mono (Nat.zero_le _)
    | succ n ih => exact ok_lawlea_step F_law_leaves m_law_leaves T ih
  have FT := fn_is_term (P := P) (w := w) (base := base) F_is_term T (D_measured 11)
  have D_need : DefX P w K mg base "need_term" 14 ["value"] (spNeed K) := ok_need_term F_need_term m_need_term T F_is_term m_is_term FT R_term
  have FP := fn_parse_term F_parse_term T M_Reader F_is_term m_is_term FT (R_seq 6) R_text
  have D_pt : DefX P w K mg base "parse_term" 17 ["text"] (spParse K) := ⟨_, _, FP, m_parse_term, F_parse_term.kp, F_parse_term.bindsN fun _ _ _ _ _ _ us hl => match us, hl with | [_], _ => rfl⟩
  have M_Expr : MakeX P w K mg base "Expr" 15 ["self", "term"] (spExI K) := ⟨⟨fd_Expr___init__, fn_expr_init F_Expr___init__ T D_need, F_Expr___init__.bindsN fun _ _ _ _ _ _ us hl => match us, hl with | [_, _], _ => rfl⟩, T.mk_Expr, T.c_Expr⟩
  exact ok_law F_law T (hTB (He.cT K ("law", none)) (List.mem_singleton.mpr rfl)) F_law_call m_law_call F_law_letter_told m_law_letter_told M_Expr (ok_parseE F_Expr_parse T M_Expr D_pt) (ok_many F_Expr_many T M_Expr D_let R_let) (ok_term F_Expr_term T)
    (ok_turnedE F_Expr_turned T M_Expr (D_ti 8)) (ok_and F_Expr___and__ T M_Expr) (ok_or F_Expr___or__ T M_Expr) (ok_str F_Expr___str__ T (D_to 8)) (ok_repr F_Expr___repr__ T (D_to 8)) (ok_lenE F_Expr___len__ T (D_walked 10)) (ok_inE F_Expr___contains__ T (ok_letters_in F_letters_in m_letters_in T (D_walked 10))) (ok_eqE F_Expr___eq__ T)
    D_source D_any (D_lt 8) (D_same 12) (ok_fits F_law_fits m_law_fits T (D_measure 12)) (D_llea 8) (D_ltu 8) D_odd ((ok_signs_in F_law_signs_in m_law_signs_in T (D_lwalk 10)).mono (by decide))
end FF
open PySem PySem.W PySem.Calls PyProof.Rows
set_option maxRecDepth 100000 in
set_option maxHeartbeats 0 in
theorem PySem.Challenge.cw_fivefault_k08_expressions_with_operators_holds : PySem.Challenge.rw_fivefault_k08_expressions_with_operators.Holds := by
  w_on; o_law
  refine HandSHeadRun.head_any (r := PySem.W.OpenLaw.row PySem.Challenge.rw_fivefault_k08_expressions_with_operators) (q := PySem.W.view (PySem.W.OpenLaw.row PySem.Challenge.rw_fivefault_k08_expressions_with_operators).prog [47]) (H := FF.hk) (ob := FF.ob) (M := 4000) (loose := FF.loose) (d := HandSHeadRun.topDef (PySem.W.OpenLaw.row PySem.Challenge.rw_fivefault_k08_expressions_with_operators).prog 47) (kwd := []) FF.ob_eq
    (by kernel_rfl) (fun s => by kernel_rfl) FF.run (by kernel_rfl) (by kernel_rfl) (by kernel_rfl) (by rfl) (by first | assumption | decide +kernel) (by decide +kernel) ⟨rfl, rfl, rfl, rfl, rfl, by decide +kernel⟩ ?hw ?hc
  case hw => w_witness2
  case hc =>
    refine LamX.walk_ofTsE (l := PySem.Challenge.rw_fivefault_k08_expressions_with_operators) (n := 63) (k := 42) (x := "_law_script") (CX := fun _ => L2.CX0) rfl (by decide) (by kernel_rfl) ⟨rfl, by decide, by decide⟩ ?F (fun _ _ _ _ _ z => z)
    intro w mg fa h Y G hmg0
    obtain ⟨K, KX, c⟩ := Y
    have hmg : mg ("law" : PySem.Str) = some (.ref fa) := by
      have e : (HandSHeadRun.topDef (PySem.W.OpenLaw.row PySem.Challenge.rw_fivefault_k08_expressions_with_operators).prog 47).name = ("law" : PySem.Str) := by kernel_rfl
      rw [← e]
      exact hmg0
    obtain ⟨fd, hb, hF⟩ := FF.facts (P := (PySem.Challenge.rw_fivefault_k08_expressions_with_operators).prog) (w := w) KX G hmg c
    refine ⟨K, KX, fd, [He.cT K ("law", none)], FF.spLaw K, fun p hp => ?_, fun p hp => ?_, fun p hp => ?_, hb, fun H a ns hl _ hT hS => ⟨a, ns, rfl, hS, fun p hp => ?_, fun _ => rfl⟩, hF⟩
    · exact List.mem_singleton.mp hp ▸ c.x.empty ("law", none) (by simp)
    · exact List.mem_singleton.mp hp ▸ c.x.out ("law", none) (by simp)
    · exact List.mem_singleton.mp hp ▸ PySem.W.codeHd_of_K KX (c.x.hd ("law", none) (by simp))
    · exact List.mem_singleton.mp hp ▸ LamX.TabS.nil (hT (He.cT K ("law", none)) (by simp))

