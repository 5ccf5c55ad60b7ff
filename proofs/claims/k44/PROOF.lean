import PyProof.Rows.All
import Wide.All
import OpenK.AllK
import Wide.FinOn
import HandS.ForMost
import HandS.IsInst
import HandS.Deep
import HandS.Zip
import HandS.Defaults
import HandS.More
import HandS.Conv
import HandS.Style
import HandS.Codes
import HandS.ExcInit
import HandS.ExcField
import HandS.TryMany
import HandS.ClsMeth
import HandS.Lambda
import HandS.EndTab
import HandS.HeadWalk
import HandS.WordsExc
import PyProof.P3Eq
import HandS.HeadHook4
import HandS.Head2
import HandS.HeadEnd
import PyProof.P3In
import PyProof.ListStr
import HandS.Star
import HandS.DictComp
import HandS.FStr
import HandS.StrMore
import PyProof.Rows.SortShellSt
import KE.GoesMore
import HandS.Walk
import HandS.SetKeys
import HandS.IntHex
import HandS.OwnEq
import HandS.DictSub
import HandS.MakeKwOnly
import KE.DataCmp
import HandS.Property
import HandS.MethStar
import HandS.SetFor
import HandS.SetBool
import HandS.Strs
import HandS.TupAny
import HandS.GenYield
import HandS.GenList
import HandS.IterVal
import HandS.SortKw
import HandS.SortRule
import KE.DatumOrd
import KE.KeyNested
import KE.KDictKeyed
import HandS.Flow
import PySem.Challenge.RW_fivefault_k44_whole_least_forms
set_option Elab.async false
set_option linter.all false
set_option maxRecDepth 100000
set_option maxHeartbeats 2000000
/-! Fivefault, part 1: heaps that grow, data, the draws' source. -/
namespace FF
open PySem PySem.Spec PyProof.Rows L2

/-! ### heaps that grow -/
theorem same_new {H : Hp} {p : Addr} (h : H p = none) (o : HO) : Same H (upd H p o) := fun b u q => by rw [upd_ne (ne_of_none q h)]; exact q
theorem same_rd {H H' : Hp} {a : Addr} {u : HO} (e : Same H H') (h : Rd H a u) : Rd H' a u := by
  rcases h with h | ⟨o, h⟩
  · exact .inl (e _ _ h)
  · exact .inr ⟨o, e _ _ h⟩
theorem up_l {K : PySem.W.Frag} {H H' : Hp} {a : Addr} {xs : List V} (e : Same H H') (h : SqL K H a xs) : SqL K H' a xs := by
  rcases h with h | h
  · exact .inl (same_rd e h)
  · exact .inr h
theorem up_t {K : PySem.W.Frag} {H H' : Hp} {a : Addr} {xs : List V} (e : Same H H') (h : SqT K H a xs) : SqT K H' a xs := by
  rcases h with h | h
  · exact .inl (same_rd e h)
  · exact .inr h
mutual
theorem up_d {K : PySem.W.Frag} {H H' : Hp} (e : Same H H') : ∀ {v : V} {d : PyData}, Dp K H v d → Dp K H' v d
  | _, _, .non => .non
  | _, _, .bl b => .bl b
  | _, _, .int i => .int i
  | _, _, .str x => .str x
  | _, _, .lst h a => .lst (up_l e h) (up_da e a)
  | _, _, .tup h a => .tup (up_t e h) (up_da e a)
theorem up_da {K : PySem.W.Frag} {H H' : Hp} (e : Same H H') : ∀ {vs : List V} {ds : List PyData}, DpAll K H vs ds → DpAll K H' vs ds
  | _, _, .nil => .nil
  | _, _, .cons h a => .cons (up_d e h) (up_da e a)
end
theorem da_get {K : PySem.W.Frag} {H : Hp} : ∀ {vs : List V} {ds : List PyData} {i : Nat} {v : V}, DpAll K H vs ds → vs[i]? = some v → ∃ d, ds[i]? = some d ∧ Dp K H v d
  | _, _, 0, _, .cons h _, e => by cases e; exact ⟨_, rfl, h⟩
  | _, _, i + 1, _, .cons _ t, e => da_get (i := i) t e
theorem da_len {K : PySem.W.Frag} {H : Hp} : ∀ {vs : List V} {ds : List PyData}, DpAll K H vs ds → vs.length = ds.length
  | _, _, .nil => rfl
  | _, _, .cons _ t => congrArg Nat.succ (da_len t)
theorem da_app {K : PySem.W.Frag} {H : Hp} : ∀ {vs ws : List V} {ds es : List PyData}, DpAll K H vs ds → DpAll K H ws es → DpAll K H (vs ++ ws) (ds ++ es)
  | _, _, _, _, .nil, r => r
  | _, _, _, _, .cons h t, r => .cons h (da_app t r)
/-! ### what data is -/
def tyN : PyData → String
  | .none => "NoneType"
  | .bool _ => "bool"
  | .int _ => "int"
  | .str _ => "str"
  | .list _ => "list"
  | .tuple _ => "tuple"
  | .dict _ => "dict"
theorem dp_ty {K : PySem.W.Frag} {H : Hp} {v : V} {d : PyData} (h : Dp K H v d) : TyX K H v (.type (tyN d)) := by
  cases h with
  | non => exact .base .non
  | bl b => exact .base (.bl b)
  | int i => exact .base (.int i)
  | str x => exact .base (.str x)
  | lst h _ =>
    rcases h with (h | ⟨o, h⟩) | ⟨o, _, _, h, c, _⟩
    · exact .base (.lst h)
    · exact .base (.frz h)
    · exact .kList h c
  | tup h _ =>
    rcases h with (h | ⟨o, h⟩) | ⟨o, _, _, h, c, _⟩
    · exact .base (.tup h)
    · exact .fTuple h
    · exact .kTuple h c
def isStr : PyData → Bool
  | .str _ => true
  | _ => false
def isTup : PyData → Bool
  | .tuple _ => true
  | _ => false
def isLst : PyData → Bool
  | .list _ => true
  | _ => false
def isBool : PyData → Bool
  | .bool _ => true
  | _ => false
def isInt : PyData → Bool
  | .bool _ => true
  | .int _ => true
  | _ => false
def isDict : PyData → Bool
  | .dict _ => true
  | _ => false
theorem kb_str (d : PyData) : kitB (tyN d) "str" = some (isStr d) := by cases d <;> kernel_rfl
theorem kb_tup (d : PyData) : kitB (tyN d) "tuple" = some (isTup d) := by cases d <;> kernel_rfl
theorem kb_lst (d : PyData) : kitB (tyN d) "list" = some (isLst d) := by cases d <;> kernel_rfl
theorem kb_bool (d : PyData) : kitB (tyN d) "bool" = some (isBool d) := by cases d <;> kernel_rfl
theorem kb_int (d : PyData) : kitB (tyN d) "int" = some (isInt d) := by cases d <;> kernel_rfl
theorem kb_dict (d : PyData) : kitB (tyN d) "dict" = some (isDict d) := by cases d <;> kernel_rfl
/-- isinstance(x, T) over data -/
def rIsD (K : PySem.W.Frag) (T : String) (f : PyData → Bool) : List V → Hp → VK → Prop := fun xs H Q => ∃ (x : V) (d : PyData), xs = [x, .ty T] ∧ Dp K H x d ∧ Q (.bl (f d)) H
theorem call_isD {X : Cx} {T : String} {f : PyData → Bool} (hk : ∀ d, kitB (tyN d) T = some (f d)) : CallR X (.builtin "isinstance") (rIsD X.K T f) := by
  intro pins s σ H xs us Q I r h
  obtain ⟨x, d, rfl, hd, q⟩ := h
  exact call_isi pins s σ H _ us Q I r ⟨x, .ty T, _, _, _, rfl, .ty T, dp_ty hd, kit_ty (hk d), q⟩

/-! ### defs of the text -/
/-- the def x of the top keeps the promise sp at level k -/
structure Def (P : Program) (w : World) (K : PySem.W.Frag) (mg : Str → Option Value) (base : Heap) (x : Str) (k : Nat) (ps : List Str) (sp : Sp) : Prop where
  ex : ∃ (f : Addr) (fd : FuncData), FnOk P w K mg base CX0 k f fd ps sp ∧ mg x = some (.ref f) ∧ PySem.W.keepIn K (.ref f) = true ∧ Binds K fd ps []
theorem pe_def {X : Cx} {x : Str} {k j : Nat} {ps : List Str} {sp : Sp} {e : Expr} {es : List Expr} {p pos : Pos} {t : TA} (D : Def X.prog X.w X.K X.mg X.base x k ps sp) (hr : Room j X.A) (hkj : k ≤ j) (ha : PA X (e :: es) t)
    (hg : Gl X x := by rfl) (hdb : (x == ("__debug__" : Str)) = false := by decide) (he : starEach (e :: es) X.env = (false, eval e X.env) :: starEach es X.env := by rfl) (hpl : (backTo pos (starEach es X.env)).any (·.1) = false := by rfl) :
    PE X (.Call (.Name x p) (e :: es) [] pos) (tCall sp [] E0 t) := by
  obtain ⟨f, fd, F, hm, hk, hb⟩ := D.ex
  exact pe_call F (hr.mono hkj) hg hm hk hb .nil pass0 ha hdb he hpl
theorem Def.imp {P : Program} {w : World} {K : PySem.W.Frag} {mg : Str → Option Value} {base : Heap} {x : Str} {k : Nat} {ps : List Str} {sp sp' : Sp} (D : Def P w K mg base x k ps sp) (h : ∀ vs H Q E, sp' vs H Q E → sp vs H Q E) : Def P w K mg base x k ps sp' := by
  obtain ⟨f, fd, F, r⟩ := D.ex
  exact ⟨f, fd, F.imp h, r⟩
theorem Def.mono {P : Program} {w : World} {K : PySem.W.Frag} {mg : Str → Option Value} {base : Heap} {x : Str} {j k : Nat} {ps : List Str} {sp : Sp} (D : Def P w K mg base x j ps sp) (h : j ≤ k) : Def P w K mg base x k ps sp := by
  obtain ⟨f, fd, F, r⟩ := D.ex
  exact ⟨f, fd, F.mono h, r⟩

/-! ### a list that is hidden: its state is some good one -/
/-- at a stands a list whose items are good -/
def hid (good : List V → Prop) (a : Addr) : HO := .ext fun h => ∃ (xs : List V) (its : List Value) (n : Nat), good xs ∧ xs.length ≤ sizeLine ∧ Vals xs its ∧ h.get? a = some { cls := .type "list", data := .seq its.toArray n }
section
variable {P : Program} {w : World} {K : PySem.W.Frag} {mg : Str → Option Value} {base : Heap}
theorem upd_back {H : Hp} {a : Addr} {o u : HO} (h : H a = some u) : upd (upd H a o) a u = H := by
  funext b
  unfold upd
  split
  · next e => rw [e, h]
  · rfl
theorem hok_open {H : Hp} {h : Heap} {a : Addr} {good : List V → Prop} (hs : H a = some (hid good a)) (ok : HOk P w H h) : ∃ xs, good xs ∧ HOk P w (upd H a (.lst xs)) h := by
  obtain ⟨⟨xs, its, n, hg, hz, hv, he⟩, _, _⟩ := ok a _ hs
  refine ⟨xs, hg, fun b o e => ?_⟩
  by_cases hb : b = a
  · subst hb
    rw [upd_same] at e
    cases e
    exact ⟨hz, its, n, hv, he⟩
  · rw [upd_ne hb] at e
    refine (ok b o e).stay (fun _ _ _ q => q) (fun c q => ?_) (fun c ys q => ?_)
    · have hc : c ≠ a := by
        intro z
        rw [z, hs] at q
        cases q
      rw [upd_ne hc]
      exact q
    · have hc : c ≠ a := by
        intro z
        rw [z, hs] at q
        cases q
      rw [upd_ne hc]
      exact q
theorem hok_shut {H : Hp} {h : Heap} {a : Addr} {good : List V → Prop} {xs : List V} (hs : H a = some (.lst xs)) (hg : good xs) (ok : HOk P w H h) : HOk P w (upd H a (hid good a)) h := by
  obtain ⟨hz, its, n, hv, he⟩ := ok a _ hs
  intro b o e
  by_cases hb : b = a
  · subst hb
    rw [upd_same] at e
    cases e
    refine ⟨⟨xs, its, n, hg, hz, hv, he⟩, ⟨_, he⟩, fun h1 h2 ⟨xs1, its1, n1, g1, z1, v1, e1⟩ hk => ⟨xs1, its1, n1, g1, z1, v1, hk _ e1⟩⟩
  · rw [upd_ne hb] at e
    refine (ok b o e).stay (fun _ _ _ q => q) (fun c q => ?_) (fun c ys q => ?_)
    · have hc : c ≠ a := by
        intro z
        rw [z, hs] at q
        cases q
      rw [upd_ne hc]
      exact q
    · have hc : c ≠ a := by
        intro z
        rw [z, hs] at q
        cases q
      rw [upd_ne hc]
      exact q
/-- the list at a opened: what its items are the body may read and change; behind it the list is hidden again -/
theorem FnOk.open_ {k : Nat} {f : Addr} {fd : FuncData} {ps : List Str} {sp sp' : Sp} (F : FnOk P w K mg base CX0 k f fd ps sp) (len : ∀ vs H Q E, sp' vs H Q E → vs.length = ps.length)
    (h : ∀ vs H Q E, sp' vs H Q E → ∃ (a : Addr) (good : List V → Prop), H a = some (hid good a) ∧
      ∀ xs, good xs → sp vs (upd H a (.lst xs)) (fun v H' => ∃ ys, H' a = some (.lst ys) ∧ good ys ∧ Q v (upd H' a (hid good a))) E) : FnOk P w K mg base CX0 k f fd ps sp' := by
  refine ⟨len, fun A outer s H args us vs Q E hr e0 hb hv hsp => ?_⟩
  obtain ⟨a, good, ha, hq⟩ := h vs H Q E hsp
  obtain ⟨xs, hg, ok⟩ := hok_open ha e0.hok
  have dom : ∀ {b}, H b = none → (upd H a (.lst xs)) b = none := fun {b} n => by
    rw [upd_ne (fun z => by rw [z, ha] at n; cases n)]
    exact n
  have e1 : Env0 P w K mg base A outer s (upd H a (.lst xs)) := ⟨e0.frames, e0.mod, fun b o e => ⟨(e0.bs b o e).1, dom (e0.bs b o e).2⟩, e0.bsz, e0.funs, fun b hb => dom (e0.frf b hb), ok, e0.bare⟩
  refine codeAny_mono (F.run A outer s _ args us vs _ E hr e1 hb hv (hq xs hg)) fun r s' hc => ?_
  cases r with
  | error e => exact hc
  | ok fl =>
    cases fl with
    | ret u =>
      obtain ⟨v, H', os, bare, un, hok, rv, ys, hy, gy, q⟩ := hc
      refine ⟨v, _, os, bare, ?_, hok_shut hy gy hok, rv, q⟩
      have back : ∀ {b o}, H b = some o → b ≠ a → (upd H a (.lst xs)) b = some o := fun {b o} e hb => by rw [upd_ne hb]; exact e
      have notA : ∀ {b}, H b = none → b ≠ a := fun {b} n z => by rw [z, ha] at n; cases n
      refine ⟨fun b o e n h1 h2 => un.keep b o e (dom n) h1 h2, fun b o e n h1 h2 => un.slot b o e (dom n) h1 h2, fun b o e n h1 => ?_, un.there, fun b ys' e => ?_, fun b o u' e => ?_, fun b ps' e => ?_⟩
      · rw [upd_ne (notA n)]
        exact un.free b o e (dom n) h1
      · have hb : b ≠ a := fun z => by rw [z, ha] at e; cases e
        rw [upd_ne hb]
        exact un.tups b ys' (back e hb)
      · have hb : b ≠ a := fun z => by rw [z, ha] at e; cases e
        rw [upd_ne hb]
        exact un.frzs b o u' (back e hb)
      · have hb : b ≠ a := fun z => by rw [z, ha] at e; cases e
        rw [upd_ne hb]
        exact un.tbls b ps' (back e hb)
    | next => exact hc
    | brk => exact hc
    | cont => exact hc
/-- behind the body the list at a is hidden -/
theorem FnOk.shut_ {k : Nat} {f : Addr} {fd : FuncData} {ps : List Str} {sp sp' : Sp} (F : FnOk P w K mg base CX0 k f fd ps sp) (len : ∀ vs H Q E, sp' vs H Q E → vs.length = ps.length)
    (h : ∀ vs H Q E, sp' vs H Q E → sp vs H (fun v H' => ∃ (a : Addr) (good : List V → Prop) (ys : List V), H a = none ∧ H' a = some (.lst ys) ∧ good ys ∧ Q v (upd H' a (hid good a))) E) : FnOk P w K mg base CX0 k f fd ps sp' := by
  refine ⟨len, fun A outer s H args us vs Q E hr e0 hb hv hsp => ?_⟩
  refine codeAny_mono (F.run A outer s _ args us vs _ E hr e0 hb hv (h vs H Q E hsp)) fun r s' hc => ?_
  cases r with
  | error e => exact hc
  | ok fl =>
    cases fl with
    | ret u =>
      obtain ⟨v, H', os, bare, un, hok, rv, a, good, ys, hn, hy, gy, q⟩ := hc
      refine ⟨v, _, os, bare, ?_, hok_shut hy gy hok, rv, q⟩
      refine ⟨un.keep, un.slot, fun b o e n h1 => ?_, un.there, fun b ys' e => ?_, fun b o u' e => ?_, fun b ps' e => ?_⟩
      · have hb : b ≠ a := fun z => by
          have q1 := un.free b o e n h1
          rw [z, hy] at q1
          cases q1
        rw [upd_ne hb]
        exact un.free b o e n h1
      · rw [upd_ne (ne_of_none e hn)]
        exact un.tups b ys' e
      · rw [upd_ne (ne_of_none e hn)]
        exact un.frzs b o u' e
      · rw [upd_ne (ne_of_none e hn)]
        exact un.tbls b ps' e
    | next => exact hc
    | brk => exact hc
    | cont => exact hc
end
end FF
/-! Fivefault, part 2: defs by their bodies, names of the top, the draws' source. -/
namespace FF
open PySem PySem.Spec PyProof.Rows L2

/-! ### names of the top -/
section
variable {X : Cx} {x : Str} {pos : Pos}
theorem pe_gs {z : Str} (h : ∃ t, X.mg x = some (.str z t)) (hg : Gl X x := by rfl) (hd : (x == ("__debug__" : Str)) = false := by decide) : PE X (.Name x pos) (tC (.str z)) := by
  obtain ⟨t, h⟩ := h
  exact pe_glob hg h ⟨t, rfl⟩ hd
theorem pe_gT {a : Addr} (h : X.mg x = some (.ref a)) (hg : Gl X x := by rfl) (hd : (x == ("__debug__" : Str)) = false := by decide) : PE X (.Name x pos) (tC (.ref a)) := pe_glob (v := .ref a) hg h rfl hd
end
/-! ### a def by its body -/
section
variable {P : Program} {w : World} {K : PySem.W.Frag} {mg : Str → Option Value} {base : Heap}
theorem def_mk {x : Str} {st : Stmt} {f : Addr} {fd : FuncData} {dvs : List V} {kws : List (Str × V)} {N ps : List Str} {k : Nat} {sp : Sp} (F : FunD K x x (defArgs st) (defBody st) (defScope st) dvs kws f fd) (hm : mg x = some (.ref f)) (hb : Binds K fd ps [])
    (S : FnScope N ps (defScope st)) (len : ∀ vs H Q E, sp vs H Q E → vs.length = ps.length)
    (body : ∀ (cdv : Value) (A : Around) (outer : List Env) (s : Shared) (H : Hp) (vs : List V) (Q : VK) (E : XK), Room k (A.deeper (envOfC x (defScope st) s.heap.objs.size f cdv)) → sp vs H Q E →
      ∃ t, PSs (cxOf CX0 P w K mg base N x (defScope st) f cdv A outer s H E).nox (defBody st) t ∧ t { nx := fun _ H' => Q .non H', rt := Q } (start N vs) H) : Def P w K mg base x (k + 1) ps sp :=
  ⟨f, fd, FunD.ok F S len (fun cdv A outer s H vs Q E hr h => let ⟨t, a, b⟩ := body cdv A outer s H vs Q E hr h; ⟨t, PSs.nox a, b⟩), hm, F.kp, hb⟩
/-- two more ways to say it: the list at an address hidden -/
theorem Def.open_ {x : Str} {k : Nat} {ps : List Str} {sp sp' : Sp} (D : Def P w K mg base x k ps sp) (len : ∀ vs H Q E, sp' vs H Q E → vs.length = ps.length)
    (h : ∀ vs H Q E, sp' vs H Q E → ∃ (a : Addr) (good : List V → Prop), H a = some (hid good a) ∧
      ∀ xs, good xs → sp vs (upd H a (.lst xs)) (fun v H' => ∃ ys, H' a = some (.lst ys) ∧ good ys ∧ Q v (upd H' a (hid good a))) E) : Def P w K mg base x k ps sp' := by
  obtain ⟨f, fd, F, r⟩ := D.ex
  exact ⟨f, fd, FnOk.open_ F len h, r⟩
theorem Def.shut_ {x : Str} {k : Nat} {ps : List Str} {sp sp' : Sp} (D : Def P w K mg base x k ps sp) (len : ∀ vs H Q E, sp' vs H Q E → vs.length = ps.length)
    (h : ∀ vs H Q E, sp' vs H Q E → sp vs H (fun v H' => ∃ (a : Addr) (good : List V → Prop) (ys : List V), H a = none ∧ H' a = some (.lst ys) ∧ good ys ∧ Q v (upd H' a (hid good a))) E) : Def P w K mg base x k ps sp' := by
  obtain ⟨f, fd, F, r⟩ := D.ex
  exact ⟨f, fd, FnOk.shut_ F len h, r⟩
end
/-! ### list of a text -/
theorem vals_at : ∀ {xs : List V} {us : List Value}, xs.length = us.length → (∀ (i : Nat) (x : V), xs[i]? = some x → ∃ u, us[i]? = some u ∧ RelV x u) → Vals xs us
  | [], [], _, _ => .nil
  | [], _ :: _, h, _ => by cases h
  | _ :: _, [], h, _ => by cases h
  | x :: xs, u :: us, h, k => by
    obtain ⟨u', e, r⟩ := k 0 x rfl
    cases e
    exact .cons r (vals_at (Nat.succ.inj h) fun i y hy => k (i + 1) y hy)
theorem items_signs {z : Str} {us : Array Value} (h : ItemsOf (SignAt z) us z.cps.size) : Vals (z.cps.toList.map fun c => V.str ⟨#[c]⟩) us.toList := by
  obtain ⟨h1, h2⟩ := h
  refine vals_at (by simp [h1]) fun i x hx => ?_
  rw [List.getElem?_map] at hx
  cases e : z.cps.toList[i]? with
  | none => rw [e] at hx; cases hx
  | some c =>
    rw [e] at hx
    cases hx
    have hi : i < us.size := by
      have := (List.getElem?_eq_some_iff.mp e).1
      simp at this
      omega
    obtain ⟨c', u, e1, e2⟩ := h2 i us[i] (Array.getElem?_eq_getElem hi)
    have e3 : z.cps.toList[i]? = some c' := by simpa using e1
    rw [e] at e3
    cases e3
    exact ⟨us[i], by simp [hi], u, e2⟩
def rListS : List V → Hp → VK → Prop := fun xs H Q => ∃ z : Str, xs = [.str z] ∧ z.length ≤ sizeLine ∧ ∀ l, H l = none → Q (.ref l) (upd H l (.lst (z.cps.toList.map fun c => V.str ⟨#[c]⟩)))
theorem call_list_s {X : Cx} (hc : X.calm = true) : CallR X (.type "list") rListS := by
  intro pins s σ H xs us Q I r h
  obtain ⟨z, rfl, hz, q⟩ := h
  obtain ⟨u, rfl, t, rfl⟩ := Vals.one r
  refine call_list_str (I.ok.hd hc) z t (fun h' tk acc' c' hk hl hi => ?_) hz
  have hv := items_signs hi
  exact ⟨.ref _, _, I.laid (t' := tk) (o := .lst (z.cps.toList.map fun c => V.str ⟨#[c]⟩)) hk (Nat.le_refl _) ⟨by rw [List.length_map]; exact hz, acc'.toList, c', hv, by simpa using hl⟩, rfl, q _ (I.hok.fresh (Nat.le_refl _))⟩
end FF
/-! Fivefault, part 3: data that is well formed; in, not in; measures of values. -/
namespace FF
open PySem PySem.Spec PyProof.Rows L2

/-! ### data that is well formed: texts are short, nested at most 60 deep -/
mutual
def nice : PyData → Bool
  | .none => true
  | .bool _ => true
  | .int _ => true
  | .str x => decide (x.length ≤ 20000) && PyData.strOk x
  | .list xs => decide (xs.length ≤ 20000) && niceAll xs
  | .tuple xs => decide (xs.length ≤ 20000) && niceAll xs
  | .dict _ => false
def niceAll : List PyData → Bool
  | [] => true
  | x :: xs => nice x && niceAll xs
end
mutual
theorem nice_lay : ∀ d : PyData, nice d = true → d.canLay0 = true
  | .none, _ => rfl
  | .bool _, _ => rfl
  | .int _, _ => rfl
  | .str x, h => by
    simp only [nice, Bool.and_eq_true] at h
    simp only [PyData.canLay0]
    exact h.2
  | .list xs, h => by
    simp only [nice, Bool.and_eq_true] at h
    simp only [PyData.canLay0]
    exact niceAll_lay xs h.2
  | .tuple xs, h => by
    simp only [nice, Bool.and_eq_true] at h
    simp only [PyData.canLay0]
    exact niceAll_lay xs h.2
  | .dict _, h => by simp [nice] at h
theorem niceAll_lay : ∀ ds : List PyData, niceAll ds = true → PyData.canLayAll0 ds = true
  | [], _ => rfl
  | x :: xs, h => by
    simp only [niceAll, Bool.and_eq_true] at h
    simp only [PyData.canLayAll0, nice_lay x h.1, niceAll_lay xs h.2, Bool.and_self]
end
theorem niceAll_mem : ∀ {ds : List PyData} {d : PyData}, niceAll ds = true → d ∈ ds → nice d = true
  | x :: xs, d, h, m => by
    simp only [niceAll, Bool.and_eq_true] at h
    rcases List.mem_cons.mp m with e | m
    · rw [e]; exact h.1
    · exact niceAll_mem h.2 m
theorem niceAll_of : ∀ {ds : List PyData}, (∀ d ∈ ds, nice d = true) → niceAll ds = true
  | [], _ => rfl
  | x :: xs, h => by
    simp only [niceAll, Bool.and_eq_true]
    exact ⟨h x (List.mem_cons_self ..), niceAll_of fun d m => h d (List.mem_cons_of_mem _ m)⟩
theorem depthAll_mem : ∀ {ds : List PyData} {d : PyData}, d ∈ ds → d.depth ≤ PyData.depthAll ds
  | x :: xs, d, m => by
    rw [PyData.depthAll]
    rcases List.mem_cons.mp m with e | m
    · rw [e]; omega
    · have := depthAll_mem m; omega
theorem depthAll_of : ∀ {ds : List PyData} {n : Nat}, (∀ d ∈ ds, d.depth ≤ n) → PyData.depthAll ds ≤ n
  | [], _, _ => by rw [PyData.depthAll]; omega
  | x :: xs, n, h => by
    rw [PyData.depthAll]
    have h1 := h x (List.mem_cons_self ..)
    have h2 := depthAll_of fun d m => h d (List.mem_cons_of_mem x m)
    omega
/-- nested at most n deep, with short texts -/
structure Nice (n : Nat) (d : PyData) : Prop where
  ok : nice d = true
  dp : d.depth ≤ n
theorem Nice.shaped {n : Nat} {d : PyData} (h : Nice n d) (hn : n ≤ 64 := by decide) : SeqAt.shaped d = true := by
  have h1 := nice_lay d h.ok
  have h2 : d.depth ≤ 64 := Nat.le_trans h.dp hn
  show (d.canLay0 && decide (d.depth ≤ 64)) = true
  rw [h1, decide_eq_true h2] <;> rfl
theorem Nice.mono {m n : Nat} {d : PyData} (h : Nice m d) (hm : m ≤ n) : Nice n d := ⟨h.ok, Nat.le_trans h.dp hm⟩
theorem Nice.itemT {n : Nat} {ds : List PyData} {d : PyData} (h : Nice n (.tuple ds)) (m : d ∈ ds) : Nice n d := by
  obtain ⟨h1, h2⟩ := h
  simp only [nice, Bool.and_eq_true] at h1
  simp only [PyData.depth] at h2
  have := depthAll_mem m
  exact ⟨niceAll_mem h1.2 m, by omega⟩
theorem Nice.tuple {n : Nat} {ds : List PyData} (hl : ds.length ≤ 20000) (h : ∀ d ∈ ds, Nice n d) : Nice (n + 1) (.tuple ds) := by
  refine ⟨by simp only [nice, Bool.and_eq_true, decide_eq_true_eq]; exact ⟨hl, niceAll_of fun d m => (h d m).ok⟩, ?_⟩
  simp only [PyData.depth]
  have := depthAll_of (n := n) fun d m => (h d m).dp
  omega
theorem Nice.list {n : Nat} {ds : List PyData} (hl : ds.length ≤ 20000) (h : ∀ d ∈ ds, Nice n d) : Nice (n + 1) (.list ds) := by
  refine ⟨by simp only [nice, Bool.and_eq_true, decide_eq_true_eq]; exact ⟨hl, niceAll_of fun d m => (h d m).ok⟩, ?_⟩
  simp only [PyData.depth]
  have := depthAll_of (n := n) fun d m => (h d m).dp
  omega
theorem nice_str {z : Str} (h : nice (.str z) = true) : z.length ≤ sizeLine := by
  simp only [nice, Bool.and_eq_true, decide_eq_true_eq] at h
  exact Nat.le_trans h.1 (by decide)

theorem nice_tl {ds : List PyData} (h : nice (.tuple ds) = true) : ds.length ≤ 20000 := by
  simp only [nice, Bool.and_eq_true, decide_eq_true_eq] at h
  exact h.1
theorem nice_ll {ds : List PyData} (h : nice (.list ds) = true) : ds.length ≤ 20000 := by
  simp only [nice, Bool.and_eq_true, decide_eq_true_eq] at h
  exact h.1
theorem nice_ti {ds : List PyData} {d : PyData} (h : nice (.tuple ds) = true) (m : d ∈ ds) : nice d = true := by
  simp only [nice, Bool.and_eq_true, decide_eq_true_eq] at h
  exact niceAll_mem h.2 m
theorem nice_li {ds : List PyData} {d : PyData} (h : nice (.list ds) = true) (m : d ∈ ds) : nice d = true := by
  simp only [nice, Bool.and_eq_true, decide_eq_true_eq] at h
  exact niceAll_mem h.2 m
theorem le_line {n : Nat} (h : n ≤ 20000) : n ≤ sizeLine := Nat.le_trans h (by decide)
theorem lt_line {n : Nat} (h : n ≤ 20000) : n < sizeLine := Nat.lt_of_le_of_lt h (by decide)

/-! ### x in a written tuple or list, for any data -/
def rInDs (K : PySem.W.Frag) (neg : Bool) : R2 := fun x y H Q => ∃ d ds, Dp K H x d ∧ (Dp K H y (.list ds) ∨ Dp K H y (.tuple ds)) ∧ SeqAt.shaped d = true ∧ SeqAt.shaped (.list ds) = true ∧ Q (.bl (if neg then !(ds.any fun z => PyData.eqv z d) else (ds.any fun z => PyData.eqv z d))) H
theorem op_notInDs {X : Cx} (hu : X.A.units + 65 < cLine) : OpR X (compareOp .NotIn) (rInDs X.K true) := by
  intro pins s σ H x y v u Q I rx ry h
  obtain ⟨d, ds, hd, he | he, sd, se, q⟩ := h
  · obtain ⟨as, r1⟩ := Dp.reads I d x v hd rx
    obtain ⟨bs, r2⟩ := Dp.reads I (.list ds) y u he ry
    exact SeqAt.notIn_list_reads r2 r1 (SeqAt.canLay_of_shaped se) (SeqAt.canLay_of_shaped sd) (room_in_shaped sd hu) ⟨.bl _, H, I, rfl, q⟩
  · obtain ⟨as, r1⟩ := Dp.reads I d x v hd rx
    obtain ⟨bs, r2⟩ := Dp.reads I (.tuple ds) y u he ry
    exact SeqAt.notIn_tuple_reads r2 r1 (SeqAt.canLay_of_shaped se) (SeqAt.canLay_of_shaped sd) (room_in_shaped sd hu) ⟨.bl _, H, I, rfl, q⟩

/-! ### letters and measures -/
abbrev lettersS : Str := "abcdefgh"
def isLetS (z : Str) : Bool := match z.cps.toList with
  | [c] => decide (c ∈ lettersS.cps.toList)
  | _ => false
def isLet : PyData → Bool
  | .str z => isLetS z
  | _ => false
def isOp : PyData → Bool
  | .str z => decide (z = ("&" : Str)) || decide (z = ("|" : Str))
  | _ => false
theorem len1 {z : Str} (h : z.length = 1) : ∃ c, z = ⟨#[c]⟩ := by
  obtain ⟨⟨l⟩⟩ := z
  match l, h with
  | [c], _ => exact ⟨c, rfl⟩
theorem isLetS_no {z : Str} (h : z.length ≠ 1) : isLetS z = false := by
  obtain ⟨⟨l⟩⟩ := z
  match l, h with
  | [], _ => rfl
  | [c], h => exact absurd rfl h
  | _ :: _ :: _, _ => rfl
/-- what stands in a tuple of the form of a term -/
def measP (f : PyData → Int) : PyData → Int
  | .tuple (x :: y :: z :: r) => if isOp x = true then (if (0 : Int) ∈ ((y :: z :: r).map f) then 0 else ((y :: z :: r).map f).sum) else 0
  | _ => 0
/-- the size of a value of the form of a term, at most n deep, or 0 -/
def meas : Nat → PyData → Int
  | 0, _ => 0
  | n + 1, d => if isLet d = true then 1 else if n = 0 then 0 else measP (meas n) d
theorem meas_let {n : Nat} {d : PyData} (h : isLet d = true) : meas n d = if 0 < n then 1 else 0 := by
  cases n with
  | zero => rfl
  | succ n =>
    show (if isLet d = true then (1 : Int) else _) = _
    rw [if_pos h, if_pos (Nat.succ_pos n)]
theorem meas_low {n : Nat} {d : PyData} (h : isLet d = false) (hn : n < 2) : meas n d = 0 := by
  match n, hn with
  | 0, _ => rfl
  | 1, _ =>
    show (if isLet d = true then (1 : Int) else if 0 = 0 then 0 else _) = _
    rw [if_neg (by rw [h]; decide), if_pos rfl]
theorem meas_up {n : Nat} {d : PyData} (h : isLet d = false) (hn : 0 < n) : meas (n + 1) d = measP (meas n) d := by
  show (if isLet d = true then (1 : Int) else if n = 0 then 0 else measP (meas n) d) = _
  rw [if_neg (by rw [h]; decide), if_neg (by omega)]
end FF
/-! Fivefault, part 4: hidden lists read and stored; calls with keywords; tests. -/
namespace FF
open PySem PySem.Spec PyProof.Rows L2

section
variable {X : Cx} {pins : List (Addr × Obj)} {σ : L2.St} {H : Hp} {s : Shared} {a : Addr} {good : List V → Prop}
end
/-! ### calls with keywords -/
section
variable {K : PySem.W.Frag} {x qual : Str} {params : Arguments} {body : List Stmt} {scope : Scope} {kws : List (Str × V)} {f : Addr} {fd : FuncData} {ps : List Str}
end
section
variable {X : Cx} {CX : CXT} {k n : Nat} {f : Addr} {fd : FuncData} {ps ks : List Str} {sp : Sp} {E : XK} {x : Str} {p pos : Pos} {kws : List Keyword} {tk : TA} {g : List Value → List Value → List Value} {gV : List V → List V → List V}
def tCallN0 (m : Nat) (sp : Sp) (gV : List V → List V → List V) (E : XK) (tk : TA) : TE := fun σ H Q => tk σ H fun zs H2 => zs.length = m ∧ sp (gV [] zs) H2 Q E
theorem pe_callN0 (F : FnOk X.prog X.w X.K X.mg X.base CX k f fd ps sp) (hr : Room k X.A) (hg : Gl X x) (hm : X.mg x = some (.ref f)) (hk : PySem.W.keepIn X.K (.ref f) = true) (hb : KBn X.K fd ps 0 ks g gV) (hx : Passes CX X E)
    (hkw : PK X kws tk) (hall : (backToKw pos (keywordEach kws X.env)).all (·.1.isSome) = true := by rfl) (hks : (backToKw pos (keywordEach kws X.env)).filterMap (·.1) = ks := by rfl)
    (hdb : (x == ("__debug__" : Str)) = false := by decide)
    (hpl : ((backTo pos (starEach [] X.env)).any (·.1) || (backToKw pos (keywordEach kws X.env)).any (·.1.isNone)) = false := by rfl) :
    PE X (.Call (.Name x p) [] kws pos) (tCallN0 ks.length sp gV E tk) := by
  refine ⟨fun pins s σ H Q I h => ?_⟩
  refine wpAny_Call_Name_kw (ld_glob I hg hm ?_ hdb)
  refine PySem.W.callWith_KW0 (h₀ := X.base) I.ok.mod.kin hk hall ?_ hpl
  refine thn (hkw.run pos pins s σ H _ I h) fun ws s2 ⟨zs, H2, I2, rz, l2, q2⟩ => ⟨I2.kIn, ?_⟩
  rw [hks]
  exact run_fnN F hr hb hx I2 .nil rz rfl l2 q2
end

/-! ### tests -/
theorem if_int {a b : Int} {A B : Prop} (h1 : a = b → A) (h2 : a ≠ b → B) : if decide (V.int a = V.int b) = true then A else B := by
  by_cases h : a = b
  · rw [decide_eq_true (congrArg V.int h)]
    exact iteT (h1 h)
  · rw [decide_eq_false (fun z => h (V.int.inj z))]
    exact iteF (h2 h)
theorem if_dec {p : Prop} [Decidable p] {A B : Prop} (h1 : p → A) (h2 : ¬ p → B) : if decide p = true then A else B := by
  by_cases h : p
  · rw [decide_eq_true h]
    exact iteT (h1 h)
  · rw [decide_eq_false h]
    exact iteF (h2 h)
theorem if_b {b : Bool} {A B : Prop} (h1 : b = true → A) (h2 : b = false → B) : if b = true then A else B := by
  cases b
  · exact iteF (h2 rfl)
  · exact iteT (h1 rfl)
theorem if_nb {b : Bool} {A B : Prop} (h1 : b = false → A) (h2 : b = true → B) : if (!b) = true then A else B := by
  cases b
  · exact iteT (h1 rfl)
  · exact iteF (h2 rfl)
theorem qi {Q : VK} {H : Hp} {a b : Int} (h : Q (.int a) H) (e : a = b) : Q (.int b) H := e ▸ h
theorem qb {Q : VK} {H : Hp} {a b : Bool} (h : Q (.bl a) H) (e : a = b) : Q (.bl b) H := e ▸ h
theorem r65 {k : Nat} {A : Around} (hr : Room k A) : A.units + 65 < cLine := by have := hr.un; omega
theorem at0 {α : Type} {x : α} {xs : List α} : atI (x :: xs) 0 = some x := atI_nat (j := 0) rfl
end FF
/-! Fivefault, part 5: tuples never change; comprehensions that map; slices. -/
namespace FF
open PySem PySem.Spec PyProof.Rows L2

/-! ### tuples stay -/
def SameT (H H' : Hp) : Prop := ∀ b xs, H b = some (.tup xs) → H' b = some (.tup xs)
theorem SameT.refl (H : Hp) : SameT H H := fun _ _ h => h
theorem SameT.trans {H H1 H2 : Hp} (a : SameT H H1) (b : SameT H1 H2) : SameT H H2 := fun c o h => b c o (a c o h)
theorem Same.T {H H' : Hp} (e : Same H H') : SameT H H' := fun b xs h => e b _ h
theorem SameT.upd {H H' : Hp} {p : Addr} {o : HO} (e : SameT H H') (h : ∀ xs, H' p ≠ some (.tup xs)) : SameT H (upd H' p o) := fun b xs q => by
  have := e b xs q
  rw [upd_ne (fun z => h xs (by rw [← z]; exact this))]
  exact this
theorem SameT.updL {H H' : Hp} {p : Addr} {o : HO} {ys : List V} (e : SameT H H') (h : H' p = some (.lst ys)) : SameT H (L2.upd H' p o) := e.upd fun xs z => by rw [h] at z; cases z
def SqU (K : PySem.W.Frag) (H : Hp) (a : Addr) (xs : List V) : Prop :=
  H a = some (.tup xs) ∨ ∃ (o : Obj) (its : Array Value) (n : Nat), K.lookup a = some o ∧ o.cls = .type "tuple" ∧ o.data = .seq its n ∧ its.size ≤ sizeLine ∧ Vals xs its.toList
theorem SqU.sqT {K : PySem.W.Frag} {H : Hp} {a : Addr} {xs : List V} (h : SqU K H a xs) : SqT K H a xs := by
  rcases h with h | h
  · exact .inl (.inl h)
  · exact .inr h
theorem SqU.up {K : PySem.W.Frag} {H H' : Hp} {a : Addr} {xs : List V} (e : SameT H H') (h : SqU K H a xs) : SqU K H' a xs := by
  rcases h with h | h
  · exact .inl (e _ _ h)
  · exact .inr h
mutual
/-- data of tuples, texts and the like: no lists -/
inductive Tp (K : PySem.W.Frag) (H : Hp) : V → PyData → Prop
  | non : Tp K H .non .none
  | bl (b : Bool) : Tp K H (.bl b) (.bool b)
  | int (i : Int) : Tp K H (.int i) (.int i)
  | str (x : Str) : Tp K H (.str x) (.str x)
  | tup {a : Addr} {xs : List V} {ds : List PyData} : SqU K H a xs → TpAll K H xs ds → Tp K H (.ref a) (.tuple ds)
inductive TpAll (K : PySem.W.Frag) (H : Hp) : List V → List PyData → Prop
  | nil : TpAll K H [] []
  | cons {v : V} {vs : List V} {d : PyData} {ds : List PyData} : Tp K H v d → TpAll K H vs ds → TpAll K H (v :: vs) (d :: ds)
end
section
variable {K : PySem.W.Frag} {H H' : Hp}
mutual
theorem Tp.dp : ∀ {v : V} {d : PyData}, Tp K H v d → Dp K H v d
  | _, _, .non => .non
  | _, _, .bl b => .bl b
  | _, _, .int i => .int i
  | _, _, .str x => .str x
  | _, _, .tup h a => .tup h.sqT a.dp
theorem TpAll.dp : ∀ {vs : List V} {ds : List PyData}, TpAll K H vs ds → DpAll K H vs ds
  | _, _, .nil => .nil
  | _, _, .cons h a => .cons h.dp a.dp
end
mutual
theorem Tp.up (e : SameT H H') : ∀ {v : V} {d : PyData}, Tp K H v d → Tp K H' v d
  | _, _, .non => .non
  | _, _, .bl b => .bl b
  | _, _, .int i => .int i
  | _, _, .str x => .str x
  | _, _, .tup h a => .tup (h.up e) (a.up e)
theorem TpAll.up (e : SameT H H') : ∀ {vs : List V} {ds : List PyData}, TpAll K H vs ds → TpAll K H' vs ds
  | _, _, .nil => .nil
  | _, _, .cons h a => .cons (h.up e) (a.up e)
end
theorem TpAll.len : ∀ {vs : List V} {ds : List PyData}, TpAll K H vs ds → vs.length = ds.length
  | _, _, .nil => rfl
  | _, _, .cons _ t => congrArg Nat.succ (TpAll.len t)
theorem TpAll.get : ∀ {vs : List V} {ds : List PyData} {i : Nat} {v : V}, TpAll K H vs ds → vs[i]? = some v → ∃ d, ds[i]? = some d ∧ Tp K H v d
  | _, _, 0, _, .cons h _, e => by cases e; exact ⟨_, rfl, h⟩
  | _, _, i + 1, _, .cons _ t, e => TpAll.get (i := i) t e
theorem TpAll.app : ∀ {vs ws : List V} {ds es : List PyData}, TpAll K H vs ds → TpAll K H ws es → TpAll K H (vs ++ ws) (ds ++ es)
  | _, _, _, _, .nil, r => r
  | _, _, _, _, .cons h t, r => .cons h (t.app r)
theorem TpAll.of_get : ∀ {vs : List V} {ds : List PyData}, vs.length = ds.length → (∀ (i : Nat) (v : V) (d : PyData), vs[i]? = some v → ds[i]? = some d → Tp K H v d) → TpAll K H vs ds
  | [], [], _, _ => .nil
  | [], _ :: _, h, _ => by cases h
  | _ :: _, [], h, _ => by cases h
  | v :: vs, d :: ds, h, k => .cons (k 0 v d rfl rfl) (TpAll.of_get (Nat.succ.inj h) fun i v d h1 h2 => k (i + 1) v d h1 h2)
end

/-! ### slices t[1:] -/
theorem cut1 {x : V} {xs : List V} : cutV (x :: xs) (some 1) none = xs := by
  show (((x :: xs).drop (HT.sIx (xs.length + 1) 0 (some ((1 : Nat) : Int)))).take (HT.sIx (xs.length + 1) (xs.length + 1) none - HT.sIx (xs.length + 1) 0 (some ((1 : Nat) : Int)))) = xs
  rw [HT.sIx_nat, HT.sIx_none, show min 1 (xs.length + 1) = 1 by omega]
  show xs.take (xs.length + 1 - 1) = xs
  rw [Nat.add_sub_cancel, List.take_length]
theorem notWhole1 {x : V} {xs : List V} : ¬ (HT.sIx (x :: xs).length 0 (some 1) = 0 ∧ HT.sIx (x :: xs).length (x :: xs).length none = (x :: xs).length) := by
  rintro ⟨h, _⟩
  have : HT.sIx (xs.length + 1) 0 (some ((1 : Nat) : Int)) = 0 := h
  rw [HT.sIx_nat] at this
  omega

/-! ### [e for x in xs] -/
section
variable {K : PySem.W.Frag} {a : Addr} {xs : List V} {te : TE} {vs : List Nat} {σ : L2.St} {H1 : Hp} {D : Addr} {Qd : Hp → Prop} {j : Nat}
/-- what a step of the loop over the list gives -/
theorem lc_turn {i : Nat} {H : Hp} {x : V} {R : Nat → V → Hp → Prop} (mono : ∀ i y H H', SameT H H' → R i y H → R i y H') (hD : H1 D = none)
    (p : Same H1 H ∧ ∃ ys, H D = some (.lst ys) ∧ ys.length = i ∧ ∀ m y, ys[m]? = some y → R m y H) (hi : i < sizeLine)
    (st : ∀ Q' : VK, (∀ y H3, Same H H3 → R i y H3 → Q' y H3) → te ((wipe σ vs).set j (some x)) H Q') :
    te ((wipe σ vs).set j (some x)) H fun y H4 => ∃ acc, H4 D = some (.lst acc) ∧ acc.length < sizeLine ∧ (Same H1 (upd H4 D (.lst (acc ++ [y]))) ∧ ∃ ys, (upd H4 D (.lst (acc ++ [y]))) D = some (.lst ys) ∧ ys.length = i + 1 ∧ ∀ m y', ys[m]? = some y' → R m y' (upd H4 D (.lst (acc ++ [y])))) := by
  obtain ⟨e1, ys, h2, h3, h4⟩ := p
  refine st _ fun y H3 e3 r => ?_
  have hd := e3 _ _ h2
  refine ⟨ys, hd, by omega, fun b o q => ?_, ys ++ [y], upd_same, by simp [h3], fun m y' q => ?_⟩
  · rw [upd_ne (ne_of_none q hD)]
    exact e3 _ _ (e1 _ _ q)
  · have eT : SameT H3 (upd H3 D (.lst (ys ++ [y]))) := (SameT.refl H3).updL hd
    by_cases hm : m < ys.length
    · rw [List.getElem?_append_left hm] at q
      exact mono _ _ _ _ ((Same.T e3).trans eT) (h4 m y' q)
    · have : m = ys.length := by
        have := (List.getElem?_eq_some_iff.mp q).1
        simp at this
        omega
      subst this
      rw [List.getElem?_append_right (Nat.le_refl _), Nat.sub_self] at q
      cases q
      rw [h3]
      exact mono _ _ _ _ eT r
theorem lc_mapT (R : Nat → V → Hp → Prop) (mono : ∀ i y H H', SameT H H' → R i y H → R i y H') (hD : H1 D = none) (hs : SqT K H1 a xs) (hz : xs.length ≤ sizeLine)
    (hw : ∀ x, wipe ((wipe σ vs).set j (some x)) vs = wipe σ vs)
    (step : ∀ i x H2, xs[i]? = some x → Same H1 H2 → ∀ Q' : VK, (∀ y H3, Same H2 H3 → R i y H3 → Q' y H3) → te ((wipe σ vs).set j (some x)) H2 Q')
    (done : ∀ H2 ys, Same H1 H2 → H2 D = some (.lst ys) → ys.length = xs.length → (∀ (i : Nat) (y : V), ys[i]? = some y → R i y H2) → Qd H2) :
    ∃ W : Nat → Nat → Hp → Prop, (∃ m, W 0 m (upd H1 D (.lst []))) ∧ ∀ i m H, W i m H →
      ((Itt K a).stop i H ∧ Qd H) ∨ ((Itt K a).go i H ∧ ∃ Nx : Hp → Prop, (∀ H', Nx H' → ∃ m', m' < m ∧ W (i + 1) m' H') ∧ ∀ x H', (Itt K a).yld i H x H' → gName j x (wipe σ vs) H' fun σ2 H2 => wipe σ2 vs = wipe σ vs ∧ tYes σ2 H2 fun b H3 =>
        if b = true then te σ2 H3 fun y H4 => ∃ acc, H4 D = some (.lst acc) ∧ acc.length < sizeLine ∧ Nx (upd H4 D (.lst (acc ++ [y]))) else Nx H3) :=
  lc_tup (fun i H => Same H1 H ∧ ∃ ys, H D = some (.lst ys) ∧ ys.length = i ∧ ∀ m y, ys[m]? = some y → R m y H)
    ⟨same_new hD _, [], upd_same, rfl, fun m y q => by simp at q⟩ (fun i H _ p => up_t p.1 hs)
    (fun i x H hx p => ⟨hw x, lc_turn mono hD p (Nat.lt_of_lt_of_le (List.getElem?_eq_some_iff.mp hx).1 hz) (step i x H hx p.1)⟩)
    fun H ⟨e, ys, h1, h2, h3⟩ => done H ys e h1 h2 h3
theorem lc_mapL (R : Nat → V → Hp → Prop) (mono : ∀ i y H H', SameT H H' → R i y H → R i y H') (hD : H1 D = none) (hs : SqL K H1 a xs) (hz : xs.length ≤ sizeLine)
    (hw : ∀ x, wipe ((wipe σ vs).set j (some x)) vs = wipe σ vs)
    (step : ∀ i x H2, xs[i]? = some x → Same H1 H2 → ∀ Q' : VK, (∀ y H3, Same H2 H3 → R i y H3 → Q' y H3) → te ((wipe σ vs).set j (some x)) H2 Q')
    (done : ∀ H2 ys, Same H1 H2 → H2 D = some (.lst ys) → ys.length = xs.length → (∀ (i : Nat) (y : V), ys[i]? = some y → R i y H2) → Qd H2) :
    ∃ W : Nat → Nat → Hp → Prop, (∃ m, W 0 m (upd H1 D (.lst []))) ∧ ∀ i m H, W i m H →
      ((Itl K a).stop i H ∧ Qd H) ∨ ((Itl K a).go i H ∧ ∃ Nx : Hp → Prop, (∀ H', Nx H' → ∃ m', m' < m ∧ W (i + 1) m' H') ∧ ∀ x H', (Itl K a).yld i H x H' → gName j x (wipe σ vs) H' fun σ2 H2 => wipe σ2 vs = wipe σ vs ∧ tYes σ2 H2 fun b H3 =>
        if b = true then te σ2 H3 fun y H4 => ∃ acc, H4 D = some (.lst acc) ∧ acc.length < sizeLine ∧ Nx (upd H4 D (.lst (acc ++ [y]))) else Nx H3) :=
  lc_list (fun i H => Same H1 H ∧ ∃ ys, H D = some (.lst ys) ∧ ys.length = i ∧ ∀ m y, ys[m]? = some y → R m y H)
    ⟨same_new hD _, [], upd_same, rfl, fun m y q => by simp at q⟩ (fun i H _ p => up_l p.1 hs)
    (fun i x H hx p => ⟨hw x, lc_turn mono hD p (Nat.lt_of_lt_of_le (List.getElem?_eq_some_iff.mp hx).1 hz) (step i x H hx p.1)⟩)
    fun H ⟨e, ys, h1, h2, h3⟩ => done H ys e h1 h2 h3
/-- the lists' items told by a function of the place -/
theorem eq_map_of {α : Type} {ys : List V} {ds : List α} {f : α → V} (hl : ys.length = ds.length) (h : ∀ (i : Nat) (y : V), ys[i]? = some y → ∃ d, ds[i]? = some d ∧ y = f d) : ys = ds.map f := by
  refine List.ext_getElem? fun i => ?_
  rw [List.getElem?_map]
  cases e : ys[i]? with
  | none =>
    have : ds.length ≤ i := by rw [← hl]; exact List.getElem?_eq_none_iff.mp e
    rw [List.getElem?_eq_none_iff.mpr this] <;> rfl
  | some y =>
    obtain ⟨d, h1, h2⟩ := h i y e
    rw [h1, h2] <;> rfl
end
end FF
/-! Fivefault, part 6: comprehensions over zip. -/
namespace FF
open PySem PySem.Spec PyProof.Rows L2
def ItS (S : Hp → Addr → List V → Prop) (a b : Addr) : It :=
  ⟨fun i H => ∃ (xs ys : List V) (x y : V), S H a xs ∧ S H b ys ∧ xs[i]? = some x ∧ ys[i]? = some y,
    fun i H v H' => ∃ T x y, v = .ref T ∧ H T = none ∧ H' = upd H T (.tup [x, y]) ∧ (∀ xs, S H a xs → xs[i]? = some x) ∧ ∀ ys, S H b ys → ys[i]? = some y,
    fun i H => ∃ xs ys : List V, S H a xs ∧ S H b ys ∧ (xs.length ≤ i ∨ ys.length ≤ i)⟩
section
variable {K : PySem.W.Frag} {S : Hp → Addr → List V → Prop} {a b : Addr} {xs ys : List V} {te : TE} {vs : List Nat} {σ : L2.St} {H1 : Hp} {D : Addr} {Qd : Hp → Prop} {j k : Nat}
theorem lc_zipS (up : ∀ {H H' a xs}, Same H H' → S H a xs → S H' a xs) (R : Nat → V → Hp → Prop) (mono : ∀ i y H H', SameT H H' → R i y H → R i y H') (hD : H1 D = none) (hx : S H1 a xs) (hy : S H1 b ys) (hl : xs.length = ys.length) (hz : xs.length ≤ sizeLine)
    (hw : ∀ x y, wipe (((wipe σ vs).set j (some x)).set k (some y)) vs = wipe σ vs)
    (step : ∀ i x y H2, xs[i]? = some x → ys[i]? = some y → Same H1 H2 → ∀ Q' : VK, (∀ u H3, Same H2 H3 → R i u H3 → Q' u H3) → te (((wipe σ vs).set j (some x)).set k (some y)) H2 Q')
    (done : ∀ H2 us, Same H1 H2 → H2 D = some (.lst us) → us.length = xs.length → (∀ (i : Nat) (u : V), us[i]? = some u → R i u H2) → Qd H2) :
    ∃ W : Nat → Nat → Hp → Prop, (∃ m, W 0 m (upd H1 D (.lst []))) ∧ ∀ i m H, W i m H →
      ((ItS S a b).stop i H ∧ Qd H) ∨ ((ItS S a b).go i H ∧ ∃ Nx : Hp → Prop, (∀ H', Nx H' → ∃ m', m' < m ∧ W (i + 1) m' H') ∧ ∀ x H', (ItS S a b).yld i H x H' → gTup K 2 (gCons (gName j) (gCons (gName k) gNil)) x (wipe σ vs) H' fun σ2 H2 => wipe σ2 vs = wipe σ vs ∧ tYes σ2 H2 fun b H3 =>
        if b = true then te σ2 H3 fun y H4 => ∃ acc, H4 D = some (.lst acc) ∧ acc.length < sizeLine ∧ Nx (upd H4 D (.lst (acc ++ [y]))) else Nx H3) := by
  let Pv : Nat → Hp → Prop := fun i H => Same H1 H ∧ ∃ us, H D = some (.lst us) ∧ us.length = i ∧ ∀ (m : Nat) (u : V), us[m]? = some u → R m u H
  refine ⟨fun i m H => m = xs.length - i ∧ i ≤ xs.length ∧ Pv i H, ⟨xs.length, by simp, Nat.zero_le _, same_new hD _, [], upd_same, rfl, fun m u q => by simp at q⟩, ?_⟩
  rintro i m H ⟨rfl, hi, e, us, h2, h3, h4⟩
  by_cases hlt : i < xs.length
  · refine .inr ⟨⟨xs, ys, xs[i], ys[i]'(by omega), up e hx, up e hy, by simp [hlt], by simp [show i < ys.length by omega]⟩, Pv (i + 1), fun H' p' => ⟨xs.length - (i + 1), by omega, rfl, hlt, p'⟩, ?_⟩
    rintro v H' ⟨T, x, y, rfl, nT, rfl, qx, qy⟩
    refine ⟨T, [x, y], rfl, SqT.of upd_same, rfl, x, [y], rfl, y, [], rfl, rfl, hw x y, ?_⟩
    have eT := same_new nT (.tup [x, y])
    have e' := e.trans eT
    show te (((wipe σ vs).set j (some x)).set k (some y)) (upd H T (.tup [x, y])) _
    refine step i x y _ (qx xs (up e hx)) (qy ys (up e hy)) e' _ fun u H3 e3 r => ?_
    have hd := e3 _ _ (eT _ _ h2)
    refine ⟨us, hd, by omega, fun b o q => ?_, us ++ [u], upd_same, by simp [h3], fun m u' q => ?_⟩
    · rw [upd_ne (ne_of_none q hD)]
      exact e3 _ _ (e' _ _ q)
    · have eD : SameT H3 (upd H3 D (.lst (us ++ [u]))) := (SameT.refl H3).updL hd
      by_cases hm : m < us.length
      · rw [List.getElem?_append_left hm] at q
        exact mono _ _ _ _ (((Same.T eT).trans (Same.T e3)).trans eD) (h4 m u' q)
      · have : m = us.length := by
          have := (List.getElem?_eq_some_iff.mp q).1
          simp at this
          omega
        subst this
        rw [List.getElem?_append_right (Nat.le_refl _), Nat.sub_self] at q
        cases q
        rw [h3]
        exact mono _ _ _ _ eD r
  · have hi2 : i = xs.length := by omega
    exact .inl ⟨⟨xs, ys, up e hx, up e hy, .inl (by omega)⟩, done H us e h2 (by omega) h4⟩
end
theorem all_true : ∀ (n : Nat), (List.replicate n true).all id = true
  | 0 => rfl
  | n + 1 => by rw [List.replicate_succ, List.all_cons, all_true n]; rfl
end FF
/-! Fivefault, part 7: what an expression over data gives (displays of constants and names). -/
namespace FF
open PySem PySem.Spec PyProof.Rows L2
section
variable {K : PySem.W.Frag} {σ : L2.St} {H : Hp}
def EvD (K : PySem.W.Frag) (te : TE) (σ : L2.St) (H : Hp) (d : PyData) : Prop := ∀ H1, Same H H1 → ∀ Q : VK, (∀ v H2, Same H1 H2 → Dp K H2 v d → Q v H2) → te σ H1 Q
def EvDs (K : PySem.W.Frag) (ta : TA) (σ : L2.St) (H : Hp) (ds : List PyData) : Prop := ∀ H1, Same H H1 → ∀ Q : List V → Hp → Prop, (∀ vs H2, Same H1 H2 → DpAll K H2 vs ds → Q vs H2) → ta σ H1 Q
def EvDl (K : PySem.W.Frag) (te : TE) (σ : L2.St) (H : Hp) (ds : List PyData) : Prop := ∀ H1, Same H H1 → ∀ Q : VK, (∀ p vs H2, H1 p = none → Same H1 H2 → H2 p = some (.lst vs) → DpAll K H2 vs ds → Q (.ref p) H2) → te σ H1 Q
theorem ev_non : EvD K (tC .non) σ H .none := fun H1 _ Q q => q .non H1 (Same.refl H1) .non
theorem ev_bl {b : Bool} : EvD K (tC (.bl b)) σ H (.bool b) := fun H1 _ Q q => q _ H1 (Same.refl H1) (.bl b)
theorem ev_int {i : Int} : EvD K (tC (.int i)) σ H (.int i) := fun H1 _ Q q => q _ H1 (Same.refl H1) (.int i)
theorem ev_str {z : Str} : EvD K (tC (.str z)) σ H (.str z) := fun H1 _ Q q => q _ H1 (Same.refl H1) (.str z)
theorem ev_var {i : Nat} {v : V} {d : PyData} (h : σ[i]? = some (some v)) (hd : Dp K H v d) : EvD K (tVar i) σ H d := fun H1 e Q q => ⟨v, h, q v H1 (Same.refl H1) (up_d e hd)⟩
theorem evs_nil : EvDs K tNil σ H [] := fun H1 _ Q q => q [] H1 (Same.refl H1) .nil
theorem evs_cons {te : TE} {ta : TA} {d : PyData} {ds : List PyData} (h : EvD K te σ H d) (t : EvDs K ta σ H ds) : EvDs K (tCons te ta) σ H (d :: ds) := fun H1 e Q q =>
  h H1 e _ fun v H2 e2 hd => t H2 (e.trans e2) _ fun vs H3 e3 hs => q (v :: vs) H3 (e2.trans e3) (.cons (up_d e3 hd) hs)
theorem ev_tup {ta : TA} {ds : List PyData} (h : EvDs K ta σ H ds) (hl : ds.length ≤ 20000) : EvD K (tTup ta) σ H (.tuple ds) := fun H1 e Q q =>
  h H1 e _ fun vs H2 e2 hs => ⟨by rw [da_len hs]; exact le_line hl, fun p hp => q _ _ (e2.trans (same_new hp _)) (.tup (SqT.of upd_same) (up_da (same_new hp _) hs))⟩
theorem ev_lst {ta : TA} {ds : List PyData} (h : EvDs K ta σ H ds) (hl : ds.length ≤ 20000) : EvD K (tLst ta) σ H (.list ds) := fun H1 e Q q =>
  h H1 e _ fun vs H2 e2 hs => ⟨by rw [da_len hs]; exact le_line hl, fun p hp => q _ _ (e2.trans (same_new hp _)) (.lst (SqL.of upd_same) (up_da (same_new hp _) hs))⟩
theorem evl_lst {ta : TA} {ds : List PyData} (h : EvDs K ta σ H ds) (hl : ds.length ≤ 20000) : EvDl K (tLst ta) σ H ds := fun H1 e Q q =>
  h H1 e _ fun vs H2 e2 hs => ⟨by rw [da_len hs]; exact le_line hl, fun p hp => q p vs _ ((Same.trans e2 (Same.refl _)).free hp) (e2.trans (same_new hp _)) upd_same (up_da (same_new hp _) hs)⟩
end
theorem da_mem {K : PySem.W.Frag} {H : Hp} : ∀ {vs : List V} {ds : List PyData} {v : V}, DpAll K H vs ds → v ∈ vs → ∃ d, d ∈ ds ∧ Dp K H v d
  | _, _, _, .cons h t, m => by
    rcases List.mem_cons.mp m with e | m
    · rw [e]; exact ⟨_, List.mem_cons_self .., h⟩
    · obtain ⟨d, h1, h2⟩ := da_mem t m
      exact ⟨d, List.mem_cons_of_mem _ h1, h2⟩
end FF
/-! Fivefault, part 8: the rules that name the written part, with K said outright (for comprehensions' blocks). -/
namespace FF
open PySem PySem.Spec PyProof.Rows L2
section
variable (K : PySem.W.Frag) {X : Cx}
theorem ix_listK (h : X.K = K := by rfl) : IxR X (rIxL K) := by subst h; exact ix_list
theorem ix_tupK (h : X.K = K := by rfl) : IxR X (rIxT K) := by subst h; exact ix_tup
theorem call_lenK (h : X.K = K := by rfl) : CallR X (.builtin "len") (fun xs H Q => ∃ x n, xs = [x] ∧ LenV K x H n ∧ Q (.int n) H) := by subst h; exact call_len
theorem call_isK {T : String} {f : PyData → Bool} (hk : ∀ d, kitB (tyN d) T = some (f d)) (h : X.K = K := by rfl) : CallR X (.builtin "isinstance") (rIsD K T f) := by subst h; exact call_isD hk
theorem op_eqK (hu : X.A.units + 64 < cLine) (h : X.K = K := by rfl) : OpR X (compareOp .Eq) (rEqD K) := by subst h; exact op_eqD hu
theorem op_neK (hu : X.A.units + 64 < cLine) (h : X.K = K := by rfl) : OpR X (compareOp .NotEq) (rNeD K) := by subst h; exact op_neD hu
theorem op_notInK (hu : X.A.units + 65 < cLine) (h : X.K = K := by rfl) : OpR X (compareOp .NotIn) (rInDs K true) := by subst h; exact op_notInDs hu
theorem op_in_seqK (h : X.K = K := by rfl) : OpR X (compareOp .In) (rIn K false) := by subst h; exact op_in_seq
theorem op_notIn_seqK (h : X.K = K := by rfl) : OpR X (compareOp .NotIn) (rIn K true) := by subst h; exact op_notIn_seq
theorem sl_tupK (h : X.K = K := by rfl) : SlR X (rSlT K) := by subst h; exact sl_tup
theorem sl_listK (h : X.K = K := by rfl) : SlR X (rSlL K) := by subst h; exact sl_list
theorem call_list_ofK (h : X.K = K := by rfl) : CallR X (.type "list") (fun xs H Q => ∃ p ys, xs = [.ref p] ∧ (SqL K H p ys ∨ SqT K H p ys) ∧ ∀ l, H l = none → Q (.ref l) (upd H l (.lst ys))) := by subst h; exact call_list_of
theorem call_tuple_ofK (h : X.K = K := by rfl) : CallR X (.type "tuple") (fun xs H Q => ∃ p ys, xs = [.ref p] ∧ ((SqL K H p ys ∧ ∀ l, H l = none → Q (.ref l) (upd H l (.tup ys))) ∨ (SqT K H p ys ∧ Q (.ref p) H))) := by subst h; exact call_tuple_of
theorem cr_sumK (hc : X.calm = true) (h : X.K = K := by rfl) : CallR X (.builtin "sum") (rSum K) := by subst h; exact cr_sum hc
theorem cr_allK (hc : X.calm = true) (h : X.K = K := by rfl) : CallR X (.builtin "all") (rAll K) := by subst h; exact cr_all hc
theorem cr_anyK (hc : X.calm = true) (h : X.K = K := by rfl) : CallR X (.builtin "any") (rAny K) := by subst h; exact cr_any hc
theorem pg_tupK {es : List Expr} {k : Nat} {t : TGs} {n : Nat} {pos : Pos} (hc : X.calm = true) (h : PGs X es t) (hk : X.K = K := by rfl)
    (hn : (assignEach es X.env).length = n := by rfl) (hst : (assignEach es X.env).findIdx? (·.1) = none := by rfl) : PG X (.Tuple es k pos) (gTup K n t) := by subst hk; exact pg_tup hc h hn hst
theorem pi_listK {tg l : Expr} {tl : TE} (hl : PE X l tl) (h : X.K = K := by rfl) : PI X tg l (iList K tl) := by subst h; exact pi_list hl
theorem pi_tupK {tg l : Expr} {tl : TE} (hl : PE X l tl) (h : X.K = K := by rfl) : PI X tg l (iTup K tl) := by subst h; exact pi_tup hl
theorem pi_zipK {e e2 : Expr} {ta : TA} {p pos tpos : Pos} {elts : List Expr} {kk : Nat} (hg : Gl X "zip") (hm : X.mg "zip" = none) (ha : PA X [e, e2] ta) (h : X.K = K := by rfl)
    (hs : starEach [e, e2] X.env = (false, eval e X.env) :: starEach [e2] X.env := by rfl) (hpl : (backTo pos (starEach [e2] X.env)).any (·.1) = false := by rfl) :
    PI X (.Tuple elts kk tpos) (.Call (.Name "zip" p) [e, e2] [] pos) (RZ.iZipA K ta) := by subst h; exact RZ.pi_zipA hg hm ha hs hpl
theorem pi_enumK {e : Expr} {ta : TA} {p pos tpos : Pos} {elts : List Expr} {kk : Nat} (hg : Gl X "enumerate") (hm : X.mg "enumerate" = none) (ha : PA X [e] ta) (h : X.K = K := by rfl) (hs : starEach [e] X.env = [(false, eval e X.env)] := by rfl) :
    PI X (.Tuple elts kk tpos) (.Call (.Name "enumerate" p) [e] [] pos) (iEnum K ta) := by subst h; exact pi_enum hg hm ha hs
theorem pe_bmK {T name id : String} {r : V → List V → Hp → VK → Prop} {o e : Expr} {es : List Expr} {to : TE} {t : TA} {apos cpos : Pos} (pa : PlainAttrs T) (slot : Slot T name id) (hty : typeOf (.builtin id) = pure (.type "method_descriptor")) (hm : MtR X id r) (ho : PE X o to) (ha : PA X (e :: es) t) (h : X.K = K := by rfl)
    (hbase : attributeBase o name X.env (eval o X.env) = eval o X.env := by rfl)
    (hfew : ((backTo cpos (starEach (e :: es) X.env)).all (fun x => !x.1) && (backToKw cpos (keywordEach [] X.env)).all (fun x => x.1.isSome)
      && decide ((e :: es).length + ([] : List Keyword).length + (if ([] : List Keyword).isEmpty then 0 else 1) < 30)) = true := by rfl)
    (hline : (apos.endLine == cpos.line) = true := by rfl) (hs : starEach (e :: es) X.env = (false, eval e X.env) :: starEach es X.env := by rfl) (hplain : (backTo cpos (starEach es X.env)).any (·.1) = false := by rfl) :
    PE X (.Call (.Attribute o name apos) (e :: es) [] cpos) (tBM K T r to t) := by subst h; exact pe_bm pa slot hty hm ho ha hbase hfew hline hs hplain
end
end FF
namespace FF
open L2
theorem seq_asg {te : TE} {i : Nat} {u : TS} {D : Ends} {σ : L2.St} {H : Hp} (h : te σ H fun x H1 => u D (σ.set i (some x)) H1) : tSeq (tAsg te (gName i)) u D σ H := h
theorem op_of {r : R2} {ta tb : TE} {σ : L2.St} {H : Hp} {Q : VK} (h : ta σ H fun x H1 => tb σ H1 fun y H2 => r x y H2 Q) : tOp r ta tb σ H Q := h
end FF
namespace FF
open PySem PySem.Spec PyProof.Rows L2
theorem fn_mk {P : Program} {w : World} {K : PySem.W.Frag} {mg : Str → Option Value} {base : Heap} {x : Str} {st : Stmt} {f : Addr} {fd : FuncData} {dvs : List V} {kws : List (Str × V)} {N ps : List Str} {k : Nat} {sp : Sp} (F : FunD K x x (defArgs st) (defBody st) (defScope st) dvs kws f fd)
    (S : FnScope N ps (defScope st)) (len : ∀ vs H Q E, sp vs H Q E → vs.length = ps.length)
    (body : ∀ (cdv : Value) (A : Around) (outer : List Env) (s : Shared) (H : Hp) (vs : List V) (Q : VK) (E : XK), Room k (A.deeper (envOfC x (defScope st) s.heap.objs.size f cdv)) → sp vs H Q E →
      ∃ t, PSs (cxOf CX0 P w K mg base N x (defScope st) f cdv A outer s H E).nox (defBody st) t ∧ t { nx := fun _ H' => Q .non H', rt := Q } (start N vs) H) : FnOk P w K mg base CX0 (k + 1) f fd ps sp :=
  FunD.ok F S len fun cdv A outer s H vs Q E hr h => let ⟨t, a, b⟩ := body cdv A outer s H vs Q E hr h; ⟨t, PSs.nox a, b⟩
end FF
namespace FF
open PySem PySem.Spec PyProof.Rows L2
end FF
namespace FF
open PySem PySem.Spec PyProof.Rows L2
/-- a promise that is never asked -/
theorem def_none {P : Program} {w : World} {K : PySem.W.Frag} {mg : Str → Option Value} {base : Heap} {x qual : Str} {params : Arguments} {body : List Stmt} {scope : Scope} {dvs : List V} {kws : List (Str × V)} {f : Addr} {fd : FuncData} {ps : List Str} {sp : Sp}
    (F : FunD K x qual params body scope dvs kws f fd) (hm : mg x = some (.ref f)) (hb : Binds K fd ps []) (no : ∀ vs H Q E, ¬ sp vs H Q E) : Def P w K mg base x 0 ps sp :=
  ⟨f, fd, ⟨fun vs H Q E h => absurd h (no vs H Q E), fun A outer s H args us vs Q E _ _ _ _ h => absurd h (no vs H Q E)⟩, hm, F.kp, hb⟩
end FF
/-! Fivefault, part 9: exceptions with own __init__s that call the base's; clauses with names; f(lambda: ..). -/
namespace FF
open PySem PySem.Spec PyProof.Rows L2
/-! ### C.m(self, ..), m a def of the class C -/
section
variable {X : Cx} {CX : CXT} {k : Nat} {C g : Addr} {mc : Value} {fd : FuncData} {ps : List Str} {sp : Sp} {E : XK} {x m : Str} {p1 p2 pos : Pos} {e : Expr} {es : List Expr} {t : TA}
theorem pe_clsfn {pl : Sem Bool} (hg : Gl X x) (hm : X.mg x = some (.ref C)) (r : ClX.CRead X.K C mc) (c : ClX.CVal X.K C mc m (.ref g) (.ref g)) (F : FnOk X.prog X.w X.K X.mg X.base CX k g fd ps sp) (hr : Room k X.A) (hk : PySem.W.keepIn X.K (.ref g) = true) (hb : Binds X.K fd ps []) (hx : Passes CX X E)
    (ha : PA X (e :: es) t) (hd : (x == ("__debug__" : Str)) = false := by decide)
    (hc : eval (.Call (.Attribute (.Name x p1) m p2) (e :: es) [] pos) X.env = (do
      let ov ← eval (.Name x p1) X.env
      standAt p2.atName
      let (f, first) ← holding [ov] (getMethod ov m pl)
      callWith pos f first (backTo pos (starEach (e :: es) X.env)) (backToKw pos (keywordEach [] X.env))) := by rfl)
    (he : starEach (e :: es) X.env = (false, eval e X.env) :: starEach es X.env := by rfl) (hpl : (backTo pos (starEach es X.env)).any (·.1) = false := by rfl) :
    PE X (.Call (.Attribute (.Name x p1) m p2) (e :: es) [] pos) (tCall sp [] E t) := by
  refine ⟨fun pins s σ H Q I h => ?_⟩
  refine PySem.W.methodCall_KW (pl := pl) (ld_glob I hg hm ?_ hd) hc
  refine PySem.W.method_cls I.kIn r.ga (ClX.getcval_ok I r c fun s' I' => ?_)
  refine PySem.W.callWith_K (h₀ := X.base) I.ok.mod.kin hk (thn (ha.run pos pins s' σ H _ I' h) fun us s1 ⟨vs, H1, I1, r1, q⟩ => ⟨I1.kIn, ?_⟩) he hpl
  exact run_fn F hr hb .nil hx I1 r1 q
end
/-! ### C(): an own exception without arguments -/
section
variable {X : Cx} {p pos : Pos}
theorem pmk_oex0 {CX : CXT} {x : Str} {C fI : Addr} {k : Nat} {fd : FuncData} {ps : List Str} {sp : Sp} (T : OexC X.K C) (iC : PySem.W.findIn X.K (.ref C) "__init__" = some (some (.ref fI))) (tI : PySem.W.typeIn X.K (.ref fI) = some (.type "function"))
    (F1 : FnOk X.prog X.w X.K X.mg X.base CX k fI fd ps sp) (hr : Room (k + 1) X.A) (hb : Binds X.K fd ps []) (hx : Passes CX X (fun _ _ _ => False)) (hg : Gl X x) (hm : X.mg x = some (.ref C)) (hdb : (x == ("__debug__" : Str)) = false := by decide) :
    PMk X (.Call (.Name x p) [] [] pos) (tMkO C sp [] tNil) := by
  intro pins s σ H Q I h
  obtain ⟨nm, q, N, bs, bm, sn, sub, ab, col, dd, k0, k1, k2, k3, k5, hC, hbm⟩ := T.cls
  refine wpAny_Call_Name_kw (ld_glob I hg hm ?_ hdb)
  refine PySem.W.callWith_K0 (first := []) I.kIn T.kC ?_
  obtain ⟨hz, q1⟩ := h
  show wpAny _ _ (call (.ref C) []) _ _ _
  obtain ⟨hp, g, dr, tk, os⟩ := s
  have hsz : hp.objs.size ≤ hp.objs.size + 1 := Nat.le_succ _
  have hn : H (hp.objs.size + 1) = none := I.hok.fresh hsz
  have hq := q1 (hp.objs.size + 1) hn
  have kk : ∀ b o, hp.get? b = some o → ((hp.push (PySem.W.kdv_tup [])).push (PySem.HandSPX.excO C hp.objs.size)).get? b = some o := fun b o e => Heap.get?_push_of_some _ (Heap.get?_push_of_some _ e)
  have hget : ((hp.push (PySem.W.kdv_tup [])).push (PySem.HandSPX.excO C hp.objs.size)).get? (hp.objs.size + 1) = some (PySem.HandSPX.excO C hp.objs.size) := by heap_get
  have I2 : Inv X pins σ (upd H (hp.objs.size + 1) (exo (hp.objs.size + 1) C none)) ⟨(hp.push (PySem.W.kdv_tup [])).push (PySem.HandSPX.excO C hp.objs.size), g, dr, tk, os⟩ :=
    I.laid (t' := tk) (a := hp.objs.size + 1) (o := exo (hp.objs.size + 1) C none) (h' := (hp.push (PySem.W.kdv_tup [])).push (PySem.HandSPX.excO C hp.objs.size)) kk hsz (exo_ok hget)
  have r2 : Vals [V.ref (hp.objs.size + 1)] [Value.ref (hp.objs.size + 1)] := .cons rfl .nil
  have hl : ([Value.ref (hp.objs.size + 1)] ++ ([] : List Value)).length = ps.length := by
    have e := F1.len _ _ _ _ hq
    show 1 = ps.length
    exact e
  refine wpAny_call (PySem.HandSPX.call_own F.excBase_ValueError (fun Y => PySem.HandSPX.refsVE_contains Y bm hbm) (I.kIn _ _ hC) (PySem.W.looks_findIn I.kIn iC) (fun self => PySem.W.bind_fn I.kIn self tI) (Nat.zero_le _)
    (codeAny_mono (F1.run _ X.stack _ _ ⟨[Value.ref (hp.objs.size + 1)], []⟩ [Value.ref (hp.objs.size + 1)] _ _ (fun _ _ _ => False) (hr.make C [] []) (I2.env0.make C [] []) (hb _ [Value.ref (hp.objs.size + 1)] I2.kIn hl) r2 hq) fun r s' hq' => ?_))
  cases r with
  | error er => exact hx pins σ _ _ er s' I2 hq'
  | ok fl =>
    cases fl with
    | ret u =>
      obtain ⟨v, H2, os2, bare2, un2, hok2, rv, ev, d, fs, ea, ed, hd1, q2⟩ := hq'
      subst ev
      obtain ⟨h2, g2, d2, t2, os'⟩ := s'
      exact ⟨rv, mk_end (raises_own T.exC T.tyC) I hsz kk un2 hok2 os2 bare2 ea ed hd1 q2⟩
    | next => exact False.elim hq'
    | brk => exact False.elim hq'
    | cont => exact False.elim hq'
end
/-! ### try .. except A as e: .. except B as e: .. -/
abbrev asEnds (i : Nat) (D : Ends) : Ends := { nx := fun σ' H' => D.nx (σ'.set i none) H', rt := D.rt, bk := fun σ' H' => D.bk (σ'.set i none) H', ct := fun σ' H' => D.ct (σ'.set i none) H' }
def wManyA (K : PySem.W.Frag) (i : Nat) (Wout : WX) (D : Ends) : List (Value × (Addr → Value → Option Addr → TS)) → WX
  | [] => Wout
  | (c, ts) :: r => fun cls d σ H => ∃ b, PySem.W.exmOne K cls c = some b ∧ (b = true → ∀ a, H a = none → ts a cls d (asEnds i D) (σ.set i (some (.ref a))) H) ∧ (b = false → wManyA K i Wout D r cls d σ H)
inductive HdsA (X : Cx) (n : Str) : List ExceptHandler → List (Value × (Addr → Value → Option Addr → TS)) → Prop
  | nil : HdsA X n [] []
  | cons {x : Str} {c : Value} {ts : Addr → Value → Option Addr → TS} {b₀ : Stmt} {suite : List Stmt} {np pos' : Pos} {hds : List ExceptHandler} {l : List (Value × (Addr → Value → Option Addr → TS))} (hc : Names X x c)
      (hsu : ∀ (a : Addr) (oe : Obj) (cls : Value) (d : Option Addr) (pn : List (Addr × Obj)), Zc cls d oe → (∃ vs, oe.data = .fields vs) → PSs (X.suite a ((a, oe) :: pn)) (b₀ :: suite) (ts a cls d)) (r : HdsA X n hds l) :
      HdsA X n (.ExceptHandler (some (.Name x np)) (some n) (b₀ :: suite) pos' :: hds) ((c, ts) :: l)
section
variable {X : Cx} {n : Str} {i : Nat} {body : List Stmt} {h₀ : ExceptHandler} {hds : List ExceptHandler} {l : List (Value × (Addr → Value → Option Addr → TS))} {pos : Pos} {tb : WX → TS} {Wout : WX}
theorem ps_try_manyA (hs : X.stack = X.env :: X.outer) (hf : X.env.frame = some X.env.locals) (hN : X.N.Nodup) (hi : X.N[i]? = some n) (hln : X.env.kindOf n = some .local) (tk : Takes X Wout)
    (hb : ∀ (W : WX) (pn : List (Addr × Obj)) (xe : Value → Shared → Prop), Takes (X.tr pn xe) W → PassesOwn (model X.prog X.w) X.A X.env xe → PSs (X.tr pn xe) body (tb W))
    (hh : HdsA X n (h₀ :: hds) l) : PS X (.Try body (h₀ :: hds) [] [] pos) (fun D σ H => tb (wManyA X.K i Wout D l) D σ H) := by
  refine ⟨fun pins s σ H D I h => ?_⟩
  have ok := I.ok
  have hfr : X.A.frames = some (X.env :: X.outer) := by rw [ok.frames, hs]
  have hloc : Loc X.env.scope n := .inl hln
  refine wpAny_Try_except ?_
  refine wpAny_mono ((hb (wManyA X.K i Wout D l) (X.pn ++ pins) (fun e s₁ => wpAny (model X.prog X.w) X.A (noteFrame e X.env) (fun _ s₂ => wpAny (model X.prog X.w) X.A (setFlight e none) (fun _ s₃ =>
    wpAny (model X.prog X.w) X.A (handleBy e X.env (h₀ :: hds)) (SP X pins D) X.xe s₃) X.xe s₂) X.xe s₁) (fun u s' xx => ?_) PassesOwn.looking).run [] s σ H D (I.toTry _) h) (fun f s1 hsp => ?_) (fun e s1 he => he)
  · obtain ⟨a, B, sI, pins', σ', H', cls, d, rfl, J', nb, up, sky, na, os, ag, w⟩ := xx
    have J : Inv X pins σ' H' sI := J'.ofTry ok
    have sky' : Sky B (X.env :: X.outer) a (Zc cls d) X.env.locals s'.heap := by rw [← hs]; exact sky
    show wpAny (model X.prog X.w) X.A (noteFrame (.ref a) X.env) _ _ _
    refine Sky.land Zc.steady hfr hf sky' fun h3 fl3 up3 => ?_
    have J3 : Inv X pins σ' H' { s' with heap := h3 } := J.landed nb fl3.1 (up.trans up3) os ag
    obtain ⟨oe3, vs3, he3, hz3, hd3⟩ := fl3.there
    have notFr : ∀ {h : Heap} {o : Obj} {vs : Array Value}, h.FunFrames B (X.env :: X.outer) → h.get? a = some o → o.data = .fields vs → a ∉ frs (X.env :: X.outer) := fun {h o vs} ff e dd hm => by
      obtain ⟨_, o', e', hnf⟩ := ff.mem hm
      rw [e] at e'; cases e'
      exact hnf _ dd
    have nfr := notFr fl3.2.2.1 he3 hd3
    have nL : a ≠ X.env.locals := fun z => nfr (List.mem_filterMap.mpr ⟨X.env, List.mem_cons_self, by rw [hf, z]⟩)
    have nF : a ∉ X.fs := fun hm => by
      obtain ⟨e, he, q⟩ := List.mem_filterMap.mp hm
      exact nfr (List.mem_filterMap.mpr ⟨e, List.mem_cons_of_mem _ he, q⟩)
    have S3 := J3.suite he3 hd3 na nL nF
    have go : ∀ {hds' : List ExceptHandler} {l' : List (Value × (Addr → Value → Option Addr → TS))}, HdsA X n hds' l' → wManyA X.K i Wout D l' cls d σ' H' →
        wpAny (model X.prog X.w) X.A (handleBy (.ref a) X.env hds') (SP X pins D) X.xe { s' with heap := h3 } := by
      intro hds' l' hk
      induction hk with
      | nil =>
        intro w
        refine wpAny_handleBy_nil ?_
        obtain ⟨k1, k2, k3, oe, vs, T, oT, ts', he, hz, hd, h1, hr⟩ := id fl3
        unfold PySem.passOn
        refine wpAny_bind (wpAny_field he hd h1 ?_)
        rw [if_neg (show ¬ ((Value.ref T == Value.none) = true) from by simp)]
        have fin : wpAny (model X.prog X.w) X.A (setFlight (.ref a) X.env.frame) (fun _ s4 => wpAny (model X.prog X.w) X.A (throw (.ref a) : Sem Flow) (SP X pins D) X.xe s4) X.xe { s' with heap := h3 } := by
          rw [hf]
          refine HandSPX.setFlight_upZ fl3 fun h4 hh4 up4 => wpAny_throw (tk _ _ ?_)
          exact ⟨a, B, sI, pins, σ', H', cls, d, rfl, J, nb, (up.trans up3).trans up4, .inr (.inr (by rw [hs]; exact hh4)), na, os, ag, w⟩
        first
          | exact wpAny_bind (wpAny_pure (wpAny_bind fin))
          | exact wpAny_bind fin
      | @cons x c ts b₀ suite np pos' hds2 l2 hc hsu r ih =>
        intro w
        obtain ⟨b, hb1, hyes, hno⟩ := w
        refine wpAny_handleBy_cons (codeAny_handlers_test ?_) (by intro q; cases q)
        have LT : PySem.W.Looks (model X.prog X.w) h3 (typeOf (.ref a)) cls := fun A Q E s k q => wpAny_typeOf_ref (k _ _ he3) (by rw [hz3.1]; exact q)
        have LM := PySem.W.exm_one (M := model X.prog X.w) (J3.kIn) LT hb1
        have test : ∀ {Q : Value → Shared → Prop} {E : Value → Shared → Prop}, Q c { s' with heap := h3 } → wpAny (model X.prog X.w) (X.A.mark (some (.ref a))) (eval (.Name x np) X.env) Q E { s' with heap := h3 } := fun {Q E} q => by
          obtain ⟨hg, hdbg, hm | ⟨hm, hv, hnn⟩⟩ := hc
          · exact ld_glob (X := X.suite a ((a, oe3) :: (X.pn ++ pins))) S3 hg hm q hdbg
          · exact ld_blt (X := X.suite a ((a, oe3) :: (X.pn ++ pins))) S3 hg hm hv q hnn hdbg
        refine test (LM.here ?_)
        cases b with
        | true =>
          refine codeAny_handlers_suite_as ?_
          refine HandSPX.lands_againZ fl3 fun h4 fl4 up4 => ?_
          have J4 : Inv X pins σ' H' { s' with heap := h4 } := J.landed nb fl4.1 ((up.trans up3).trans up4) os ag
          obtain ⟨oe4, vs4, he4, hz4, hd4⟩ := fl4.there
          have S4 := J4.suite he4 hd4 na nL nF
          refine store_ok (X := X.suite a ((a, oe4) :: (X.pn ++ pins))) (v := .ref a) S4 hN hi hloc rfl (fun s5 S5 => ?_) (.inr hln)
          refine wpAny_mono ((hsu a oe4 cls d (X.pn ++ pins) hz4 ⟨_, hd4⟩).run [] s5 _ H' _ S5 (hyes rfl a na)) (fun f s6 hsp => ?_) (fun _ _ z => False.elim z)
          have end_ : ∀ {σ6 : L2.St} {H6 : Hp} {Q : Shared → Prop}, Inv (X.suite a ((a, oe4) :: (X.pn ++ pins))) [] σ6 H6 s6 → (∀ s7, Inv X pins (σ6.set i none) H6 s7 → Q s7) →
              wpAny (model X.prog X.w) X.A (do bindName X.env n .none; unbindBehindTheSuite X.env n pos') (fun _ s7 => Q s7) X.xe s6 := fun {σ6 H6 Q} S6 hq => gone_ok (S6.unsuite ok) hN hi hln hq
          cases f with
          | next =>
            obtain ⟨σ6, H6, S6, q6⟩ := hsp
            exact end_ S6 fun s7 J7 => ⟨_, _, J7, q6⟩
          | brk =>
            obtain ⟨σ6, H6, S6, q6⟩ := hsp
            exact end_ S6 fun s7 J7 => ⟨_, _, J7, q6⟩
          | cont =>
            obtain ⟨σ6, H6, S6, q6⟩ := hsp
            exact end_ S6 fun s7 J7 => ⟨_, _, J7, q6⟩
          | ret u =>
            obtain ⟨v6, σ6, H6, S6, r6, q6⟩ := hsp
            exact end_ S6 fun s7 J7 => ⟨_, _, _, J7, r6, q6⟩
        | false =>
          show wpAny _ X.A (handleBy (.ref a) X.env hds2) _ _ _
          exact ih (hno rfl)
    exact go hh w
  · cases f with
    | next =>
      obtain ⟨σ', H', J', q⟩ := hsp
      exact wpAny_execs_nil ⟨σ', H', J'.ofTry ok, q⟩
    | brk =>
      obtain ⟨σ', H', J', q⟩ := hsp
      exact ⟨σ', H', J'.ofTry ok, q⟩
    | cont =>
      obtain ⟨σ', H', J', q⟩ := hsp
      exact ⟨σ', H', J'.ofTry ok, q⟩
    | ret u =>
      obtain ⟨v, σ', H', J', r, q⟩ := hsp
      exact ⟨v, σ', H', J'.ofTry ok, r, q⟩
end
theorem pss_ex {X : Cx} {st : List Stmt} {α : Type} {p : α → Prop} {t : α → TS} (h : ∀ c, p c → PSs X st (t c)) : PSs X st (fun D σ H => ∃ c, p c ∧ t c D σ H) :=
  ⟨fun pins s σ H D I ⟨c, hc, q⟩ => (h c hc).run pins s σ H D I q⟩
end FF
/-! Fivefault, part 10: own exceptions told of, defs that raise, f(lambda: ..) caught by clauses. -/
namespace FF
open PySem PySem.Spec PyProof.Rows L2
/-! ### what the written part says of an own class of exceptions, by a Bool -/
def oexB (K : PySem.W.Frag) (C : Addr) : Bool := match K.lookup C with
  | some ⟨.type "type", _, .cls cd, sl⟩ => (match cd.mro, sl.toList with
    | .ref C' :: bm, [_, _, _, _, some (.builtin n), _] => C' == C && n == "ValueError.__new__" && !cd.hasDel && cd.hasDict && PySem.HandSPX.refsVE bm
    | _, _ => false)
  | _ => false
theorem oexB_ok {K : PySem.W.Frag} {C : Addr} (q : oexB K C = true) : ∃ nm q N bs bm sn sub ab col dd k0 k1 k2 k3 k5, K.lookup C = some (excClassObj nm q C N bs bm true sn sub ab col dd k0 k1 k2 k3 k5 "ValueError.__new__") ∧ PySem.HandSPX.refsVE bm = true := by
  unfold oexB at q
  split at q
  · rename_i dd cd sl ho
    split at q
    · rename_i C' bm k0 k1 k2 k3 n k5 hm hs
      simp only [Bool.and_eq_true, beq_iff_eq, Bool.not_eq_true'] at q
      obtain ⟨⟨⟨⟨rfl, rfl⟩, hdel⟩, hdict⟩, ht⟩ := q
      obtain ⟨nm, bs, mro, ns, qn, hd, sn, sub, ab, col, del⟩ := cd
      dsimp only at hm hdel hdict
      subst hm hdel hdict
      have hsl : sl = #[k0, k1, k2, k3, some (.builtin "ValueError.__new__"), k5] := by
        obtain ⟨l⟩ := sl
        simp only at hs
        rw [hs]
      subst hsl
      exact ⟨nm, qn, ns, bs, bm, sn, sub, ab, col, dd, k0, k1, k2, k3, k5, ho, ht⟩
    · cases q
  · cases q
/-- an own class C of exceptions: raised, caught, its code read -/
structure OwnC (K : PySem.W.Frag) (C : Addr) : Prop where
  o : OexC K C
  xf : XfC K C
  noc : PySem.W.findIn K (.ref C) "code" = some none
def ownCB (K : PySem.W.Frag) (C : Addr) : Bool := oexB K C && (He.eqO (PySem.W.findIn K (.ref C) "__setattr__") (some (some (.builtin "object.__setattr__"))) && (decide (PySem.W.subIn K (.ref C) (.type "BaseException") = some true) && (decide (PySem.W.typeIn K (.ref C) = some (.type "type")) &&
  (PySem.W.keepIn K (.ref C) && (xfB K C && He.eqO (PySem.W.findIn K (.ref C) "code") (some none))))))
theorem ownCB_ok {K : PySem.W.Frag} {C : Addr} (h : ownCB K C = true) : OwnC K C := by
  obtain ⟨h1, h⟩ := He.ba h
  obtain ⟨h2, h⟩ := He.ba h
  obtain ⟨h3, h⟩ := He.ba h
  obtain ⟨h4, h⟩ := He.ba h
  obtain ⟨h5, h⟩ := He.ba h
  obtain ⟨h6, h7⟩ := He.ba h
  exact ⟨⟨oexB_ok h1, He.eqO_ok h2, of_decide_eq_true h3, of_decide_eq_true h4, h5⟩, xfB_ok h6, He.eqO_ok h7⟩
/-- the class x: an own class whose own __init__ is a def; caught as y -/
structure OwnX (K : PySem.W.Frag) (x y : Str) : Prop where
  c : OwnC K (He.ga K x)
  ini : PySem.W.findIn K (.ref (He.ga K x)) "__init__" = some (some (.ref (He.ma K (He.ga K x) "__init__")))
  tyI : PySem.W.typeIn K (.ref (He.ma K (He.ga K x) "__init__")) = some (.type "function")
  exm : PySem.W.exmOne K (.ref (He.ga K x)) (.ref (He.ga K y)) = some true
def ownXB (K : PySem.W.Frag) (x y : Str) : Bool := ownCB K (He.ga K x) && (He.eqO (PySem.W.findIn K (.ref (He.ga K x)) "__init__") (some (some (.ref (He.ma K (He.ga K x) "__init__")))) && (decide (PySem.W.typeIn K (.ref (He.ma K (He.ga K x) "__init__")) = some (.type "function")) &&
  decide (PySem.W.exmOne K (.ref (He.ga K x)) (.ref (He.ga K y)) = some true)))
theorem ownXB_ok {K : PySem.W.Frag} {x y : Str} (h : ownXB K x y = true) : OwnX K x y := by
  obtain ⟨h1, h⟩ := He.ba h
  obtain ⟨h2, h⟩ := He.ba h
  obtain ⟨h3, h4⟩ := He.ba h
  exact ⟨ownCB_ok h1, He.eqO_ok h2, of_decide_eq_true h3, of_decide_eq_true h4⟩
/-- x.__init__ read from the class x; ValueError.__init__ -/
structure FeC (K : PySem.W.Frag) (x : Str) : Prop where
  rd : ClX.CRead K (He.ga K x) (.type "type")
  at_ : PySem.W.findCls K (.ref (He.ga K x)) (.type "type") "__init__" = some (.val (.ref (He.ma K (He.ga K x) "__init__")))
  kp : PySem.W.keepIn K (.ref (He.ma K (He.ga K x) "__init__")) = true
  ve : PySem.W.findCls K (.type "ValueError") (.type "type") "__init__" = some (.val (.builtin "ValueError.__init__"))
def fcl (o : Option PySem.W.CFound) (v : Value) : Bool := match o with
  | some (.val u) => decide (u = v)
  | _ => false
theorem fcl_ok {o : Option PySem.W.CFound} {v : Value} (h : fcl o v = true) : o = some (.val v) := by
  cases o with
  | none => cases h
  | some f =>
    cases f with
    | val u => rw [of_decide_eq_true (show decide (u = v) = true from h)]
    | _ => cases h
def feCB (K : PySem.W.Frag) (x : Str) : Bool := PySem.W.readsIn K (He.ga K x) (.type "type") && (He.eqO (PySem.W.specialIn K (.ref (He.ga K x)) "__getattribute__") (some (some (.builtin "type.__getattribute__"))) && (fcl (PySem.W.findCls K (.ref (He.ga K x)) (.type "type") "__init__") (.ref (He.ma K (He.ga K x) "__init__")) &&
  (PySem.W.keepIn K (.ref (He.ma K (He.ga K x) "__init__")) && fcl (PySem.W.findCls K (.type "ValueError") (.type "type") "__init__") (.builtin "ValueError.__init__"))))
theorem feCB_ok {K : PySem.W.Frag} {x : Str} (h : feCB K x = true) : FeC K x := by
  obtain ⟨h1, h⟩ := He.ba h
  obtain ⟨h2, h⟩ := He.ba h
  obtain ⟨h3, h⟩ := He.ba h
  obtain ⟨h4, h5⟩ := He.ba h
  exact ⟨⟨h1, He.eqO_ok h2⟩, fcl_ok h3, h4, fcl_ok h5⟩
/-! ### the __init__s -/
def spFE (K : PySem.W.Frag) : Sp := fun vs H Q _ => ∃ (a C : Addr) (z : V), vs = [.ref a, z] ∧ OexC K C ∧ PySem.W.findIn K (.ref C) "code" = some none ∧ H a = some (exo a C none) ∧
  ∀ dx, H dx = none → dx ≠ a → Q .non (upd (upd H dx (exd dx [("code", z)])) a (exo a C (some dx)))
def spIni (K : PySem.W.Frag) (z : Str) : Sp := fun vs H Q _ => ∃ (a C : Addr), vs = [.ref a] ∧ OexC K C ∧ PySem.W.findIn K (.ref C) "code" = some none ∧ H a = some (exo a C none) ∧
  ∀ dx, H dx = none → dx ≠ a → Q .non (upd (upd H dx (exd dx [("code", .str z)])) a (exo a C (some dx)))
/-- an exception in the air: its dict d, its code z -/
def Thr (z : Str) (d : Option Addr) (H : Hp) : Prop := ∃ (dd : Addr) (fs : List (Str × V)), d = some dd ∧ H dd = some (.xd fs) ∧ fs.lookup ("code" : Str) = some (V.str z)
/-- the class x raised: x() makes an exception with the code z -/
structure RaiseD (P : Program) (w : World) (K : PySem.W.Frag) (mg : Str → Option Value) (base : Heap) (x y : Str) (k : Nat) (z : Str) : Prop where
  own : OwnX K x y
  hm : mg x = some (.ref (He.ga K x))
  ini : ∃ fd, FnOk P w K mg base CX0 k (He.ma K (He.ga K x) "__init__") fd ["self"] (spIni K z) ∧ Binds K fd ["self"] []
def tOwn (K : PySem.W.Frag) (x z : Str) : L2.St → Hp → XK → Prop := fun _ H Q => ∀ d H', Same H H' → Thr z d H' → Q (.ref (He.ga K x)) d H'
theorem pmk_imp {X : Cx} {e : Expr} {t t' : L2.St → Hp → XK → Prop} (h : PMk X e t) (i : ∀ σ H Q, t' σ H Q → t σ H Q) : PMk X e t' := fun pins s σ H Q I q => h pins s σ H Q I (i _ _ _ q)
theorem pmk_raise {X : Cx} {x y z : Str} {k j : Nat} {p pos : Pos} (D : RaiseD X.prog X.w X.K X.mg X.base x y k z) (hr : Room j X.A) (hkj : k + 1 ≤ j) (hg : Gl X x := by rfl) (hdb : (x == ("__debug__" : Str)) = false := by decide) : PMk X (.Call (.Name x p) [] [] pos) (tOwn X.K x z) := by
  obtain ⟨fd, F, hb⟩ := D.ini
  refine pmk_imp (pmk_oex0 D.own.c.o D.own.ini D.own.tyI F (hr.mono hkj) hb pass0 hg D.hm hdb) fun σ H Q q => ?_
  refine ⟨by simp [sizeLine], fun a ha => ⟨a, He.ga X.K x, rfl, D.own.c.o, D.own.c.noc, upd_same, fun dx hdx hne => ⟨rfl, dx, [("code", .str z)], upd_same, ?_, ?_, ?_⟩⟩⟩
  · rw [upd_ne hne, upd_same]
  · rwa [upd_ne hne] at hdx
  · have hdx2 : H dx = none := by rwa [upd_ne hne] at hdx
    refine q _ _ (fun b u hb => ?_) ⟨dx, _, rfl, upd_same, rfl⟩
    have b1 : b ≠ dx := ne_of_none hb hdx2
    have b2 : b ≠ a := ne_of_none hb ha
    rw [upd_ne b1, del_ne b2, upd_ne b2, upd_ne b1, upd_ne b2]
    exact hb
/-! ### defs that may raise -/
structure DefX (P : Program) (w : World) (K : PySem.W.Frag) (mg : Str → Option Value) (base : Heap) (x : Str) (k : Nat) (ps : List Str) (sp : Sp) : Prop where
  ex : ∃ (f : Addr) (fd : FuncData), FnOk P w K mg base (L2.CX P w) k f fd ps sp ∧ mg x = some (.ref f) ∧ PySem.W.keepIn K (.ref f) = true ∧ Binds K fd ps []
theorem DefX.mono {P : Program} {w : World} {K : PySem.W.Frag} {mg : Str → Option Value} {base : Heap} {x : Str} {j k : Nat} {ps : List Str} {sp : Sp} (D : DefX P w K mg base x j ps sp) (h : j ≤ k) : DefX P w K mg base x k ps sp := by
  obtain ⟨f, fd, F, r⟩ := D.ex
  exact ⟨f, fd, F.mono h, r⟩
/-- called where an exception is taken -/
theorem pe_defx {X : Cx} {W : WX} {E : XK} {x : Str} {k j : Nat} {ps : List Str} {sp : Sp} {e : Expr} {es : List Expr} {p pos : Pos} {t : TA} (D : DefX X.prog X.w X.K X.mg X.base x k ps sp) (tk : Takes X W) (hW : ∀ cls d σ' H', E cls d H' → W cls d σ' H') (hr : Room j X.A) (hkj : k ≤ j) (ha : PA X (e :: es) t)
    (hg : Gl X x := by rfl) (hdb : (x == ("__debug__" : Str)) = false := by decide) (he : starEach (e :: es) X.env = (false, eval e X.env) :: starEach es X.env := by rfl) (hpl : (backTo pos (starEach es X.env)).any (·.1) = false := by rfl) :
    PE X (.Call (.Name x p) (e :: es) [] pos) (tCall sp [] E t) := by
  obtain ⟨f, fd, F, hm, hk, hb⟩ := D.ex
  exact pe_call F (hr.mono hkj) hg hm hk hb .nil (passes_call tk hW) ha hdb he hpl
theorem passN {X : Cx} : Passes (L2.CX X.prog X.w) X (fun _ _ _ => False) := fun _ _ _ _ _ _ _ h => by
  obtain ⟨_, _, _, _, _, _, _, _, _, _, _, _, z⟩ := h
  exact z.elim
/-- called where none comes -/
theorem pe_defN {X : Cx} {x : Str} {k j : Nat} {ps : List Str} {sp : Sp} {e : Expr} {es : List Expr} {p pos : Pos} {t : TA} (D : DefX X.prog X.w X.K X.mg X.base x k ps sp) (hr : Room j X.A) (hkj : k ≤ j) (ha : PA X (e :: es) t)
    (hg : Gl X x := by rfl) (hdb : (x == ("__debug__" : Str)) = false := by decide) (he : starEach (e :: es) X.env = (false, eval e X.env) :: starEach es X.env := by rfl) (hpl : (backTo pos (starEach es X.env)).any (·.1) = false := by rfl) :
    PE X (.Call (.Name x p) (e :: es) [] pos) (tCall sp [] (fun _ _ _ => False) t) := by
  obtain ⟨f, fd, F, hm, hk, hb⟩ := D.ex
  exact pe_call F (hr.mono hkj) hg hm hk hb .nil passN ha hdb he hpl
theorem defx_mk {P : Program} {w : World} {K : PySem.W.Frag} {mg : Str → Option Value} {base : Heap} {x : Str} {st : Stmt} {f : Addr} {fd : FuncData} {dvs : List V} {kws : List (Str × V)} {N ps : List Str} {k : Nat} {sp : Sp} (F : FunD K x x (defArgs st) (defBody st) (defScope st) dvs kws f fd) (hm : mg x = some (.ref f)) (hb : Binds K fd ps [])
    (S : FnScope N ps (defScope st)) (len : ∀ vs H Q E, sp vs H Q E → vs.length = ps.length)
    (body : ∀ (cdv : Value) (A : Around) (outer : List Env) (s : Shared) (H : Hp) (vs : List V) (Q : VK) (E : XK), Room k (A.deeper (envOfC x (defScope st) s.heap.objs.size f cdv)) → sp vs H Q E →
      (Takes (cxOf (L2.CX P w) P w K mg base N x (defScope st) f cdv A outer s H E) fun cls d _ H => E cls d H) →
      ∃ t, PSs (cxOf (L2.CX P w) P w K mg base N x (defScope st) f cdv A outer s H E) (defBody st) t ∧ t { nx := fun _ H' => Q .non H', rt := Q } (start N vs) H) : DefX P w K mg base x (k + 1) ps sp :=
  ⟨f, fd, FunD.ok F S len (fun cdv A outer s H vs Q E hr h => body cdv A outer s H vs Q E hr h (takes_of rfl rfl rfl rfl)), hm, F.kp, hb⟩
/-! ### _law_call -/
/-- the first clause's class is FE -/
def TTc (K : PySem.W.Frag) (FE : Addr) : (XK → Hp → VK → Prop) → Hp → VK → Prop := fun tl H Q =>
  tl (fun cls d H' => ∃ (C : Addr) (z : Str), cls = .ref C ∧ OwnC K C ∧ PySem.W.exmOne K (.ref C) (.ref FE) = some true ∧ Thr z d H' ∧ ∀ p, H' p = none → Q (.ref p) (upd H' p (.tup [.non, .str z])))
    H (fun v H' => ∀ p, H' p = none → Q (.ref p) (upd H' p (.tup [v, .str ""])))
end FF
/-! Fivefault, part 11: f(lambda: ..), the promise of an exception told of the slots at the call. -/
namespace FF
open PySem PySem.Spec PyProof.Rows L2 LamX
section
variable {X : Cx} {pins : List (Addr × Obj)} {σ : L2.St} {H HZ : Hp} {s s1 : Shared}
theorem pe_actS {CXg : CXT} {Eg : XK} {Ng : List Str} {qg : Str} {sg : Scope} {g f c' : Addr} {cdg pm ctv : Value} {params : Arguments} {body : Expr} {scope : Scope} {k i : Nat} {a : Str} {pn : List (Addr × Obj)} {xe : Value → Shared → Prop} {W : WX} {tb : XK → TE} {p1 p2 : Pos}
    (I : Inv X pins σ H s) (L : LamS X.env.scope scope) (hf : s.heap.get? f = some (PySem.W.kla_obj "<lambda>" (X.env.qual ++ "<lambda>") params body scope (cloFrom X.env.cells scope.names []) pm c' ctv)) (hfn : H f = none) (hfr : f ∉ frs X.stack)
    (hbind : bindArgs (PySem.W.kla_fn "<lambda>" (X.env.qual ++ "<lambda>") params body scope (cloFrom X.env.cells scope.names []) pm (.ref c') ctv) ⟨[], []⟩ = pure [])
    (tk : Takes ((cxOf CXg X.prog X.w X.K X.mg X.base Ng qg sg g cdg X.A X.stack s H Eg).tr pn xe) W) (hr : Room (k + 1) (X.A.deeper (envOfC qg sg s.heap.objs.size g cdg)))
    (hbody : ∀ (A : Around) (outer : List Env) (s : Shared) (H : Hp) (E : XK), Room k (A.deeper (lamEnv X scope s.heap.objs.size f c')) → PE (lamCx X A outer s H E scope f c') body (tb E))
    (hN : Ng[i]? = some a) (hv : Vis sg a) (hd : (a == ("__debug__" : Str)) = false := by decide) (hcd : (a == ("__classdict__" : Str)) = false := by decide) :
    PE ((cxOf CXg X.prog X.w X.K X.mg X.base Ng qg sg g cdg X.A X.stack s H Eg).tr pn xe) (.Call (.Name a p1) [] [] p2)
      (fun σZ HZ Q => σZ[i]? = some (some (.ref f)) ∧ HZ c' = some (CodeO c' (X.env.qual ++ "<lambda>")) ∧ ∃ E : XK, (∀ cls d H', E cls d H' → W cls d σZ H') ∧ tb E σ HZ Q) := by
  refine ⟨fun pinsZ sZ σZ HZ Q IZ h => ?_⟩
  obtain ⟨hs, hc, E, hW, ht⟩ := h
  refine wpAny_Call_Name_kw (thn ((pe_var (pos := p1) (i := i) hN hv hd hcd).run pinsZ sZ σZ HZ (fun v H1 => v = .ref f ∧ H1 = HZ) IZ ⟨.ref f, hs, rfl, rfl⟩) fun u s1 ⟨v, H1, I1, r1, q1⟩ => ?_)
  obtain ⟨ev, eH⟩ := q1
  subst ev
  rw [eH] at I1
  obtain rfl : u = Value.ref f := r1
  have of1 := I1.base.keep f _ hf hfn hfr (fun z => nomatch (show f ∈ ([] : List Addr) from z))
  refine PySem.W.callWith_F0 ⟨_, _, _, _, of1⟩ ?_
  have un : Un (frs X.stack) [] H HZ s.heap s1.heap := I1.base
  obtain ⟨⟨oc, vs, t, hoc, hdc, hvc⟩, _, _⟩ := I1.hok c' _ hc
  have rc : codeAny (model X.prog X.w) (X.A.deeper (envOfC qg sg s.heap.objs.size g cdg)) (.call (.ref f) ⟨[], []⟩) (CR (L2.CX X.prog X.w) (envOfC qg sg s.heap.objs.size g cdg :: X.stack) X.prog X.w HZ s1 Q E) s1 := by
    refine PySem.W.kla_callFunE hr.depth of1 rfl L.co L.gen rfl ⟨c', oc, vs, t, rfl, hoc, hdc, hvc⟩ ?_
    rw [hbind]
    refine wpAny_pure (wpAny_newFunctionEnv (fun y hy => (L.own y hy).2) (fun y hy => absurd hy (by simp)) (fun h₁ hns hsb => ⟨I1.nolimit.fresh _ hsb, ?_⟩) L.kind)
    show codeAny _ _ (.expr body (lamEnv X scope s1.heap.objs.size f c')) _ _
    have kp : ∀ b o, s1.heap.get? b = some o → h₁.get? b = some o := fun b o e => hsb.extBut b o (Nat.ne_of_lt (Heap.lt_size e)) (Heap.get?_push_of_some _ e)
    have J := lam_start2 (f := f) (c' := c') (E := E) (tk := s1.toks + ([] : List (Str × Value)).length) I L I1.env0 hr.hd un hns kp
    refine PySem.W.kla_codeExpr (wpAny_mono ((hbody _ _ s1 HZ E (hr.deeper _)).run [] _ _ HZ Q J ht) (fun v s' hq => ?_) fun e s' hq => hq)
    obtain ⟨w', H', J', rv, q⟩ := hq
    exact ⟨w', H', J'.os, J'.bare, J'.base, J'.hok, rv, q⟩
  refine wpAny_call (codeAny_mono rc fun r s' hq => ?_)
  cases r with
  | error e => exact tk e s' (XE.of_call I1 (fun cls d H' h => hW cls d H' h) hq)
  | ok fl =>
    cases fl with
    | ret u => exact I1.after hq
    | next => exact False.elim hq
    | brk => exact False.elim hq
    | cont => exact False.elim hq
end
/-- the def that calls what it got -/
def GivesS (X : Cx) (Ng : List Str) (x : Str) (sg : Scope) (g : Addr) (cdg : Value) (bg : List Stmt) (a : Str) (q : Str) (TT : (XK → Hp → VK → Prop) → Hp → VK → Prop) : Prop :=
  ∀ (f c' : Addr) (s : Shared) (H : Hp) (Q : VK) (tl : XK → Hp → VK → Prop),
    (∀ (W : WX) (pn : List (Addr × Obj)) (xe : Value → Shared → Prop) (p1 p2 : Pos), Takes ((cxOf C8.CX0 X.prog X.w X.K X.mg X.base Ng x sg g cdg X.A X.stack s H C8.E0).tr pn xe) W →
      PE ((cxOf C8.CX0 X.prog X.w X.K X.mg X.base Ng x sg g cdg X.A X.stack s H C8.E0).tr pn xe) (.Call (.Name a p1) [] [] p2) (fun σZ HZ Q => σZ[0]? = some (some (.ref f)) ∧ HZ c' = some (CodeO c' q) ∧ ∃ E : XK, (∀ cls d H', E cls d H' → W cls d σZ H') ∧ tl E HZ Q)) →
    H c' = some (CodeO c' q) → TT tl H Q →
    ∃ t, PSs (cxOf C8.CX0 X.prog X.w X.K X.mg X.base Ng x sg g cdg X.A X.stack s H C8.E0).nox bg t ∧ t { nx := fun _ H' => Q .non H', rt := Q } (L2.start Ng [.ref f]) H
/-- x(lambda: body), x a def of the top -/
theorem pe_lamS {X : Cx} {T : List (Addr × Str)} {TT : (XK → Hp → VK → Prop) → Hp → VK → Prop} {x a : Str} {g c P : Addr} {k : Nat} {st : Stmt} {fd : FuncData} {Ng : List Str} {params : Arguments} {body : Expr} {scope : Scope} {t : XK → TE} {p lpos pos : Pos}
    (hg : Gl X x) (hm : X.mg x = some (.ref g)) (F : FunD X.K x x (defArgs st) (defBody st) (defScope st) [] [] g fd) (hb : L2.Binds X.K fd [a] []) (Sg : FnScope Ng [a] (defScope st)) (hNg : Ng[0]? = some a) (hva : Vis (defScope st) a)
    (hG : ∀ cdg, GivesS X Ng x (defScope st) g cdg (defBody st) a (X.env.qual ++ "<lambda>") TT)
    (TB : TabB X.base X.mg c P) (hcode : X.env.code = .ref c) (hT : T = [(P, X.env.qual ++ "<lambda>")]) (hr : Room (k + 2) X.A) (L : LamS X.env.scope scope) (hdef : defaultsOf params X.env = ([], []))
    (hbind : ∀ (q : Str) (cl : List (Str × Addr)) (pm cv ctv : Value), bindArgs (PySem.W.kla_fn "<lambda>" q params body scope cl pm cv ctv) ⟨[], []⟩ = pure [])
    (hbody : ∀ (A : Around) (outer : List Env) (s : Shared) (H : Hp) (E : XK) (f c' : Addr), Room k (A.deeper (lamEnv X scope s.heap.objs.size f c')) → PE (lamCx X A outer s H E scope f c') body (t E))
    (hdb : (x == ("__debug__" : Str)) = false := by decide) (hd : (a == ("__debug__" : Str)) = false := by decide) (hcd : (a == ("__classdict__" : Str)) = false := by decide) :
    PE X (.Call (.Name x p) [.Lambda params body scope lpos] [] pos) (tLam T TT t) := by
  obtain ⟨oc, od, dV, kV, doc, pm, an, cdv, ct, osl, rfl, lk, hcg, _, _⟩ := F.ex
  refine ⟨fun pins s σ H Q I h => ?_⟩
  obtain ⟨hTs, h⟩ := h
  refine wpAny_Call_Name_kw (ld_glob I hg hm ?_ hdb)
  refine PySem.W.callWith_K (h₀ := X.base) I.ok.mod.kin F.kp ?_ (by rfl) (by rfl)
  show wpAny _ _ (spliced ((false, eval (.Lambda params body scope lpos) X.env) :: backTo pos (starEach [] X.env))) _ _ s
  have hmT : (P, X.env.qual ++ "<lambda>") ∈ T := by rw [hT]; exact List.mem_singleton.mpr rfl
  have hu : ∀ p ∈ T, p.1 = P → p.2 = X.env.qual ++ "<lambda>" := fun p hp _ => by rw [hT] at hp; rw [List.mem_singleton.mp hp]
  refine Calls.spliced_cons (lam_make2 I TB hcode hmT hu hTs hdef (L.has I.ok) fun f c' pm' ctv H1 s' I1 eN T1 hf hfn hfr hco => ?_)
  refine Calls.spliced_nil ⟨I1.kIn, ?_⟩
  have rc : codeAny (model X.prog X.w) X.A (.call (.ref g) ⟨[.ref f], []⟩) (CR C8.CX0 X.stack X.prog X.w H1 s' Q C8.E0) s' := by
    refine run_ofS (N := Ng) (ps := [a]) (us := [.ref f]) (vs := [.ref f]) lk hcg Sg hr I1.env0 (hb s' [.ref f] I1.kIn rfl) (.cons rfl .nil) rfl fun hr' => ?_
    obtain ⟨t', ht', hq'⟩ := hG cdv f c' s' H1 Q (fun E H' Q' => t E σ H' Q') (fun W pn xe p1 p2 tk => pe_actS (i := 0) I1 L hf hfn hfr (hbind _ _ _ _ _) tk hr' (fun A outer s H E hr2 => hbody A outer s H E f c' hr2) hNg hva hd hcd) hco (h H1 eN T1)
    exact ⟨t', ht'.nox, hq'⟩
  refine wpAny_call (codeAny_mono rc fun r s2 hq => ?_)
  cases r with
  | error e => exact (show False from hq).elim
  | ok fl =>
    cases fl with
    | ret u => exact I1.after hq
    | next => exact False.elim hq
    | brk => exact False.elim hq
    | cont => exact False.elim hq
/-- a def told with its code object -/
theorem fn_mkC {P : Program} {w : World} {K : PySem.W.Frag} {mg : Str → Option Value} {base : Heap} {x : Str} {st : Stmt} {fd : FuncData} {dvs : List V} {kws : List (Str × V)} {N ps : List Str} {k : Nat} {sp : Sp} {p : He.Defn} (F : FunD K x x (defArgs st) (defBody st) (defScope st) dvs kws (He.fAd K p) fd)
    (S : FnScope N ps (defScope st)) (len : ∀ vs H Q E, sp vs H Q E → vs.length = ps.length)
    (body : ∀ (cdv : Value) (A : Around) (outer : List Env) (s : Shared) (H : Hp) (vs : List V) (Q : VK) (E : XK), cdv = .ref (He.codeOf K p) → Room k (A.deeper (envOfC x (defScope st) s.heap.objs.size (He.fAd K p) cdv)) → sp vs H Q E →
      ∃ t, PSs (cxOf CX0 P w K mg base N x (defScope st) (He.fAd K p) cdv A outer s H E).nox (defBody st) t ∧ t { nx := fun _ H' => Q .non H', rt := Q } (start N vs) H) : FnOk P w K mg base CX0 (k + 1) (He.fAd K p) fd ps sp := by
  obtain ⟨oc, od, dV, kV, doc, pm, an, cdv, ct, osl, rfl, lk, hcd, _, _⟩ := F.ex
  obtain ⟨c, ec⟩ := He.codeIn_ref hcd
  have e : cdv = .ref (He.codeOf K p) := by rw [ec, He.codeOf_eq lk (show (PySem.W.fnOf x x (defArgs st) (defBody st) (defScope st) dV kV doc pm an cdv ct).code = .ref c from ec)]
  exact fn_of lk hcd S len fun A outer s H vs Q E hr hsp => let ⟨t, a, b⟩ := body cdv A outer s H vs Q E e hr hsp; ⟨t, PSs.nox a, b⟩
/-! ### heaps in which all but the tables stay -/
theorem sn_rd {H H' : Hp} {a : Addr} {u : HO} (e : ExtN H H') (h : Rd H a u) (n : ∀ ps, u ≠ .tbl ps) : Rd H' a u := by
  rcases h with h | ⟨o, h⟩
  · exact .inl (e _ _ h n)
  · exact .inr ⟨o, e _ _ h fun ps z => by cases z⟩
theorem sn_l {K : PySem.W.Frag} {H H' : Hp} {a : Addr} {xs : List V} (e : ExtN H H') (h : SqL K H a xs) : SqL K H' a xs := by
  rcases h with h | h
  · exact .inl (sn_rd e h fun ps z => by cases z)
  · exact .inr h
theorem sn_t {K : PySem.W.Frag} {H H' : Hp} {a : Addr} {xs : List V} (e : ExtN H H') (h : SqT K H a xs) : SqT K H' a xs := by
  rcases h with h | h
  · exact .inl (sn_rd e h fun ps z => by cases z)
  · exact .inr h
mutual
theorem sn_d {K : PySem.W.Frag} {H H' : Hp} (e : ExtN H H') : ∀ {v : V} {d : PyData}, Dp K H v d → Dp K H' v d
  | _, _, .non => .non
  | _, _, .bl b => .bl b
  | _, _, .int i => .int i
  | _, _, .str x => .str x
  | _, _, .lst h a => .lst (sn_l e h) (sn_da e a)
  | _, _, .tup h a => .tup (sn_t e h) (sn_da e a)
theorem sn_da {K : PySem.W.Frag} {H H' : Hp} (e : ExtN H H') : ∀ {vs : List V} {ds : List PyData}, DpAll K H vs ds → DpAll K H' vs ds
  | _, _, .nil => .nil
  | _, _, .cons h a => .cons (sn_d e h) (sn_da e a)
end
end FF
/-! Fivefault, part 12: defs with *v alone. -/
namespace FF
open PySem PySem.Spec PyProof.Rows L2 StX
structure DefS (P : Program) (w : World) (K : PySem.W.Frag) (mg : Str → Option Value) (base : Heap) (x : Str) (k : Nat) (sp : Sp) : Prop where
  ex : ∃ f : Addr, FnR P w K mg base (L2.CX P w) k f sp ∧ mg x = some (.ref f) ∧ PySem.W.keepIn K (.ref f) = true
section
variable {X : Cx} {W : WX} {E : XK} {x : Str} {k j : Nat} {sp : Sp} {e : Expr} {es : List Expr} {p pos : Pos} {t : TA}
end
/-- a reading with a wish that is stronger -/
theorem pe_mono {X : Cx} {e : Expr} {t : TE} (h : PE X e t) : PE X e (fun σ H Q => ∃ Q' : VK, (∀ v H', Q' v H' → Q v H') ∧ t σ H Q') :=
  ⟨fun pins s σ H Q I ⟨Q', hq, ht⟩ => thn (h.run pins s σ H Q' I ht) fun u s1 ⟨v, H1, I1, r, q⟩ => ⟨v, H1, I1, r, hq v H1 q⟩⟩
theorem lam_by {X : Cx} {scope : Scope} (st : Stmt) (h : X.env.scope = defScope st) (hb : LamX.lamSB (defScope st) scope = true) : LamX.LamS X.env.scope scope := by
  rw [h]
  exact LamX.lamS_by hb
end FF
/-! Fivefault, part 13: a list that stands aside during a call. -/
namespace FF
open PySem PySem.Spec PyProof.Rows L2
section
variable {P : Program} {w : World} {K : PySem.W.Frag} {mg : Str → Option Value} {base : Heap}
end
theorem hid_lst {good : List V → Prop} {a : Addr} {xs : List V} : hid good a ≠ .lst xs := fun z => by unfold hid at z; cases z
/-- all but the object at a stays -/
def SameB (a : Addr) (H H' : Hp) : Prop := ∀ b u, b ≠ a → H b = some u → H' b = some u
theorem sameT_b {a : Addr} {H H' : Hp} {xs : List V} (ha : H a = some (.lst xs)) (e : SameB a H H') : SameT H H' := fun b ys h => e b _ (fun z => by rw [z, ha] at h; cases h) h
end FF
/-! Fivefault, part 14: the Hook, with the interpreter's own statics in sight. -/
namespace FF
open PySem PySem.Spec PyProof.Rows L2
def obsY (n : Nat) (fa : List He.Fa) (fn : List He.DefD) (tf : List He.Defn) (ex : PySem.W.Frag → Bool) (g : Addr → Option Obj) : He.AlX :=
  (He.obsT fa fn [] (He.frT g (He.asD g n ++ [PySem.cStatics])), ex (He.frT g (He.asD g n ++ [PySem.cStatics])) && He.tabsB g tf (He.frT g (He.asD g n ++ [PySem.cStatics])))
theorem saysY_of {fa : List He.Fa} {fn : List He.DefD} {tf : List He.Defn} {ex : PySem.W.Frag → Bool} {w : World} {h : Heap} {l : List Addr} (e : ((He.obsT fa fn [] (He.frT h.get? l), ex (He.frT h.get? l) && He.tabsB h.get? tf (He.frT h.get? l)) : He.AlX) = He.valX fn [] w) : He.SaysX fa fn [] tf ex w h (He.frT h.get? l) := by
  have e1 : He.obsT fa fn [] (He.frT h.get? l) = He.valT fn [] w := congrArg (fun z : He.AlX => z.1) e
  have e2 : (ex (He.frT h.get? l) && He.tabsB h.get? tf (He.frT h.get? l)) = true := congrArg (fun z : He.AlX => z.2) e
  obtain ⟨h1, h2⟩ := He.ba e2
  have key := fun p hp => He.ba (List.all_eq_true.mp h2 p hp)
  have tab : ∀ p ∈ tf, ∃ o, h.get? (He.cT (He.frT h.get? l) p).2 = some o ∧ He.emptyTab o = true := fun p hp => by
    have h4 := (key p hp).2
    cases q : h.get? (He.cT (He.frT h.get? l) p).2 with
    | none =>
      rw [q] at h4
      cases h4
    | some o =>
      rw [q] at h4
      exact ⟨o, rfl, h4⟩
  exact ⟨e1, h1, fun p hp => (key p hp).1, fun p hp => let ⟨_, q, z⟩ := tab p hp; He.frT_none q z, fun p hp => by
    obtain ⟨_, q, z⟩ := tab p hp
    rw [q, He.emptyTab_eq z]⟩
def hookY (n : Nat) (fa : List He.Fa) (fn : List He.DefD) (tf : List He.Defn) (ex : PySem.W.Frag → Bool) : PySem.W.Hook where
  α := He.AlX
  obs := fun s => obsY n fa fn tf ex s.heap.get?
  val := fun w => He.valX fn [] w
  says := fun w h => ∃ K : PySem.W.Frag, K.In h ∧ He.SaysX fa fn [] tf ex w h K
  of := fun _ _ e => ⟨_, He.frT_in, saysY_of e⟩
  keeps := fun _ _ _ ⟨K, hK, c⟩ k => ⟨K, PySem.W.Frag.In.keeps hK k, ⟨c.t, c.more, c.hd, c.out, fun p hp => k _ _ (c.empty p hp)⟩⟩
theorem obsY_eq {n : Nat} {fa : List He.Fa} {fn : List He.DefD} {tf : List He.Defn} {ex : PySem.W.Frag → Bool} {g : Addr → Option Obj} {s : Shared} (h : ∀ a, g a = s.heap.get? a) : obsY n fa fn tf ex g = (hookY n fa fn tf ex).obs s := by
  have e : g = s.heap.get? := funext h
  rw [e] <;> rfl
end FF
/-! Fivefault, part 15: comprehensions with a test, over a text; dicts made of pairs. -/
namespace FF
open PySem PySem.Spec PyProof.Rows L2
section
variable {K : PySem.W.Frag} {a D : Addr} {xs : List V} {tt : TT} {te : TE} {vs : List Nat} {j : Nat} {σ : L2.St} {H1 : Hp} {Qd : Hp → Prop}
theorem same_at {H H1 : Hp} {D : Addr} {o : HO} (hD : H1 D = none) (e : Same H1 H) : Same H1 (upd H D o) := fun b u hb => by
  rw [upd_ne (ne_of_none hb hD)]
  exact e _ _ hb
end
/-- every parameter by name or place, no defaults -/
theorem kb_plain {K : PySem.W.Frag} {x qual : Str} {params : Arguments} {body : List Stmt} {scope : Scope} {kws : List (Str × V)} {f : Addr} {fd : FuncData} {ps : List Str} {n : Nat} {ks : List Str} (F : FunD K x qual params body scope [] kws f fd)
    (h : ∀ (kV doc pm : Value) (an : Option Addr) (cdv ct : Value) (us ws : List Value), us.length = n → ws.length = ks.length → bindArgs (PySem.W.fnOf x qual params body scope .none kV doc pm an cdv ct) ⟨us, ks.zip ws⟩ = pure (ps.zip (us ++ ws))) :
    KBn K fd ps n ks (fun us ws => us ++ ws) (fun vs zs => vs ++ zs) := by
  obtain ⟨oc, od, dV, kV, doc, pm, an, cdv, ct, osl, rfl, lk, hcd, hD, hK⟩ := F.ex
  rcases hD with ⟨_, rfl⟩ | ⟨e, _⟩
  · exact ⟨fun s us ws _ l1 l2 => .of_eq (h kV doc pm an cdv ct us ws l1 l2), fun r1 r2 => r1.append r2⟩
  · exact absurd rfl e
/-! ### dicts made of pairs -/
end FF
/-! Fivefault, part 16: keywords gathered in a dict (def f(a, .., **d), called with keywords). -/
namespace FF
open PySem PySem.Spec PyProof.Rows L2
section
variable {prog : Program} {w : World} {A : Around} {E : Value → Shared → Prop} {d : Addr}
end
end FF
/-! Fivefault, part 17: defs with **d, called with keywords. -/
namespace FF
open PySem PySem.Spec PyProof.Rows L2 StX
def FnKw (P : Program) (w : World) (K : PySem.W.Frag) (mg : Str → Option Value) (base : Heap) (CX : CXT) (k : Nat) (f : Addr) (n : Nat) (ks : List Str) (sp : Sp) : Prop :=
  ∀ (A : Around) (outer : List Env) (s : Shared) (H : Hp) (us ws : List Value) (vs zs : List V) (Q : VK) (E : XK), Room k A → Env0 P w K mg base A outer s H → Vals vs us → Vals zs ws → vs.length = n → zs.length = ks.length → sp (vs ++ zs) H Q E →
    codeAny (model P w) A (.call (.ref f) ⟨us, ks.zip ws⟩) (CR CX outer P w H s Q E) s
structure DefK (P : Program) (w : World) (K : PySem.W.Frag) (mg : Str → Option Value) (base : Heap) (x : Str) (k n : Nat) (ks : List Str) (sp : Sp) : Prop where
  ex : ∃ f : Addr, FnKw P w K mg base (L2.CX P w) k f n ks sp ∧ mg x = some (.ref f) ∧ PySem.W.keepIn K (.ref f) = true
end FF
/-! Fivefault, part 18: own exceptions with one field. -/
namespace FF
open PySem PySem.Spec PyProof.Rows L2
/-- C.__init__(self, y): the code z, the field f -/
def spIni1 (K : PySem.W.Frag) (z f : Str) : Sp := fun vs H Q _ => ∃ (a C : Addr) (y : V), vs = [.ref a, y] ∧ OexC K C ∧ PySem.W.findIn K (.ref C) "code" = some none ∧ PySem.W.findIn K (.ref C) f = some none ∧ H a = some (exo a C none) ∧
  ∀ dx, H dx = none → dx ≠ a → Q .non (upd (upd (upd H dx (exd dx [("code", .str z)])) a (exo a C (some dx))) dx (exd dx [(f, y), ("code", .str z)]))
structure RaiseD1 (P : Program) (w : World) (K : PySem.W.Frag) (mg : Str → Option Value) (base : Heap) (x y : Str) (k : Nat) (z f : Str) : Prop where
  own : OwnX K x y
  nof : PySem.W.findIn K (.ref (He.ga K x)) f = some none
  hm : mg x = some (.ref (He.ga K x))
  ini : ∃ fd, FnOk P w K mg base CX0 k (He.ma K (He.ga K x) "__init__") fd ["self", f] (spIni1 K z f) ∧ Binds K fd ["self", f] []
end FF
/-! Fivefault, part 19: a, *b = t. -/
namespace FF
open PySem PySem.Spec PyProof.Rows L2
theorem tup_tail {prog : Program} {w : World} {A : Around} (hh : A.handled = none) (I ax : Addr) (hne : ax ≠ I) (x : Value) (items : List Value) :
    Walks prog w A I [I, ax] [I] items.length (fun i v => items[i]? = some v) (fun i h => h.IsTupleIter I ax (i + 1) ∧ h.IsTuple ax (x :: items).toArray) :=
  let W := Walks.tuple (prog := prog) (w := w) hh I ax hne (x :: items).toArray
  { sub := W.sub
    frame := fun i h h' st hk => W.frame (i + 1) h h' st hk
    item := fun i s Q E hi st hQ => W.item (i + 1) s Q E (by simpa using hi) st fun v h' tk hP st' hk => hQ v h' tk (by simpa using hP) st' hk
    done := fun s Q E st hQ => W.done s Q E (by simpa using st) hQ
    self := fun i s Q E st hQ => W.self (i + 1) s Q E st hQ }
theorem unpack_star {prog : Program} {w : World} {A : Around} {E : Value → Shared → Prop} {s : Shared} {t : Addr} {x : Value} {items : List Value} {Q : List Value → Shared → Prop} (hh : A.handled = none) (ht : s.heap.IsTuple t (x :: items).toArray) (hz : items.length ≤ sizeLine)
    (hQ : ∀ (h' : Heap) (tk : Nat), (∀ b o, s.heap.get? b = some o → h'.get? b = some o) → Q [x, .ref h'.objs.size] { s with heap := h'.push { cls := .type "list", data := .seq items.toArray }, toks := tk }) :
    wpAny (model prog w) A (unpackItems (.ref t) 2 (some 1)) Q E s := by
  have hlt : t ≠ s.heap.objs.size := by obtain ⟨o, ho, _⟩ := ht; exact Nat.ne_of_lt (Heap.lt_size ho)
  unfold unpackItems
  refine wpAny_bind ?_
  unfold notIterableAtAll
  refine wpAny_bind (wpAny_specialOf ht.typeIs PySem.F.slot_tuple_iter.lookup ?_)
  refine wpAny_pure ?_
  simp only [Bool.false_eq_true, if_false]
  refine wpAny_bind (wpAny_holding (wpAny_pyIter_tuple ht ?_))
  refine wpAny_bind (wpAny_holding (wpAny_draw_tuple hlt 1 0 _ _ ⟨_, Heap.get?_push_size _ rfl, rfl, rfl⟩ (ht.push _) (by simp) fun h₁ hit₁ hs₁ => ?_))
  have e1 : List.take 1 (List.drop 0 (x :: items).toArray.toList) = [x] := by simp
  rw [e1, if_neg (by simp)]
  have ht₁ : h₁.IsTuple t (x :: items).toArray := (ht.push _).extBut hs₁.extBut hlt
  have k1 : ∀ b o, s.heap.get? b = some o → h₁.get? b = some o := fun b o e => hs₁.extBut b o (Nat.ne_of_lt (Heap.lt_size e)) (Heap.get?_push_of_some _ e)
  have hin : s.heap.objs.size < h₁.objs.size := by
    obtain ⟨o, ho, _⟩ := hit₁
    exact Heap.lt_size ho
  have htn : t < h₁.objs.size := by
    obtain ⟨o, ho, _⟩ := ht₁
    exact Heap.lt_size ho
  refine wpAny_bind (wpAny_holding (wpAny_collect_iter (T := "tuple_iterator") (.inr (.inr (.inr rfl))) (Walks.toS (tup_tail (A := A.in1) hh s.heap.objs.size t hlt x items)) (fun i s st => st.1.typeIs) ⟨hit₁, ht₁⟩ (fun b hb => ?_) (by simp) (fun s' acc mv it => ?_) hz))
  · simp only [List.mem_cons, List.not_mem_nil, or_false] at hb
    rcases hb with rfl | rfl
    · exact hin
    · exact htn
  have ea : acc.toList = items := by
    apply List.ext_getElem?
    intro j
    rw [Array.getElem?_toList]
    cases h : acc[j]? with
    | some v => exact (it.2 j v h).symm
    | none =>
      have := Array.getElem?_eq_none_iff.mp h
      rw [it.1] at this
      exact (List.getElem?_eq_none this).symm
  rw [ea, if_neg (by omega)]
  have em : List.take (items.length - (2 - 1 - 1)) items = items := by simp
  have ed : List.drop (items.length - (2 - 1 - 1)) items = [] := by simp
  rw [em, ed]
  obtain ⟨h2, g2, d2, t2, o2⟩ := s'
  obtain ⟨mh, mg, md, mo, mt⟩ := mv
  have mg : g2 = s.gens := mg
  have md : d2 = s.drawn := md
  have mo : o2 = s.os := mo
  subst mg md mo
  refine wpAny_bind (wpAny_newList (wpAny_pure (hQ h2 t2 fun b o e => mh b o (fun hm => ?_) (k1 b o e))) hz)
  rw [List.mem_singleton.mp hm] at e
  exact Nat.lt_irrefl _ (Heap.lt_size e)
/-- a, *b = t -/
theorem pg_star2 {X : Cx} {e1 e2 : Expr} {p3 pos : Pos} {k : Nat} {t : TGs} (hc : X.calm = true) (h : PGs X [e1, e2] t) (hm : (assignEach [e1, .Starred e2 p3] X.env).map (·.2) = (assignEach [e1, e2] X.env).map (·.2) := by rfl)
    (hn : (assignEach [e1, .Starred e2 p3] X.env).length = 2 := by rfl) (hst : (assignEach [e1, .Starred e2 p3] X.env).findIdx? (·.1) = some 1 := by rfl) :
    PG X (.Tuple [e1, .Starred e2 p3] k pos) (fun v σ H Q => ∃ a x0 xs, v = .ref a ∧ SqT X.K H a (x0 :: xs) ∧ ∀ p, H p = none → t [x0, .ref p] σ (upd H p (.lst xs)) Q) := by
  refine ⟨fun pins s σ H v u Q I r hw => ?_⟩
  obtain ⟨a, x0, xs, rfl, hq, hw⟩ := hw
  cases r
  obtain ⟨its, rv, ht, hz⟩ := I.tuple hq
  cases rv with
  | @cons _ u0 _ us r0 rs =>
  have hl : us.length ≤ sizeLine := by
    have := rs.length
    rw [List.length_cons] at hz
    omega
  rw [PyProof.Rows.assign_Tuple]
  refine wpAny_bind (wpAny_standAt ?_)
  unfold unpack
  rw [hn, hst, hm]
  refine wpAny_bind (wpAny_holding (unpack_star (I.ok.hd hc) ht hl fun h' tk kp => ?_))
  have I1 : Inv X pins σ H { s with heap := h', toks := tk } := I.kept kp
  have hf : H h'.objs.size = none := I1.hok.fresh (Nat.le_refl _)
  have I2 : Inv X pins σ (upd H h'.objs.size (.lst xs)) { s with heap := h'.push { cls := .type "list", data := .seq us.toArray }, toks := tk } :=
    I1.laid (t' := tk) (fun b u e => Heap.get?_push_of_some _ e) (Nat.le_refl _) ⟨by rw [rs.length]; exact hl, us, 0, rs, Heap.get?_push_size _ rfl⟩
  exact h.run pins _ σ _ [x0, .ref h'.objs.size] [u0, .ref h'.objs.size] Q I2 (.cons r0 (.cons rfl .nil)) (hw _ hf)
end FF
/-! Fivefault, part 20: methods of own classes, some of which raise; instances whose fields change. -/
namespace FF
open PySem PySem.Spec PyProof.Rows L2
structure MethX (P : Program) (w : World) (K : PySem.W.Frag) (mg : Str → Option Value) (base : Heap) (C m : Str) (k : Nat) (ps : List Str) (sp : Sp) : Prop where
  ex : ∃ fd, FnOk P w K mg base (L2.CX P w) k (He.ma K (He.ga K C) m) fd ps sp ∧ Binds K fd ps []
  cl : Cls K (He.ga K C)
  me : Meth K (He.ga K C) m (He.ma K (He.ga K C) m)
structure MethD (P : Program) (w : World) (K : PySem.W.Frag) (mg : Str → Option Value) (base : Heap) (C m : Str) (k : Nat) (ps : List Str) (sp : Sp) : Prop where
  ex : ∃ fd, FnOk P w K mg base CX0 k (He.ma K (He.ga K C) m) fd ps sp ∧ Binds K fd ps []
  cl : Cls K (He.ga K C)
  me : Meth K (He.ga K C) m (He.ma K (He.ga K C) m)
section
variable {X : Cx} {W : WX} {E : XK} {C m : Str} {k j : Nat} {ps : List Str} {sp : Sp} {o e : Expr} {es : List Expr} {apos pos : Pos} {to : TE} {t : TA} {pl : Sem Bool}
theorem pe_methd (D : MethD X.prog X.w X.K X.mg X.base C m k ps sp) (hr : Room j X.A) (hkj : k ≤ j) (ho : PE X o to) (ha : PA X (e :: es) t)
    (hst : starEach (e :: es) X.env = (false, eval e X.env) :: starEach es X.env := by rfl) (hpl : (backTo pos (starEach es X.env)).any (·.1) = false := by rfl)
    (ht : eval (.Call (.Attribute o m apos) (e :: es) [] pos) X.env = (do
      let ov ← eval o X.env
      standAt apos.atName
      let (f, first) ← holding [ov] (getMethod ov m pl)
      callWith pos f first (backTo pos (starEach (e :: es) X.env)) (backToKw pos (keywordEach [] X.env))) := by rfl) :
    PE X (.Call (.Attribute o m apos) (e :: es) [] pos) (tMeth (He.ga X.K C) m sp [] E0 to t) := by
  obtain ⟨fd, F, hb⟩ := D.ex
  exact pe_meth ho D.cl D.me F (hr.mono hkj) hb .nil pass0 ha hst hpl ht
end
/-- C(..): the class C with an own __init__ that raises nothing -/
structure MakeD (P : Program) (w : World) (K : PySem.W.Frag) (mg : Str → Option Value) (base : Heap) (C : Str) (k : Nat) (ps : List Str) (sp : Sp) : Prop where
  ex : ∃ fd, FnOk P w K mg base CX0 k (He.ma K (He.ga K C) "__init__") fd ps sp ∧ Binds K fd ps []
  mkr : Mk K (He.ga K C) (He.ma K (He.ga K C) "__init__")
  hm : mg C = some (.ref (He.ga K C))
section
variable {P : Program} {w : World} {K : PySem.W.Frag} {mg : Str → Option Value} {base : Heap}
theorem fnm_mk {C m qual : Str} {st : Stmt} {fd : FuncData} {dvs : List V} {kws : List (Str × V)} {N ps : List Str} {k : Nat} {sp : Sp} (F : FunD K m qual (defArgs st) (defBody st) (defScope st) dvs kws (He.ma K (He.ga K C) m) fd)
    (S : FnScope N ps (defScope st)) (len : ∀ vs H Q E, sp vs H Q E → vs.length = ps.length)
    (body : ∀ (cdv : Value) (A : Around) (outer : List Env) (s : Shared) (H : Hp) (vs : List V) (Q : VK) (E : XK), Room k (A.deeper (envOfC qual (defScope st) s.heap.objs.size (He.ma K (He.ga K C) m) cdv)) → sp vs H Q E →
      ∃ t, PSs (cxOf CX0 P w K mg base N qual (defScope st) (He.ma K (He.ga K C) m) cdv A outer s H E).nox (defBody st) t ∧ t { nx := fun _ H' => Q .non H', rt := Q } (start N vs) H) : FnOk P w K mg base CX0 (k + 1) (He.ma K (He.ga K C) m) fd ps sp :=
  FunD.ok F S len fun cdv A outer s H vs Q E hr h => let ⟨t, a, b⟩ := body cdv A outer s H vs Q E hr h; ⟨t, PSs.nox a, b⟩
theorem methd_mk {C m qual : Str} {st : Stmt} {fd : FuncData} {dvs : List V} {kws : List (Str × V)} {N ps : List Str} {k : Nat} {sp : Sp} (F : FunD K m qual (defArgs st) (defBody st) (defScope st) dvs kws (He.ma K (He.ga K C) m) fd) (hb : Binds K fd ps [])
    (cl : Cls K (He.ga K C)) (me : Meth K (He.ga K C) m (He.ma K (He.ga K C) m)) (S : FnScope N ps (defScope st)) (len : ∀ vs H Q E, sp vs H Q E → vs.length = ps.length)
    (body : ∀ (cdv : Value) (A : Around) (outer : List Env) (s : Shared) (H : Hp) (vs : List V) (Q : VK) (E : XK), Room k (A.deeper (envOfC qual (defScope st) s.heap.objs.size (He.ma K (He.ga K C) m) cdv)) → sp vs H Q E →
      ∃ t, PSs (cxOf CX0 P w K mg base N qual (defScope st) (He.ma K (He.ga K C) m) cdv A outer s H E).nox (defBody st) t ∧ t { nx := fun _ H' => Q .non H', rt := Q } (start N vs) H) : MethD P w K mg base C m (k + 1) ps sp :=
  ⟨⟨fd, fnm_mk F S len body, hb⟩, cl, me⟩
theorem MethX.mono {C m : Str} {j k : Nat} {ps : List Str} {sp : Sp} (D : MethX P w K mg base C m j ps sp) (h : j ≤ k) : MethX P w K mg base C m k ps sp := by
  obtain ⟨fd, F, r⟩ := D.ex
  exact ⟨⟨fd, F.mono h, r⟩, D.cl, D.me⟩
theorem MethD.mono {C m : Str} {j k : Nat} {ps : List Str} {sp : Sp} (D : MethD P w K mg base C m j ps sp) (h : j ≤ k) : MethD P w K mg base C m k ps sp := by
  obtain ⟨fd, F, r⟩ := D.ex
  exact ⟨⟨fd, F.mono h, r⟩, D.cl, D.me⟩
end
/-! ### all but one object stays -/
theorem sb_refl {a : Addr} {H : Hp} : SameB a H H := fun _ _ _ h => h
theorem SameB.tr {a : Addr} {H H1 H2 : Hp} (x : SameB a H H1) (y : SameB a H1 H2) : SameB a H H2 := fun b u n h => y b u n (x b u n h)
theorem sb_of {a : Addr} {H H1 : Hp} (x : Same H H1) : SameB a H H1 := fun b u _ h => x b u h
theorem sb_upd {a : Addr} {H : Hp} {o : HO} : SameB a H (upd H a o) := fun b u n h => by rw [upd_ne n]; exact h
end FF
/-! Fivefault, part 21: {k: v for a in xs for b in ys}. -/
namespace FF
open PySem PySem.Spec PyProof.Rows L2
section
variable {prog : Program} {w : World} {A : Around} {R : Result → Shared → Prop} {s : Shared} {ek ev ga ia gb ib : Expr} {cs ds : List Expr} {scope : Scope} {pos : Pos} {it : Value} {D : Addr} {env : Env}
end
end FF
/-! Fivefault, part 22: sorted(d), a dict with any number of text keys. -/
namespace FF
open PySem PySem.Spec PyProof.Rows L2
def rSortedDA (H0 : Unit) : List V → Hp → VK → Prop := fun xs H Q => ∃ (a : Addr) (kvs : List (Key × V)) (ks : List Str), xs = [.ref a] ∧ H a = some (.dK kvs) ∧ kvs.map (·.1) = ks.map Sum.inr ∧ ∀ ys p, ys.Perm ks → sortedS ys = true → H p = none → Q (.ref p) (upd H p (.lst (ys.map V.str)))
theorem cr_sortedDA {X : Cx} (calm : X.calm = true) : CallR X (.builtin "sorted") (rSortedDA ()) := by
  intro pins s σ H xs us Q I r h
  obtain ⟨a, kvs, ks, rfl, hd, hk, q⟩ := h
  obtain ⟨u, rfl, rx⟩ := vals1 r
  cases rx
  obtain ⟨z, big, vs, rel, dd⟩ := dk_rd I.hok (.inl hd)
  obtain ⟨ep, hat⟩ := dd.dictAt
  have keys : vs.map (·.1) = ks.map Sum.inr := rel.keys.symm.trans hk
  have len : vs.length = ks.length := by simpa using congrArg List.length keys
  have line : vs.length ≤ sizeLine := rel.length ▸ z
  refine Calls.call_function_entry PyProof.Rows.kind_sorted PyProof.Rows.plain_sorted PyProof.Rows.entry_sorted (PyProof.Rows.args_sorted1 _) ?_
  unfold Builtin.«sorted»
  refine wpAny_bind (m := checkCount "sorted" 1 1 _) (wpAny_pure ?_)
  refine wpAny_bind (PySem.W.kdu_collect (A := X.A.in1) (PySem.W.kdl_dict (knd := mixKind X.prog X.w) (kvs := vs) (ep := ep) big) (I.ok.hd calm) hat line fun h' tk acc hkeep hacc => ?_)
  have la : acc.toList.length = ks.length := by rw [Array.length_toList, hacc.1, len]
  have hS : StrsAre acc.toList ks := strs_at la fun j v e => by
    obtain ⟨k, x, e1, e2⟩ := hacc.2 j v (by rw [← Array.getElem?_toList]; exact e)
    have e3 : (ks.map Sum.inr : List Key)[j]? = some k := by
      rw [← keys, List.getElem?_map, e1]
      rfl
    rw [List.getElem?_map] at e3
    match hj : ks[j]?, e3 with
    | some y, e3 =>
      cases Option.some.inj e3
      obtain ⟨t, ev⟩ := Value.isStrOf_shape (x := y) (v := v) e2
      exact ⟨y, t, rfl, ev⟩
  have I1 : Inv X pins σ H { s with heap := h', toks := tk } := I.kept hkeep
  refine wpAny_bind (wpAny_newList ?_ (by rw [la, ← len]; exact line))
  have new : (h'.push (seqObj "list" acc.toList.toArray 0)).get? h'.objs.size = some (seqObj "list" acc.toList.toArray 0) := Heap.get?_push_size _ rfl
  show wpAny _ _ _ _ _ { s with heap := h'.push (seqObj "list" acc.toList.toArray 0), toks := tk }
  refine wpAny_bind (wpAny_holding (wpAny_call_entry PyProof.Rows.slot_list_sort ⟨_, new, rfl⟩ PyProof.Rows.entry_list_sort
    (list_sort_treeKSt strKind_oneLt (s := { s with heap := h'.push (seqObj "list" acc.toList.toArray 0), toks := tk }) new hS.keysOf (fun v1 v2 rest e => keyKind_strs (by rw [← e]; exact hS)) (by rw [la, ← len]; exact line) fun st' hp hs _ => ⟨_, rfl, ?_⟩)
    (PyProof.Rows.args_list_sort _)))
  obtain ⟨ys, g1, g2, g3⟩ := sorted_out_str hS hp hs
  obtain ⟨e', he'⟩ := PyProof.Rows.sortedHeap_at (vs := acc.toList) (out := (arrOf st').map (·.2)) new
  have size : (ys.map V.str).length ≤ sizeLine := by rw [List.length_map, g2.length_eq, ← len]; exact line
  have old : ∀ b o, h'.get? b = some o → (sortedHeap (h'.push (seqObj "list" acc.toList.toArray 0)) h'.objs.size acc.toList ((arrOf st').map (·.2))).get? b = some o := fun b o e => by
    have hb := Heap.lt_size e
    rw [PyProof.Rows.sortedHeap_old (Nat.ne_of_lt hb) (by rw [size_push']; exact Nat.lt_succ_of_lt hb)]
    exact Heap.get?_push_of_some _ e
  exact wpAny_pure ⟨_, rfl, .ref h'.objs.size, upd H h'.objs.size (.lst (ys.map V.str)), I1.laid (t' := tk) old (Nat.le_refl _) ⟨size, ((arrOf st').map (·.2)).toList, e', vals_of_strs g1, by rw [Array.toArray_toList]; exact he'⟩, rfl, q ys _ g2 g3 (I1.hok.fresh (Nat.le_refl _))⟩
end FF
/-! Fivefault, part 23: enumerate over a tuple; what is a list or a tuple, walked. -/
namespace FF
open PySem PySem.Spec PyProof.Rows L2
open Sem (wp)
section
variable {prog : Program} {w : World} {A : Around} {E : Value → Shared → Prop} {s : Shared}
end
end FF
/-! Fivefault, part 24: several except clauses, with and without names. -/
namespace FF
open PySem PySem.Spec PyProof.Rows L2
/-- the readings of a clause with a name (slot i) -/
abbrev nmd (i : Nat) (ts : Addr → Value → Option Addr → TS) : Addr → Value → Option Addr → TS := fun a cls d D σ H => ts a cls d (asEnds i D) (σ.set i (some (.ref a))) H
inductive HdsB (X : Cx) (n : Str) (i : Nat) : List ExceptHandler → List (Value × (Addr → Value → Option Addr → TS)) → Prop
  | nil : HdsB X n i [] []
  | cons {x : Str} {c : Value} {ts : Addr → Value → Option Addr → TS} {b₀ : Stmt} {suite : List Stmt} {np pos' : Pos} {hds : List ExceptHandler} {l : List (Value × (Addr → Value → Option Addr → TS))} (hc : Names X x c)
      (hsu : ∀ (a : Addr) (oe : Obj) (cls : Value) (d : Option Addr) (pn : List (Addr × Obj)), Zc cls d oe → (∃ vs, oe.data = .fields vs) → PSs (X.suite a ((a, oe) :: pn)) (b₀ :: suite) (ts a cls d)) (r : HdsB X n i hds l) :
      HdsB X n i (.ExceptHandler (some (.Name x np)) (some n) (b₀ :: suite) pos' :: hds) ((c, nmd i ts) :: l)
  | cons0 {x : Str} {c : Value} {ts : Addr → Value → Option Addr → TS} {b₀ : Stmt} {suite : List Stmt} {np pos' : Pos} {hds : List ExceptHandler} {l : List (Value × (Addr → Value → Option Addr → TS))} (hc : Names X x c)
      (hsu : ∀ (a : Addr) (oe : Obj) (cls : Value) (d : Option Addr) (pn : List (Addr × Obj)), Zc cls d oe → (∃ vs, oe.data = .fields vs) → PSs (X.suite a ((a, oe) :: pn)) (b₀ :: suite) (ts a cls d)) (r : HdsB X n i hds l) :
      HdsB X n i (.ExceptHandler (some (.Name x np)) none (b₀ :: suite) pos' :: hds) ((c, ts) :: l)
section
variable {X : Cx} {n : Str} {i : Nat} {body : List Stmt} {h₀ : ExceptHandler} {hds : List ExceptHandler} {l : List (Value × (Addr → Value → Option Addr → TS))} {pos : Pos} {tb : WX → TS} {Wout : WX}
end
end FF
/-! Fivefault, part 25: walks over what is a list or a tuple; over the signs of a text. -/
namespace FF
open PySem PySem.Spec PyProof.Rows L2
section
variable {K : PySem.W.Frag} {a : Addr} {xs : List V} {H : Hp}
theorem walkL_same (h : SqL K H a xs) : Walk (Itl K a) xs.length (Same H) (YAt xs) :=
  ⟨fun i H' hi e => ⟨xs, xs[i], up_l e h, by simp [hi]⟩, fun H' e => ⟨xs, up_l e h, Nat.le_refl _⟩, fun i H' x H2 _ e y => ⟨y.1, y.2 xs (up_l e h)⟩⟩
abbrev YEn (xs : List V) : Nat → Hp → V → Hp → Prop := YPair (fun i => some (.int (i : Nat))) fun i => xs[i]?
theorem walkE_same (h : SqL K H a xs) : Walk (Ite K a) xs.length (Same H) (YEn xs) :=
  ⟨fun i H' hi e => ⟨xs, xs[i], up_l e h, by simp [hi]⟩, fun H' e => ⟨xs, up_l e h, Nat.le_refl _⟩, fun i H' v H2 _ e ⟨t, x, e1, n, e2, y⟩ => ⟨t, _, x, e1, n, e2, rfl, y xs (up_l e h)⟩⟩
end
theorem if_t {A B : Prop} (h : A) : if true = true then A else B := h
end FF
/-! Fivefault, part 26: fors and comprehensions over what is a list or a tuple. -/
namespace FF
open PySem PySem.Spec PyProof.Rows L2
section
variable {K : PySem.W.Frag} {a : Addr} {xs : List V} {g : TG} {tb : TS} {D : Ends} {σ : L2.St} {H : Hp}
abbrev ForR (J : It) (g : TG) (tb : TS) (D : Ends) (σ : L2.St) (H : Hp) : Prop := ∃ W : Nat → Nat → L2.St → Hp → Prop, (∃ m, W 0 m σ H) ∧ ∀ i m σ H, W i m σ H →
      (J.stop i H ∧ D.nx σ H) ∨ (J.go i H ∧ ∃ N : L2.St → Hp → Prop, (∀ σ' H', N σ' H' → ∃ m', m' < m ∧ W (i + 1) m' σ' H') ∧ ∀ x H', J.yld i H x H' → g x σ H' fun σ2 H2 => tb { D with nx := N, ct := N, bk := D.nx } σ2 H2)
end
section
variable {K : PySem.W.Frag} {a : Addr} {xs : List V} {g : TG} {te : TE} {vs : List Nat} {σ : L2.St} {H1 : Hp} {Q : Addr → Hp → Prop}
end
end FF
/-! Fivefault, part 27: [x for x in xs if test], the test told by x. -/
namespace FF
open PySem PySem.Spec PyProof.Rows L2
end FF
/-! Fivefault, part 28: [x for l in ls for x in l] over a tuple of lists or tuples; defs with *v called where no exception comes. -/
namespace FF
open PySem PySem.Spec PyProof.Rows L2 StX
section
variable {X : Cx} {x : Str} {k j : Nat} {sp : Sp} {e : Expr} {es : List Expr} {p pos : Pos} {t : TA}
end
section
variable {K : PySem.W.Frag} {a : Addr} {xs : List V} {uss : List (List V)} {vs vs1 : List Nat} {jo ji : Nat} {σ : L2.St} {H1 : Hp} {Q : Addr → Hp → Prop}
end
end FF
/-! Fivefault, part 29: is, where the left side is None or a bool. -/
namespace FF
open PySem PySem.Spec PyProof.Rows L2
end FF
/-! Fivefault, part 30: a, *b = xs (a list at the right); {**d, k: v}. -/
namespace FF
open PySem PySem.Spec PyProof.Rows L2
section
variable {prog : Program} {w : World} {K : Type} [DecidableEq K] {knd : KeyKind prog w K} {A : Around} {E : Value → Shared → Prop} {s : Shared}
end
end FF
/-! Fivefault, part 31: more comprehensions: a test told with the heap; a choice of any target; items that are new objects. -/
namespace FF
open PySem PySem.Spec PyProof.Rows L2
section
variable {K : PySem.W.Frag} {a : Addr} {xs : List V} {g : TG} {tt : TT} {te : TE} {vs : List Nat} {σ : L2.St} {H1 : Hp} {Q : Addr → Hp → Prop}
end
section
variable {K : PySem.W.Frag} {a : Addr} {xs : List V} {te : TE} {vs : List Nat} {σ : L2.St} {H1 : Hp} {D : Addr} {Qd : Hp → Prop} {j : Nat}
end
end FF
/-! Fivefault, part 32: x[i] of a text or a tuple; C() of an own class. -/
namespace FF
open PySem PySem.Spec PyProof.Rows L2
def rIxW (K : PySem.W.Frag) : R2 := fun x y H Q => rIxT K x y H Q ∨ rIxS x y H Q
theorem ix_wordK {X : Cx} (K : PySem.W.Frag) (h : X.K = K := by rfl) : IxR X (rIxW K) := by
  subst h
  intro value slice pins s σ H x y v u Q I rx ry q hs
  rcases q with q | q
  · exact ix_tup value slice pins s σ H x y v u Q I rx ry q hs
  · exact ix_str value slice pins s σ H x y v u Q I rx ry q hs
theorem pe_mkd0 {X : Cx} {C : Str} {k j : Nat} {ps : List Str} {sp : Sp} {p pos : Pos} (D : MakeD X.prog X.w X.K X.mg X.base C k ps sp) (hr : Room j X.A) (hkj : k + 1 ≤ j)
    (hg : Gl X C := by rfl) (hdb : (C == ("__debug__" : Str)) = false := by decide) :
    PE X (.Call (.Name C p) [] [] pos) (tMake (He.ga X.K C) sp [] E0 tNil) := by
  obtain ⟨fd, F, hb⟩ := D.ex
  exact pe_make0 D.mkr F (hr.mono hkj) hg D.hm hb .nil pass0 hdb
/-- o.m(e, ..), within a comprehension too -/
theorem pe_methdK {X : Cx} (K : PySem.W.Frag) {C m : Str} {k j : Nat} {ps : List Str} {sp : Sp} {o e : Expr} {es : List Expr} {apos pos : Pos} {to : TE} {t : TA} {pl : Sem Bool} (D : MethD X.prog X.w X.K X.mg X.base C m k ps sp) (hr : Room j X.A) (hkj : k ≤ j) (ho : PE X o to) (ha : PA X (e :: es) t) (hK : X.K = K := by rfl)
    (hst : starEach (e :: es) X.env = (false, eval e X.env) :: starEach es X.env := by rfl) (hpl : (backTo pos (starEach es X.env)).any (·.1) = false := by rfl)
    (ht : eval (.Call (.Attribute o m apos) (e :: es) [] pos) X.env = (do
      let ov ← eval o X.env
      standAt apos.atName
      let (f, first) ← holding [ov] (getMethod ov m pl)
      callWith pos f first (backTo pos (starEach (e :: es) X.env)) (backToKw pos (keywordEach [] X.env))) := by rfl) :
    PE X (.Call (.Attribute o m apos) (e :: es) [] pos) (tMeth (He.ga K C) m sp [] E0 to t) := by
  subst hK
  exact pe_methd D hr hkj ho ha hst hpl ht
end FF
/-! Fivefault, part 33: a text times an int. -/
namespace FF
open PySem PySem.Spec PyProof.Rows L2
end FF
/-! Fivefault, part 34: int(t, 2). -/
namespace FF
open PySem PySem.Spec PyProof.Rows L2
namespace Bn
open PySem.NumText PySem.Calls L2.Hx
end Bn
end FF
/-! Fivefault, part 35: t[::-1]. -/
namespace FF
open PySem PySem.Spec PyProof.Rows L2
end FF
/-! Fivefault, part 36: C(..) where __init__ may raise; {k: v for .. in enumerate(xs)}. -/
namespace FF
open PySem PySem.Spec PyProof.Rows L2
/-- C(..): the class C with an own __init__ that may raise -/
structure MakeX (P : Program) (w : World) (K : PySem.W.Frag) (mg : Str → Option Value) (base : Heap) (C : Str) (k : Nat) (ps : List Str) (sp : Sp) : Prop where
  ex : ∃ fd, FnOk P w K mg base (L2.CX P w) k (He.ma K (He.ga K C) "__init__") fd ps sp ∧ Binds K fd ps []
  mkr : Mk K (He.ga K C) (He.ma K (He.ga K C) "__init__")
  hm : mg C = some (.ref (He.ga K C))
section
variable {J : It} {n : Nat} {G : Hp → Prop} {Y : Nat → Hp → V → Hp → Prop}
theorem dc_it (w : Walk J n G Y) {g : TG} {tt : TT} {tk tv : TE} {vs : List Nat} {σ : L2.St} {H1 : Hp} {D : Addr} {Qd : Hp → Prop} (Pv : Nat → Hp → Prop) (h0 : Pv 0 (upd H1 D (.dK []))) (hG : ∀ i H, i ≤ n → Pv i H → G H)
    (hs : ∀ i x H H', i < n → Pv i H → Y i H x H' → g x (wipe σ vs) H' fun σ2 H2 => wipe σ2 vs = wipe σ vs ∧ tt σ2 H2 fun b H3 =>
      if b = true then tk σ2 H3 fun y H4 => tv σ2 H4 fun z H5 => ∃ kvs k, y = kV k ∧ H5 D = some (.dK kvs) ∧ kvs.length < sizeLine ∧ Pv (i + 1) (upd H5 D (.dK (putK kvs k z))) else Pv (i + 1) H3) (hd : ∀ H, Pv n H → Qd H) :
    ∃ W : Nat → Nat → Hp → Prop, (∃ m, W 0 m (upd H1 D (.dK []))) ∧ ∀ i m H, W i m H →
      (J.stop i H ∧ Qd H) ∨ (J.go i H ∧ ∃ Nx : Hp → Prop, (∀ H', Nx H' → ∃ m', m' < m ∧ W (i + 1) m' H') ∧ ∀ x H', J.yld i H x H' → g x (wipe σ vs) H' fun σ2 H2 => wipe σ2 vs = wipe σ vs ∧ tt σ2 H2 fun b H3 =>
        if b = true then tk σ2 H3 fun y H4 => tv σ2 H4 fun z H5 => ∃ kvs k, y = kV k ∧ H5 D = some (.dK kvs) ∧ kvs.length < sizeLine ∧ Nx (upd H5 D (.dK (putK kvs k z))) else Nx H3) := by
  refine ⟨fun i m H => m = n - i ∧ i ≤ n ∧ Pv i H, ⟨n, by simp, Nat.zero_le _, h0⟩, ?_⟩
  rintro i m H ⟨rfl, hi, p⟩
  have q := hG i H hi p
  by_cases hlt : i < n
  · exact .inr ⟨w.goes i H hlt q, Pv (i + 1), fun H' p' => ⟨n - (i + 1), by omega, rfl, hlt, p'⟩, fun x H' y => hs i x H H' hlt p (w.yields i H x H' hlt q y)⟩
  · have e : i = n := by omega
    subst e
    exact .inl ⟨w.stops H q, hd H p⟩
end
end FF
/-! Fivefault, part 37: len(x), x of an own class with __len__. -/
namespace FF
open PySem PySem.Spec PyProof.Rows L2
end FF
/-! Fivefault, part 38: a text times any int, told exactly. -/
namespace FF
open PySem PySem.Spec PyProof.Rows L2
end FF
/-! Fivefault, part 39: t.join(..) within a comprehension. -/
namespace FF
open PySem PySem.Spec PyProof.Rows L2
end FF
/-! Fivefault, part 40: C(..) where __init__ may raise, within a lambda. -/
namespace FF
open PySem PySem.Spec PyProof.Rows L2
end FF
/-! Fivefault, part 41: methods of own classes with *v; methods that raise, within a lambda. -/
namespace FF
open PySem PySem.Spec PyProof.Rows L2 StX
/-- C.m(self, *v) -/
structure MethS (P : Program) (w : World) (K : PySem.W.Frag) (mg : Str → Option Value) (base : Heap) (C m : Str) (k : Nat) (sp : Sp) : Prop where
  ex : FnR P w K mg base (L2.CX P w) k (He.ma K (He.ga K C) m) sp
  cl : Cls K (He.ga K C)
  me : Meth K (He.ga K C) m (He.ma K (He.ga K C) m)
section
variable {X : Cx} {W : WX} {E : XK} {C m : Str} {k j : Nat} {ps : List Str} {sp : Sp} {o e : Expr} {es : List Expr} {apos pos : Pos} {to : TE} {t : TA} {pl : Sem Bool}
end
end FF
/-! Fivefault, part 42: the Hook with the defs that stand in records (properties, classmethods, staticmethods). -/
namespace FF
open PySem PySem.Spec PyProof.Rows L2
/-- the def in the record of the class's attribute -/
def gAd (K : PySem.W.Frag) (kind : String) (C m : Str) : Addr := match PySem.W.recIn K (He.ma K (He.ga K C) m) kind with
  | some (.ref g :: _) => g
  | _ => 0
/-- .. its setter -/
def sAd (K : PySem.W.Frag) (C m : Str) : Addr := match PySem.W.recIn K (He.ma K (He.ga K C) m) "property" with
  | some (_ :: .ref g :: _) => g
  | _ => 0
structure GetD where
  kind : String
  cls : Str
  attr : Str
  d : He.DefD
def GetD.ad (K : PySem.W.Frag) (g : GetD) : Addr := if g.kind = "setter" then sAd K g.cls g.attr else gAd K g.kind g.cls g.attr
def fnWa (K : PySem.W.Frag) (a : Addr) : He.FnW := match K.lookup a with
  | some ⟨_, _, .func fd, _⟩ => some (fd.name, fd.qualname, fd.params, fd.body, fd.scope, fd.globals, fd.closure, fd.builtins)
  | _ => none
def GetD.ok (K : PySem.W.Frag) (g : GetD) : Bool := PySem.W.keepIn K (.ref (g.ad K)) && (match K.lookup (g.ad K) with
  | some ⟨_, _, .func fd, _⟩ => PySem.W.codeIn K fd.code g.d.qual && (He.dflB K fd.defaults (g.d.dvs K) && He.kwdB K fd.kwdefaults (g.d.kws K))
  | _ => false)
theorem GetD.funD {K : PySem.W.Frag} {g : GetD} (e : fnWa K (g.ad K) = g.d.val) (c : g.ok K = true) : ∃ fd, FunD K g.d.name g.d.qual g.d.params g.d.body g.d.scope (g.d.dvs K) (g.d.kws K) (g.ad K) fd := by
  obtain ⟨kp, c2⟩ := He.ba c
  unfold fnWa at e
  cases q : K.lookup (g.ad K) with
  | none =>
    rw [q] at c2
    cases c2
  | some o =>
    obtain ⟨oc, od, dt, osl⟩ := o
    rw [q] at c2 e
    cases dt with
    | func fd =>
      obtain ⟨n1, n2, n3, n4, n5, n6, n7, n8, n9, n10, n11, n12, n13, n14, n15⟩ := fd
      have e2 : (some (n1, n2, n3, n4, n5, n6, n7, n15) : He.FnW) = some (g.d.name, g.d.qual, g.d.params, .stmts g.d.body, g.d.scope, mainGlobals, [], builtinsNs) := e
      simp only [Option.some.injEq, Prod.mk.injEq] at e2
      obtain ⟨h1, h2, h3, h4, h5, h6, h7, h8⟩ := e2
      subst h1 h2 h3 h4 h5 h6 h7 h8
      have c3 : (PySem.W.codeIn K n13 g.d.qual && (He.dflB K n8 (g.d.dvs K) && He.kwdB K n9 (g.d.kws K))) = true := c2
      obtain ⟨k1, k2⟩ := He.ba c3
      obtain ⟨k3, k4⟩ := He.ba k2
      exact ⟨_, ⟨oc, od, n8, n9, n10, n11, n12, n13, n14, osl, rfl, q, k1, He.dflB_ok k3, He.kwdB_ok k4⟩, kp⟩
    | _ => cases c2
/-! ### the Hook -/
structure SaysZ (fa : List He.Fa) (fn : List He.DefD) (fp : List GetD) (tf : List He.Defn) (ex : PySem.W.Frag → Bool) (w : World) (h : Heap) (K : PySem.W.Frag) : Prop where
  x : He.SaysX fa fn [] tf ex w h K
  b : (fp.all fun g => g.ok K) = true
  v : fp.map (fun g => fnWa K (g.ad K)) = fp.map fun g => g.d.val
theorem SaysZ.get {fa : List He.Fa} {fn : List He.DefD} {fp : List GetD} {tf : List He.Defn} {ex : PySem.W.Frag → Bool} {w : World} {h : Heap} {K : PySem.W.Frag} (c : SaysZ fa fn fp tf ex w h K) (i : Nat) {g : GetD} (hg : fp[i]? = some g := by rfl) :
    ∃ fd, FunD K g.d.name g.d.qual g.d.params g.d.body g.d.scope (g.d.dvs K) (g.d.kws K) (g.ad K) fd := by
  have e2 : (fp.map fun g => fnWa K (g.ad K))[i]? = (fp.map fun g => g.d.val)[i]? := by rw [c.v]
  rw [List.getElem?_map, List.getElem?_map, hg] at e2
  exact GetD.funD (Option.some.inj e2) (List.all_eq_true.mp c.b g (List.mem_of_getElem? hg))
/-! ### a property -/
/-- e.f, a property of the class C, whose getter is the def at level k -/
structure PropD (P : Program) (w : World) (K : PySem.W.Frag) (mg : Str → Option Value) (base : Heap) (C f : Str) (k : Nat) (sp : Sp) : Prop where
  ex : ∃ fd, FnOk P w K mg base CX0 k (gAd K "property" C f) fd ["self"] sp ∧ Binds K fd ["self"] []
  cl : Cls K (He.ga K C)
  pr : PropOf K (He.ga K C) f (He.ma K (He.ga K C) f) (gAd K "property" C f)
end FF
/-! Fivefault, part 43: o.m(k = v, ..). -/
namespace FF
open PySem PySem.Spec PyProof.Rows L2
end FF
/-! Fivefault, part 44: more comprehensions over a list and a range: items that are new objects; those told exactly. -/
namespace FF
open PySem PySem.Spec PyProof.Rows L2
section
variable {K : PySem.W.Frag} {a : Addr} {xs : List V} {tt : TT} {te : TE} {vs : List Nat} {σ : L2.St} {H1 : Hp} {D : Addr} {Qd : Hp → Prop} {j : Nat}
end
end FF
/-! Fivefault, part 45: staticmethods called by their class. -/
namespace FF
open PySem PySem.Spec PyProof.Rows L2
/-- what of the text a staticmethod has -/
structure StatOf (K : PySem.W.Frag) (C : Addr) (m : Str) (p g : Addr) : Prop where
  at_ : PySem.W.findCls K (.ref C) (.type "type") m = some (.get (.builtin "staticmethod.__get__") (.ref p) .none (.ref C))
  rc : ∃ rest, PySem.W.recIn K p "staticmethod" = some (.ref g :: rest)
/-- C.m(..), m a staticmethod of C -/
structure StatX (P : Program) (w : World) (K : PySem.W.Frag) (mg : Str → Option Value) (base : Heap) (C m : Str) (k : Nat) (ps : List Str) (sp : Sp) : Prop where
  ex : ∃ fd, FnOk P w K mg base (L2.CX P w) k (gAd K "staticmethod" C m) fd ps sp ∧ Binds K fd ps []
  kp : PySem.W.keepIn K (.ref (gAd K "staticmethod" C m)) = true
  rd : ClX.CRead K (He.ga K C) (.type "type")
  st : StatOf K (He.ga K C) m (He.ma K (He.ga K C) m) (gAd K "staticmethod" C m)
  hm : mg C = some (.ref (He.ga K C))
section
variable {X : Cx} {W : WX} {E : XK} {C m : Str} {k j : Nat} {ps : List Str} {sp : Sp} {e : Expr} {es : List Expr} {p1 p2 pos : Pos} {t : TA} {pl : Sem Bool}
end
end FF
/-! Fivefault, part 46: {x for x in xs if ..} for any kind of keys; set(t), len of a set of ints. -/
namespace FF
open PySem PySem.Spec PyProof.Rows L2
abbrev emptySet (w : World) : Obj := { cls := .type "set", dict := none, data := .set #[] 0 (.fresh 0 0 (!w.params.followText "set-order")) }
/-- a kind of sets: how one stands in the heap, what is added -/
structure SFam (P : Program) (w : World) where
  κ : Type
  eq : κ → κ → Bool
  ob : Addr → (κ → Bool) → Nat → HO
  val : κ → V
  fresh : ∀ (H : Hp) (h : Heap), ObjOk P w H (h.push (emptySet w)) h.objs.size (ob h.objs.size (fun _ => false) 0)
  add : ∀ (X : Cx) (pins : List (Addr × Obj)) (σ : L2.St) (H : Hp) (s : Shared) (D : Addr) (S : κ → Bool) (n : Nat) (y : κ) (u : Value) (Q : Value → Shared → Prop) (E : Value → Shared → Prop), X.prog = P → X.w = w → Inv X pins σ H s → H D = some (ob D S n) → n + 1 < scanBound → RelV (val y) u →
    (∀ s', Inv X pins σ (upd H D (ob D (fun j => S j || eq j y) (if S y = true then n else n + 1))) s' → Q .none s') → wpAny (model X.prog X.w) X.A (call (.builtin "set.add") [.ref D, u]) Q E s
def SFam.put {P : Program} {w : World} (F : SFam P w) (S : F.κ → Bool) (y : F.κ) : F.κ → Bool := fun j => S j || F.eq j y
/-! ### sets of ints -/
end FF
/-! Fivefault, part 47: methods called in a comprehension's block, where no exception comes (K named). -/
namespace FF
open PySem PySem.Spec PyProof.Rows L2
section
variable {X : Cx} {C m : Str} {k j : Nat} {ps : List Str} {sp : Sp} {o e : Expr} {es : List Expr} {apos pos : Pos} {to : TE} {t : TA} {pl : Sem Bool}
end
/-! a comprehension over a list, any target -/
end FF
/-! Fivefault, part 48: classmethods; cls(..) with cls a local name; a class's constants. -/
namespace FF
open PySem PySem.Spec PyProof.Rows L2
/-- C.m(..), m a classmethod of C -/
structure ClsX (P : Program) (w : World) (K : PySem.W.Frag) (mg : Str → Option Value) (base : Heap) (C m : Str) (k : Nat) (sp : Sp) : Prop where
  ex : FnR P w K mg base (L2.CX P w) k (gAd K "classmethod" C m) sp
  rd : ClX.CRead K (He.ga K C) (.type "type")
  cm : ClX.CMet K (He.ga K C) (.type "type") m (He.ma K (He.ga K C) m) (gAd K "classmethod" C m)
section
variable {X : Cx} {W : WX} {E : XK} {C m : Str} {k j : Nat} {ps : List Str} {sp : Sp} {e : Expr} {es : List Expr} {p1 p2 pos : Pos} {t : TA} {pl : Sem Bool}
end
end FF
/-! Fivefault, part 49: repr(x) by an own __repr__; x == y by an own __eq__; isinstance(x, C). -/
namespace FF
open PySem PySem.Spec PyProof.Rows L2
/-! ### isinstance(x, C), C a class of the text -/
structure InsX (K : PySem.W.Frag) (C : Addr) : Prop where
  cl : Cls K C
  ha : PySem.W.findIn K (.ref C) "__class__" = some (some (.builtin "object.__class__"))
  hn : PySem.W.specialIn K (.builtin "object.__class__") "__get__" = some (some (.builtin "getset_descriptor.__get__"))
  htk : PySem.W.takesIn K (.builtin "object.__class__") = some true
  hm : PySem.W.mroIn K C (.type "object") = some true
  me : PySem.W.kitOne K (.ref C) (.ref C) = some true
  nl : PySem.W.kitOne K (.type "list") (.ref C) = some false
  sl : PySem.W.subIn K (.type "list") (.ref C) = some false
theorem InsX.ty {K : PySem.W.Frag} {C a dx : Addr} {H : Hp} {fs : List (Str × V)} (c : InsX K C) (h : H a = some (.ins C dx fs)) : TyX K H (.ref a) (.ref C) := .base (TyOf.ins h c.cl c.ha c.hn c.htk c.hm)
/-! ### == by an own __eq__ -/
/-! ### C.m(k = v, ..), m a classmethod -/
end FF
/-! Fivefault, part 50: sets of texts: {x for x in xs if ..}, set(list of texts), sorted(set of texts). -/
namespace FF
open PySem PySem.Spec PyProof.Rows L2
def keyT (e : Int × Value) : Str := match e.2 with
  | .str z _ => z
  | _ => Str.empty
def GoodT (w : World) (e : Int × Value) : Prop := ∃ z tk, e.2 = Value.str z tk ∧ e.1 = hashStr w z
/-- a set of texts stands at a: its members S, n of them; its table can be walked -/
def SetT (w : World) (h : Heap) (a : Addr) (S : Str → Bool) (n : Nat) : Prop :=
  ∃ o es ep t, h.get? a = some o ∧ o.ExactSet ∧ o.data = .set es ep t ∧ ((∀ e ∈ es.toList, GoodT w e) ∧ (es.toList.map keyT).Nodup ∧ ∀ k, S k = true ↔ k ∈ es.toList.map keyT) ∧
    es.size < scanBound ∧ t.fits es.size = true ∧ es.size = n ∧ Ris t.place.toList ∧ (w.params.followText "set-order" = true ∨ t.led = true)
section
variable {P : Program} {w : World} {h h' : Heap} {a : Addr} {S : Str → Bool} {n : Nat}
theorem SetT.at (R : SetT w h a S n) (k : ∀ o, h.get? a = some o → h'.get? a = some o) : SetT w h' a S n := by
  obtain ⟨o, es, ep, t, ho, r⟩ := R
  exact ⟨o, es, ep, t, k o ho, r⟩
theorem SetT.congr {S' : Str → Bool} (R : SetT w h a S n) (e : ∀ k, S' k = S k) : SetT w h a S' n := (funext e : S' = S) ▸ R
theorem goodT_elems {l : List (Int × Value)} (g : ∀ e ∈ l, GoodT w e) : ElemsOf (strKind P w) l := fun e he => by
  obtain ⟨z, tk, h1, h2⟩ := g e he
  exact ⟨⟨z, by rw [h1]; exact strKind_is P w z tk, h2⟩, by rw [h1] <;> rfl⟩
theorem goodT_is {e : Int × Value} (g : GoodT w e) (k : Str) : (strKind P w).is k e.2 = true ↔ keyT e = k := by
  obtain ⟨z, tk, h1, _⟩ := g
  unfold keyT
  rw [h1]
  exact ⟨fun q => (strKind P w).inj (.str z tk) z k (strKind_is P w z tk) q, fun q => by rw [← show z = k from q]; exact strKind_is P w z tk⟩
theorem goodT_mem {l : List (Int × Value)} (g : ∀ e ∈ l, GoodT w e) (k : Str) : k ∈ l.map keyT ↔ ∃ e ∈ l, (strKind P w).is k e.2 = true :=
  List.mem_map.trans ⟨fun ⟨e, he, q⟩ => ⟨e, he, (goodT_is (g e he) k).2 q⟩, fun ⟨e, he, q⟩ => ⟨e, he, (goodT_is (g e he) k).1 q⟩⟩
theorem setT_at {ho : h.get? a = some (emptySet w)} : SetT w h a (fun _ => false) 0 :=
  ⟨_, #[], 0, _, ho, ⟨rfl, rfl, rfl⟩, rfl, ⟨fun e he => by simp at he, by simp, fun k => by simp⟩, by decide, by rfl, rfl, List.Pairwise.nil, by
    show _ ∨ (!w.params.followText "set-order") = true
    cases w.params.followText "set-order"
    · exact .inr rfl
    · exact .inl rfl⟩
end
section
variable {P : Program} {w : World} {A : Around} {E : Value → Shared → Prop} {s : Shared} {a : Addr} {S : Str → Bool} {n : Nat}
/-- a member more, where it is laid -/
theorem setT_tail {g : Bool → Sem Unit} (hg : ∀ (b : Bool) (s₁ : Shared) (Q' : Unit → Shared → Prop), Q' () s₁ → wpAny (model P w) A (g b) Q' E s₁)
    {o : Obj} {es es1 : Array (Int × Value)} {ep : Nat} {t t2 : SetTable} {S' : Str → Bool} (ho : s.heap.get? a = some o) (hex : o.ExactSet) (hd : o.data = .set es ep t)
    (gm : (∀ e ∈ es1.toList, GoodT w e) ∧ (es1.toList.map keyT).Nodup ∧ ∀ k, S' k = true ↔ k ∈ es1.toList.map keyT)
    (hb1 : es1.size < scanBound) (hf2 : t2.fits es1.size = true) (hr : Ris t2.place.toList) (hl : w.params.followText "set-order" = true ∨ t2.led = true) {dm : Bool} {R : Option Bool → Shared → Prop}
    (hR : ∀ h', Heap.SameBut a s.heap h' → SetT w h' a S' es1.size → R (some true) { s with heap := h' }) :
    wpAny (model P w) A (do
        storeSet a es1 t2
        if (!dm && t2.tooFull) = true then do
            g (relayAll t2 es1 (SetTable.grown es1.size)).2.2
            storeSet a (relayAll t2 es1 (SetTable.grown es1.size)).1 (relayAll t2 es1 (SetTable.grown es1.size)).2.1
            pure (some true)
          else pure (some true)) R E s := by
  have one := store_at (es' := es1) (t' := t2) ho hd
  have b1 := Heap.SameBut.update s.heap a (Obj.putSet es1 t2)
  refine wpAny_bind (wpAny_storeSet_of ho hd ?_ (fits_of_scanBound hb1))
  split
  case isFalse => exact wpAny_pure (hR _ b1 ⟨_, es1, _, t2, one, hex, rfl, gm, hb1, hf2, rfl, hr, hl⟩)
  have pm := relayAll_perm t2 es1 (SetTable.grown es1.size)
  have f3 := relayAll_fits t2 es1 (SetTable.grown es1.size)
  have r3 := relayAll_ris t2 es1 (SetTable.grown es1.size)
  have l3 := relayAll_led t2 es1 (SetTable.grown es1.size)
  generalize relayAll t2 es1 (SetTable.grown es1.size) = Z at pm f3 r3 l3 ⊢
  obtain ⟨es2, t3, gave⟩ := Z
  dsimp only at pm f3 r3 l3 ⊢
  have sz : es2.size = es1.size := by rw [← Array.length_toList, pm.length_eq, Array.length_toList]
  have b2 : es2.size < scanBound := sz.symm ▸ hb1
  refine wpAny_bind (hg _ _ _ (wpAny_bind (wpAny_storeSet_of one rfl ?_ (fits_of_scanBound b2))))
  refine wpAny_pure (hR _ (b1.trans (Heap.SameBut.update _ a _)) ⟨_, es2, _, t3, store_at (es' := es2) (t' := t3) one rfl, hex, rfl, ?_, b2, f3, sz, r3, hl.imp id fun z => l3.trans z⟩)
  exact ⟨fun e he => gm.1 e (pm.mem_iff.mp he), (pm.map keyT).nodup_iff.mpr gm.2.1, fun k => (gm.2.2 k).trans (pm.map keyT).mem_iff.symm⟩
theorem setT_hashed {k : Str} {tk : Tok} {Q : Bool → Shared → Prop} (R : SetT w s.heap a S n) (room : n + 1 < scanBound)
    (hQ : ∀ h', Heap.SameBut a s.heap h' → SetT w h' a (fun j => S j || decide (j = k)) (if S k = true then n else n + 1) → Q (!S k) { s with heap := h' }) :
    wpAny (model P w) A (setAddHashed a (.str k tk) (hashStr w k)) Q E s := by
  obtain ⟨o, es, ep, t, ho, hex, hd, ⟨g, nd, hm⟩, hb, hf, hn, hr, hl⟩ := R
  have hsc : (Value.str k tk).scannable = true := rfl
  have hel : ElemsOf (strKind P w) es.toList := goodT_elems g
  unfold setAddHashed setAddHashedIn
  refine wpAny_holding (wpAny_bind (wpAny_setState_of ho hd hf ?_))
  dsimp only
  rw [byScan_of hsc hb hel]
  simp only [↓reduceIte]
  unfold setAddByScan
  refine wpAny_bind (wpAny_bind (wpAny_rule (wpAny_bind (wpAny_setScan_of (strKind_is P w k tk) ho hd hf hel ?_))))
  cases hfi : List.findIdx? (fun e => (strKind P w).is k e.2) es.toList with
  | some j =>
    dsimp only
    obtain ⟨hj, pj, _⟩ := List.findIdx?_eq_some_iff_getElem.mp hfi
    have hSk : S k = true := (hm k).2 ((goodT_mem (P := P) g k).2 ⟨es.toList[j], List.getElem_mem hj, pj⟩)
    have q := hQ s.heap (Heap.SameBut.refl a s.heap) ⟨o, es, ep, t, ho, hex, hd, ⟨g, nd, fun i => by
      rw [Bool.or_eq_true, decide_eq_true_eq, ← hm i]
      exact ⟨fun z => z.elim id (fun e => e ▸ hSk), .inl⟩⟩, hb, hf, by rw [if_pos hSk]; exact hn, hr, hl⟩
    rw [hSk] at q
    exact wpAny_pure (wpAny_pure q)
  | none =>
    dsimp only
    have hnk : k ∉ es.toList.map keyT := fun z => by
      obtain ⟨e, he, q⟩ := (goodT_mem (P := P) g k).1 z
      have c := List.findIdx?_eq_none_iff.mp hfi e he
      rw [q] at c
      cases c
    have hSk : S k = false := Bool.eq_false_iff.mpr fun q => hnk ((hm k).1 q)
    have way : ∀ (b : Bool) {s₁ : Shared} {Q' : Unit → Shared → Prop}, Q' () s₁ → wpAny (model P w) A (match b with | true => rule "set.scan.the-table-gave-way" | false => pure ()) Q' E s₁ :=
      fun b s₁ Q' q => by cases b <;> first | exact wpAny_pure q | exact wpAny_rule q
    have pm := layNew_perm t es (hashStr w k) (.str k tk)
    have f1 := layNew_fits t es (hashStr w k) (.str k tk)
    have r1 := layNew_ris t es (hashStr w k) (.str k tk) hr
    have l1 := layNew_led t es (hashStr w k) (.str k tk)
    generalize layNew t es (hashStr w k) (.str k tk) = Z at pm f1 r1 l1 ⊢
    obtain ⟨es1, t1, dm, gave⟩ := Z
    dsimp only at pm f1 r1 l1 ⊢
    rw [Array.toList_push] at pm
    have pc : es1.toList.Perm ((hashStr w k, Value.str k tk) :: es.toList) := pm.trans (List.perm_append_singleton _ _)
    have pk : (es1.toList.map keyT).Perm (k :: es.toList.map keyT) := pc.map keyT
    have gm : (∀ e ∈ es1.toList, GoodT w e) ∧ (es1.toList.map keyT).Nodup ∧ ∀ i, (S i || decide (i = k)) = true ↔ i ∈ es1.toList.map keyT := by
      refine ⟨fun e he => (List.mem_cons.mp (pc.mem_iff.mp he)).elim (fun z => by rw [z]; exact ⟨k, tk, rfl, rfl⟩) (g e), pk.nodup_iff.mpr (List.nodup_cons.mpr ⟨hnk, nd⟩), fun i => ?_⟩
      rw [Bool.or_eq_true, decide_eq_true_eq, hm i, pk.mem_iff, List.mem_cons]
      exact Or.comm
    have sz : es1.size = n + 1 := by rw [← Array.length_toList, pc.length_eq, List.length_cons, Array.length_toList, hn]
    have b1 : es1.size < scanBound := sz.symm ▸ room
    have led : w.params.followText "set-order" = true ∨ t1.led = true := hl.imp id fun z => l1.trans z
    have fin : ∀ h', Heap.SameBut a s.heap h' → SetT w h' a (fun j => S j || decide (j = k)) es1.size → Q true { s with heap := h' } := fun h' sb r => by
      have q := hQ h' sb
      rw [hSk] at q
      rw [sz] at r
      exact q r
    refine wpAny_bind (way _ ?_)
    split
    · refine wpAny_bind ?_
      rw [hashByValue_scannable 8 hsc]
      refine wpAny_pure (setT_tail ?_ ho hex hd gm b1 ?_ ?_ ?_ ?_)
      · intro b s₁ Q' q; cases b <;> first | exact wpAny_pure q | exact wpAny_rule q
      · first | (split <;> first | exact f1 | exact SetTable.fits_plain_off f1) | exact f1
      · first | (split <;> exact r1) | exact r1
      · first | (split <;> exact led) | exact led
      · intro h' sb r; dsimp only; exact wpAny_pure (fin h' sb r)
    · refine wpAny_bind (wpAny_pure ?_)
      simp only [↓reduceIte]
      refine setT_tail ?_ ho hex hd gm b1 f1 r1 led ?_
      · intro b s₁ Q' q; cases b <;> first | exact wpAny_pure q | exact wpAny_rule q
      · intro h' sb r; dsimp only; exact wpAny_pure (fin h' sb r)
end
end FF
/-! Fivefault, part 51: sets of texts over the layer. -/
namespace FF
open PySem PySem.Spec PyProof.Rows L2
/-- the set of texts at a -/
def SetTO (w : World) (a : Addr) (S : Str → Bool) (n : Nat) : HO := .ext fun h => SetT w h a S n
theorem setTO_new {w : World} {P : Program} {H : Hp} {h : Heap} {a : Addr} {S : Str → Bool} {n : Nat} (R : SetT w h a S n) : ObjOk P w H h a (SetTO w a S n) := by
  have ⟨o, _, _, _, ho, _⟩ := R
  exact ⟨R, ⟨o, ho⟩, fun h1 h2 p k => SetT.at p k⟩
theorem setTO_get {X : Cx} {pins : List (Addr × Obj)} {σ : L2.St} {H : Hp} {s : Shared} {a : Addr} {S : Str → Bool} {n : Nat} (I : Inv X pins σ H s) (ha : H a = some (SetTO X.w a S n)) : SetT X.w s.heap a S n := (I.hok a _ ha).1
/-- sorted(s), s a set of texts -/
def rSortedT (w : World) : List V → Hp → VK → Prop := fun xs H Q => ∃ (a : Addr) (S : Str → Bool) (n : Nat), xs = [.ref a] ∧ H a = some (SetTO w a S n) ∧ ∀ ys p, ys.Nodup → (∀ k, k ∈ ys ↔ S k = true) → ys.length = n → sortedS ys = true → H p = none → Q (.ref p) (upd H p (.lst (ys.map V.str)))
theorem cr_sortedT {X : Cx} (calm : X.calm = true) : CallR X (.builtin "sorted") (rSortedT X.w) := by
  intro pins s σ H xs us Q I r h
  obtain ⟨a, S, n, rfl, ha, q⟩ := h
  obtain ⟨u, rfl, rx⟩ := vals1 r
  cases rx
  obtain ⟨o, es, ep, t, ho, hex, hd, ⟨g, nd, hm⟩, hb, hf, hn, hr, hl⟩ := setTO_get I ha
  refine Calls.call_function_entry PyProof.Rows.kind_sorted PyProof.Rows.plain_sorted PyProof.Rows.entry_sorted (PyProof.Rows.args_sorted1 _) ?_
  unfold Builtin.«sorted»
  refine wpAny_bind (m := checkCount "sorted" 1 1 _) (wpAny_pure ?_)
  refine wpAny_bind (collect_set (A := X.A.in1) (I.ok.hd calm) ⟨o, ho, hex.1, hd⟩ hf hb hr hl fun s1 vs k1 hz g1 o1 pm => ?_)
  have len : vs.length = n := by rw [pm.length_eq, List.length_map, Array.length_toList]; exact hn
  have line : n ≤ sizeLine := by rw [← hn]; exact fits_of_scanBound hb
  have hS : StrsAre vs (vs.map fun v => keyT (0, v)) := strs_at (by rw [List.length_map]) fun j v e => by
    obtain ⟨e1, he, q⟩ := List.mem_map.mp (pm.mem_iff.mp (List.mem_of_getElem? e))
    obtain ⟨z, tk, h1, _⟩ := g e1 he
    have ev : v = .str z tk := by rw [← q]; exact h1
    exact ⟨z, tk, by rw [List.getElem?_map, e, ev] <;> rfl, ev⟩
  have pk : (vs.map fun v => keyT (0, v)).Perm (es.toList.map keyT) := by
    have := pm.map fun v => keyT (0, v)
    rw [List.map_map] at this
    exact this
  have I1 : Inv X pins σ H s1 := I.call' (ch := []) o1 (Un.kept k1) (I.hok.kept k1) (by rw [g1]; exact I.bare) (fun _ z => nomatch z)
  refine wpAny_bind (wpAny_newList ?_ (by rw [len]; exact line))
  have new : (s1.heap.push (seqObj "list" vs.toArray 0)).get? s1.heap.objs.size = some (seqObj "list" vs.toArray 0) := Heap.get?_push_size _ rfl
  refine wpAny_bind (wpAny_holding (wpAny_call_entry PyProof.Rows.slot_list_sort ⟨_, new, rfl⟩ PyProof.Rows.entry_list_sort
    (list_sort_treeKSt strKind_oneLt (s := { s1 with heap := s1.heap.push (seqObj "list" vs.toArray 0) }) new hS.keysOf (fun v1 v2 rest e => keyKind_strs (by rw [← e]; exact hS)) (by rw [len]; exact line) fun st' hp hs _ => ⟨_, rfl, ?_⟩)
    (PyProof.Rows.args_list_sort _)))
  obtain ⟨ys, y1, y2, y3⟩ := sorted_out_str hS hp hs
  obtain ⟨e', he'⟩ := PyProof.Rows.sortedHeap_at (vs := vs) (out := (arrOf st').map (·.2)) new
  have ylen : ys.length = n := by rw [y2.length_eq, List.length_map, len]
  have size : (ys.map V.str).length ≤ sizeLine := by rw [List.length_map, ylen]; exact line
  have old : ∀ b o, s1.heap.get? b = some o → (sortedHeap (s1.heap.push (seqObj "list" vs.toArray 0)) s1.heap.objs.size vs ((arrOf st').map (·.2))).get? b = some o := fun b o e => by
    have hb := Heap.lt_size e
    rw [PyProof.Rows.sortedHeap_old (Nat.ne_of_lt hb) (by rw [size_push']; exact Nat.lt_succ_of_lt hb)]
    exact Heap.get?_push_of_some _ e
  have yk := y2.trans pk
  exact wpAny_pure ⟨_, rfl, .ref s1.heap.objs.size, upd H s1.heap.objs.size (.lst (ys.map V.str)), I1.laid (t' := s1.toks) old (Nat.le_refl _) ⟨size, ((arrOf st').map (·.2)).toList, e', vals_of_strs y1, by rw [Array.toArray_toList]; exact he'⟩, rfl, q ys _ (yk.nodup_iff.mpr nd) (fun k => by rw [yk.mem_iff, ← hm k]) ylen y3 (I1.hok.fresh (Nat.le_refl _))⟩
end FF
/-! Fivefault, part 52: set(xs), xs a list of texts. -/
namespace FF
open PySem PySem.Spec PyProof.Rows L2
section
variable {P : Program} {w : World} {A : Around} {E : Value → Shared → Prop} {s : Shared}
theorem setT_update {I : Addr} {fp wr : List Addr} {G : Array GenState → Array GenState → Prop} {n : Nat} {Pv : Nat → Value → Prop} {St : Nat → Shared → Prop} {R : Result → Shared → Prop}
    (W : WalksS P w A.in1 I fp wr G n Pv St) (D : Addr) (hD : D ∉ fp) (zs : List Str) (hn : n = zs.length) (hb : zs.length + 1 < scanBound) (hval : ∀ i v, Pv i v → ∃ z t, zs[i]? = some z ∧ v = .str z t) :
    ∀ (k i : Nat) (s : Shared), n - i = k → i ≤ n → St i s → (∃ c, c ≤ i ∧ SetT w s.heap D (fun j => decide (j ∈ zs.take i)) c) →
      (∀ s' c, Moved (D :: wr) G s s' → c ≤ n → SetT w s'.heap D (fun j => decide (j ∈ zs)) c → R (.ok (.ret .none)) s') →
      codeAny (model P w) A (.builtin "set.update.loop" ⟨[.ref D, .ref I], []⟩) R s := by
  have hw : D ∉ wr := fun h => hD (W.sub _ h)
  have sub : ∀ b ∈ wr, b ∈ D :: wr := fun b hb => List.mem_cons_of_mem _ hb
  intro k
  induction k with
  | zero =>
    intro i s hk hi hst ⟨c, hc, hS⟩ hR
    obtain rfl : i = n := by omega
    refine codeAny_builtin PyProof.Rows.F.entry_set_update_loop ?_
    rw [Around.under_plainId PyProof.Rows.F.plain_set_update_loop _]
    show wpAny _ A.in1 (pyNext (.ref I) >>= _) _ _ s
    refine wpAny_bind (W.done s _ _ hst fun s' hm => ?_)
    show wpAny _ A.in1 (ret Value.none) _ _ s'
    rw [List.take_of_length_le (by omega)] at hS
    exact wpAny_pure (hR s' c (hm.mono sub) hc (hS.at fun o e => hm.heap D o hw e))
  | succ k ih =>
    intro i s hk hi hst ⟨c, hc, hS⟩ hR
    have hlt : i < n := by omega
    refine codeAny_builtin PyProof.Rows.F.entry_set_update_loop ?_
    rw [Around.under_plainId PyProof.Rows.F.plain_set_update_loop _]
    show wpAny _ A.in1 (pyNext (.ref I) >>= _) _ _ s
    refine wpAny_bind (W.item i s _ _ hlt hst fun v s' hP hst' hm => ?_)
    obtain ⟨z, t, hz, rfl⟩ := hval i v hP
    have h1 : SetT w s'.heap D (fun j => decide (j ∈ zs.take i)) c := hS.at fun o e => hm.heap D o hw e
    show wpAny _ A.in1 (holding [Value.str z t] (setAdd D (.str z t)) >>= _) _ _ s'
    refine wpAny_bind (wpAny_holding ?_)
    unfold setAdd
    refine wpAny_holding (wpAny_bind ((strKind P w).pyHash (k := z) (strKind_is _ _ _ _) ?_))
    refine setT_hashed (s := { s' with toks := s'.toks + 1 }) h1 (by omega) fun h' sb h2 => ?_
    have h3 : SetT w h' D (fun j => decide (j ∈ zs.take (i + 1))) (if decide (z ∈ zs.take i) = true then c else c + 1) := h2.congr fun j => by
      rw [List.take_add_one, hz]
      simp [List.mem_append]
    have c3 : (if decide (z ∈ zs.take i) = true then c else c + 1) ≤ i + 1 := by split <;> omega
    refine wpAny_pure ⟨plainId_quiet PyProof.Rows.F.plain_set_update_loop _, ih (i + 1) _ (by omega) hlt (W.frame _ s' _ _ hst' (Nat.le_succ _) fun b hb o e => ?_) ⟨_, c3, h3⟩ fun s'' c2 m2 hc2 h4 => ?_⟩
    · rw [sb.2 b (fun h : b = D => hD (by rw [← h]; exact hb))]
      exact e
    · refine hR s'' c2 (Moved.trans W.gtrans ((hm.mono sub).then_heap (Nat.le_succ _) fun b o hb e => ?_) m2) hc2 h4
      rw [sb.2 b (fun h : b = D => hb (by rw [h]; exact List.mem_cons_self))]
      exact e
set_option maxRecDepth 100000 in
set_option maxHeartbeats 3200000 in
theorem call_set_strs {l : Addr} {items : Array Value} (zs : List Str) {Q : Value → Shared → Prop} (hh : A.handled = none) (hl : s.heap.IsList l items) (hit : StrsAre items.toList zs) (hb : zs.length + 1 < scanBound)
    (h : ∀ (h' : Heap) (tk c : Nat), SetT w h' s.heap.objs.size (fun j => decide (j ∈ zs)) c → c ≤ zs.length → (∀ b o, s.heap.get? b = some o → h'.get? b = some o) → Q (.ref s.heap.objs.size) { s with heap := h', toks := tk }) :
    wpAny (model P w) A (call (.type "set") [.ref l]) Q E s := by
  have isz : items.size = zs.length := by
    have q := StrsAre.length hit
    rw [Array.length_toList] at q
    exact q
  obtain ⟨c, tl, hmro⟩ := PySem.F.called_set.mro
  have hmade := PySem.F.called_set.made
  have hsub := PySem.F.called_set.sub
  refine wpAny_call (codeAny_of_tree ?_)
  show wpAny _ _ (callAny (.type "set") _) _ _ _
  refine wpAny_pure ⟨Code.quiet_builtin _ (by decide +kernel), codeAny_builtin PySem.F.entry_type_call ?_⟩
  rw [Around.under_plain (weight_type_call_type "set" [.ref l] []) rfl]
  have h1 := PySem.F.called_set.notType
  have h2 := PySem.F.called_set.canCreate
  have hct := PySem.F.typeCall_set_1 (.ref l)
  repeat (any_goals (first | assumption | wp_step))
  refine codeAny_mono (code_set_led1 (.ref l) (E := E) (Q₁ := fun obj s₁ => obj = .ref s.heap.objs.size ∧ s₁ = { s with heap := s.heap.push (emptySet w) }) ⟨rfl, rfl⟩) fun r s₁ hr => ?_
  cases r with
  | error e => exact hr
  | ok fl =>
    cases fl with
    | ret obj =>
      obtain ⟨rfl, rfl⟩ := hr
      have hS : (s.heap.push (emptySet w)).get? s.heap.objs.size = some (emptySet w) := Heap.get?_push_size _ rfl
      have hT : Shared.TypeIs { s with heap := s.heap.push (emptySet w) } (.ref s.heap.objs.size) "set" := ⟨_, hS, rfl⟩
      have hli := PySem.F.called_set.init.lookup
      have hbi := PySem.F.called_set.init.bind (.ref s.heap.objs.size)
      repeat (any_goals (first | assumption | wp_step))
      refine codeAny_mono (codeAny_call_builtin (R := wants (fun r s₂ => r = .none ∧ ∃ h' tk c, s₂ = { s with heap := h', toks := tk } ∧ SetT w h' s.heap.objs.size (fun j => decide (j ∈ zs)) c ∧ c ≤ zs.length ∧
          (∀ b o, s.heap.get? b = some o → h'.get? b = some o)) E) PySem.F.called_set.init.plain PySem.F.entry_set_init (check_set_init_1 hT ?_)) fun r₂ s₂ hr₂ => ?_
      · obtain ⟨ol, hol, hcl, nl, hdl⟩ := hl
        obtain ⟨ocls, odict, odata, oslots⟩ := ol
        simp only at hcl hdl
        subst hcl; subst hdl
        have hol' : (s.heap.push (emptySet w)).get? l = some { cls := .type "list", dict := odict, data := .seq items nl, slots := oslots } := Heap.get?_push_of_some _ hol
        have hsls := PySem.F.sub_list_set
        have hslf := PySem.F.sub_list_frozenset
        have hne : (Value.type "list" == Value.type "dict") = false := by decide
        have hl1 : (s.heap.push (emptySet w)).IsList l items := ⟨_, hol', rfl, nl, rfl⟩
        unfold Builtin.«set.__init__» noKeywords Builtin.Frozenset.updateFrom
        generalize hPI : pyIter = PI
        wp_walk
        subst hPI
        refine wpAny_pyIter_list hl1 ?_
        refine wpAny_bind (wpAny_runValue ?_)
        have lS : l < s.heap.objs.size := Heap.lt_size hol
        have hh3 : A.in1.in1.in1.handled = none := by simp [hh]
        have neI : l ≠ (s.heap.push (emptySet w)).objs.size := by
          rw [Heap.size_push]; exact Nat.ne_of_lt (Nat.lt_succ_of_lt lS)
        have sf : s.heap.objs.size ∉ [(s.heap.push (emptySet w)).objs.size, l] := by
          rw [Heap.size_push]; simp only [List.mem_cons, List.mem_singleton, List.not_mem_nil, or_false, not_or]
          exact ⟨Nat.ne_of_lt (Nat.lt_succ_self _), Nat.ne_of_gt lS⟩
        have hval : ∀ (i : Nat) (v : Value), items[i]? = some v → ∃ z t, zs[i]? = some z ∧ v = .str z t := fun i v hv => by
          obtain ⟨z, t, e1, e2⟩ := StrsAre.item hit i v (by rw [Array.getElem?_toList]; exact hv)
          exact ⟨z, t, e2, e1⟩
        refine setT_update ((Walks.list hh3 _ l neI items).toS) s.heap.objs.size sf zs isz hb hval (items.size - 0) 0 _ (by omega) (Nat.zero_le _)
          ⟨⟨_, Heap.get?_push_size _ rfl, rfl, rfl⟩, (hl1.push _)⟩ ?hS0 ?hR
        case hS0 =>
          have g : ((s.heap.push (emptySet w)).push { cls := .type "list_iterator", data := .fields #[.ref l, .int 0 0] }).get? s.heap.objs.size = some (emptySet w) := Heap.get?_push_of_some _ hS
          exact ⟨0, Nat.le_refl 0, (setT_at (ho := g)).congr fun j => by simp⟩
        case hR =>
          intro s' c' hm hc' hS'
          obtain ⟨h', g2, d', tk', os'⟩ := s'
          have eg : g2 = s.gens := hm.gens
          have ed : d' = s.drawn := hm.drawn
          have eo : os' = s.os := hm.os
          subst eg; subst ed; subst eo
          show wpAny _ _ _ _ _ _
          refine wpAny_pure ?_
          show wpAny _ _ (ret Value.none) _ _ _
          rw [isz] at hc'
          refine wpAny_pure ⟨rfl, h', tk', c', rfl, hS', hc', fun b o e => ?_⟩
          have hb0 : b < s.heap.objs.size := Heap.lt_size e
          have hb1 : b ≠ s.heap.objs.size := Nat.ne_of_lt hb0
          have hb2 : b ≠ (s.heap.push (emptySet w)).objs.size := by
            rw [Heap.size_push]; exact Nat.ne_of_lt (Nat.lt_succ_of_lt hb0)
          exact hm.heap b o (by simp only [List.mem_cons, List.mem_singleton, List.not_mem_nil, or_false, not_or]; exact ⟨hb1, hb2⟩) (Heap.get?_push_of_some _ (Heap.get?_push_of_some _ e))
      · cases r₂ with
        | error e => exact hr₂
        | ok fl₂ =>
          cases fl₂ with
          | ret r =>
            obtain ⟨rfl, h', tk, c', rfl, hS', hc', hk'⟩ := hr₂
            repeat (any_goals (first | assumption | wp_step))
            exact h _ _ _ hS' hc' hk'
          | _ => exact hr₂.elim
    | _ => exact hr.elim
end
/-- set(xs), xs a list of texts -/
def rSetS (K : PySem.W.Frag) (w : World) : List V → Hp → VK → Prop := fun xs H Q => ∃ (p : Addr) (zs : List Str), xs = [.ref p] ∧ SqL K H p (zs.map V.str) ∧ zs.length ≤ 1000 ∧ ∀ D n, H D = none → n ≤ zs.length → Q (.ref D) (upd H D (SetTO w D (fun j => decide (j ∈ zs)) n))
theorem cr_setS {X : Cx} (hc : X.calm = true) : CallR X (.type "set") (rSetS X.K X.w) := by
  intro pins s σ H xs us Q I r h
  obtain ⟨p, zs, rfl, hq, hl, q⟩ := h
  obtain ⟨u, rfl, r1⟩ := r.one
  cases r1
  obtain ⟨its, rv, pt, hz⟩ := I.list hq
  refine call_set_strs zs (I.ok.hd hc) pt.isList (strs_of_vals rv) (by unfold scanBound; omega) fun h' tk c R1 hcn k => ?_
  have hn : H s.heap.objs.size = none := I.hok.fresh (Nat.le_refl _)
  exact ⟨.ref _, upd H s.heap.objs.size (SetTO X.w s.heap.objs.size (fun j => decide (j ∈ zs)) c), I.laid (t' := tk) k (Nat.le_refl _) (setTO_new R1), rfl, q _ _ hn hcn⟩
end FF
/-! Fivefault, part 53: yield from xs, xs a list; max(xs, default = n). -/
namespace FF
open PySem PySem.Spec PyProof.Rows L2
section
variable {prog : Program} {w : World} {A : Around} {E : Value → Shared → Prop} {s : Shared}
end
/-! ### max(xs, default = n), xs a list of ints -/
end FF
/-! Fivefault, part 54: {x for x in xs if ..} over a list, texts. -/
namespace FF
open PySem PySem.Spec PyProof.Rows L2
end FF
/-! Fivefault, part 55: {e for a in xs for b in ys}. -/
namespace FF
open PySem PySem.Spec PyProof.Rows L2
section
variable {prog : Program} {w : World} {A : Around} {R : Result → Shared → Prop} {s : Shared} {el ga ia gb ib : Expr} {cs ds : List Expr} {scope : Scope} {pos : Pos} {it : Value} {D : Addr} {env : Env}
end
end FF
/-! Fivefault, part 56: {z for x in xs for z in f(x)} over lists, texts. -/
namespace FF
open PySem PySem.Spec PyProof.Rows L2
end FF
/-! Fivefault, part 57: x != y by an own __eq__ (no own __ne__). -/
namespace FF
open PySem PySem.Spec PyProof.Rows L2
section
variable {M : Model} {prog : Program} {w : World} {A : Around} {E : Value → Shared → Prop} {s : Shared} {K : PySem.W.Frag} {x y C f : Addr} {ox : Obj} {od : Option Obj}
end
end FF
/-! Fivefault, part 58: comprehensions over the keys of a dict, and with two fors, told by the place. -/
namespace FF
open PySem PySem.Spec PyProof.Rows L2
section
variable {K : PySem.W.Frag} {D d : Addr} {o : Obj} {kvs : List (Key × V)} {te : TE} {vs : List Nat} {j : Nat} {σ : L2.St} {H1 : Hp} {Qd : Hp → Prop}
end
section
variable {K : PySem.W.Frag} {D : Addr} {J : It} {n n1 : Nat} {Po P1 : Nat → V → Prop} {wi1 : TI} {te : TE} {vs vs1 : List Nat} {jo ji : Nat} {σ : L2.St} {H1 : Hp} {Qd : Hp → Prop}
end
end FF
/-! Fivefault, part 59: dicts whose keys are texts, whole numbers and nested tuples of such: what stands in the model's heap. -/
namespace FF
open PySem PySem.Spec PyProof.Rows L2
open Sem (wp)
mutual
def nkD : PyData → NestedKey
  | .none => .none
  | .bool b => .num (if b = true then 1 else 0)
  | .int i => .num i
  | .str x => .text x
  | .tuple ds => .tup (nkDs ds)
  | .list _ => .none
  | .dict _ => .none
def nkDs : List PyData → List NestedKey
  | [] => []
  | d :: ds => nkD d :: nkDs ds
end
mutual
/-- data that may be a key: no bools, lists, dicts -/
def keyB : PyData → Bool
  | .none => true
  | .bool _ => false
  | .int _ => true
  | .str _ => true
  | .tuple ds => keyBs ds
  | .list _ => false
  | .dict _ => false
def keyBs : List PyData → Bool
  | [] => true
  | d :: ds => keyB d && keyBs ds
end
/-- a row as it is stored: the key, the key's value, the value -/
abbrev NRow := NestedKey × Value × Value
def entN (w : World) (x : NRow) : DictEntry := ⟨x.1.hash w, x.2.1, x.2.2⟩
section
variable {prog : Program} {w : World} {A : Around} {E : Value → Shared → Prop} {s : Shared} {es : Array DictEntry} {xs : List NRow} {k : NestedKey} {key : Value}
theorem ent_at (he : es.toList = xs.map (entN w)) (j : Nat) : es[j]? = (xs[j]?).map (entN w) := by
  rw [← Array.getElem?_toList, he]
  exact List.getElem?_map
theorem ent_size (he : es.toList = xs.map (entN w)) : es.size = xs.length := by
  have := congrArg List.length he
  rwa [Array.length_toList, List.length_map] at this
abbrev plc (w : World) (es : Array DictEntry) (k : NestedKey) : List Nat := placesWithHash es.size (fun i => es[i]?.map (·.hash)) (k.hash w)
theorem plc_of (he : es.toList = xs.map (entN w)) {i : Nat} {x : NRow} (hi : xs[i]? = some x) (e : x.1 = k) : i ∈ plc w es k := by
  unfold plc placesWithHash
  refine List.mem_filter.mpr ⟨List.mem_range.mpr ?_, ?_⟩
  · rw [ent_size he]
    exact (List.getElem?_eq_some_iff.mp hi).1
  · dsimp only
    rw [ent_at he, hi, ← e]
    exact beq_self_eq_true _
/-- what stands behind the places that were looked at: nothing found, or the one -/
def Seen (xs : List NRow) (k : NestedKey) (pre : List Nat) (hit : Option Nat) : Prop :=
  (hit = none ∧ ∀ i ∈ pre, ∀ x, xs[i]? = some x → x.1 ≠ k) ∨ ∃ j x, hit = some j ∧ j ∈ pre ∧ xs[j]? = some x ∧ x.1 = k
theorem Seen.no {pre : List Nat} {hit : Option Nat} (h : Seen xs k pre hit) {i : Nat} {x : NRow} (hi : xs[i]? = some x) (e : x.1 ≠ k) : Seen xs k (pre ++ [i]) hit := by
  rcases h with ⟨h1, h2⟩ | ⟨j, y, h1, h2, h3⟩
  · refine .inl ⟨h1, fun m hm y hy => ?_⟩
    rcases List.mem_append.mp hm with hm | hm
    · exact h2 m hm y hy
    · rw [List.mem_singleton.mp hm, hi] at hy
      cases hy
      exact e
  · exact .inr ⟨j, y, h1, List.mem_append_left _ h2, h3⟩
theorem Seen.end_ (he : es.toList = xs.map (entN w)) {hit : Option Nat} (h : Seen xs k (plc w es k) hit) : (hit = none ∧ ∀ x ∈ xs, x.1 ≠ k) ∨ ∃ j x, hit = some j ∧ xs[j]? = some x ∧ x.1 = k := by
  rcases h with ⟨h1, h2⟩ | ⟨j, y, h1, h2, h3⟩
  · refine .inl ⟨h1, fun x hx e => ?_⟩
    obtain ⟨i, hi⟩ := List.mem_iff_getElem?.mp hx
    exact h2 i (plc_of he hi e) x hi e
  · exact .inr ⟨j, y, h1, h3⟩
end
end FF
/-! Fivefault, part 60: dicts whose keys are nested tuples: read and written. -/
namespace FF
open PySem PySem.Spec PyProof.Rows L2
open Sem (wp)
/-- at d stands the dict of these rows -/
def DictN (w : World) (h : Heap) (d : Addr) (xs : List NRow) : Prop := ∃ (o : Obj) (es : Array DictEntry) (ep : Nat), h.get? d = some o ∧ o.ExactDict ∧ o.data = .dict es ep ∧ es.toList = xs.map (entN w)
theorem DictN.ty {w : World} {s : Shared} {d : Addr} {xs : List NRow} (h : DictN w s.heap d xs) : s.TypeIs (.ref d) "dict" := let ⟨o, _, _, h1, h2, _⟩ := h; ⟨o, h1, h2.1⟩
theorem DictN.new {w : World} (h : Heap) : DictN w (h.push { cls := .type "dict", data := .dict #[] }) h.objs.size [] := ⟨_, #[], 0, Heap.get?_push_size _ rfl, ⟨rfl, rfl, rfl⟩, rfl, rfl⟩
section
variable {prog : Program} {w : World} {A : Around} {E : Value → Shared → Prop} {s : Shared} {xs : List NRow} {k : NestedKey} {key v : Value} {d : Addr}
end

/-! ### in the abstract heap -/
abbrev KRow := V × PyData × V
def kdR (r : KRow) (x : NRow) : Prop := r.2.1 = r.2.1 ∧ x.1 = nkD r.2.1 ∧ RelV r.1 x.2.1 ∧ RelV r.2.2 x.2.2
/-- the dict at a, its rows (key, what the key is, value) in the order of insertion -/
def kdO (w : World) (a : Addr) (rows : List KRow) : HO := .ext fun h => rows.length ≤ sizeLine ∧ (a == sysModules) = false ∧ ∃ xs : List NRow, Paired kdR rows xs ∧ DictN w h a xs
def KeyOk (K : PySem.W.Frag) (H : Hp) (y : V) (d : PyData) : Prop := Tp K H y d ∧ keyB d = true ∧ (nkD d).depth ≤ 8
structure KD (K : PySem.W.Frag) (w : World) (H : Hp) (a : Addr) (rows : List KRow) : Prop where
  obj : Rd H a (kdO w a rows)
  keys : ∀ r ∈ rows, KeyOk K H r.1 r.2.1
  nod : (rows.map fun r => nkD r.2.1).Nodup
def kGet (kvs : List (PyData × V)) (d : PyData) : Option V := (kvs.find? fun r => decide (nkD r.1 = nkD d)).map (·.2)
def kPut (rows : List KRow) (y : V) (d : PyData) (v : V) : List KRow := if (kGet (rows.map Prod.snd) d).isSome = true then rows.map (fun r => if nkD r.2.1 = nkD d then (r.1, r.2.1, v) else r) else rows ++ [(y, d, v)]
theorem KeyOk.up {K : PySem.W.Frag} {H H' : Hp} {y : V} {d : PyData} (h : KeyOk K H y d) (e : SameT H H') : KeyOk K H' y d := ⟨h.1.up e, h.2⟩
theorem KD.up {K : PySem.W.Frag} {w : World} {H H' : Hp} {a : Addr} {rows : List KRow} (h : KD K w H a rows) (e : Same H H') : KD K w H' a rows := ⟨same_rd e h.obj, fun r hr => (h.keys r hr).up (Same.T e), h.nod⟩
theorem kPut_keys (rows : List KRow) (y : V) (d : PyData) (v : V) : (kPut rows y d v).map (fun r => (r.1, r.2.1)) = if (kGet (rows.map Prod.snd) d).isSome = true then rows.map (fun r => (r.1, r.2.1)) else rows.map (fun r => (r.1, r.2.1)) ++ [(y, d)] := by
  unfold kPut
  split
  · rw [List.map_map]
    refine List.map_congr_left fun r _ => ?_
    dsimp only [Function.comp]
    split <;> rfl
  · rw [List.map_append] <;> rfl
theorem kGet_none_iff {kvs : List (PyData × V)} {d : PyData} : kGet kvs d = none ↔ ∀ r ∈ kvs, nkD r.1 ≠ nkD d := by
  unfold kGet
  rw [Option.map_eq_none_iff, List.find?_eq_none]
  refine forall_congr' fun r => forall_congr' fun _ => ?_
  rw [decide_eq_true_eq]
theorem KD.put_keys {K : PySem.W.Frag} {w : World} {H H' : Hp} {a : Addr} {rows : List KRow} {y v : V} {d : PyData} (h : KD K w H a rows) (hk : KeyOk K H y d) (e : SameT H H') : (∀ r ∈ kPut rows y d v, KeyOk K H' r.1 r.2.1) ∧ ((kPut rows y d v).map fun r => nkD r.2.1).Nodup := by
  have kk := kPut_keys rows y d v
  constructor
  · intro r hr
    have hm : (r.1, r.2.1) ∈ (kPut rows y d v).map fun r => (r.1, r.2.1) := List.mem_map_of_mem (f := fun r : KRow => (r.1, r.2.1)) hr
    rw [kk] at hm
    have old : (r.1, r.2.1) ∈ rows.map (fun r => (r.1, r.2.1)) → KeyOk K H' r.1 r.2.1 := fun hm => by
      obtain ⟨r', hr', er⟩ := List.mem_map.mp hm
      have e1 : r'.1 = r.1 := congrArg (fun p : V × PyData => p.1) er
      have e2 : r'.2.1 = r.2.1 := congrArg (fun p : V × PyData => p.2) er
      rw [← e1, ← e2]
      exact (h.keys r' hr').up e
    split at hm
    · exact old hm
    · rcases List.mem_append.mp hm with hm | hm
      · exact old hm
      · rw [List.mem_singleton] at hm
        have h1 : r.1 = y := congrArg Prod.fst hm
        have h2 : r.2.1 = d := congrArg Prod.snd hm
        rw [h1, h2]
        exact hk.up e
  · have e1 : (kPut rows y d v).map (fun r => nkD r.2.1) = ((kPut rows y d v).map fun r => (r.1, r.2.1)).map fun p => nkD p.2 := by rw [List.map_map] <;> rfl
    have e2 : rows.map (fun r => nkD r.2.1) = (rows.map fun r => (r.1, r.2.1)).map fun p => nkD p.2 := by rw [List.map_map] <;> rfl
    have nod := h.nod
    rw [e2] at nod
    rw [e1, kk]
    split
    · exact nod
    · next hs =>
      rw [List.map_append, List.nodup_append]
      refine ⟨nod, by simp, fun x hx z hz => ?_⟩
      have hz : z = nkD d := by simpa using hz
      subst hz
      rw [← e2] at hx
      obtain ⟨r, hr, rfl⟩ := List.mem_map.mp hx
      have hg : kGet (rows.map Prod.snd) d = none := by
        cases q : kGet (rows.map Prod.snd) d with
        | none => rfl
        | some _ => rw [q] at hs; exact absurd rfl hs
      exact kGet_none_iff.mp hg r.2 (List.mem_map_of_mem hr)
section
variable {X : Cx} {pins : List (Addr × Obj)} {σ : L2.St} {H : Hp} {s : Shared}
variable {a : Addr} {rows : List KRow} {y v : V} {d : PyData} {u r : Value} {A : Around} {E : Value → Shared → Prop}
theorem KD.put (D : KD X.K X.w H a rows) (hw : H a = some (kdO X.w a rows)) (hk : KeyOk X.K H y d) : KD X.K X.w (upd H a (kdO X.w a (kPut rows y d v))) a (kPut rows y d v) := by
  have e : SameT H (upd H a (kdO X.w a (kPut rows y d v))) := (SameT.refl H).upd fun xs z => by rw [hw] at z; cases z
  obtain ⟨h1, h2⟩ := D.put_keys (v := v) hk e
  exact ⟨.inl upd_same, h1, h2⟩
end
theorem KD.new {K : PySem.W.Frag} {w : World} {H : Hp} {p : Addr} : KD K w (upd H p (kdO w p [])) p [] := ⟨.inl upd_same, (fun r hr => nomatch hr), List.nodup_nil⟩
end FF
/-! Fivefault, part 61: rules for dicts whose keys are nested tuples; the dict comprehension. -/
namespace FF
open PySem PySem.Spec PyProof.Rows L2
section
variable {X : Cx} {pins : List (Addr × Obj)} {σ : L2.St} {H : Hp} {s : Shared} {o i e value : Expr} {pos pos' : Pos} {td ty tv : TE} {a : Addr} {rows : List KRow}
end
section
variable {prog : Program} {w : World} {A : Around} {R : Result → Shared → Prop} {s : Shared} {ek ev ga ia : Expr} {cs : List Expr} {scope : Scope} {pos : Pos} {it : Value} {D : Addr} {env : Env}
end
end FF
/-! Fivefault, part 62: walks over lists while other things change (the guard is the list itself). -/
namespace FF
open PySem PySem.Spec PyProof.Rows L2
section
variable {K : PySem.W.Frag} {a : Addr} {xs : List V} {g : TG} {tb : TS} {D : Ends} {σ : L2.St} {H : Hp}
end
end FF
/-! Comprehensions with a test that the items' data decide. -/
namespace FF
open PySem PySem.Spec PyProof.Rows L2
section
variable {K : PySem.W.Frag} {a D : Addr} {xs : List V} {ds : List PyData} {g : TG} {tt : TT} {te : TE} {vs : List Nat} {j : Nat} {σ : L2.St} {H1 : Hp} {Qd : Hp → Prop}
end
end FF
/-! Fivefault, part 63: sorted over pairs of whole numbers. -/
namespace FF
open PySem PySem.Spec PyProof.Rows L2
end FF
/-! Fivefault, part 64: dict(list of pairs) whose keys are nested tuples. -/
namespace FF
open PySem PySem.Spec PyProof.Rows L2
open Sem (wp)
section
variable {prog : Program} {w : World} {A : Around} {E : Value → Shared → Prop}
end
section
variable {X : Cx}
end
end FF
/-! Fivefault, part 65: for target in d, keys nested (the dict is locked). -/
namespace FF
open PySem PySem.Spec PyProof.Rows L2
open Sem (wp)
section
variable {X : Cx} {pins : List (Addr × Obj)} {σ : L2.St} {H : Hp} {s : Shared} {d : Addr} {o : Obj} {rows : List KRow}
end
section
variable {P : Program} {w : World} {K : PySem.W.Frag} {tg : Expr} {d : Addr} {o : Obj} {es : Array DictEntry} {ep : Nat}
end
section
variable {w : World} {d : Addr} {o : Obj} {rows : List KRow} {g : TG} {tb : TS} {D : Ends} {σ : L2.St} {H : Hp}
end
section
variable {prog : Program} {w : World} {A : Around} {E : Value → Shared → Prop} {s : Shared}
end
end FF
/-! Fivefault, part 66: xs[::-1], xs a list. -/
namespace FF
open PySem PySem.Spec PyProof.Rows L2
end FF
/-! Fivefault, part 67: a comprehension's list known as a list while its items are told. -/
namespace FF
open PySem PySem.Spec PyProof.Rows L2
section
variable {K : PySem.W.Frag} {a D : Addr} {xs : List V} {te : TE} {vs : List Nat} {j : Nat} {σ : L2.St} {H1 : Hp} {Qd : Hp → Prop}
end
end FF
/-! Fivefault, part 68: a generator's body with for and if, run into a list or up to its first item. -/
namespace FF
open PySem PySem.Spec PyProof.Rows L2 GenW
/-- who runs the generator -/
inductive Md
  | ls (S : Addr)
  | fs
def Md.pins (M : Md) (ys : List V) (P : List (Addr × Obj)) : Prop := match M with
  | .ls S => ∃ (acc : Array Value) (c : Nat), Vals ys acc.toList ∧ P = [(S, lstObj acc c)]
  | .fs => ys = [] ∧ P = []
/-- the first item -/
def FstY (X : Cx) (Yd : V → Hp → Prop) : Protocol := fun _ _ v s _ => ∃ x ip σ H, RelV x v ∧ Inv X ip σ H s ∧ Yd x H
def Md.proto (X : Cx) (Yd : V → Hp → Prop) : Md → Protocol
  | .ls S => GY X S
  | .fs => FstY X Yd
def MI (X : Cx) (M : Md) (ip : List (Addr × Obj)) (ys : List V) (σ : L2.St) (H : Hp) (s : Shared) : Prop := ∃ P, M.pins ys P ∧ Inv X (P ++ ip) σ H s
structure MC (X : Cx) (M : Md) (ip : List (Addr × Obj)) (A : Around) (c : Code) (fs : List Frame) (gd : Bool → Bool) : Prop where
  own : ∀ S, M = .ls S → (∀ p ∈ X.pn, p.1 ≠ S) ∧ (∀ p ∈ ip, p.1 ≠ S) ∧ Apart X S
  around : A.over c fs = X.A
  split : splitAtGen fs = none
  guard : fs.any Frame.guarded = false
  gd : gd false = false
/-- what is wanted behind a statement; yd: of the first item, if it alone is wanted -/
structure GE where
  nx : List V → L2.St → Hp → Prop
  rt : List V → VK
  bk : List V → L2.St → Hp → Prop := fun _ _ _ => False
  ct : List V → L2.St → Hp → Prop := fun _ _ _ => False
  yd : V → Hp → Prop := fun _ _ => True
abbrev TM := GE → List V → L2.St → Hp → Prop
def GE.at (D : GE) (ys : List V) : Ends := { nx := D.nx ys, rt := D.rt ys, bk := D.bk ys, ct := D.ct ys }
def MSP (X : Cx) (M : Md) (ip : List (Addr × Obj)) (D : GE) (ys : List V) (f : Flow) (s : Shared) : Prop :=
  match f with
  | .next => ∃ σ H, MI X M ip ys σ H s ∧ D.nx ys σ H
  | .brk => ∃ σ H, MI X M ip ys σ H s ∧ D.bk ys σ H
  | .cont => ∃ σ H, MI X M ip ys σ H s ∧ D.ct ys σ H
  | .ret u => ∃ v σ H, MI X M ip ys σ H s ∧ RelV v u ∧ D.rt ys v H
structure MK (X : Cx) (M : Md) (ip : List (Addr × Obj)) (A : Around) (R : GenEnd) (c : Code) (fs : List Frame) (K : Flow → Sem PySem.Fin) (J : Value → Sem PySem.Fin) (D : GE) : Prop where
  ok : ∀ (n : Nat) (ys : List V) (s₀ s : Shared) (f : Flow), n + ys.length = sizeLine → MSP X M ip D ys f s → Seg (model X.prog X.w) A R (M.proto X D.yd) n s₀ c (K f) fs s
  exc : ∀ (n : Nat) (s₀ : Shared) (e : Value) (s : Shared), X.xe e s → Seg (model X.prog X.w) A R (M.proto X D.yd) n s₀ c (J e) fs s
structure MS (X : Cx) (st : Stmt) (t : TM) : Prop where
  run : ∀ (M : Md) (A : Around) (ip : List (Addr × Obj)) (R : GenEnd) (n : Nat) (ys : List V) (s₀ : Shared) (c : Code) (fs : List Frame) (K : Flow → Sem PySem.Fin) (J : Value → Sem PySem.Fin) (gd : Bool → Bool) (lv : List Value → List Value) (s : Shared) (σ : L2.St) (H : Hp) (D : GE),
    MC X M ip A c fs gd → n + ys.length = sizeLine → MK X M ip A R c fs K J D → MI X M ip ys σ H s → t D ys σ H →
    Seg (model X.prog X.w) A R (M.proto X D.yd) n s₀ c ((exec st X.env).wrap K J gd lv) fs s
structure MSs (X : Cx) (sts : List Stmt) (t : TM) : Prop where
  run : ∀ (M : Md) (A : Around) (ip : List (Addr × Obj)) (R : GenEnd) (n : Nat) (ys : List V) (s₀ : Shared) (c : Code) (fs : List Frame) (K : Flow → Sem PySem.Fin) (J : Value → Sem PySem.Fin) (gd : Bool → Bool) (lv : List Value → List Value) (s : Shared) (σ : L2.St) (H : Hp) (D : GE),
    MC X M ip A c fs gd → n + ys.length = sizeLine → MK X M ip A R c fs K J D → MI X M ip ys σ H s → t D ys σ H →
    Seg (model X.prog X.w) A R (M.proto X D.yd) n s₀ c ((execs sts X.env).wrap K J gd lv) fs s
section
variable {X : Cx} {st : Stmt} {rest : List Stmt}
/-! ### yield -/
/-! ### if -/
/-! ### for -/
end
end FF
/-! Fivefault, part 69: list(g(..)) and the first item of g(..), g a generator def with for and if. -/
namespace FF
open PySem PySem.Spec PyProof.Rows L2 GenW
/-- the promise of a generator def of which the first item alone is taken: what is wanted at the end, of the first item, of an exception -/
abbrev SpF := List V → Hp → (Hp → Prop) → (V → Hp → Prop) → XK → Prop
def FEnd (P : Program) (w : World) (outer : List Env) (H : Hp) (s : Shared) (a : Addr) (g : Nat) (Qe : Hp → Prop) (E : XK) : GenEnd := fun _ _ r s1 =>
  ((r = .ok (.ret .none) ∨ r = .ok .next) ∧ ∃ H', s1.os = s.os ∧ AllBare s1.gens ∧ Un (frs outer) [] H H' s.heap s1.heap ∧ HOk P w H' s1.heap ∧ Qe H') ∨
  ∃ e, r = .error e ∧ (CX P w outer H s E e s1 ∧ s1.heap.IsGen a g)
def FItem (P : Program) (w : World) (outer : List Env) (H : Hp) (s : Shared) (Yd : V → Hp → Prop) : Protocol := fun _ _ v s1 _ =>
  ∃ x H', RelV x v ∧ s1.os = s.os ∧ AllBare s1.gens ∧ Un (frs outer) [] H H' s.heap s1.heap ∧ HOk P w H' s1.heap ∧ Yd x H'
def FMade (P : Program) (w : World) (k : Nat) (outer : List Env) (H : Hp) (s : Shared) (Qe : Hp → Prop) (Yd : V → Hp → Prop) (E : XK) (u : Value) (s' : Shared) : Prop :=
  ∃ (a : Addr) (g : Nat) (c : Code), u = .ref a ∧ s'.heap.IsGen a g ∧ s'.gens[g]? = some (.fresh c) ∧ s'.os = s.os ∧ AllBare s'.gens ∧ s'.heap.NoLimit ∧ (∀ b o, s.heap.get? b = some o → s'.heap.get? b = some o) ∧
    ∀ (A : Around) (s2 : Shared), Room k A → A.frames = some outer → (∀ b o, s'.heap.get? b = some o → s2.heap.get? b = some o) → s2.os = s.os → AllBare s2.gens →
      Seg (model P w) A (FEnd P w outer H s a g Qe E) (FItem P w outer H s Yd) sizeLine s2 c ((model P w).den c) [] s2
structure GFst (P : Program) (w : World) (K : PySem.W.Frag) (mg : Str → Option Value) (base : Heap) (k : Nat) (f : Addr) (fd : FuncData) (ps : List Str) (sp : SpF) : Prop where
  len : ∀ vs H Qe Yd E, sp vs H Qe Yd E → vs.length = ps.length
  run : ∀ (A : Around) (outer : List Env) (s : Shared) (H : Hp) (args : Args) (us : List Value) (vs : List V) (Qe : Hp → Prop) (Yd : V → Hp → Prop) (E : XK), Room k A → Env0 P w K mg base A outer s H → BindsTo s fd args (ps.zip us) → Vals vs us → sp vs H Qe Yd E →
    codeAny (model P w) A (.call (.ref f) args) (fun r s' => match r with
      | .ok (.ret u) => FMade P w k outer H s Qe Yd E u s'
      | _ => False) s
/-! ### the first item taken -/
structure PFst (X : Cx) (k : Nat) (e : Expr) (tg : L2.St → Hp → (Hp → Prop) → (V → Hp → Prop) → Prop) (E : XK) : Prop where
  run : ∀ (pins : List (Addr × Obj)) (s : Shared) (σ : L2.St) (H : Hp) (Qe : Hp → Prop) (Yd : V → Hp → Prop), Inv X pins σ H s → tg σ H Qe Yd → wpAny (model X.prog X.w) X.A (eval e X.env)
    (fun u s' => ∃ H1 sc, Inv X pins σ H1 sc ∧ FMade X.prog X.w k X.stack H1 sc Qe Yd E u s') X.xe s
end FF
/-! Fivefault, part 70: for x in g(..): return .. (the first item alone is taken). -/
namespace FF
open PySem PySem.Spec PyProof.Rows L2 GenW
end FF
/-! Fivefault, part 71: for inside a generator's body, by a walk. -/
namespace FF
open PySem PySem.Spec PyProof.Rows L2 GenW
/-- a generator def, of which the first item alone is taken -/
structure DefF (P : Program) (w : World) (K : PySem.W.Frag) (mg : Str → Option Value) (base : Heap) (x : Str) (k : Nat) (ps : List Str) (sp : SpF) : Prop where
  ex : ∃ (f : Addr) (fd : FuncData), GFst P w K mg base k f fd ps sp ∧ mg x = some (.ref f) ∧ PySem.W.keepIn K (.ref f) = true ∧ Binds K fd ps []
end FF
/-! Fivefault, part 72: exceptions that are no StopIteration. -/
namespace FF
open PySem PySem.Spec PyProof.Rows L2 GenW
end FF
/-! Fivefault, part 73: match: literals, names, alternatives, sequences over a tuple. -/
namespace FF
open PySem PySem.Spec PyProof.Rows L2
abbrev TP := V → L2.St → Hp → (Option (List V) → Hp → Prop) → Prop
abbrev TPs := List V → L2.St → Hp → (Option (List V) → Hp → Prop) → Prop
/-- what a pattern's match leaves: nothing bound, or the values of its names -/
def MP (X : Cx) (pins : List (Addr × Obj)) (σ : L2.St) (ns : List Str) (Q : Option (List V) → Hp → Prop) (r : Option (List (Str × Value))) (s' : Shared) : Prop := match r with
  | none => ∃ H', Inv X pins σ H' s' ∧ Q none H'
  | some bs => ∃ vs H', Inv X pins σ H' s' ∧ bs.map (·.1) = ns ∧ Vals vs (bs.map (·.2)) ∧ Q (some vs) H'
structure PPat (X : Cx) (p : Pattern) (ns : List Str) (t : TP) : Prop where
  run : ∀ (pins : List (Addr × Obj)) (s : Shared) (σ : L2.St) (H : Hp) (v : V) (u : Value) (Q : Option (List V) → Hp → Prop), Inv X pins σ H s → RelV v u → t v σ H Q →
    wpAny (model X.prog X.w) X.A (matchPattern p X.env u) (MP X pins σ ns Q) X.xe s
structure PPats (X : Cx) (ps : List Pattern) (ns : List Str) (t : TPs) : Prop where
  run : ∀ (pins : List (Addr × Obj)) (s : Shared) (σ : L2.St) (H : Hp) (vs : List V) (us : List Value) (Q : Option (List V) → Hp → Prop), Inv X pins σ H s → Vals vs us → t vs σ H Q →
    wpAny (model X.prog X.w) X.A (matchEach ps X.env us) (MP X pins σ ns Q) X.xe s
section
variable {X : Cx} {pos : Pos}
/-- names and their slots -/
inductive Bnd (X : Cx) : List Str → List Nat → Prop
  | nil : Bnd X [] []
  | cons {x : Str} {i : Nat} {ns : List Str} {is : List Nat} : X.N[i]? = some x → Loc X.env.scope x → (X.fn x = true ∨ X.env.scope.names.lookup x = some .local) → Bnd X ns is → Bnd X (x :: ns) (i :: is)
/-- the cases -/
structure PMs (X : Cx) (cs : List MatchCase) (t : V → TS) : Prop where
  run : ∀ (pins : List (Addr × Obj)) (s : Shared) (σ : L2.St) (H : Hp) (v : V) (u : Value) (first : Bool) (D : Ends), Inv X pins σ H s → RelV v u → t v D σ H → wpAny (model X.prog X.w) X.A (matchCases cs X.env u first) (SP X pins D) X.xe s
end
end FF
/-! Fivefault, part 74: an item of a list or a tuple. -/
namespace FF
open PySem PySem.Spec PyProof.Rows L2
end FF
/-! Fivefault, part 75: {e for .. in xs if ..} over a list or a tuple, texts. -/
namespace FF
open PySem PySem.Spec PyProof.Rows L2
end FF
/-! Fivefault, part 76: a law's def at its only call, from outside, where no repr is under way; repr of data. -/
namespace FF
open PySem PySem.Spec PyProof.Rows L2
/-- what a function does at the call from outside -/
structure FnTop (P : Program) (w : World) (K : PySem.W.Frag) (mg : Str → Option Value) (base : Heap) (CX : CXT) (f : Addr) (fd : FuncData) (ps : List Str) (sp : Sp) : Prop where
  run : ∀ (s : Shared) (H : Hp) (args : Args) (us : List Value) (vs : List V) (Q : VK) (E : XK), Env0 P w K mg base callerA [] s H → BindsTo s fd args (ps.zip us) → Vals vs us → sp vs H Q E →
    codeAny (model P w) callerA (.call (.ref f) args) (CR CX [] P w H s Q E) s
end FF
/-! Fivefault, part 77: sorted(d), d a dict with whole numbers as keys. -/
namespace FF
open PySem PySem.Spec PyProof.Rows L2
end FF
/-! Fivefault, part 78: sorted(xs), whole numbers, any number of them. -/
namespace FF
open PySem PySem.Spec PyProof.Rows L2
end FF
/-! Fivefault, part 79: isinstance of dicts, too; != of dicts and of lists of different lengths; [e for x in z], z a text, told by the place. -/
namespace FF
open PySem PySem.Spec PyProof.Rows L2
section
variable {te : TE} {vs : List Nat} {j D : Nat} {σ : L2.St} {H1 : Hp} {Qd : Hp → Prop}
end
end FF
/-! Fivefault, part 80: g(e, .., k = v), g a generator def; a def by two promises. -/
namespace FF
open PySem PySem.Spec PyProof.Rows L2
section
variable {X : Cx} {k n : Nat} {f : Addr} {fd : FuncData} {ps ks : List Str} {sp : SpG} {E : XK} {x : Str} {p pos : Pos} {e : Expr} {es : List Expr} {t : TA} {kws : List Keyword} {tk : TA} {g : List Value → List Value → List Value} {gV : List V → List V → List V}
end
end FF
/-! Fivefault, part 81: the Hook that walks the heap with a set of bits (less memory). -/
namespace FF
open PySem PySem.Spec PyProof.Rows L2
end FF
/-! Fivefault, part 82: x[i:] of a text or a tuple, for over it; while c and (x := e) is not None. -/
-- imports HandS.Flow
namespace FF
open PySem PySem.Spec PyProof.Rows L2
def rSlW (K : PySem.W.Frag) : V → Option Int → Option Int → Hp → VK → Prop := fun x lo hi H Q => rSlT K x lo hi H Q ∨ rSlS x lo hi H Q
theorem sl_wordK {X : Cx} (K : PySem.W.Frag) (h : X.K = K := by rfl) : SlR X (rSlW K) := by
  subst h
  intro pins s σ H x v vl vu lo hi sl Q I rx hs pl pu h
  rcases h with h | h
  · exact sl_tup pins s σ H x v vl vu lo hi sl Q I rx hs pl pu h
  · exact sl_str pins s σ H x v vl vu lo hi sl Q I rx hs pl pu h
def iWord (K : PySem.W.Frag) (te : TE) : TI := fun σ H R => iTup K te σ H R ∨ iStr te σ H R
theorem pi_wordK {X : Cx} (K : PySem.W.Frag) {tg e : Expr} {te : TE} (he : PE X e te) (h : X.K = K := by rfl) : PI X tg e (iWord K te) := by
  subst h
  refine ⟨fun pins s σ H R I h => ?_⟩
  rcases h with h | h
  · exact (pi_tup he).run pins s σ H R I h
  · exact (pi_str he).run pins s σ H R I h
def wNotN (t : TEw) : TTw := fun σ H Q => t σ H fun x σ1 H1 => Q (!decide (x = .non)) σ1 H1
theorem ptw_notN {X : Cx} {a : Expr} {t : TEw} {pos pos' : Pos} {j : Nat} (ha : PEw X a t) (h1 : behindInMarks .IsNot (.Constant .none j pos') = false := by first | rfl | decide) : PTw X (.Compare a [.IsNot] [.Constant .none j pos'] pos) (wNotN t) := by
  refine ⟨fun pins s σ H Q I hw => ?_⟩
  refine wpAny_isTrue_Compare1 (thn (ha.run pins s σ H _ I hw) fun v s1 ⟨x, σ1, H1, I1, r1, q1⟩ => ?_) h1
  refine Constant_none (isnot_none_gen ?_)
  rw [r1.none_iff]
  exact wpAny_truthy_bool ⟨σ1, H1, I1, q1⟩
def wAnd (t : TT) (u : TTw) : TTw := fun σ H Q => t σ H fun c H1 => if c = true then u σ H1 Q else Q false σ H1
theorem ptw_and {X : Cx} {a b : Expr} {t : TT} {u : TTw} {pos : Pos} (ha : PT X a t) (hb : PTw X b u) : PTw X (.BoolOp .And [a, b] pos) (wAnd t u) := by
  refine ⟨fun pins s σ H Q I h => ?_⟩
  refine isTrue_and (thn (ha.run pins s σ H _ I h) fun c s1 ⟨H1, I1, q1⟩ => ?_)
  cases c with
  | false => exact ⟨σ, H1, I1, q1⟩
  | true =>
    refine isTrue_and (thn (hb.run pins s1 σ H1 _ I1 q1) fun c s2 ⟨σ2, H2, I2, q2⟩ => ?_)
    cases c with
    | true => exact isTrue_and_nil ⟨σ2, H2, I2, q2⟩
    | false => exact ⟨σ2, H2, I2, q2⟩
section

set_option maxRecDepth 8000 in
theorem extend_tup (l : Addr) (items : Array Value) (n : Nat) (b : Addr) (items2 : Array Value) (hs0 : ¬(!items.isEmpty && Builtin.List.listTooLong (items.size + items2.size)) = true) (hs1 : items.size ≤ sizeLine) (hs2 : items.size + items2.size ≤ sizeLine + 1) :
    Meets (Builtin.«list.extend» ⟨[.ref l, .ref b], []⟩) (fun _ R s => s.heap.get? l = some { cls := .type "list", dict := none, data := .seq items n, slots := #[] } ∧ IsTup s.heap b items2 ∧ R (.ok (.ret Value.none)) { s with heap := s.heap.update l (Obj.mapSeq fun x => x ++ items2), toks := s.toks }) :=
  .of_wp fun prog w A R s h => by
    obtain ⟨hp, g, d, tk, os⟩ := s
    obtain ⟨hl, ⟨ob, hb, hcl, n2, hdt⟩, h⟩ := h
    obtain ⟨oc, od, dt, osl⟩ := ob
    dsimp only at hcl hdt
    subst hcl
    subst hdt
    have f1 := AutoSeq1.idx_int; have f2 := AutoSeq1.sub_tuple_tuple; have f3 := AutoSeq1.sub_list_list; have f4 := AutoSeq1.sub_tuple_list; have f5 := AutoSeq1.sub_list_tuple
    have hz' : (items ++ items2).size ≤ sizeLine + 1 := by rw [Array.size_append]; exact hs2
    wp_walk using (wpAny_updateSeq hl rfl (hz := hs1) (_hz' := hz')), AutoSeq1.wpAny_loadPart' hl, AutoSeq1.wpAny_loadPart' hb
    exact ⟨_, rfl, h⟩
end
/-- l.extend(xs), xs a list or a tuple -/
def rExtendS : V → List V → Hp → VK → Prop := fun x vs H Q => rExtend x vs H Q ∨ ∃ l b xs zs, x = .ref l ∧ vs = [.ref b] ∧ H l = some (.lst xs) ∧ H b = some (.tup zs) ∧ xs.length + zs.length ≤ sizeLine ∧ Q .non (upd H l (.lst (xs ++ zs)))
theorem mt_extendS {X : Cx} : MtM X "list.extend" rExtendS := by
  intro pins s σ H x vs v us Q I rx rv h
  rcases h with h | h
  · exact mt_extend pins s σ H x vs v us Q I rx rv h
  obtain ⟨l, b, xs, zs, rfl, rfl, hH, hB, hz, q⟩ := h
  cases rx
  obtain ⟨u, rfl, ru⟩ := rv.one
  cases ru
  obtain ⟨z, its, n, r, hl, e⟩ := I.lstM hH
  obtain ⟨z2, its2, r2, e2⟩ := I.hok b _ hB
  have hl2 := r2.length
  have hsz : its.toArray.size + its2.toArray.size ≤ sizeLine := by rw [List.size_toArray, List.size_toArray]; omega
  have hlong : ¬ (!its.toArray.isEmpty && Builtin.List.listTooLong (its.toArray.size + its2.toArray.size)) = true := by
    rw [notLongL hsz, Bool.and_false]
    exact Bool.false_ne_true
  refine call_meets F.slot_list_extend ⟨_, e, rfl⟩ F.entry_list_extend (F.args_list_extend_2 _ _)
    (extend_tup l its.toArray n b its2.toArray hlong (by rw [List.size_toArray]; omega) (by omega)) ⟨e, e2, ?_⟩
  refine ⟨.non, _, I.lset (its' := its ++ its2) hH e (by simp) (r.append r2) ?_, rfl, q⟩
  rw [List.length_append]
  omega
end FF
/-! Fivefault, part 83: dict(zip(xs, ys)), xs a list of texts. -/
namespace FF
open PySem PySem.Spec PyProof.Rows L2
end FF
namespace FF
open PySem PySem.Spec PyProof.Rows L2
def top (i : Nat) : Stmt := PySem.Challenge.pw_fivefault_k44_whole_least_forms.main.body.getD i (.Pass ⟨0, 0, 0, 0⟩)
def clsSt (s : Stmt) (i : Nat) : Stmt := match s with
  | .ClassDef _ _ _ b .. => b.getD i (.Pass ⟨0, 0, 0, 0⟩)
  | _ => .Pass ⟨0, 0, 0, 0⟩
abbrev s_wall : Stmt := top 0
abbrev s_is_letter : Stmt := top 11
theorem sc_is_letter : FnScope ["value"] ["value"] (defScope s_is_letter) := ⟨rfl, rfl, rfl, by decide +kernel, rfl, by decide +kernel, by decide +kernel⟩
abbrev s_measured : Stmt := top 12
theorem sc_measured : FnScope ["value", "max_depth", "sizes", "part"] ["value", "max_depth"] (defScope s_measured) := ⟨rfl, rfl, rfl, by decide +kernel, rfl, by decide +kernel, by decide +kernel⟩
abbrev s_is_term : Stmt := top 13
theorem sc_is_term : FnScope ["value", "max_depth", "max_size"] ["value", "max_depth", "max_size"] (defScope s_is_term) := ⟨rfl, rfl, rfl, by decide +kernel, rfl, by decide +kernel, by decide +kernel⟩
abbrev s_need_term : Stmt := top 14
theorem sc_need_term : FnScope ["value"] ["value"] (defScope s_need_term) := ⟨rfl, rfl, rfl, by decide +kernel, rfl, by decide +kernel, by decide +kernel⟩
abbrev s_text_of : Stmt := top 16
theorem sc_text_of : FnScope ["term", "operator", "parts", "texts", "part"] ["term"] (defScope s_text_of) := ⟨rfl, rfl, rfl, by decide +kernel, rfl, by decide +kernel, by decide +kernel⟩
abbrev s_below_in : Stmt := top 19
theorem sc_below_in : FnScope ["left", "right"] ["left", "right"] (defScope s_below_in) := ⟨rfl, rfl, rfl, by decide +kernel, rfl, by decide +kernel, by decide +kernel⟩
abbrev s_faces : Stmt := top 20
theorem sc_faces : FnScope ["operator", "one", "other"] ["operator", "one", "other"] (defScope s_faces) := ⟨rfl, rfl, rfl, by decide +kernel, rfl, by decide +kernel, by decide +kernel⟩
abbrev s_flattened : Stmt := top 21
theorem sc_flattened : FnScope ["operator", "parts", "found", "part"] ["operator", "parts"] (defScope s_flattened) := ⟨rfl, rfl, rfl, by decide +kernel, rfl, by decide +kernel, by decide +kernel⟩
abbrev s_thinned : Stmt := top 22
theorem sc_thinned : FnScope ["operator", "parts", "found", "at", "part", "later", "other"] ["operator", "parts"] (defScope s_thinned) := ⟨rfl, rfl, rfl, by decide +kernel, rfl, by decide +kernel, by decide +kernel⟩
abbrev s_shortened : Stmt := top 23
theorem sc_shortened : FnScope ["operator", "parts", "whole", "at", "part", "inner"] ["operator", "parts"] (defScope s_shortened) := ⟨rfl, rfl, rfl, by decide +kernel, rfl, by decide +kernel, by decide +kernel⟩
abbrev s_least_in : Stmt := top 24
theorem sc_least_in : FnScope ["term", "operator", "parts", "part", "shorter", "by_text", "text"] ["term"] (defScope s_least_in) := ⟨rfl, rfl, rfl, by decide +kernel, rfl, by decide +kernel, by decide +kernel⟩
abbrev s_least_form : Stmt := top 25
theorem sc_least_form : FnScope ["term"] ["term"] (defScope s_least_form) := ⟨rfl, rfl, rfl, by decide +kernel, rfl, by decide +kernel, by decide +kernel⟩
abbrev s_is_least : Stmt := top 26
theorem sc_is_least : FnScope ["term"] ["term"] (defScope s_is_least) := ⟨rfl, rfl, rfl, by decide +kernel, rfl, by decide +kernel, by decide +kernel⟩
abbrev s_law_source : Stmt := top 28
theorem sc_law_source : FnScope ["_law_script"] ["_law_script"] (defScope s_law_source) := ⟨rfl, rfl, rfl, by decide +kernel, rfl, by decide +kernel, by decide +kernel⟩
abbrev s_law_take : Stmt := top 29
theorem sc_law_take : FnScope ["_law_source_here", "_law_many", "_law_cell", "_law_digit", "_law_mixed_here"] ["_law_source_here", "_law_many"] (defScope s_law_take) := ⟨rfl, rfl, rfl, by decide +kernel, rfl, by decide +kernel, by decide +kernel⟩
abbrev s_law_pick : Stmt := top 30
theorem sc_law_pick : FnScope ["_law_source_here", "_law_row"] ["_law_source_here", "_law_row"] (defScope s_law_pick) := ⟨rfl, rfl, rfl, by decide +kernel, rfl, by decide +kernel, by decide +kernel⟩
abbrev s_law_mixed : Stmt := top 31
theorem sc_law_mixed : FnScope ["_law_source_here", "_law_row", "_law_found", "_law_one"] ["_law_source_here", "_law_row"] (defScope s_law_mixed) := ⟨rfl, rfl, rfl, by decide +kernel, rfl, by decide +kernel, by decide +kernel⟩
abbrev s_law_same : Stmt := top 32
theorem sc_law_same : FnScope ["_law_found", "_law_due", "_law_key", "_law_one", "_law_other"] ["_law_found", "_law_due"] (defScope s_law_same) := ⟨rfl, rfl, rfl, by decide +kernel, rfl, by decide +kernel, by decide +kernel⟩
abbrev s_law_call : Stmt := top 33
theorem sc_law_call : FnScope ["_law_ask", "_law_told", "_law_word", "e"] ["_law_ask"] (defScope s_law_call) := ⟨rfl, rfl, rfl, by decide +kernel, rfl, by decide +kernel, by decide +kernel⟩
abbrev s_law_parts : Stmt := top 34
theorem sc_law_parts : FnScope ["_law_word"] ["_law_word"] (defScope s_law_parts) := ⟨rfl, rfl, rfl, by decide +kernel, rfl, by decide +kernel, by decide +kernel⟩
abbrev s_law_text : Stmt := top 35
theorem sc_law_text : FnScope ["_law_word", "_law_texts", "_law_one"] ["_law_word"] (defScope s_law_text) := ⟨rfl, rfl, rfl, by decide +kernel, rfl, by decide +kernel, by decide +kernel⟩
abbrev s_law_leaves : Stmt := top 36
theorem sc_law_leaves : FnScope ["_law_word", "_law_one"] ["_law_word"] (defScope s_law_leaves) := ⟨rfl, rfl, rfl, by decide +kernel, rfl, by decide +kernel, by decide +kernel⟩
abbrev s_law_term : Stmt := top 37
theorem sc_law_term : FnScope ["_law_source_here", "_law_signs_here", "_law_deep", "_law_room", "_law_many", "_law_operator", "_law_k"] ["_law_source_here", "_law_signs_here", "_law_deep", "_law_room"] (defScope s_law_term) := ⟨rfl, rfl, rfl, by decide +kernel, rfl, by decide +kernel, by decide +kernel⟩
abbrev s_law_signs : Stmt := top 38
theorem sc_law_signs : FnScope ["_law_source_here", "_law_most", "_law_every"] ["_law_source_here", "_law_most"] (defScope s_law_signs) := ⟨rfl, rfl, rfl, by decide +kernel, rfl, by decide +kernel, by decide +kernel⟩
abbrev s_law_below : Stmt := top 39
theorem sc_law_below : FnScope ["_law_one", "_law_other", "_law_known", "_law_key"] ["_law_one", "_law_other", "_law_known"] (defScope s_law_below) := ⟨rfl, rfl, rfl, by decide +kernel, rfl, by decide +kernel, by decide +kernel⟩
abbrev s_law_below_now : Stmt := top 40
theorem sc_law_below_now : FnScope ["_law_one", "_law_other", "_law_known", "_law_part"] ["_law_one", "_law_other", "_law_known"] (defScope s_law_below_now) := ⟨rfl, rfl, rfl, by decide +kernel, rfl, by decide +kernel, by decide +kernel⟩
abbrev s_law_least : Stmt := top 41
theorem sc_law_least : FnScope ["_law_word", "_law_known", "_law_texts", "_law_one", "_law_other", "_law_part"] ["_law_word", "_law_known"] (defScope s_law_least) := ⟨rfl, rfl, rfl, by decide +kernel, rfl, by decide +kernel, by decide +kernel⟩
abbrev s_law_measure : Stmt := top 42
theorem sc_law_measure : FnScope ["_law_word", "_law_deep", "_law_sizes", "_law_one"] ["_law_word", "_law_deep"] (defScope s_law_measure) := ⟨rfl, rfl, rfl, by decide +kernel, rfl, by decide +kernel, by decide +kernel⟩
abbrev s_law_fits : Stmt := top 43
theorem sc_law_fits : FnScope ["_law_word"] ["_law_word"] (defScope s_law_fits) := ⟨rfl, rfl, rfl, by decide +kernel, rfl, by decide +kernel, by decide +kernel⟩
abbrev s_law_odd : Stmt := top 44
theorem sc_law_odd : FnScope ["_law_source_here", "_law_word", "_law_some"] ["_law_source_here", "_law_word"] (defScope s_law_odd) := ⟨rfl, rfl, rfl, by decide +kernel, rfl, by decide +kernel, by decide +kernel⟩
abbrev s_law_nest : Stmt := top 45
theorem sc_law_nest : FnScope ["_law_many", "_law_word", "_law_k"] ["_law_many"] (defScope s_law_nest) := ⟨rfl, rfl, rfl, by decide +kernel, rfl, by decide +kernel, by decide +kernel⟩
abbrev s_law_same_word : Stmt := top 46
theorem sc_law_same_word : FnScope ["_law_source_here", "_law_word", "_law_known", "_law_way", "_law_other", "_law_parts_here", "_law_at"] ["_law_source_here", "_law_word", "_law_known"] (defScope s_law_same_word) := ⟨rfl, rfl, rfl, by decide +kernel, rfl, by decide +kernel, by decide +kernel⟩
abbrev s_law_rewritten : Stmt := top 47
theorem sc_law_rewritten : FnScope ["_law_source_here", "_law_word", "_law_many", "_law_turn", "_law_later"] ["_law_source_here", "_law_word", "_law_many"] (defScope s_law_rewritten) := ⟨rfl, rfl, rfl, by decide +kernel, rfl, by decide +kernel, by decide +kernel⟩
abbrev s_law_two_words : Stmt := top 48
theorem sc_law_two_words : FnScope ["_law_source_here", "_law_signs_here", "_law_one", "_law_two", "_law_way"] ["_law_source_here"] (defScope s_law_two_words) := ⟨rfl, rfl, rfl, by decide +kernel, rfl, by decide +kernel, by decide +kernel⟩
abbrev s_law : Stmt := top 49
theorem sc_law : FnScope ["_law_script", "_law_source_here", "_law_turn", "_law_word", "_law_known", "_law_found", "_law_odd_here"] ["_law_script"] (defScope s_law) := ⟨rfl, rfl, rfl, by decide +kernel, rfl, by decide +kernel, by decide +kernel⟩
abbrev s_Free___init__ : Stmt := clsSt (top 18) 0
theorem sc_Free___init__ : FnScope ["self"] ["self"] (defScope s_Free___init__) := ⟨rfl, rfl, rfl, by decide +kernel, rfl, by decide +kernel, by decide +kernel⟩
abbrev s_Free_is_below : Stmt := clsSt (top 18) 1
theorem sc_Free_is_below : FnScope ["self", "left", "right", "key"] ["self", "left", "right"] (defScope s_Free_is_below) := ⟨rfl, rfl, rfl, by decide +kernel, rfl, by decide +kernel, by decide +kernel⟩
abbrev s_Free_reason_for : Stmt := clsSt (top 18) 2
theorem sc_Free_reason_for : FnScope ["self", "left", "right", "pairs", "part", "one", "other"] ["self", "left", "right"] (defScope s_Free_reason_for) := ⟨rfl, rfl, rfl, by decide +kernel, rfl, by decide +kernel, by decide +kernel⟩
abbrev s_Free_added : Stmt := clsSt (top 18) 3
abbrev s_Free_step_for : Stmt := clsSt (top 18) 4
abbrev s_Free_written_reason : Stmt := clsSt (top 18) 5
abbrev s_FaultError_init : Stmt := clsSt (top 2) 0
theorem sc_FaultError_init : FnScope ["self", "code"] ["self", "code"] (defScope s_FaultError_init) := ⟨rfl, rfl, rfl, by decide +kernel, rfl, by decide +kernel, by decide +kernel⟩
abbrev s_InvalidTerm_init : Stmt := clsSt (top 4) 0
theorem sc_InvalidTerm_init : FnScope ["self"] ["self"] (defScope s_InvalidTerm_init) := ⟨rfl, rfl, rfl, by decide +kernel, rfl, by decide +kernel, by decide +kernel⟩
structure Top (K : PySem.W.Frag) (mg : Str → Option Value) : Prop where
  b_IndexError : mg "IndexError" = none
  b_LookupError : mg "LookupError" = none
  b_ValueError : mg "ValueError" = none
  b_all : mg "all" = none
  b_any : mg "any" = none
  b_bool : mg "bool" = none
  b_dict : mg "dict" = none
  b_enumerate : mg "enumerate" = none
  b_int : mg "int" = none
  b_isinstance : mg "isinstance" = none
  b_len : mg "len" = none
  b_list : mg "list" = none
  b_range : mg "range" = none
  b_set : mg "set" = none
  b_sorted : mg "sorted" = none
  b_str : mg "str" = none
  b_sum : mg "sum" = none
  b_tuple : mg "tuple" = none
  b_zip : mg "zip" = none
  g_LETTERS : ∃ t, mg "LETTERS" = some (.str "abcdefgh" t)
  g_OPERATORS : mg "OPERATORS" = some (.ref (He.ga K "OPERATORS"))
  t_OPERATORS : ∀ H, SqT K H (He.ga K "OPERATORS") [.str "&", .str "|"]
  g_MAX_DEPTH : ∃ t, mg "MAX_DEPTH" = some (.int 5 t)
  g_MAX_SIZE : ∃ t, mg "MAX_SIZE" = some (.int 24 t)
  c_FaultError : mg "FaultError" = some (.ref (He.ga K "FaultError"))
  c_Missing : mg "Missing" = some (.ref (He.ga K "Missing"))
  c_InvalidTerm : mg "InvalidTerm" = some (.ref (He.ga K "InvalidTerm"))
  c_NothingLeft : mg "NothingLeft" = some (.ref (He.ga K "NothingLeft"))
  c_Free : mg "Free" = some (.ref (He.ga K "Free"))
  x_InvalidTerm : OwnX K "InvalidTerm" "FaultError"
  n_Free_known : PySem.W.findIn K (.ref (He.ga K "Free")) "known" = some none
  n_Free_steps : PySem.W.findIn K (.ref (He.ga K "Free")) "steps" = some none
  n_Free_place : PySem.W.findIn K (.ref (He.ga K "Free")) "place" = some none
  k_Free : Cls K (He.ga K "Free")
  mk_Free : Mk K (He.ga K "Free") (He.ma K (He.ga K "Free") "__init__")
  m_Free_is_below : Meth K (He.ga K "Free") "is_below" (He.ma K (He.ga K "Free") "is_below")
  m_Free_reason_for : Meth K (He.ga K "Free") "reason_for" (He.ma K (He.ga K "Free") "reason_for")
  m_Free_added : Meth K (He.ga K "Free") "added" (He.ma K (He.ga K "Free") "added")
  m_Free_step_for : Meth K (He.ga K "Free") "step_for" (He.ma K (He.ga K "Free") "step_for")
  m_Free_written_reason : Meth K (He.ga K "Free") "written_reason" (He.ma K (He.ga K "Free") "written_reason")
  fe : FeC K "FaultError"
end FF

namespace FF
open PySem PySem.Spec PyProof.Rows L2
def d_wall : He.DefD := ⟨("_wall", none), "_wall", "_wall", defArgs s_wall, defBody s_wall, defScope s_wall, [], []⟩
def d_is_letter : He.DefD := ⟨("is_letter", none), "is_letter", "is_letter", defArgs s_is_letter, defBody s_is_letter, defScope s_is_letter, [], []⟩
def d_measured : He.DefD := ⟨("measured", none), "measured", "measured", defArgs s_measured, defBody s_measured, defScope s_measured, [], []⟩
def d_is_term : He.DefD := ⟨("is_term", none), "is_term", "is_term", defArgs s_is_term, defBody s_is_term, defScope s_is_term, [], [("max_depth", .int 5), ("max_size", .int 24)]⟩
def d_need_term : He.DefD := ⟨("need_term", none), "need_term", "need_term", defArgs s_need_term, defBody s_need_term, defScope s_need_term, [], []⟩
def d_text_of : He.DefD := ⟨("text_of", none), "text_of", "text_of", defArgs s_text_of, defBody s_text_of, defScope s_text_of, [], []⟩
def d_below_in : He.DefD := ⟨("below_in", none), "below_in", "below_in", defArgs s_below_in, defBody s_below_in, defScope s_below_in, [], []⟩
def d_faces : He.DefD := ⟨("faces", none), "faces", "faces", defArgs s_faces, defBody s_faces, defScope s_faces, [], []⟩
def d_flattened : He.DefD := ⟨("flattened", none), "flattened", "flattened", defArgs s_flattened, defBody s_flattened, defScope s_flattened, [], []⟩
def d_thinned : He.DefD := ⟨("thinned", none), "thinned", "thinned", defArgs s_thinned, defBody s_thinned, defScope s_thinned, [], []⟩
def d_shortened : He.DefD := ⟨("shortened", none), "shortened", "shortened", defArgs s_shortened, defBody s_shortened, defScope s_shortened, [], []⟩
def d_least_in : He.DefD := ⟨("least_in", none), "least_in", "least_in", defArgs s_least_in, defBody s_least_in, defScope s_least_in, [], []⟩
def d_least_form : He.DefD := ⟨("least_form", none), "least_form", "least_form", defArgs s_least_form, defBody s_least_form, defScope s_least_form, [], []⟩
def d_is_least : He.DefD := ⟨("is_least", none), "is_least", "is_least", defArgs s_is_least, defBody s_is_least, defScope s_is_least, [], []⟩
def d_law_source : He.DefD := ⟨("_law_source", none), "_law_source", "_law_source", defArgs s_law_source, defBody s_law_source, defScope s_law_source, [], []⟩
def d_law_take : He.DefD := ⟨("_law_take", none), "_law_take", "_law_take", defArgs s_law_take, defBody s_law_take, defScope s_law_take, [], []⟩
def d_law_pick : He.DefD := ⟨("_law_pick", none), "_law_pick", "_law_pick", defArgs s_law_pick, defBody s_law_pick, defScope s_law_pick, [], []⟩
def d_law_mixed : He.DefD := ⟨("_law_mixed", none), "_law_mixed", "_law_mixed", defArgs s_law_mixed, defBody s_law_mixed, defScope s_law_mixed, [], []⟩
def d_law_same : He.DefD := ⟨("_law_same", none), "_law_same", "_law_same", defArgs s_law_same, defBody s_law_same, defScope s_law_same, [], []⟩
def d_law_call : He.DefD := ⟨("_law_call", none), "_law_call", "_law_call", defArgs s_law_call, defBody s_law_call, defScope s_law_call, [], []⟩
def d_law_parts : He.DefD := ⟨("_law_parts", none), "_law_parts", "_law_parts", defArgs s_law_parts, defBody s_law_parts, defScope s_law_parts, [], []⟩
def d_law_text : He.DefD := ⟨("_law_text", none), "_law_text", "_law_text", defArgs s_law_text, defBody s_law_text, defScope s_law_text, [], []⟩
def d_law_leaves : He.DefD := ⟨("_law_leaves", none), "_law_leaves", "_law_leaves", defArgs s_law_leaves, defBody s_law_leaves, defScope s_law_leaves, [], []⟩
def d_law_term : He.DefD := ⟨("_law_term", none), "_law_term", "_law_term", defArgs s_law_term, defBody s_law_term, defScope s_law_term, [], []⟩
def d_law_signs : He.DefD := ⟨("_law_signs", none), "_law_signs", "_law_signs", defArgs s_law_signs, defBody s_law_signs, defScope s_law_signs, [], []⟩
def d_law_below : He.DefD := ⟨("_law_below", none), "_law_below", "_law_below", defArgs s_law_below, defBody s_law_below, defScope s_law_below, [], []⟩
def d_law_below_now : He.DefD := ⟨("_law_below_now", none), "_law_below_now", "_law_below_now", defArgs s_law_below_now, defBody s_law_below_now, defScope s_law_below_now, [], []⟩
def d_law_least : He.DefD := ⟨("_law_least", none), "_law_least", "_law_least", defArgs s_law_least, defBody s_law_least, defScope s_law_least, [], []⟩
def d_law_measure : He.DefD := ⟨("_law_measure", none), "_law_measure", "_law_measure", defArgs s_law_measure, defBody s_law_measure, defScope s_law_measure, [], []⟩
def d_law_fits : He.DefD := ⟨("_law_fits", none), "_law_fits", "_law_fits", defArgs s_law_fits, defBody s_law_fits, defScope s_law_fits, [], []⟩
def d_law_odd : He.DefD := ⟨("_law_odd", none), "_law_odd", "_law_odd", defArgs s_law_odd, defBody s_law_odd, defScope s_law_odd, [], []⟩
def d_law_nest : He.DefD := ⟨("_law_nest", none), "_law_nest", "_law_nest", defArgs s_law_nest, defBody s_law_nest, defScope s_law_nest, [], []⟩
def d_law_same_word : He.DefD := ⟨("_law_same_word", none), "_law_same_word", "_law_same_word", defArgs s_law_same_word, defBody s_law_same_word, defScope s_law_same_word, [], []⟩
def d_law_rewritten : He.DefD := ⟨("_law_rewritten", none), "_law_rewritten", "_law_rewritten", defArgs s_law_rewritten, defBody s_law_rewritten, defScope s_law_rewritten, [], []⟩
def d_law_two_words : He.DefD := ⟨("_law_two_words", none), "_law_two_words", "_law_two_words", defArgs s_law_two_words, defBody s_law_two_words, defScope s_law_two_words, [], []⟩
def d_law : He.DefD := ⟨("law", none), "law", "law", defArgs s_law, defBody s_law, defScope s_law, [], []⟩
def d_FaultError_init : He.DefD := ⟨("FaultError", some "__init__"), "__init__", "FaultError.__init__", defArgs s_FaultError_init, defBody s_FaultError_init, defScope s_FaultError_init, [], []⟩
def d_InvalidTerm_init : He.DefD := ⟨("InvalidTerm", some "__init__"), "__init__", "InvalidTerm.__init__", defArgs s_InvalidTerm_init, defBody s_InvalidTerm_init, defScope s_InvalidTerm_init, [], []⟩
def d_Free___init__ : He.DefD := ⟨("Free", some "__init__"), "__init__", "Free.__init__", defArgs s_Free___init__, defBody s_Free___init__, defScope s_Free___init__, [], []⟩
def d_Free_is_below : He.DefD := ⟨("Free", some "is_below"), "is_below", "Free.is_below", defArgs s_Free_is_below, defBody s_Free_is_below, defScope s_Free_is_below, [], []⟩
def d_Free_reason_for : He.DefD := ⟨("Free", some "reason_for"), "reason_for", "Free.reason_for", defArgs s_Free_reason_for, defBody s_Free_reason_for, defScope s_Free_reason_for, [], []⟩
def d_Free_added : He.DefD := ⟨("Free", some "added"), "added", "Free.added", defArgs s_Free_added, defBody s_Free_added, defScope s_Free_added, [], []⟩
def d_Free_step_for : He.DefD := ⟨("Free", some "step_for"), "step_for", "Free.step_for", defArgs s_Free_step_for, defBody s_Free_step_for, defScope s_Free_step_for, [], []⟩
def d_Free_written_reason : He.DefD := ⟨("Free", some "written_reason"), "written_reason", "Free.written_reason", defArgs s_Free_written_reason, defBody s_Free_written_reason, defScope s_Free_written_reason, [], []⟩
def fn : List He.DefD := [d_wall, d_is_letter, d_measured, d_is_term, d_need_term, d_text_of, d_below_in, d_faces, d_flattened, d_thinned, d_shortened, d_least_in, d_least_form, d_is_least, d_law_source, d_law_take, d_law_pick, d_law_mixed, d_law_same, d_law_call, d_law_parts, d_law_text, d_law_leaves, d_law_term, d_law_signs, d_law_below, d_law_below_now, d_law_least, d_law_measure, d_law_fits, d_law_odd, d_law_nest, d_law_same_word, d_law_rewritten, d_law_two_words, d_law, d_FaultError_init, d_InvalidTerm_init, d_Free___init__, d_Free_is_below, d_Free_reason_for, d_Free_added, d_Free_step_for, d_Free_written_reason]
def fa : List He.Fa := [.free "IndexError", .free "LookupError", .free "ValueError", .free "all", .free "any", .free "bool", .free "dict", .free "enumerate", .free "int", .free "isinstance", .free "len", .free "list", .free "range", .free "set", .free "sorted", .free "str", .free "sum", .free "tuple", .free "zip", .str "LETTERS" "abcdefgh", .glo "OPERATORS", .int "MAX_DEPTH" 5, .int "MAX_SIZE" 24, .glo "FaultError", .glo "Missing", .glo "InvalidTerm", .glo "NothingLeft", .glo "Free", .noat "Free" "known", .noat "Free" "steps", .noat "Free" "place", .cls "Free", .mkr "Free", .meth "Free" "is_below", .meth "Free" "reason_for", .meth "Free" "added", .meth "Free" "step_for", .meth "Free" "written_reason", .glo "_wall", .glo "is_letter", .glo "measured", .glo "is_term", .glo "need_term", .glo "text_of", .glo "below_in", .glo "faces", .glo "flattened", .glo "thinned", .glo "shortened", .glo "least_in", .glo "least_form", .glo "is_least", .glo "_law_source", .glo "_law_take", .glo "_law_pick", .glo "_law_mixed", .glo "_law_same", .glo "_law_call", .glo "_law_parts", .glo "_law_text", .glo "_law_leaves", .glo "_law_term", .glo "_law_signs", .glo "_law_below", .glo "_law_below_now", .glo "_law_least", .glo "_law_measure", .glo "_law_fits", .glo "_law_odd", .glo "_law_nest", .glo "_law_same_word", .glo "_law_rewritten", .glo "_law_two_words", .glo "law"]
def ex (K : PySem.W.Frag) : Bool := He.tupB K "OPERATORS" [.str "&", .str "|"] && ownXB K "InvalidTerm" "FaultError" && feCB K "FaultError"
theorem top_of {K : PySem.W.Frag} {h : Heap} {mg : Str → Option Value} (X : K.In h) (G : h.Ns mainGlobals mg) (c : He.SaysD fa fn K) (e : ex K = true) : Top K mg where
  b_IndexError := He.free_ok X G (c.fact 0 (f := .free "IndexError") rfl)
  b_LookupError := He.free_ok X G (c.fact 1 (f := .free "LookupError") rfl)
  b_ValueError := He.free_ok X G (c.fact 2 (f := .free "ValueError") rfl)
  b_all := He.free_ok X G (c.fact 3 (f := .free "all") rfl)
  b_any := He.free_ok X G (c.fact 4 (f := .free "any") rfl)
  b_bool := He.free_ok X G (c.fact 5 (f := .free "bool") rfl)
  b_dict := He.free_ok X G (c.fact 6 (f := .free "dict") rfl)
  b_enumerate := He.free_ok X G (c.fact 7 (f := .free "enumerate") rfl)
  b_int := He.free_ok X G (c.fact 8 (f := .free "int") rfl)
  b_isinstance := He.free_ok X G (c.fact 9 (f := .free "isinstance") rfl)
  b_len := He.free_ok X G (c.fact 10 (f := .free "len") rfl)
  b_list := He.free_ok X G (c.fact 11 (f := .free "list") rfl)
  b_range := He.free_ok X G (c.fact 12 (f := .free "range") rfl)
  b_set := He.free_ok X G (c.fact 13 (f := .free "set") rfl)
  b_sorted := He.free_ok X G (c.fact 14 (f := .free "sorted") rfl)
  b_str := He.free_ok X G (c.fact 15 (f := .free "str") rfl)
  b_sum := He.free_ok X G (c.fact 16 (f := .free "sum") rfl)
  b_tuple := He.free_ok X G (c.fact 17 (f := .free "tuple") rfl)
  b_zip := He.free_ok X G (c.fact 18 (f := .free "zip") rfl)
  g_LETTERS := He.str_ok X G (c.fact 19 (f := .str "LETTERS" "abcdefgh") rfl)
  g_OPERATORS := He.glo_ok X G (c.fact 20 (f := .glo "OPERATORS") rfl)
  t_OPERATORS := fun H => He.tupB_ok (vs := [.str "&", .str "|"]) (by simp only [ex, Bool.and_eq_true] at e; simp only [e]) H
  g_MAX_DEPTH := He.int_ok X G (c.fact 21 (f := .int "MAX_DEPTH" 5) rfl)
  g_MAX_SIZE := He.int_ok X G (c.fact 22 (f := .int "MAX_SIZE" 24) rfl)
  c_FaultError := He.glo_ok X G (c.fact 23 (f := .glo "FaultError") rfl)
  c_Missing := He.glo_ok X G (c.fact 24 (f := .glo "Missing") rfl)
  c_InvalidTerm := He.glo_ok X G (c.fact 25 (f := .glo "InvalidTerm") rfl)
  c_NothingLeft := He.glo_ok X G (c.fact 26 (f := .glo "NothingLeft") rfl)
  c_Free := He.glo_ok X G (c.fact 27 (f := .glo "Free") rfl)
  x_InvalidTerm := ownXB_ok (by simp only [ex, Bool.and_eq_true] at e; simp only [e])
  n_Free_known := He.noat_ok (c.fact 28 (f := .noat "Free" "known") rfl)
  n_Free_steps := He.noat_ok (c.fact 29 (f := .noat "Free" "steps") rfl)
  n_Free_place := He.noat_ok (c.fact 30 (f := .noat "Free" "place") rfl)
  k_Free := He.cls_ok (c.fact 31 (f := .cls "Free") rfl)
  mk_Free := He.mkr_ok (c.fact 32 (f := .mkr "Free") rfl)
  m_Free_is_below := He.meth_ok (c.fact 33 (f := .meth "Free" "is_below") rfl)
  m_Free_reason_for := He.meth_ok (c.fact 34 (f := .meth "Free" "reason_for") rfl)
  m_Free_added := He.meth_ok (c.fact 35 (f := .meth "Free" "added") rfl)
  m_Free_step_for := He.meth_ok (c.fact 36 (f := .meth "Free" "step_for") rfl)
  m_Free_written_reason := He.meth_ok (c.fact 37 (f := .meth "Free" "written_reason") rfl)
  fe := feCB_ok (by simp only [ex, Bool.and_eq_true] at e; simp only [e])
def loose : List PySem.Str := [("_wall" : PySem.Str), ("FaultError" : PySem.Str), ("Missing" : PySem.Str), ("InvalidTerm" : PySem.Str), ("NothingLeft" : PySem.Str), ("LETTERS" : PySem.Str), ("OPERATORS" : PySem.Str), ("MAX_DEPTH" : PySem.Str), ("MAX_SIZE" : PySem.Str), ("is_letter" : PySem.Str), ("measured" : PySem.Str), ("is_term" : PySem.Str), ("need_term" : PySem.Str), ("text_of" : PySem.Str), ("Free" : PySem.Str), ("below_in" : PySem.Str), ("faces" : PySem.Str), ("flattened" : PySem.Str), ("thinned" : PySem.Str), ("shortened" : PySem.Str), ("least_in" : PySem.Str), ("least_form" : PySem.Str), ("is_least" : PySem.Str), ("_law_source" : PySem.Str), ("_law_take" : PySem.Str), ("_law_pick" : PySem.Str), ("_law_mixed" : PySem.Str), ("_law_same" : PySem.Str), ("_law_call" : PySem.Str), ("_law_parts" : PySem.Str), ("_law_text" : PySem.Str), ("_law_leaves" : PySem.Str), ("_law_term" : PySem.Str), ("_law_signs" : PySem.Str), ("_law_below" : PySem.Str), ("_law_below_now" : PySem.Str), ("_law_least" : PySem.Str), ("_law_measure" : PySem.Str), ("_law_fits" : PySem.Str), ("_law_odd" : PySem.Str), ("_law_nest" : PySem.Str), ("_law_same_word" : PySem.Str), ("_law_rewritten" : PySem.Str), ("_law_two_words" : PySem.Str)]
abbrev R : PySem.W.OpenRow := PySem.W.OpenLaw.row PySem.Challenge.rw_fivefault_k44_whole_least_forms
abbrev hk : PySem.W.Hook := hookY 4 fa fn [("law", none)] ex
def ob (s : PySem.W.SharedT) : He.AlX := obsY 4 fa fn [("law", none)] ex (HandSHeadRun.getT s)
theorem ob_eq (s : PySem.W.SharedT) : ob s = hk.obs s.abs := obsY_eq (HandSHeadRun.getT_eq s)
theorem run (w : World) : HandSHeadRun.RunEq R (PySem.W.view R.prog [49]) hk ob 4000 loose w := by
  intro os
  kernel_rfl
end FF
namespace FF
open PySem PySem.Spec PyProof.Rows L2
/-! ### the draws' source -/
def srcGood (c : Addr) (xs : List V) : Prop := ∃ pos big seed cnt : Int, xs = [.ref c, .int pos, .int big, .int seed, .int cnt] ∧ 0 ≤ pos ∧ 0 ≤ seed ∧ seed < 2147483629
/-- at s stands a source of draws -/
def Src (H : Hp) (s : Addr) : Prop := ∃ (c : Addr) (ns : List Int), H s = some (hid (srcGood c) s) ∧ H c = some (.lst (ns.map V.int))
theorem Src.up {H H' : Hp} {s : Addr} (e : Same H H') (h : Src H s) : Src H' s := by
  obtain ⟨c, ns, h1, h2⟩ := h
  exact ⟨c, ns, e _ _ h1, e _ _ h2⟩
def spTakeL : Sp := fun vs H Q _ => ∃ (s c : Addr) (many : Int) (xs : List V) (ns : List Int), vs = [.ref s, .int many] ∧ 0 < many ∧ many < 1073741824 ∧ H s = some (.lst xs) ∧ srcGood c xs ∧ H c = some (.lst (ns.map V.int)) ∧ c ≠ s ∧
  ∀ n ys, 0 ≤ n → n < many → srcGood c ys → Q (.int n) (upd H s (.lst ys))
/-- a draw: some number below many; nothing is seen to change -/
def spTake : Sp := fun vs H Q _ => ∃ (s : Addr) (many : Int), vs = [.ref s, .int many] ∧ 0 < many ∧ many < 1073741824 ∧ Src H s ∧ ∀ n, 0 ≤ n → n < many → Q (.int n) H
section
variable {P : Program} {w : World} {K : PySem.W.Frag} {mg : Str → Option Value} {base : Heap}
theorem ok_take {f : Addr} {fd : FuncData} (F : FunD K "_law_take" "_law_take" (defArgs s_law_take) (defBody s_law_take) (defScope s_law_take) [] [] f fd) (hm : mg "_law_take" = some (.ref f)) (T : Top K mg) : Def P w K mg base "_law_take" 1 ["_law_source_here", "_law_many"] spTakeL := by
  refine def_mk F hm (F.bindsN fun _ _ _ _ _ _ us hl => match us, hl with | [_, _], _ => rfl) sc_law_take (fun vs H Q E h => ?_) (fun cdv A outer s H vs Q E hr h => ?_)
  · obtain ⟨s, c, many, xs, ns, rfl, _⟩ := h
    rfl
  obtain ⟨s, c, many, xs, ns, rfl, m0, m1, hs, ⟨pos, big, seed, cnt, rfl, p0, s0, s1⟩, hc, ncs, q⟩ := h
  refine ⟨_, (C8.pss_cut (ps_if (PW.pt (pw_and (pt_cmpR op_eq (pe_ix (ix_listK K) (pv 0) pe_int (fun _ _ => rfl)) pe_int (nomark _)) (pw_and1 (pt_cmpR op_lt (pe_ix (ix_listK K) (pv 0) pe_int (fun _ _ => rfl)) (pe_callB (call_lenK K) (by rfl) T.b_len (by decide +kernel) (pa_cons (pe_ix (ix_listK K) (pv 0) pe_int (fun _ _ => rfl)) pa_nil)) (nomark _)))))
  (pss_cons (ps_set (i := 2) sc_law_take.nd rfl (Or.inl rfl) (pe_ix (ix_listK K) (pe_ix (ix_listK K) (pv 0) pe_int (fun _ _ => rfl)) (pe_ix (ix_listK K) (pv 0) pe_int (fun _ _ => rfl)) (fun _ _ => rfl)))
  (pss_cons (ps_asg (pe_op op_add (pe_ix (ix_listK K) (pv 0) pe_int (fun _ _ => rfl)) pe_int) (pg_sub (pv 0) pe_int set_list))
  (pss_one (ps_if (pt_cmpR op_ge (pv 2) (pe_op op_pow pe_int pe_int) (nomark _))
  (pss_one (ps_asg (pv 2) (pg_sub (pv 0) pe_int set_list)))
  (pss_one (ps_asg (pe_op op_mod (pe_callTy call_int1 (by rfl) T.b_int (by decide +kernel) (pa_cons (pe_op op_add (pe_op op_add (pe_op op_mul (pe_ix (ix_listK K) (pv 0) pe_int (fun _ _ => rfl)) pe_int) (pe_op op_mul (pe_op op_mod (pe_callTy call_int1 (by rfl) T.b_int (by decide +kernel) (pa_cons (pv 2) pa_nil)) pe_int) pe_int)) pe_int) pa_nil)) pe_int) (pg_sub (pv 0) pe_int set_list)))))))
  pss_nil)
  (pss_cons (ps_if (pt_cmpR op_gt (pe_ix (ix_listK K) (pv 0) pe_int (fun _ _ => rfl)) pe_int (nomark _))
  (pss_cons (ps_set (i := 3) sc_law_take.nd rfl (Or.inl rfl) (pe_op op_mod (pe_callTy call_int1 (by rfl) T.b_int (by decide +kernel) (pa_cons (pe_ix (ix_listK K) (pv 0) pe_int (fun _ _ => rfl)) pa_nil)) (pv 1)))
  (pss_cons (ps_asg (pe_op op_fdiv (pe_ix (ix_listK K) (pv 0) pe_int (fun _ _ => rfl)) (pv 1)) (pg_sub (pv 0) pe_int set_list))
  (pss_one (ps_ret (pv 3)))))
  pss_nil)
  (pss_cons (ps_asg (pe_op op_add (pe_ix (ix_listK K) (pv 0) pe_int (fun _ _ => rfl)) pe_int) (pg_sub (pv 0) pe_int set_list))
  (pss_cons (ps_set (i := 4) sc_law_take.nd rfl (Or.inl rfl) (pe_op op_add (pe_op op_mod (pe_callTy call_int1 (by rfl) T.b_int (by decide +kernel) (pa_cons (pe_op op_mul (pe_ix (ix_listK K) (pv 0) pe_int (fun _ _ => rfl)) (pe_ix (ix_listK K) (pv 0) pe_int (fun _ _ => rfl))) pa_nil)) pe_int) (pe_op op_mul pe_int (pe_ix (ix_listK K) (pv 0) pe_int (fun _ _ => rfl)))))
  (pss_cons (ps_asg (pe_op op_mod (pe_callTy call_int1 (by rfl) T.b_int (by decide +kernel) (pa_cons (pe_op op_add (pe_op op_add (pe_op op_mul (pv 4) pe_int) (pe_ix (ix_listK K) (pv 0) pe_int (fun _ _ => rfl))) pe_int) pa_nil)) pe_int) (pg_sub (pv 0) pe_int set_list))
  (pss_one (ps_ret (pe_op op_mod (pe_callTy call_int1 (by rfl) T.b_int (by decide +kernel) (pa_cons (pe_op op_add (pe_op op_fdiv (pe_ix (ix_listK K) (pv 0) pe_int (fun _ _ => rfl)) pe_int) (pe_op op_mul (pe_op op_mod (pe_callTy call_int1 (by rfl) T.b_int (by decide +kernel) (pa_cons (pe_ix (ix_listK K) (pv 0) pe_int (fun _ _ => rfl)) pa_nil)) pe_int) pe_int)) pa_nil)) (pv 1))))))))), ?_⟩
  refine ⟨fun σ' H' => ∃ (ys : List V) (oc : Option V), σ' = [some (.ref s), some (.int many), oc, none, none] ∧ H' = upd H s (.lst ys) ∧ srcGood c ys, ?_, ?_⟩
  · have skip : ∃ (ys : List V) (oc : Option V), ([some (.ref s), some (.int many), none, none, none] : L2.St) = [some (.ref s), some (.int many), oc, none, none] ∧ H = upd H s (.lst ys) ∧ srcGood c ys :=
      ⟨_, none, rfl, by
        funext b
        unfold upd
        split
        · next e => rw [e, hs]
        · rfl, pos, big, seed, cnt, rfl, p0, s0, s1⟩
    refine ⟨_, rfl, s, _, _, _, rfl, rfl, SqL.of hs, rfl, rfl, _, rfl, ?_⟩
    refine if_int (fun h1 => ?_) (fun h1 => skip)
    refine ⟨_, rfl, s, _, _, _, rfl, rfl, SqL.of hs, rfl, _, rfl, s, _, _, _, rfl, rfl, SqL.of hs, rfl, _, ns.length, rfl, .inl ⟨_, SqL.of hc, (List.length_map _).symm⟩, _, _, rfl, rfl, _, rfl, ?_⟩
    refine if_dec (fun h2 => ?_) (fun h2 => skip)
    have hp : pos.toNat < ns.length := by omega
    have hat : atI (ns.map V.int) pos = some (.int ns[pos.toNat]) := by
      have e : ((pos.toNat : Nat) : Int) = pos := by omega
      have h : atI (ns.map V.int) ((pos.toNat : Nat) : Int) = some (.int ns[pos.toNat]) := atI_nat (by rw [List.getElem?_map, List.getElem?_eq_getElem hp] <;> rfl)
      rw [e] at h
      exact h
    refine ⟨_, rfl, s, _, _, _, rfl, rfl, SqL.of hs, rfl, _, rfl, s, _, _, _, rfl, rfl, SqL.of hs, rfl, c, _, _, _, rfl, rfl, SqL.of hc, hat, ?_⟩
    refine ⟨_, rfl, s, _, _, _, rfl, rfl, SqL.of hs, rfl, _, _, rfl, rfl, _, rfl, s, _, _, 1, rfl, rfl, hs, rfl, ?_⟩
    refine ⟨_, rfl, _, _, rfl, rfl, ⟨by decide, by decide, by decide⟩, _, _, rfl, rfl, _, rfl, ?_⟩
    refine if_dec (fun h3 => ?_) (fun h3 => ?_)
    · refine ⟨_, rfl, _, rfl, s, _, _, 2, rfl, rfl, upd_same, rfl, ?_⟩
      rw [upd_upd]
      exact ⟨_, _, rfl, rfl, pos + 1, _, seed, cnt, rfl, by omega, s0, s1⟩
    · refine ⟨_, rfl, s, _, _, _, rfl, rfl, SqL.of upd_same, rfl, _, _, rfl, rfl, .inr ⟨by decide, by decide⟩, ?_⟩
      refine ⟨_, rfl, .inl ⟨_, rfl, _, _, rfl, rfl, (by show (0 : Int) < _; decide), _, _, rfl, rfl, .inr ⟨by decide, by decide⟩, _, _, rfl, rfl, _, _, rfl, rfl, .inl ⟨_, rfl, _, _, rfl, rfl, (by show (0 : Int) < _; decide), _, rfl, s, _, _, 3, rfl, rfl, upd_same, rfl, ?_⟩⟩⟩
      rw [upd_upd]
      exact ⟨_, _, rfl, rfl, pos + 1, _, _, cnt, rfl, by omega, Int.emod_nonneg _ (by decide), Int.emod_lt_of_pos _ (by decide)⟩
  · rintro _ _ ⟨_, oc, rfl, rfl, pos, big, seed, cnt, rfl, p0, s0, s1⟩
    refine ⟨_, rfl, s, _, _, _, rfl, rfl, SqL.of upd_same, rfl, _, _, rfl, rfl, _, rfl, ?_⟩
    refine if_dec (fun h1 => ?_) (fun h1 => ?_)
    · refine ⟨_, rfl, s, _, _, _, rfl, rfl, SqL.of upd_same, rfl, .inl ⟨_, rfl, _, rfl, _, _, rfl, rfl, m0, ?_⟩⟩
      refine ⟨_, rfl, s, _, _, _, rfl, rfl, SqL.of upd_same, rfl, _, rfl, _, _, rfl, rfl, ⟨m0, m1⟩, _, rfl, s, _, _, 2, rfl, rfl, upd_same, rfl, _, rfl, ?_⟩
      rw [upd_upd]
      exact q _ _ (Int.emod_nonneg _ (by omega)) (Int.emod_lt_of_pos _ m0) ⟨pos, _, seed, cnt, rfl, p0, s0, s1⟩
    · refine ⟨_, rfl, s, _, _, _, rfl, rfl, SqL.of upd_same, rfl, _, _, rfl, rfl, _, rfl, s, _, _, 4, rfl, rfl, upd_same, rfl, ?_⟩
      rw [upd_upd]
      refine ⟨_, rfl, s, _, _, _, rfl, rfl, SqL.of upd_same, rfl, _, rfl, s, _, _, _, rfl, rfl, SqL.of upd_same, rfl, _, _, rfl, rfl, .inl ⟨by omega, by omega⟩, .inl ⟨_, rfl, _, _, rfl, rfl, (by show (0 : Int) < _; decide), _, rfl, s, _, _, _, rfl, rfl, SqL.of upd_same, rfl, _, _, rfl, rfl, .inl ⟨by decide, by decide⟩, _, _, rfl, rfl, ?_⟩⟩
      refine ⟨_, rfl, _, _, rfl, rfl, .inr ⟨by decide, by decide⟩, _, rfl, s, _, _, _, rfl, rfl, SqL.of upd_same, rfl, _, _, rfl, rfl, _, _, rfl, rfl, .inl ⟨_, rfl, _, _, rfl, rfl, (by show (0 : Int) < _; decide), _, rfl, s, _, _, 3, rfl, rfl, upd_same, rfl, ?_⟩⟩
      rw [upd_upd]
      refine ⟨_, rfl, s, _, _, _, rfl, rfl, SqL.of upd_same, rfl, _, _, rfl, rfl, ⟨by decide, by decide⟩, _, rfl, s, _, _, _, rfl, rfl, SqL.of upd_same, rfl, .inl ⟨_, rfl, _, _, rfl, rfl, (by show (0 : Int) < _; decide), _, _, rfl, rfl, .inr ⟨by decide, by decide⟩, _, _, rfl, rfl, .inl ⟨_, rfl, _, rfl, _, _, rfl, rfl, m0, ?_⟩⟩⟩
      exact q _ _ (Int.emod_nonneg _ (by omega)) (Int.emod_lt_of_pos _ m0) ⟨pos, _, _, _, rfl, p0, Int.emod_nonneg _ (by decide), Int.emod_lt_of_pos _ (by decide)⟩
theorem take_hid (D : Def P w K mg base "_law_take" 1 ["_law_source_here", "_law_many"] spTakeL) : Def P w K mg base "_law_take" 1 ["_law_source_here", "_law_many"] spTake := by
  refine D.open_ (fun vs H Q E h => ?_) (fun vs H Q E h => ?_)
  · obtain ⟨s, many, rfl, _⟩ := h
    rfl
  · obtain ⟨s, many, rfl, m0, m1, ⟨c, ns, hs, hc⟩, q⟩ := h
    have ncs : c ≠ s := by
      intro e
      rw [e, hs] at hc
      cases hc
    refine ⟨s, srcGood c, hs, fun xs hg => ⟨s, c, many, xs, ns, rfl, m0, m1, upd_same, hg, by rw [upd_ne ncs]; exact hc, ncs, fun n ys n0 n1 hy => ⟨ys, upd_same, hy, ?_⟩⟩⟩
    rw [upd_upd, upd_back hs]
    exact q n n0 n1
end
end FF
namespace FF
open PySem PySem.Spec PyProof.Rows L2
theorem cutV_map {α : Type} {f : α → V} {l : List α} {lo hi : Option Int} : ∃ m : List α, cutV (l.map f) lo hi = m.map f ∧ m.length ≤ l.length := by
  refine ⟨(l.drop (HT.sIx l.length 0 lo)).take (HT.sIx l.length l.length hi - HT.sIx l.length 0 lo), ?_, ?_⟩
  · unfold cutV
    rw [List.length_map, List.map_take, List.map_drop]
  · rw [List.length_take, List.length_drop]
    omega
theorem cut_front {xs : List V} {k : Int} (h0 : 0 ≤ k) : cutV xs none (some k) = xs.take k.toNat := by
  obtain ⟨n, rfl⟩ : ∃ n : Nat, k = (n : Int) := ⟨k.toNat, by omega⟩
  unfold cutV
  rw [HT.sIx_none, HT.sIx_nat, List.drop_zero, Nat.sub_zero, Int.toNat_natCast]
  rcases Nat.le_total n xs.length with h | h
  · rw [Nat.min_eq_left h]
  · rw [Nat.min_eq_right h, List.take_length, List.take_of_length_le h]
def spSourceL (K : PySem.W.Frag) : Sp := fun vs H Q _ => ∃ (a : Addr) (ns : List Int), vs = [.ref a] ∧ SqL K H a (ns.map V.int) ∧
  ∀ (r c : Addr) (ms : List Int) H', H r = none → Same H H' → H' r = some (.lst [.ref c, .int 0, .int 0, .int 3818, .int 0]) → H' c = some (.lst (ms.map V.int)) → r ≠ c → Q (.ref r) H'
def spSource (K : PySem.W.Frag) : Sp := fun vs H Q _ => ∃ (a : Addr) (ns : List Int), vs = [.ref a] ∧ SqL K H a (ns.map V.int) ∧ ∀ (r : Addr) H', Same H H' → Src H' r → Q (.ref r) H'
def spPick (K : PySem.W.Frag) : Sp := fun vs H Q _ => ∃ (s r : Addr) (xs : List V), vs = [.ref s, .ref r] ∧ Src H s ∧ SqL K H r xs ∧ xs ≠ [] ∧ xs.length ≤ 20000 ∧ ∀ v, v ∈ xs → Q v H
def spMixed (K : PySem.W.Frag) : Sp := fun vs H Q _ => ∃ (s r : Addr) (xs : List V), vs = [.ref s, .ref r] ∧ Src H s ∧ SqL K H r xs ∧ xs.length ≤ 20000 ∧
  ∀ (p : Addr) H' ys, H p = none → Same H H' → H' p = some (.lst ys) → ys.Perm xs → Q (.ref p) H'
section
variable {P : Program} {w : World} {K : PySem.W.Frag} {mg : Str → Option Value} {base : Heap}
theorem ok_source {f : Addr} {fd : FuncData} (F : FunD K "_law_source" "_law_source" (defArgs s_law_source) (defBody s_law_source) (defScope s_law_source) [] [] f fd) (hm : mg "_law_source" = some (.ref f)) (T : Top K mg) : Def P w K mg base "_law_source" 1 ["_law_script"] (spSource K) := by
  have D : Def P w K mg base "_law_source" 1 ["_law_script"] (spSourceL K) := by
    refine def_mk F hm (F.bindsN fun _ _ _ _ _ _ us hl => match us, hl with | [_], _ => rfl) sc_law_source (fun vs H Q E h => ?_) (fun cdv A outer s H vs Q E hr h => ?_)
    · obtain ⟨a, ns, rfl, _⟩ := h
      rfl
    obtain ⟨a, ns, rfl, hS, q⟩ := h
    refine ⟨_, (pss_one (ps_ret (pe_lst (pa_cons (pe_callTy (call_list_ofK K) (by rfl) T.b_list (by decide +kernel) (pa_cons (pe_slice (sl_listK K) (pv 0) po_none (po_some pe_int)) pa_nil)) (pa_cons pe_int (pa_cons pe_int (pa_cons pe_int (pa_cons pe_int pa_nil)))))))), ?_⟩
    refine ⟨_, rfl, 63, rfl, a, _, rfl, hS, fun p hp => ⟨p, _, rfl, .inl (SqL.of upd_same), fun l hl => ⟨(by show 5 ≤ sizeLine; decide), fun r hr0 => ?_⟩⟩⟩
    obtain ⟨ms, hms, _⟩ := cutV_map (f := V.int) (l := ns) (lo := none) (hi := some 63)
    rw [hms] at hl hr0 ⊢
    have e1 := same_new hp (.lst (ms.map V.int))
    have e2 := same_new hl (.lst (ms.map V.int))
    have e3 := same_new hr0 (.lst [.ref l, .int 0, .int 0, .int 3818, .int 0])
    have nrl : r ≠ l := fun z => by rw [z, upd_same] at hr0; cases hr0
    exact q r l ms _ ((e1.trans e2).free hr0) ((e1.trans e2).trans e3) upd_same (by rw [upd_ne nrl.symm]; exact upd_same) nrl
  refine D.shut_ (fun vs H Q E h => ?_) (fun vs H Q E h => ?_)
  · obtain ⟨a, ns, rfl, _⟩ := h
    rfl
  · obtain ⟨a, ns, rfl, hS, q⟩ := h
    refine ⟨a, ns, rfl, hS, fun r c ms H' hr0 e hr1 hc nrc => ⟨r, srcGood c, _, hr0, hr1, ⟨0, 0, 3818, 0, rfl, by omega, by omega, by omega⟩, ?_⟩⟩
    refine q r _ (fun b o h => ?_) ⟨c, ms, upd_same, by rw [upd_ne nrc.symm]; exact hc⟩
    rw [upd_ne (ne_of_none h hr0)]
    exact e _ _ h
theorem ok_pick {f : Addr} {fd : FuncData} (F : FunD K "_law_pick" "_law_pick" (defArgs s_law_pick) (defBody s_law_pick) (defScope s_law_pick) [] [] f fd) (hm : mg "_law_pick" = some (.ref f)) (T : Top K mg)
    (D_law_take : Def P w K mg base "_law_take" 1 ["_law_source_here", "_law_many"] spTake) : Def P w K mg base "_law_pick" 2 ["_law_source_here", "_law_row"] (spPick K) := by
  refine def_mk F hm (F.bindsN fun _ _ _ _ _ _ us hl => match us, hl with | [_, _], _ => rfl) sc_law_pick (fun vs H Q E h => ?_) (fun cdv A outer s H vs Q E hr h => ?_)
  · obtain ⟨s, r, xs, rfl, _⟩ := h
    rfl
  obtain ⟨s, r, xs, rfl, hs, hx, hn, hz, q⟩ := h
  have hl : 0 < xs.length := List.length_pos_iff.mpr hn
  refine ⟨_, (pss_one (ps_ret (pe_ix (ix_listK K) (pv 1) (pe_def D_law_take hr (by first | decide | omega) (pa_cons (pv 0) (pa_cons (pe_callB (call_lenK K) (by rfl) T.b_len (by decide +kernel) (pa_cons (pv 1) pa_nil)) pa_nil))) (fun _ _ => rfl)))), ?_⟩
  refine ⟨_, rfl, _, rfl, _, rfl, _, xs.length, rfl, .inl ⟨_, hx, rfl⟩, s, _, rfl, by omega, by omega, hs, fun k k0 k1 => ?_⟩
  have hk : k.toNat < xs.length := by omega
  have hat : atI xs k = some xs[k.toNat] := by
    have e : ((k.toNat : Nat) : Int) = k := by omega
    have h : atI xs ((k.toNat : Nat) : Int) = some xs[k.toNat] := atI_nat (List.getElem?_eq_getElem hk)
    rw [e] at h
    exact h
  exact ⟨r, xs, k, _, rfl, rfl, hx, hat, q _ (List.getElem_mem hk)⟩
theorem ok_mixed {f : Addr} {fd : FuncData} (F : FunD K "_law_mixed" "_law_mixed" (defArgs s_law_mixed) (defBody s_law_mixed) (defScope s_law_mixed) [] [] f fd) (hm : mg "_law_mixed" = some (.ref f)) (T : Top K mg)
    (D_law_take : Def P w K mg base "_law_take" 1 ["_law_source_here", "_law_many"] spTake) : Def P w K mg base "_law_mixed" 2 ["_law_source_here", "_law_row"] (spMixed K) := by
  refine def_mk F hm (F.bindsN fun _ _ _ _ _ _ us hl => match us, hl with | [_, _], _ => rfl) sc_law_mixed (fun vs H Q E h => ?_) (fun cdv A outer s H vs Q E hr h => ?_)
  · obtain ⟨s, r, xs, rfl, _⟩ := h
    rfl
  obtain ⟨s, r, xs, rfl, hs, hx, hz, q⟩ := h
  refine ⟨_, (pss_cons (ps_set (i := 2) sc_law_mixed.nd rfl (Or.inl rfl) (pe_lst pa_nil))
  (pss_cons (ps_for PassesOwn.never rfl (pi_listK K (pv 1)) (pg_name (i := 3) sc_law_mixed.nd rfl (Or.inl rfl) (.inl rfl))
  (pss_one (ps_expr (pe_bmK K PySem.F.plainAttrs_list PySem.F.slot_list_insert PySem.F.type_list_insert mt_insert (pv 2) (pa_cons (pe_def D_law_take hr (by first | decide | omega) (pa_cons (pv 0) (pa_cons (pe_op op_add (pe_callB (call_lenK K) (by rfl) T.b_len (by decide +kernel) (pa_cons (pv 2) pa_nil)) pe_int) pa_nil))) (pa_cons (pv 3) pa_nil))))))
  (pss_one (ps_ret (pv 2))))), ?_⟩
  refine ⟨by decide, fun p hp => ?_⟩
  have e1 := same_new hp (.lst [])
  refine ⟨_, rfl, r, rfl, ⟨_, up_l e1 hx⟩, for_list (K := K) (a := r) (xs := xs) (fun i σ H' => ∃ (ys : List V) (o : Option V), σ = [some (.ref s), some (.ref r), some (.ref p), o] ∧ Same H H' ∧ H' p = some (.lst ys) ∧ ys.Perm (xs.take i))
    ⟨[], none, rfl, e1, upd_same, by rw [List.take_zero]⟩ (fun i σ H' _ ⟨_, _, _, e, _⟩ => up_l e hx) ?_ ?_⟩
  · rintro i x σ H' hi ⟨ys, o, rfl, e, hp1, hperm⟩
    have hi2 := (List.getElem?_eq_some_iff.mp hi).1
    have hyl : ys.length = i := by
      rw [hperm.length_eq, List.length_take]
      omega
    refine ⟨_, rfl, .inl ⟨rfl, _, SqL.of hp1⟩, _, rfl, _, rfl, _, ys.length, rfl, .inl ⟨_, SqL.of hp1, rfl⟩, _, _, rfl, rfl, s, _, rfl, by omega, by omega, hs.up e, fun k k0 k1 => ?_⟩
    refine ⟨_, rfl, p, ys, k, x, rfl, rfl, hp1, lt_line (by omega), k0, by omega, ?_⟩
    refine ⟨_, _, rfl, fun b o2 h => ?_, upd_same, ?_⟩
    · rw [upd_ne (ne_of_none h hp)]
      exact e _ _ h
    · rw [List.take_succ, hi]
      have h1 : (ys.take k.toNat ++ [x] ++ ys.drop k.toNat).Perm (x :: ys) := by
        rw [List.append_assoc]
        refine List.perm_middle.trans ?_
        show (x :: (ys.take k.toNat ++ ys.drop k.toNat)).Perm _
        rw [List.take_append_drop]
      refine h1.trans ?_
      refine (List.Perm.cons x hperm).trans ?_
      exact (List.perm_append_singleton x (xs.take i)).symm
  · rintro σ H' ⟨ys, o, rfl, e, hp1, hperm⟩
    rw [List.take_length] at hperm
    exact ⟨_, rfl, q p H' ys hp e hp1 hperm⟩
end
end FF
namespace FF
open PySem PySem.Spec PyProof.Rows L2
/-! ### drawn terms -/
/-- a drawn term: n operators deep at most -/
def Drawn : Nat → PyData → Prop
  | 0, d => isLet d = true
  | n + 1, d => isLet d = true ∨ ∃ o ps, d = .tuple (o :: ps) ∧ isOp o = true ∧ 2 ≤ ps.length ∧ ps.length ≤ 24 ∧ ∀ p, p ∈ ps → Drawn n p
theorem let_shape {d : PyData} (h : isLet d = true) : ∃ c, d = .str ⟨#[c]⟩ ∧ c ∈ lettersS.cps.toList := by
  cases d with
  | str z =>
    obtain ⟨⟨l⟩⟩ := z
    match l, h with
    | [c], h => exact ⟨c, rfl, of_decide_eq_true h⟩
  | _ => cases h
theorem lettersS_val : lettersS.cps.toList = [97, 98, 99, 100, 101, 102, 103, 104] := by decide +kernel
theorem let_nice {d : PyData} (h : isLet d = true) : nice d = true := by
  obtain ⟨c, rfl, hc⟩ := let_shape h
  rw [lettersS_val] at hc
  simp only [nice, Bool.and_eq_true, decide_eq_true_eq]
  refine ⟨by show 1 ≤ 20000; decide, ?_⟩
  show (#[c].all fun x => decide (x < 0x110000)) = true
  have : c < 0x110000 := by
    simp only [List.mem_cons, List.not_mem_nil, or_false] at hc
    omega
  simp [this]
theorem let_depth {d : PyData} (h : isLet d = true) : d.depth = 0 := by
  obtain ⟨c, rfl, hc⟩ := let_shape h
  rw [PyData.depth]
theorem op_shape {d : PyData} (h : isOp d = true) : d = .str ("&" : Str) ∨ d = .str ("|" : Str) := by
  cases d with
  | str z =>
    have h2 : (decide (z = ("&" : Str)) || decide (z = ("|" : Str))) = true := h
    rw [Bool.or_eq_true, decide_eq_true_eq, decide_eq_true_eq] at h2
    rcases h2 with e | e
    · exact .inl (by rw [e])
    · exact .inr (by rw [e])
  | _ => cases h
theorem op_nice {d : PyData} (h : isOp d = true) : Nice 0 d := by
  rcases op_shape h with rfl | rfl
  · exact ⟨by decide +kernel, by rw [PyData.depth]; exact Nat.le_refl _⟩
  · exact ⟨by decide +kernel, by rw [PyData.depth]; exact Nat.le_refl _⟩
theorem drawn_nice : ∀ {n : Nat} {d : PyData}, Drawn n d → Nice n d
  | 0, d, h => ⟨let_nice h, Nat.le_of_eq (let_depth h)⟩
  | n + 1, d, h => by
    rcases h with h | ⟨o, ps, rfl, ho, h2, h4, hp⟩
    · exact ⟨let_nice h, by rw [let_depth h]; omega⟩
    · refine Nice.tuple (by simp; omega) fun p hm => ?_
      rcases List.mem_cons.mp hm with e | hm
      · rw [e]
        exact (op_nice ho).mono (Nat.zero_le _)
      · exact drawn_nice (hp p hm)
theorem drawn_mono : ∀ {m n : Nat} {d : PyData}, Drawn m d → m ≤ n → Drawn n d
  | 0, 0, _, h, _ => h
  | 0, _ + 1, _, h, _ => .inl h
  | m + 1, n + 1, _, h, hm => by
    rcases h with h | ⟨o, ps, e, ho, h2, h4, hp⟩
    · exact .inl h
    · exact .inr ⟨o, ps, e, ho, h2, h4, fun p hm2 => drawn_mono (hp p hm2) (by omega)⟩
def spSigns : Sp := fun vs H Q _ => ∃ (s : Addr) (most : Int), vs = [.ref s, .int most] ∧ 0 < most ∧ most < 1073741824 ∧ Src H s ∧
  ∀ (p : Addr) H' zs, Same H H' → H' p = some (.lst (zs.map V.str)) → zs ≠ [] → zs.length ≤ 8 → (∀ z, z ∈ zs → isLetS z = true) → Q (.ref p) H'
section
variable {P : Program} {w : World} {K : PySem.W.Frag} {mg : Str → Option Value} {base : Heap}
theorem ok_signs {f : Addr} {fd : FuncData} (F : FunD K "_law_signs" "_law_signs" (defArgs s_law_signs) (defBody s_law_signs) (defScope s_law_signs) [] [] f fd) (hm : mg "_law_signs" = some (.ref f)) (T : Top K mg)
    (D_law_take : Def P w K mg base "_law_take" 1 ["_law_source_here", "_law_many"] spTake) (D_law_mixed : Def P w K mg base "_law_mixed" 2 ["_law_source_here", "_law_row"] (spMixed K)) : Def P w K mg base "_law_signs" 3 ["_law_source_here", "_law_most"] spSigns := by
  refine def_mk F hm (F.bindsN fun _ _ _ _ _ _ us hl => match us, hl with | [_, _], _ => rfl) sc_law_signs (fun vs H Q E h => ?_) (fun cdv A outer s H vs Q E hr h => ?_)
  · obtain ⟨s, m, rfl, _⟩ := h
    rfl
  obtain ⟨s, m, rfl, m0, m1, hs, q⟩ := h
  refine ⟨_, (pss_cons (ps_set (i := 2) sc_law_signs.nd rfl (Or.inl rfl) (pe_def D_law_mixed hr (by first | decide | omega) (pa_cons (pv 0) (pa_cons (pe_callTy (call_list_s rfl) (by rfl) T.b_list (by decide +kernel) (pa_cons pe_str pa_nil)) pa_nil))))
  (pss_one (ps_ret (pe_slice (sl_listK K) (pv 2) po_none (po_some (pe_op op_add pe_int (pe_def D_law_take hr (by first | decide | omega) (pa_cons (pv 0) (pa_cons (pv 1) pa_nil))))))))), ?_⟩
  refine ⟨_, rfl, lettersS, rfl, by decide +kernel, fun l hl => ?_⟩
  have e1 := same_new hl (.lst (lettersS.cps.toList.map fun c => V.str ⟨#[c]⟩))
  refine ⟨s, l, _, rfl, hs.up e1, SqL.of upd_same, by rw [List.length_map, lettersS_val]; decide, fun p H' ys hp e2 hp2 hperm => ?_⟩
  have e3 := e1.trans e2
  refine ⟨_, rfl, _, rfl, _, rfl, s, m, rfl, m0, m1, hs.up e3, fun n n0 n1 => ?_⟩
  refine ⟨_, _, rfl, rfl, _, rfl, p, _, rfl, SqL.of hp2, fun r hr0 => ?_⟩
  have ek : (1 + n).toNat = n.toNat + 1 := by omega
  have hperm2 : ys.Perm (lettersS.cps.toList.map fun c => V.str ⟨#[c]⟩) := hperm
  have hlen : ys.length = 8 := by rw [hperm2.length_eq, List.length_map, lettersS_val] <;> rfl
  have hall : ∀ y, y ∈ ys → ∃ z : Str, y = .str z ∧ isLetS z = true := fun y hy => by
    obtain ⟨c, hc, rfl⟩ := List.mem_map.mp (hperm2.mem_iff.mp hy)
    exact ⟨_, rfl, decide_eq_true hc⟩
  obtain ⟨zs, hzs, hz2⟩ : ∃ zs : List Str, ys = zs.map V.str ∧ ∀ z, z ∈ zs → isLetS z = true := by
    clear hperm hperm2 hlen hp2 hr0
    induction ys with
    | nil => exact ⟨[], rfl, fun z h => by cases h⟩
    | cons y ys ih =>
      obtain ⟨z, rfl, hz⟩ := hall y (List.mem_cons_self ..)
      obtain ⟨zs, rfl, h2⟩ := ih fun y hy => hall y (List.mem_cons_of_mem _ hy)
      refine ⟨z :: zs, rfl, fun u hu => ?_⟩
      rcases List.mem_cons.mp hu with e | hu
      · rw [e]; exact hz
      · exact h2 u hu
  subst hzs
  rw [cut_front (by omega), ek, ← List.map_take]
  rw [List.length_map] at hlen
  refine q r _ (zs.take (n.toNat + 1)) (e3.trans (same_new hr0 _)) upd_same ?_ ?_ (fun z hz => hz2 z (List.mem_of_mem_take hz))
  · intro e
    have := congrArg List.length e
    rw [List.length_take, List.length_nil] at this
    omega
  · rw [List.length_take]
    omega
end
end FF
namespace FF
open PySem PySem.Spec PyProof.Rows L2
theorem sum_in {f : PyData → Int} {B : Int} : ∀ {l : List PyData}, (∀ p ∈ l, 1 ≤ f p ∧ f p ≤ B) → (0 : Int) ∉ l.map f ∧ (l.length : Int) ≤ (l.map f).sum ∧ (l.map f).sum ≤ (l.length : Int) * B
  | [], _ => ⟨by simp, by simp, by simp⟩
  | x :: r, h => by
    obtain ⟨h1, h2, h3⟩ := sum_in (l := r) fun p hp => h p (List.mem_cons_of_mem _ hp)
    obtain ⟨a1, a2⟩ := h x List.mem_cons_self
    refine ⟨fun z => ?_, ?_, ?_⟩
    · rcases List.mem_cons.mp (show (0 : Int) ∈ f x :: r.map f from z) with z | z
      · omega
      · exact h1 z
    · rw [List.map_cons, List.sum_cons, List.length_cons]
      omega
    · rw [List.map_cons, List.sum_cons, List.length_cons]
      have : ((r.length + 1 : Nat) : Int) * B = (r.length : Int) * B + B := by
        rw [Int.natCast_add, Int.add_mul]
        simp
      omega
theorem tup_let {ps : List PyData} : isLet (.tuple ps) = false := rfl
theorem meas_drawn : ∀ {n : Nat} {d : PyData}, Drawn n d → ∀ m, n < m → 1 ≤ meas m d ∧ meas m d ≤ ((24 ^ n : Nat) : Int)
  | 0, d, h, m, hm => by
    rw [meas_let (show isLet d = true from h), if_pos (by omega)]
    exact ⟨Int.le_refl _, Int.le_refl _⟩
  | n + 1, d, h, m, hm => by
    rcases h with h | ⟨o, ps, rfl, ho, h2, h4, hp⟩
    · rw [meas_let h, if_pos (by omega)]
      refine ⟨Int.le_refl _, ?_⟩
      have : 1 ≤ 24 ^ (n + 1) := Nat.one_le_pow _ _ (by decide)
      omega
    obtain ⟨k, rfl⟩ : ∃ k, m = k + 1 := ⟨m - 1, by omega⟩
    rw [meas_up tup_let (by omega)]
    have hs := sum_in (f := meas k) (B := ((24 ^ n : Nat) : Int)) (l := ps) fun p hpp => meas_drawn (hp p hpp) k (by omega)
    match ps, h2, h4, hs with
    | y :: z :: r, h2, h4, hs =>
      show 1 ≤ (if isOp o = true then (if (0 : Int) ∈ ((y :: z :: r).map (meas k)) then 0 else ((y :: z :: r).map (meas k)).sum) else 0) ∧ (if isOp o = true then (if (0 : Int) ∈ ((y :: z :: r).map (meas k)) then 0 else ((y :: z :: r).map (meas k)).sum) else 0) ≤ _
      rw [if_pos ho, if_neg hs.1]
      refine ⟨Int.le_trans (by simp only [List.length_cons]; omega) hs.2.1, Int.le_trans hs.2.2 ?_⟩
      rw [Nat.pow_succ, Nat.mul_comm, Int.natCast_mul]
      exact Int.mul_le_mul_of_nonneg_right (by omega) (Int.natCast_nonneg _)
end FF
namespace FF
open PySem PySem.Spec PyProof.Rows L2
def spTermR (K : PySem.W.Frag) (n : Nat) : Sp := fun vs H Q _ => ∃ (s g rm c : Addr) (deep r : Int) (zs : List Str) (ns : List Int), vs = [.ref s, .ref g, .int deep, .ref rm] ∧ H s = some (hid (srcGood c) s) ∧ H c = some (.lst (ns.map V.int)) ∧ c ≠ rm ∧ H g = some (.lst (zs.map V.str)) ∧ zs ≠ [] ∧ zs.length ≤ 20000 ∧ (∀ z, z ∈ zs → isLetS z = true) ∧
  H rm = some (.lst [.int r]) ∧ 0 ≤ r ∧ r < 1000 ∧ deep.toNat < n ∧ ∀ v H' d r', SameB rm H H' → H' rm = some (.lst [.int r']) → 0 ≤ r' → r' ≤ r → Tp K H' v d → Drawn (deep.toNat - 1) d → (∀ m, deep.toNat - 1 < m → meas m d = r - r' + 1) → Q v H'
theorem sameB_refl {a : Addr} {H : Hp} : SameB a H H := fun _ _ _ h => h
theorem SameB.trans' {a : Addr} {H H1 H2 : Hp} (x : SameB a H H1) (y : SameB a H1 H2) : SameB a H H2 := fun b u n h => y b u n (x b u n h)
theorem sameB_of {a : Addr} {H H1 : Hp} (x : Same H H1) : SameB a H H1 := fun b u _ h => x b u h
theorem sameB_upd {a : Addr} {H : Hp} {o : HO} : SameB a H (upd H a o) := fun b u n h => by rw [upd_ne n]; exact h
theorem tpa_snoc {K : PySem.W.Frag} {H : Hp} {v : V} {d : PyData} (h : Tp K H v d) : ∀ {vs : List V} {ds : List PyData}, TpAll K H vs ds → TpAll K H (vs ++ [v]) (ds ++ [d])
  | _, _, .nil => .cons h .nil
  | _, _, .cons x r => .cons x (tpa_snoc h r)
section
variable {P : Program} {w : World} {K : PySem.W.Frag} {mg : Str → Option Value} {base : Heap}
theorem ok_termR_step {n : Nat} {f : Addr} {fd : FuncData} (F : FunD K "_law_term" "_law_term" (defArgs s_law_term) (defBody s_law_term) (defScope s_law_term) [] [] f fd) (hm : mg "_law_term" = some (.ref f)) (T : Top K mg)
    (D_law_take : Def P w K mg base "_law_take" 1 ["_law_source_here", "_law_many"] spTake) (D_law_pick : Def P w K mg base "_law_pick" 2 ["_law_source_here", "_law_row"] (spPick K))
    (D_law_term : Def P w K mg base "_law_term" (n + 2) ["_law_source_here", "_law_signs_here", "_law_deep", "_law_room"] (spTermR K n)) : Def P w K mg base "_law_term" (n + 3) ["_law_source_here", "_law_signs_here", "_law_deep", "_law_room"] (spTermR K (n + 1)) := by
  refine def_mk F hm (F.bindsN fun _ _ _ _ _ _ us hl => match us, hl with | [_, _, _, _], _ => rfl) sc_law_term (fun vs H Q E h => ?_) (fun cdv A outer s H vs Q E hr h => ?_)
  · obtain ⟨s, g, rm, c, m, r, zs, ns, rfl, _⟩ := h
    rfl
  obtain ⟨s, g, rm, c, m, r, zs, ns, rfl, hs, hc, hcr, hg, hz, hzl, hlet, hrm, r0, r1, hmn, q⟩ := h
  have hsrc : Src H s := ⟨c, ns, hs, hc⟩
  have hgr : g ≠ rm := fun e => by
    rw [e, hrm] at hg
    have e2 : ([V.int r] : List V) = zs.map V.str := HO.lst.inj (Option.some.inj hg)
    cases zs with
    | nil => exact hz rfl
    | cons z t => cases (List.cons.inj e2).1
  have hsr : s ≠ rm := fun e => by
    rw [e, hrm] at hs
    exact hid_lst (Option.some.inj hs).symm
  refine ⟨_, (pss_cons (ps_set (i := 4) sc_law_term.nd rfl (Or.inl rfl) (pe_op op_add pe_int (pe_op op_fdiv (pe_def D_law_take hr (by first | decide | omega) (pa_cons (pv 0) (pa_cons pe_int pa_nil))) pe_int)))
  (pss_cons (ps_if (PW.pt (pw_or (pt_cmpR op_lt (pv 2) pe_int (nomark _)) (pw_or (pt_cmpR op_lt (pe_ix (ix_listK K) (pv 3) pe_int (fun _ _ => rfl)) (pe_op op_sub (pv 4) pe_int) (nomark _)) (pw_or1 (pt_cmpR op_eq (pe_def D_law_take hr (by first | decide | omega) (pa_cons (pv 0) (pa_cons pe_int pa_nil))) pe_int (nomark _))))))
  (pss_one (ps_ret (pe_def D_law_pick hr (by first | decide | omega) (pa_cons (pv 0) (pa_cons (pv 1) pa_nil)))))
  pss_nil)
  (pss_cons (ps_asg (pe_op op_add (pe_op op_sub (pe_ix (ix_listK K) (pv 3) pe_int (fun _ _ => rfl)) (pv 4)) pe_int) (pg_sub (pv 3) pe_int set_list))
  (pss_cons (ps_set (i := 5) sc_law_term.nd rfl (Or.inl rfl) (pe_def D_law_pick hr (by first | decide | omega) (pa_cons (pv 0) (pa_cons (pe_lst (pa_cons pe_str (pa_cons pe_str pa_nil))) pa_nil))))
  (pss_one (ps_ret (pe_callTy (call_tuple_ofK K) (by rfl) T.b_tuple (by decide +kernel) (pa_cons (pe_op op_cat (pe_lst (pa_cons (pv 5) pa_nil)) (pe_lc (own := [("_law_k", 6)]) rfl sc_law_term.nd (pi_range1 (by rfl) T.b_range (pa_cons (pv 4) pa_nil)) (blkOk_by (by kernel_rfl)) (fun _ _ _ _ _ => (pg_name (i := 6) sc_law_term.nd rfl (Or.inl rfl) (.inr rfl))) (fun _ _ _ _ _ => pts_nil) (fun _ _ _ _ _ => (pe_def D_law_term hr (by first | decide | omega) (pa_cons (pv 0) (pa_cons (pv 1) (pa_cons (pe_op op_sub (pv 2) pe_int) (pa_cons (pv 3) pa_nil)))))))) pa_nil)))))))), ?_⟩
  refine ⟨_, rfl, s, 5, rfl, by omega, by omega, hsrc, fun t t0 t1 => ?_⟩
  refine ⟨_, _, rfl, rfl, ⟨by decide, by decide⟩, _, _, rfl, rfl, ?_⟩
  have pick : spPick K [.ref s, .ref g] H Q E := by
    refine ⟨s, g, _, rfl, hsrc, SqL.of hg, fun e => hz (List.map_eq_nil_iff.mp e), by rw [List.length_map]; exact hzl, fun v hv => ?_⟩
    obtain ⟨z, hz3, rfl⟩ := List.mem_map.mp hv
    have h0 : Drawn 0 (.str z) := hlet z hz3
    refine q _ H _ r sameB_refl hrm r0 (Int.le_refl _) (.str z) (drawn_mono h0 (Nat.zero_le _)) fun m hm => ?_
    rw [meas_let (show isLet (.str z) = true from hlet z hz3), if_pos (by omega)]
    omega
  refine ⟨_, rfl, _, _, rfl, rfl, _, rfl, ?_⟩
  refine if_dec (fun h1 => ⟨_, rfl, _, rfl, pick⟩) (fun h1 => ?_)
  refine ⟨_, rfl, rm, _, _, _, rfl, rfl, SqL.of hrm, at0, _, rfl, _, _, rfl, rfl, _, _, rfl, rfl, _, rfl, ?_⟩
  refine if_dec (fun h2 => ⟨_, rfl, _, rfl, pick⟩) (fun h2 => ?_)
  refine ⟨_, rfl, s, 4, rfl, by omega, by omega, hsrc, fun t2 t20 t21 => ⟨rfl, _, rfl, ?_⟩⟩
  refine if_int (fun h3 => ⟨_, rfl, _, rfl, pick⟩) (fun h3 => ?_)
  refine ⟨_, rfl, rm, _, _, _, rfl, rfl, SqL.of hrm, at0, _, rfl, _, _, rfl, rfl, _, _, rfl, rfl, _, rfl, rm, _, 0, 0, rfl, rfl, hrm, rfl, ?_⟩
  have eB : SameB rm H (upd H rm (.lst (([V.int r] : List V).set 0 (.int (r - (2 + t / 2) + 1))))) := sameB_upd
  have hrmB : upd H rm (.lst (([V.int r] : List V).set 0 (.int (r - (2 + t / 2) + 1)))) rm = some (.lst [.int (r - (2 + t / 2) + 1)]) := upd_same
  generalize upd H rm (.lst (([V.int r] : List V).set 0 (.int (r - (2 + t / 2) + 1)))) = HB at eB hrmB ⊢
  have hrB : (r - (2 + t / 2) + 1 : Int) ≥ 0 := by omega
  have hrB2 : (r - (2 + t / 2) + 1 : Int) ≤ r := by omega
  obtain ⟨mn, hmn2⟩ : ∃ mn : Nat, (2 + t / 2 : Int) = mn := ⟨(2 + t / 2).toNat, by omega⟩
  have hsB := eB _ _ hsr hs
  have hcB := eB _ _ hcr hc
  have hgB := eB _ _ hgr hg
  refine ⟨_, rfl, by decide +kernel, fun p1 hp1 => ?_⟩
  have e1 := same_new hp1 (.lst [.str ("&" : Str), .str ("|" : Str)])
  refine ⟨s, p1, _, rfl, ⟨c, ns, e1 _ _ hsB, e1 _ _ hcB⟩, SqL.of upd_same, by simp, by simp, fun o ho => ?_⟩
  have ho2 : ∃ z, o = .str z ∧ isOp (.str z) = true := by
    simp only [List.mem_cons, List.not_mem_nil, or_false] at ho
    rcases ho with rfl | rfl
    · exact ⟨_, rfl, by decide +kernel⟩
    · exact ⟨_, rfl, by decide +kernel⟩
  obtain ⟨z, rfl, hz9⟩ := ho2
  refine ⟨_, rfl, (by show 1 ≤ sizeLine; decide), fun p2 hp2 => ?_⟩
  have e2 := e1.trans (same_new hp2 (.lst [.str z]))
  refine ⟨_, rfl, _, rfl, by omega, by omega, fun D hD => ?_⟩
  have hp22 : upd (upd HB p1 (.lst [.str ("&" : Str), .str ("|" : Str)])) p2 (.lst [.str z]) p2 = some (.lst [.str z]) := upd_same
  generalize upd (upd HB p1 (.lst [.str ("&" : Str), .str ("|" : Str)])) p2 (.lst [.str z]) = H2 at e2 hD hp22 ⊢
  have hDr : D ≠ rm := fun e => by
    have := e2 _ _ hrmB
    rw [← e, hD] at this
    cases this
  have hp2r : p2 ≠ rm := fun e => by
    have := e2 _ _ hrmB
    rw [← e, hp22] at this
    have e3 : ([V.str z] : List V) = [V.int (r - (2 + t / 2) + 1)] := HO.lst.inj (Option.some.inj this)
    cases (List.cons.inj e3).1
  rw [show (2 + t / 2 : Int).toNat = mn by omega]
  refine lc_range (fun i H' => SameB rm H2 H' ∧ ∃ ys ds r', H' D = some (.lst ys) ∧ ys.length = i ∧ TpAll K H' ys ds ∧ (∀ d ∈ ds, Drawn (m.toNat - 1 - 1) d) ∧ H' rm = some (.lst [.int r']) ∧ 0 ≤ r' ∧ r' ≤ r - (2 + t / 2) + 1 ∧
    ∀ m', m.toNat - 1 - 1 < m' → (ds.map (meas m')).sum = r - (2 + t / 2) + 1 - r' + i) ⟨sameB_of (same_new hD _), [], [], _, upd_same, rfl, .nil, (fun d h => by cases h), ?_, hrB, Int.le_refl _, (fun m' _ => by simp)⟩ ?_ ?_
  · rw [upd_ne (Ne.symm hDr)]
    exact e2 _ _ hrmB
  · rintro i H' hi ⟨e, ys, ds, r', hD', hl, hds, hdr, hrm', r0', rle, hsum⟩
    refine ⟨rfl, ?_⟩
    refine ⟨_, rfl, _, rfl, _, rfl, _, _, rfl, rfl, _, rfl, s, g, rm, c, m - 1, r', zs, ns, rfl, e _ _ hsr (e2 _ _ hsB), e _ _ hcr (e2 _ _ hcB), hcr, e _ _ hgr (e2 _ _ hgB), hz, hzl, hlet, hrm', r0', by omega, by omega, fun v H3 d r'' e3 hrm3 r0'' rle' hd hdd hmm => ⟨ys, e3 _ _ hDr hD', le_line (by omega), ?_⟩⟩
    have hD3 := e3 _ _ hDr hD'
    have sT : SameT H3 (upd H3 D (.lst (ys ++ [v]))) := (SameT.refl H3).updL hD3
    refine ⟨fun b u hb hu => ?_, ys ++ [v], ds ++ [d], r'', upd_same, by rw [List.length_append, hl] <;> rfl, tpa_snoc (hd.up sT) ((hds.up (sameT_b hrm' e3)).up sT), fun x hx => ?_, ?_, r0'', by omega, fun m' hm' => ?_⟩
    · rw [upd_ne (ne_of_none hu hD)]
      exact e3 _ _ hb (e _ _ hb hu)
    · rw [show (m - 1).toNat - 1 = m.toNat - 1 - 1 by omega] at hdd
      rcases List.mem_append.mp hx with hx | hx
      · exact hdr x hx
      · rw [List.mem_singleton.mp hx]
        exact hdd
    · rw [upd_ne (Ne.symm hDr)]
      exact hrm3
    · rw [List.map_append, List.sum_append, hsum m' hm', List.map_cons, List.map_nil, List.sum_cons, List.sum_nil, hmm m' (by omega)]
      push_cast
      omega
  · rintro H' ⟨e, ys, ds, r', hD', hl, hds, hdr, hrm', r0', rle, hsum⟩
    have hlen := hds.len
    refine ⟨p2, D, _, _, rfl, rfl, e _ _ hp2r hp22, hD', le_line (by simp; omega), fun p3 hp3 => ?_⟩
    have e4 := same_new hp3 (.lst ([.str z] ++ ys))
    refine ⟨p3, _, rfl, .inl ⟨SqL.of upd_same, fun p4 hp4 => ?_⟩⟩
    have e5 := same_new hp4 (.tup ([.str z] ++ ys))
    have e45 := e4.trans e5
    refine q _ _ (.tuple (.str z :: ds)) r' (((eB.trans' (sameB_of e2)).trans' e).trans' (sameB_of e45)) (e45 _ _ hrm') r0' (by omega) (.tup (.inl upd_same) (.cons (.str z) ((hds.up (Same.T e4)).up (Same.T e5)))) ?_ fun m' hm' => ?_
    · have h9 : Drawn (m.toNat - 1 - 1 + 1) (.tuple (.str z :: ds)) := .inr ⟨_, ds, rfl, hz9, by omega, by omega, hdr⟩
      rw [show m.toNat - 1 - 1 + 1 = m.toNat - 1 by omega] at h9
      exact h9
    · obtain ⟨j, rfl⟩ : ∃ j, m' = j + 1 := ⟨m' - 1, by omega⟩
      have hs4 := hsum j (by omega)
      have hin := sum_in (f := meas j) (B := ((24 ^ (m.toNat - 1 - 1) : Nat) : Int)) (l := ds) fun p hp => meas_drawn (hdr p hp) j (by omega)
      rw [meas_up tup_let (by omega)]
      match ds, hin, hs4, hlen with
      | [], _, _, hlen => exact absurd hlen (by rw [hl]; simp; omega)
      | [_], _, _, hlen => exact absurd hlen (by rw [hl]; simp; omega)
      | y :: x :: r2, hin, hs4, _ =>
        show (if isOp (.str z) = true then (if (0 : Int) ∈ ((y :: x :: r2).map (meas j)) then 0 else ((y :: x :: r2).map (meas j)).sum) else 0) = _
        rw [if_pos hz9, if_neg hin.1, hs4]
        omega
theorem ok_termR {f : Addr} {fd : FuncData} (F : FunD K "_law_term" "_law_term" (defArgs s_law_term) (defBody s_law_term) (defScope s_law_term) [] [] f fd) (hm : mg "_law_term" = some (.ref f)) (T : Top K mg)
    (D_law_take : Def P w K mg base "_law_take" 1 ["_law_source_here", "_law_many"] spTake) (D_law_pick : Def P w K mg base "_law_pick" 2 ["_law_source_here", "_law_row"] (spPick K)) :
    ∀ n : Nat, Def P w K mg base "_law_term" (n + 2) ["_law_source_here", "_law_signs_here", "_law_deep", "_law_room"] (spTermR K n)
  | 0 => (def_none F hm (F.bindsN fun _ _ _ _ _ _ us hl => match us, hl with | [_, _, _, _], _ => rfl) fun vs H Q E ⟨_, _, _, _, _, _, _, _, _, _, _, _, _, _, _, _, _, _, _, h, _⟩ => by omega).mono (Nat.zero_le _)
  | n + 1 => ok_termR_step F hm T D_law_take D_law_pick (ok_termR F hm T D_law_take D_law_pick n)
end
end FF
namespace FF
open PySem PySem.Spec PyProof.Rows L2
section
variable {P : Program} {w : World} {K : PySem.W.Frag} {mg : Str → Option Value} {base : Heap}
theorem fn_fe {f : Addr} {fd : FuncData} (F : FunD K "__init__" "FaultError.__init__" (defArgs s_FaultError_init) (defBody s_FaultError_init) (defScope s_FaultError_init) [] [] f fd) (T : Top K mg) : FnOk P w K mg base CX0 1 f fd ["self", "code"] (spFE K) := by
  refine FunD.ok F sc_FaultError_init (fun vs H Q E h => ?_) (fun cdv A outer s0 H vs Q E hr h => ?_)
  · obtain ⟨a, C, z, rfl, _⟩ := h
    rfl
  obtain ⟨a, C, z, rfl, hC, hno, ha, q⟩ := h
  refine ⟨_, PSs.nox (pss_cons (ps_expr (pe_veinit (by rfl) T.b_ValueError T.fe.ve (pa_cons (pv 0) (pa_cons (pv 1) pa_nil)))) (pss_one (ps_ost (pv 0) (pv 1)))), ?_⟩
  refine ⟨_, rfl, _, rfl, a, C, [z], rfl, (show 1 ≤ 1000 by decide), hC, ha, ?_⟩
  exact ⟨_, rfl, _, rfl, a, C, rfl, hC, hno, .inl ⟨ha, fun dx hdx hne => q dx hdx hne⟩⟩
theorem fn_InvalidTerm {f : Addr} {fd fdg : FuncData} (F : FunD K "__init__" "InvalidTerm.__init__" (defArgs s_InvalidTerm_init) (defBody s_InvalidTerm_init) (defScope s_InvalidTerm_init) [] [] f fd) (T : Top K mg)
    (FE : FnOk P w K mg base CX0 1 (He.ma K (He.ga K "FaultError") "__init__") fdg ["self", "code"] (spFE K)) (hb : Binds K fdg ["self", "code"] []) : FnOk P w K mg base CX0 2 f fd ["self"] (spIni K "InvalidTerm") := by
  refine FunD.ok F sc_InvalidTerm_init (fun vs H Q E h => ?_) (fun cdv A outer s0 H vs Q E hr h => ?_)
  · obtain ⟨a, C, rfl, _⟩ := h
    rfl
  obtain ⟨a, C, rfl, hC, hno, ha, q⟩ := h
  refine ⟨_, PSs.nox (pss_one (ps_expr (pe_clsfn (by rfl) T.c_FaultError T.fe.rd ⟨T.fe.at_, rfl⟩ FE hr T.fe.kp hb pass0 (pa_cons (pv 0) (pa_cons pe_str pa_nil))))), ?_⟩
  exact ⟨_, rfl, a, C, _, rfl, hC, hno, ha, q⟩
end
theorem gives_law_call {X : Cx} (T : Top X.K X.mg) {g : Addr} {cdg : Value} {q : Str} : GivesS X ["_law_ask", "_law_told", "_law_word", "e"] "_law_call" (defScope s_law_call) g cdg (defBody s_law_call) "_law_ask" q (TTc X.K (He.ga X.K "FaultError")) := by
  intro f c' s H Q tl act hc h
  refine ⟨_, pss_cons (ps_set (i := 1) sc_law_call.nd rfl (Or.inl rfl) pe_non) (pss_cons (ps_set (i := 2) sc_law_call.nd rfl (Or.inl rfl) pe_str) (pss_cons
    (ps_try_manyA (X := (cxOf C8.CX0 X.prog X.w X.K X.mg X.base ["_law_ask", "_law_told", "_law_word", "e"] "_law_call" (defScope s_law_call) g cdg X.A X.stack s H C8.E0).nox) (i := 3)
      (tb := fun W D σ H => ∃ E : XK, (∀ cls d H', E cls d H' → W cls d σ H') ∧ σ[0]? = some (some (.ref f)) ∧ H c' = some (LamX.CodeO c' q) ∧ ∃ Q' : VK, (∀ v H', Q' v H' → D.nx (σ.set 1 (some v)) H') ∧ tl E H Q')
      (l := [(.ref (He.ga X.K "FaultError"), fun a cls d D σ H => ∃ C, OwnC X.K C ∧ tAsg (tXf a cls d C "code" (tVar 3)) (gName 2) D σ H), (.ref (He.ga X.K "Missing"), fun a cls d D σ H => ∃ C, OwnC X.K C ∧ tAsg (tXf a cls d C "code" (tVar 3)) (gName 2) D σ H),
        (.ref (He.ga X.K "NothingLeft"), fun a cls d D σ H => ∃ C, OwnC X.K C ∧ tAsg (tXf a cls d C "code" (tVar 3)) (gName 2) D σ H)])
      rfl rfl sc_law_call.nd rfl rfl LamX.takes0 (fun W pn xe tk _ => ?_)
      (.cons ⟨rfl, by decide, .inl T.c_FaultError⟩ (fun a oe cls d pn hz hf => pss_ex fun C hC => pss_one (ps_set (i := 2) sc_law_call.nd rfl (Or.inl rfl) (pe_xf hC.xf hC.noc hz hf (pv 3))))
        (.cons ⟨rfl, by decide, .inl T.c_Missing⟩ (fun a oe cls d pn hz hf => pss_ex fun C hC => pss_one (ps_set (i := 2) sc_law_call.nd rfl (Or.inl rfl) (pe_xf hC.xf hC.noc hz hf (pv 3))))
          (.cons ⟨rfl, by decide, .inl T.c_NothingLeft⟩ (fun a oe cls d pn hz hf => pss_ex fun C hC => pss_one (ps_set (i := 2) sc_law_call.nd rfl (Or.inl rfl) (pe_xf hC.xf hC.noc hz hf (pv 3)))) .nil))))
    (pss_one (ps_ret (pe_tup (pa_cons (pv 1) (pa_cons (pv 2) pa_nil))))))), ?_⟩
  · refine ⟨fun pins s' σ H' D I h' => ?_⟩
    obtain ⟨E, hW, h1, h2, Q', hQ, h3⟩ := h'
    exact (pss_one (ps_set (i := 1) sc_law_call.nd rfl (Or.inl rfl) (pe_mono (act W pn xe _ _ tk)))).run pins s' σ H' D I ⟨Q', hQ, h1, h2, E, hW, h3⟩
  · refine ⟨fun cls d H' => ∃ (C : Addr) (z : Str), cls = .ref C ∧ OwnC X.K C ∧ PySem.W.exmOne X.K (.ref C) (.ref (He.ga X.K "FaultError")) = some true ∧ Thr z d H' ∧ ∀ p, H' p = none → Q (.ref p) (upd H' p (.tup [.non, .str z])), fun cls d H' hE => ?_, rfl, hc, ?_⟩
    · obtain ⟨C, z, rfl, hC, he, ⟨dd, fs, rfl, hd, hz⟩, hq⟩ := hE
      refine ⟨true, he, fun _ a ha => ?_, fun z => by cases z⟩
      exact ⟨C, hC, _, rfl, rfl, rfl, dd, fs, _, rfl, hd, hz, _, rfl, _, rfl, (show 2 ≤ sizeLine by decide), hq⟩
    · exact ⟨_, fun v H' hq => ⟨_, rfl, _, rfl, (show 2 ≤ sizeLine by decide), hq⟩, h⟩
end FF
namespace FF
open PySem PySem.Spec PyProof.Rows L2
section
variable {P : Program} {w : World} {K : PySem.W.Frag} {mg : Str → Option Value} {base : Heap}
/-- is_letter(value): for data -/
def spIsLetter (K : PySem.W.Frag) : Sp := fun vs H Q _ => ∃ (v : V) (d : PyData), vs = [v] ∧ Dp K H v d ∧ nice d = true ∧ Q (.bl (isLet d)) H
theorem ok_is_letter {f : Addr} {fd : FuncData} (F : FunD K "is_letter" "is_letter" (defArgs s_is_letter) (defBody s_is_letter) (defScope s_is_letter) [] [] f fd) (hm : mg "is_letter" = some (.ref f)) (T : Top K mg) : Def P w K mg base "is_letter" 1 ["value"] (spIsLetter K) := by
  refine def_mk F hm (F.bindsN fun _ _ _ _ _ _ us hl => match us, hl with | [_], _ => rfl) sc_is_letter (fun vs H Q E h => ?_) (fun cdv A outer s H vs Q E hr h => ?_)
  · obtain ⟨v, d, rfl, _⟩ := h
    rfl
  obtain ⟨v, d, rfl, hd, hn, q⟩ := h
  refine ⟨_, (pss_one (ps_ret (pe_and (pe_callB (call_isK K kb_str) (by rfl) T.b_isinstance (by decide +kernel) (pa_cons (pv 0) (pa_cons (pe_bltn (v := .ty "str") (by rfl) T.b_str (by decide +kernel) rfl) pa_nil))) (pe_and (pe_cmpR op_eq (pe_callB (call_lenK K) (by rfl) T.b_len (by decide +kernel) (pa_cons (pv 0) pa_nil)) pe_int (nomark _)) (pe_one (pe_cmpR op_in_sign (pv 0) (pe_gs T.g_LETTERS) rfl)))))), ?_⟩
  refine ⟨_, rfl, v, d, rfl, hd, _, rfl, ?_⟩
  cases hd with
  | str z =>
    refine iteT ⟨_, rfl, _, z.length, rfl, ⟨nice_str hn, rfl⟩, rfl, _, rfl, ?_⟩
    refine if_int (fun h1 => ?_) (fun h1 => ?_)
    · obtain ⟨c, rfl⟩ := len1 (z := z) (by omega)
      exact ⟨_, rfl, c, lettersS, rfl, rfl, q⟩
    · rw [show isLet (.str z) = false from isLetS_no (by omega)] at q
      exact q
  | non => exact iteF q
  | bl b => exact iteF q
  | int i => exact iteF q
  | lst _ _ => exact iteF q
  | tup _ _ => exact iteF q
/-- measured(value, max_depth), below n deep -/
def spMeasured (K : PySem.W.Frag) (n : Nat) : Sp := fun vs H Q _ => ∃ (v : V) (d : PyData) (m : Int), vs = [v, .int m] ∧ Dp K H v d ∧ nice d = true ∧ m.toNat < n ∧ ∀ H', Same H H' → Q (.int (meas m.toNat d)) H'
theorem inv_op {z : Str} : inV (.str z) [.str ("&" : Str), .str ("|" : Str)] = isOp (.str z) := by
  show ((("&" : Str) == z) || ((("|" : Str) == z) || false)) = (decide (z = ("&" : Str)) || decide (z = ("|" : Str)))
  rw [Bool.or_false, Bool.beq_comm (a := ("&" : Str)), Bool.beq_comm (a := ("|" : Str)), Bool.beq_eq_decide_eq, Bool.beq_eq_decide_eq]
theorem flat_ints (ns : List Int) : (ns.map V.int).all flatV = true := by
  rw [List.all_eq_true]
  intro v hv
  obtain ⟨n, _, rfl⟩ := List.mem_map.mp hv
  rfl
theorem in_ints {i : Int} {ns : List Int} : inV (.int i) (ns.map V.int) = decide (i ∈ ns) := by
  unfold inV
  rw [List.any_map]
  induction ns with
  | nil => rfl
  | cons n ns ih =>
    rw [List.any_cons, ih]
    show ((n == i) || decide (i ∈ ns)) = decide (i ∈ n :: ns)
    by_cases h : i = n
    · subst h; simp
    · have : (n == i) = false := beq_eq_false_iff_ne.mpr (fun z => h z.symm)
      rw [this, Bool.false_or]
      simp [h]
theorem ok_measured_step {n : Nat} {f : Addr} {fd : FuncData} (F : FunD K "measured" "measured" (defArgs s_measured) (defBody s_measured) (defScope s_measured) [] [] f fd) (hm : mg "measured" = some (.ref f)) (T : Top K mg) (D_is_letter : Def P w K mg base "is_letter" 1 ["value"] (spIsLetter K))
    (D_measured : Def P w K mg base "measured" (n + 1) ["value", "max_depth"] (spMeasured K n)) : Def P w K mg base "measured" (n + 2) ["value", "max_depth"] (spMeasured K (n + 1)) := by
  refine def_mk F hm (F.bindsN fun _ _ _ _ _ _ us hl => match us, hl with | [_, _], _ => rfl) sc_measured (fun vs H Q E h => ?_) (fun cdv A outer s H vs Q E hr h => ?_)
  · obtain ⟨v, d, m, rfl, _⟩ := h
    rfl
  obtain ⟨v, d, m, rfl, hd, hn, hm, q⟩ := h
  refine ⟨_, (pss_cons (ps_if (pt_val (pe_def D_is_letter hr (by first | decide | omega) (pa_cons (pv 0) pa_nil)))
  (pss_one (ps_ret (pe_callTy call_int1 (by rfl) T.b_int (by decide +kernel) (pa_cons (pe_cmpR op_gt (pv 1) pe_int (nomark _)) pa_nil))))
  pss_nil)
  (pss_cons (ps_if (PW.pt (pw_or (pt_cmpR op_lt (pv 1) pe_int (nomark _)) (pw_or (pt_not (pt_val (pe_callB (call_isK K kb_tup) (by rfl) T.b_isinstance (by decide +kernel) (pa_cons (pv 0) (pa_cons (pe_bltn (v := .ty "tuple") (by rfl) T.b_tuple (by decide +kernel) rfl) pa_nil))))) (pw_or1 (pt_cmpR op_lt (pe_callB (call_lenK K) (by rfl) T.b_len (by decide +kernel) (pa_cons (pv 0) pa_nil)) pe_int (nomark _))))))
  (pss_one (ps_ret pe_int))
  pss_nil)
  (pss_cons (ps_if (PW.pt (pw_or (pt_not (pt_val (pe_callB (call_isK K kb_str) (by rfl) T.b_isinstance (by decide +kernel) (pa_cons (pe_ix (ix_tupK K) (pv 0) pe_int (fun _ _ => rfl)) (pa_cons (pe_bltn (v := .ty "str") (by rfl) T.b_str (by decide +kernel) rfl) pa_nil))))) (pw_or1 (pt_cmpR (op_notIn_seqK K) (pe_ix (ix_tupK K) (pv 0) pe_int (fun _ _ => rfl)) (pe_gT T.g_OPERATORS) (by rfl)))))
  (pss_one (ps_ret pe_int))
  pss_nil)
  (pss_cons (ps_setLc (i := 2) (own := [("part", 3)]) rfl sc_measured.nd rfl rfl (sw_true rfl rfl rfl (by kernel_rfl)) (pi_tupK K (pe_slice (sl_tupK K) (pv 0) (po_some pe_int) po_none)) (blkOk_by (by kernel_rfl)) (fun _ _ _ _ _ => (pg_name (i := 3) sc_measured.nd rfl (Or.inl rfl) (.inr rfl))) (fun _ _ _ _ _ => pts_nil) (fun _ _ _ _ _ => (pe_def D_measured hr (by first | decide | omega) (pa_cons (pv 3) (pa_cons (pe_op op_sub (pv 1) pe_int) pa_nil)))))
  (pss_one (ps_ret (pe_ifExp (pt_cmpR (op_in_seqK K) pe_int (pv 2) (by rfl)) pe_int (pe_callB (cr_sumK K rfl) (by rfl) T.b_sum (by decide +kernel) (pa_cons (pv 2) pa_nil))))))))), ?_⟩
  refine ⟨_, rfl, v, d, rfl, hd, hn, _, rfl, ?_⟩
  refine if_b (fun hl => ?_) (fun hl => ?_)
  · refine ⟨_, rfl, _, _, rfl, rfl, .inr ⟨_, rfl, ?_⟩⟩
    refine qi (q H (Same.refl H)) ?_
    rw [meas_let hl]
    by_cases h0 : 0 < m
    · rw [if_pos (by omega), if_pos (decide_eq_true h0)]
    · rw [if_neg (by omega), if_neg (by simpa using h0)]
  refine ⟨_, rfl, _, _, rfl, rfl, _, rfl, ?_⟩
  refine if_dec (fun h2 => ?_) (fun h2 => ?_)
  · exact (qi (q H (Same.refl H)) (meas_low hl (by omega)))
  obtain ⟨k, hk⟩ : ∃ k, m.toNat = k + 2 := ⟨m.toNat - 2, by omega⟩
  rw [hk] at q hm
  have no : measP (meas (k + 1)) d = 0 → Q (.int 0) H := fun e => qi (q H (Same.refl H)) (by rw [meas_up hl (by omega), e])
  refine ⟨_, rfl, v, d, rfl, hd, _, rfl, ?_⟩
  cases hd with
  | tup ht ha =>
    rename_i a xs ds
    refine ⟨_, rfl, _, xs.length, rfl, .inr ⟨xs, ht, rfl⟩, _, _, rfl, rfl, _, rfl, ?_⟩
    have hlen := da_len ha
    refine if_dec (fun h3 => ?_) (fun h3 => ?_)
    · refine no ?_
      match ds, hlen with
      | [], _ => rfl
      | [_], _ => rfl
      | [_, _], _ => rfl
      | _ :: _ :: _ :: _, e => simp at e; omega
    have h4 : 3 ≤ ds.length := by omega
    match ds, ha, h4 with
    | [], _, e => exact absurd e (by simp)
    | [_], _, e => exact absurd e (by simp)
    | [_, _], _, e => exact absurd e (by simp)
    | x :: y :: z :: r, .cons (v := vx) (vs := vr) hx hp, e =>
    refine ⟨_, rfl, a, _, _, vx, rfl, rfl, ht, at0, _, x, rfl, hx, _, rfl, ?_⟩
    have noOp : isOp x = false → Q (.int 0) H := fun e => no (by show (if isOp x = true then _ else _) = _; rw [if_neg (by rw [e]; decide)])
    refine if_nb (fun h5 => ?_) (fun h5 => ?_)
    · exact noOp (by cases x <;> first | rfl | cases h5)
    cases hx with
    | str zx =>
    refine ⟨_, rfl, a, _, _, _, rfl, rfl, ht, at0, _, _, rfl, .inr (T.t_OPERATORS H), rfl, rfl, _, rfl, ?_⟩
    refine if_nb (fun h6 => ?_) (fun h6 => ?_)
    · exact noOp (inv_op.symm.trans h6)
    refine ⟨_, rfl, _, rfl, a, _, rfl, ht, notWhole1, fun p hp0 => ⟨p, rfl, ⟨_, SqT.of upd_same⟩, fun D hD => ?_⟩⟩
    rw [cut1] at hD ⊢
    have e1 := same_new hp0 (.tup vr)
    refine lc_mapT (j := 3) (fun i u _ => ∃ d, (y :: z :: r)[i]? = some d ∧ u = .int (meas (k + 1) d)) (fun _ _ _ _ _ h => h) hD (SqT.of upd_same) ?_ (fun _ => rfl) ?_ ?_
    · have := nice_tl hn
      have := da_len hp
      exact le_line (by simp at *; omega)
    · intro i x H2 hx e2 Q' k'
      obtain ⟨d, hd1, hd2⟩ := da_get hp hx
      refine ⟨_, rfl, _, rfl, _, _, rfl, rfl, x, d, m - 1, rfl, up_d (e1.trans e2) hd2, nice_ti hn (List.mem_cons_of_mem _ (List.mem_of_getElem? hd1)), by omega, fun H' e3 => k' _ _ e3 ⟨d, hd1, ?_⟩⟩
      rw [show (m - 1).toNat = k + 1 by omega]
    · intro H2 ys e2 hD2 hl2 hy
      have hmap : ys = ((y :: z :: r).map (meas (k + 1))).map V.int := by
        rw [List.map_map]
        exact eq_map_of (hl2.trans (da_len hp)) fun i u hu => hy i u hu
      subst hmap
      refine ⟨_, rfl, D, _, rfl, .inl (SqL.of hD2), rfl, flat_ints _, _, rfl, ?_⟩
      have e3 := e1.trans e2
      have fin := q H2 e3
      rw [meas_up hl (by omega)] at fin
      have fin2 : Q (.int (if (0 : Int) ∈ ((y :: z :: r).map (meas (k + 1))) then 0 else ((y :: z :: r).map (meas (k + 1))).sum)) H2 := by
        refine qi fin ?_
        show (if isOp (.str zx) = true then _ else _) = _
        rw [if_pos (inv_op.symm.trans h6)]
      show (if (inV (.int 0) (((y :: z :: r).map (meas (k + 1))).map V.int)) = true then _ else _)
      rw [in_ints]
      refine if_dec (fun h7 => ?_) (fun h7 => ?_)
      · rw [if_pos h7] at fin2
        exact fin2
      · rw [if_neg h7] at fin2
        exact ⟨_, rfl, D, _, rfl, SqL.of hD2, fin2⟩
    | _ => cases h5
  | str z => exact no rfl
  | non => exact no rfl
  | bl b => exact no rfl
  | int i => exact no rfl
  | lst _ _ => exact no rfl
end
end FF
namespace FF
open PySem PySem.Spec PyProof.Rows L2
abbrev inB (m s : Int) : Bool := decide (1 ≤ m) && decide (m ≤ s)
def spIsTerm (K : PySem.W.Frag) : Sp := fun vs H Q _ => ∃ (v : V) (d : PyData) (md ms : Int), vs = [v, .int md, .int ms] ∧ Dp K H v d ∧ nice d = true ∧ md.toNat < 11 ∧ ∀ H', Same H H' → Q (.bl (inB (meas md.toNat d) ms)) H'
section
variable {P : Program} {w : World} {K : PySem.W.Frag} {mg : Str → Option Value} {base : Heap}
theorem fn_is_term {f : Addr} {fd : FuncData} (F : FunD K "is_term" "is_term" (defArgs s_is_term) (defBody s_is_term) (defScope s_is_term) [] [("max_depth", .int 5), ("max_size", .int 24)] f fd) (T : Top K mg)
    (D_measured : Def P w K mg base "measured" 12 ["value", "max_depth"] (spMeasured K 11)) : FnOk P w K mg base CX0 13 f fd ["value", "max_depth", "max_size"] (spIsTerm K) := by
  refine fn_mk F sc_is_term (fun vs H Q E h => ?_) (fun cdv A outer s H vs Q E hr h => ?_)
  · obtain ⟨v, d, md, ms, rfl, _⟩ := h
    rfl
  obtain ⟨v, d, md, ms, rfl, hd, hn, h10, q⟩ := h
  refine ⟨_, (pss_one (ps_ret (pe_chain op_le op_le pe_int (pe_def D_measured hr (by first | decide | omega) (pa_cons (pv 0) (pa_cons (pv 1) pa_nil))) (pv 2)))), ?_⟩
  refine ⟨_, rfl, _, rfl, v, d, md, rfl, hd, hn, h10, fun H1 e => ?_⟩
  refine ⟨_, _, rfl, rfl, _, rfl, ?_⟩
  have q1 := q H1 e
  refine if_dec (fun h1 => ?_) (fun h1 => ?_)
  · refine ⟨_, rfl, _, _, rfl, rfl, qb q1 ?_⟩
    show (decide (1 ≤ meas md.toNat d) && decide (meas md.toNat d ≤ ms)) = decide (meas md.toNat d ≤ ms)
    rw [decide_eq_true (show (1 : Int) ≤ meas md.toNat d from h1), Bool.true_and]
  · refine qb q1 ?_
    show (decide (1 ≤ meas md.toNat d) && decide (meas md.toNat d ≤ ms)) = false
    rw [decide_eq_false (show ¬ (1 : Int) ≤ meas md.toNat d from h1), Bool.false_and]
section
variable {f : Addr} {fd : FuncData} (F : FunD K "is_term" "is_term" (defArgs s_is_term) (defBody s_is_term) (defScope s_is_term) [] [("max_depth", .int 5), ("max_size", .int 24)] f fd)
theorem bind_a (F : FunD K "is_term" "is_term" (defArgs s_is_term) (defBody s_is_term) (defScope s_is_term) [] [("max_depth", .int 5), ("max_size", .int 24)] f fd) : ∃ ds, Vals [.int 5, .int 24] ds ∧ Binds K fd ["value", "max_depth", "max_size"] ds :=
  F.binds0 1 (by simp) rfl fun D doc pm an cdv ct us ks hu hk => match us, ks, hu, hk with
    | [_], [_, _], _, _ => ⟨_, _, _, _, _, _, rfl, rfl, _, _, _, _, _, _, rfl, rfl, rfl⟩
end
end
end FF
namespace FF
open PySem PySem.Spec PyProof.Rows L2
def spMeasure (K : PySem.W.Frag) (n : Nat) : Sp := fun vs H Q _ => ∃ (v : V) (d : PyData) (m : Int), vs = [v, .int m] ∧ Dp K H v d ∧ Nice 60 d ∧ m.toNat < n ∧ ∀ H', Same H H' → Q (.int (meas m.toNat d)) H'
section
variable {P : Program} {w : World} {K : PySem.W.Frag} {mg : Str → Option Value} {base : Heap}
theorem inv_op2 {z : PyData} : (([.str ("&" : Str), .str ("|" : Str)] : List PyData).any fun y => PyData.eqv y z) = isOp z := by
  cases z with
  | str z =>
    show (PyData.eqv (.str ("&" : Str)) (.str z) || (PyData.eqv (.str ("|" : Str)) (.str z) || false)) = (decide (z = ("&" : Str)) || decide (z = ("|" : Str)))
    rw [PyData.eqv, PyData.eqv, Bool.or_false, Bool.beq_comm (a := ("&" : Str)), Bool.beq_comm (a := ("|" : Str)), Bool.beq_eq_decide_eq, Bool.beq_eq_decide_eq]
  | _ => rfl
theorem ok_law_measure_step {n : Nat} {f : Addr} {fd : FuncData} (F : FunD K "_law_measure" "_law_measure" (defArgs s_law_measure) (defBody s_law_measure) (defScope s_law_measure) [] [] f fd) (hm : mg "_law_measure" = some (.ref f)) (T : Top K mg)
    (D_law_measure : Def P w K mg base "_law_measure" n ["_law_word", "_law_deep"] (spMeasure K n)) : Def P w K mg base "_law_measure" (n + 1) ["_law_word", "_law_deep"] (spMeasure K (n + 1)) := by
  refine def_mk F hm (F.bindsN fun _ _ _ _ _ _ us hl => match us, hl with | [_, _], _ => rfl) sc_law_measure (fun vs H Q E h => ?_) (fun cdv A outer s H vs Q E hr h => ?_)
  · obtain ⟨v, d, m, rfl, _⟩ := h
    rfl
  obtain ⟨v, d, m, rfl, hd, hn60, hm, q⟩ := h
  have hn := hn60.ok
  refine ⟨_, (pss_cons (ps_if (pt_val (pe_callB (call_isK K kb_str) (by rfl) T.b_isinstance (by decide +kernel) (pa_cons (pv 0) (pa_cons (pe_bltn (v := .ty "str") (by rfl) T.b_str (by decide +kernel) rfl) pa_nil))))
  (pss_one (ps_ret (pe_callTy call_int1 (by rfl) T.b_int (by decide +kernel) (pa_cons (pe_and (pe_cmpR op_eq (pe_callB (call_lenK K) (by rfl) T.b_len (by decide +kernel) (pa_cons (pv 0) pa_nil)) pe_int (nomark _)) (pe_and (pe_cmpR op_in_sign (pv 0) pe_str rfl) (pe_one (pe_cmpR op_gt (pv 1) pe_int (nomark _))))) pa_nil))))
  pss_nil)
  (pss_cons (ps_if (PW.pt (pw_or (pt_cmpR op_lt (pv 1) pe_int (nomark _)) (pw_or (pt_not (pt_val (pe_callB (call_isK K kb_tup) (by rfl) T.b_isinstance (by decide +kernel) (pa_cons (pv 0) (pa_cons (pe_bltn (v := .ty "tuple") (by rfl) T.b_tuple (by decide +kernel) rfl) pa_nil))))) (pw_or (pt_cmpR op_lt (pe_callB (call_lenK K) (by rfl) T.b_len (by decide +kernel) (pa_cons (pv 0) pa_nil)) pe_int (nomark _)) (pw_or1 (pt_cmpR (op_notInK K (r65 hr)) (pe_ix (ix_tupK K) (pv 0) pe_int (fun _ _ => rfl)) (pe_tup (pa_cons pe_str (pa_cons pe_str pa_nil))) (by rfl)))))))
  (pss_one (ps_ret pe_int))
  pss_nil)
  (pss_cons (ps_setLc (i := 2) (own := [("_law_one", 3)]) rfl sc_law_measure.nd rfl rfl (sw_true rfl rfl rfl (by kernel_rfl)) (pi_tupK K (pe_slice (sl_tupK K) (pv 0) (po_some pe_int) po_none)) (blkOk_by (by kernel_rfl)) (fun _ _ _ _ _ => (pg_name (i := 3) sc_law_measure.nd rfl (Or.inl rfl) (.inr rfl))) (fun _ _ _ _ _ => pts_nil) (fun _ _ _ _ _ => (pe_def D_law_measure hr (by first | decide | omega) (pa_cons (pv 3) (pa_cons (pe_op op_sub (pv 1) pe_int) pa_nil)))))
  (pss_one (ps_ret (pe_ifExp (pt_cmpR (op_in_seqK K) pe_int (pv 2) (by rfl)) pe_int (pe_callB (cr_sumK K rfl) (by rfl) T.b_sum (by decide +kernel) (pa_cons (pv 2) pa_nil)))))))), ?_⟩
  refine ⟨_, rfl, v, d, rfl, hd, _, rfl, ?_⟩
  refine if_b (fun hl => ?_) (fun hns => ?_)
  · cases hd with
    | str z =>
      have fin : ∀ b : Bool, (b = true → isLetS z = true ∧ 0 < m) → (b = false → isLetS z = false ∨ ¬ 0 < m) → Q (.int (if b = true then 1 else 0)) H := fun b h1 h2 => by
        refine qi (q H (Same.refl H)) ?_
        cases b with
        | true =>
          obtain ⟨h3, h4⟩ := h1 rfl
          rw [meas_let (d := .str z) h3, if_pos (by omega)] <;> rfl
        | false =>
          rcases h2 rfl with h3 | h3
          · cases hk : m.toNat with
            | zero => rfl
            | succ k =>
              cases k with
              | zero => exact meas_low (d := .str z) h3 (by omega)
              | succ k => rw [meas_up (d := .str z) h3 (by omega)] <;> rfl
          · rw [show m.toNat = 0 by omega] <;> rfl
      refine ⟨_, rfl, _, z.length, rfl, ⟨nice_str hn, rfl⟩, rfl, _, rfl, ?_⟩
      refine if_int (fun h1 => ?_) (fun h1 => ?_)
      · obtain ⟨c, rfl⟩ := len1 (z := z) (by omega)
        refine ⟨_, rfl, c, lettersS, rfl, rfl, _, rfl, ?_⟩
        refine if_dec (fun h2 => ?_) (fun h2 => ?_)
        · refine ⟨_, rfl, _, _, rfl, rfl, .inr ⟨_, rfl, ?_⟩⟩
          exact fin _ (fun h => ⟨decide_eq_true h2, of_decide_eq_true h⟩) (fun h => .inr (of_decide_eq_false h))
        · exact .inr ⟨_, rfl, fin false (fun h => by cases h) (fun _ => .inl (decide_eq_false h2))⟩
      · exact .inr ⟨_, rfl, fin false (fun h => by cases h) (fun _ => .inl (isLetS_no (by omega)))⟩
    | _ => cases hl
  have hl : isLet d = false := by cases d <;> first | rfl | cases hns
  refine ⟨_, rfl, _, _, rfl, rfl, _, rfl, ?_⟩
  refine if_dec (fun h2 => ?_) (fun h2 => ?_)
  · exact qi (q H (Same.refl H)) (meas_low hl (by omega))
  obtain ⟨k, hk⟩ : ∃ k, m.toNat = k + 2 := ⟨m.toNat - 2, by omega⟩
  rw [hk] at q hm
  have no : measP (meas (k + 1)) d = 0 → ∀ H', Same H H' → Q (.int 0) H' := fun e H' e' => qi (q H' e') (by rw [meas_up hl (by omega), e])
  refine ⟨_, rfl, v, d, rfl, hd, _, rfl, ?_⟩
  cases hd with
  | tup ht ha =>
    rename_i a xs ds
    refine ⟨_, rfl, _, xs.length, rfl, .inr ⟨xs, ht, rfl⟩, _, _, rfl, rfl, _, rfl, ?_⟩
    have hlen := da_len ha
    refine if_dec (fun h3 => ?_) (fun h3 => ?_)
    · refine no ?_ H (Same.refl H)
      match ds, hlen with
      | [], _ => rfl
      | [_], _ => rfl
      | [_, _], _ => rfl
      | _ :: _ :: _ :: _, e => simp at e; omega
    have h4 : 3 ≤ ds.length := by omega
    match ds, ha, h4 with
    | [], _, e => exact absurd e (by simp)
    | [_], _, e => exact absurd e (by simp)
    | [_, _], _, e => exact absurd e (by simp)
    | x :: y :: z :: r, .cons (v := vx) (vs := vr) hx hp, e =>
    refine ⟨_, rfl, a, _, _, vx, rfl, rfl, ht, at0, (by show 2 ≤ sizeLine; decide), fun p5 hp5 => ?_⟩
    have e5 := same_new hp5 (.tup [.str ("&" : Str), .str ("|" : Str)])
    have noOp : isOp x = false → ∀ H', Same H H' → Q (.int 0) H' := fun e => no (by show (if isOp x = true then _ else _) = _; rw [if_neg (by rw [e]; decide)])
    refine ⟨x, [.str ("&" : Str), .str ("|" : Str)], up_d e5 hx, .inr (.tup (SqT.of upd_same) (.cons (.str _) (.cons (.str _) .nil))), (hn60.itemT (List.mem_cons_self ..)).shaped, by decide +kernel, _, rfl, ?_⟩
    refine if_nb (fun h6 => ?_) (fun h6 => ?_)
    · exact noOp (inv_op2.symm.trans h6) _ e5
    refine ⟨_, rfl, _, rfl, a, _, rfl, up_t e5 ht, notWhole1, fun p hp0 => ⟨p, rfl, ⟨_, SqT.of upd_same⟩, fun D hD => ?_⟩⟩
    rw [cut1] at hD ⊢
    have e1 := e5.trans (same_new hp0 (.tup vr))
    refine lc_mapT (j := 3) (fun i u _ => ∃ d, (y :: z :: r)[i]? = some d ∧ u = .int (meas (k + 1) d)) (fun _ _ _ _ _ h => h) hD (SqT.of upd_same) ?_ (fun _ => rfl) ?_ ?_
    · have := nice_tl hn
      have := da_len hp
      exact le_line (by simp at *; omega)
    · intro i x H2 hx e2 Q' k'
      obtain ⟨d, hd1, hd2⟩ := da_get hp hx
      refine ⟨_, rfl, _, rfl, _, _, rfl, rfl, x, d, m - 1, rfl, up_d (e1.trans e2) hd2, hn60.itemT (List.mem_cons_of_mem _ (List.mem_of_getElem? hd1)), by omega, fun H' e3 => k' _ _ e3 ⟨d, hd1, ?_⟩⟩
      rw [show (m - 1).toNat = k + 1 by omega]
    · intro H2 ys e2 hD2 hl2 hy
      have hmap : ys = ((y :: z :: r).map (meas (k + 1))).map V.int := by
        rw [List.map_map]
        exact eq_map_of (hl2.trans (da_len hp)) fun i u hu => hy i u hu
      subst hmap
      refine ⟨_, rfl, D, _, rfl, .inl (SqL.of hD2), rfl, flat_ints _, _, rfl, ?_⟩
      have e3 := e1.trans e2
      have fin := q H2 e3
      rw [meas_up hl (by omega)] at fin
      have fin2 : Q (.int (if (0 : Int) ∈ ((y :: z :: r).map (meas (k + 1))) then 0 else ((y :: z :: r).map (meas (k + 1))).sum)) H2 := by
        refine qi fin ?_
        show (if isOp x = true then _ else _) = _
        rw [if_pos (inv_op2.symm.trans h6)]
      show (if (inV (.int 0) (((y :: z :: r).map (meas (k + 1))).map V.int)) = true then _ else _)
      rw [in_ints]
      refine if_dec (fun h7 => ?_) (fun h7 => ?_)
      · rw [if_pos h7] at fin2
        exact fin2
      · rw [if_neg h7] at fin2
        exact ⟨_, rfl, D, _, rfl, SqL.of hD2, fin2⟩
  | str z => exact no rfl H (Same.refl H)
  | non => exact no rfl H (Same.refl H)
  | bl b => exact no rfl H (Same.refl H)
  | int i => exact no rfl H (Same.refl H)
  | lst _ _ => exact no rfl H (Same.refl H)
end
end FF
namespace FF
open PySem PySem.Spec PyProof.Rows L2
/-- _law_same(found, due) of the same data -/
def spSame (K : PySem.W.Frag) (n : Nat) : Sp := fun vs H Q _ => ∃ (v v' : V) (d : PyData), vs = [v, v'] ∧ Dp K H v d ∧ Dp K H v' d ∧ nice d = true ∧ d.depth < n ∧ n ≤ 60 ∧ ∀ H', Same H H' → Q (.bl true) H'
def spFits (K : PySem.W.Frag) : Sp := fun vs H Q _ => ∃ (v : V) (d : PyData), vs = [v] ∧ Dp K H v d ∧ Nice 60 d ∧ ∀ H', Same H H' → Q (.bl (decide (1 ≤ meas 5 d) && decide (meas 5 d ≤ 24))) H'
/-- a nest of so many operators -/
def nestD : Nat → PyData
  | 0 => .str ("a" : Str)
  | k + 1 => .tuple [.str (if k % 2 = 0 then ("&" : Str) else ("|" : Str)), nestD k, .str ("b" : Str)]
def spNest (K : PySem.W.Frag) : Sp := fun vs H Q _ => ∃ (m : Nat), vs = [.int m] ∧ m ≤ 40 ∧ ∀ v H', Same H H' → Tp K H' v (nestD m) → Q v H'
theorem nest_nice : ∀ n, Nice n (nestD n)
  | 0 => ⟨by decide +kernel, by decide +kernel⟩
  | n + 1 => by
    refine Nice.tuple (by show 3 ≤ 20000; decide) fun d hd => ?_
    simp only [List.mem_cons, List.not_mem_nil, or_false] at hd
    have s : ∀ z : Str, nice (.str z) = true → Nice n (.str z) := fun z h => ⟨h, by rw [PyData.depth]; exact Nat.zero_le _⟩
    rcases hd with rfl | rfl | rfl
    · split
      · exact s _ (by decide +kernel)
      · exact s _ (by decide +kernel)
    · exact nest_nice n
    · exact s _ (by decide +kernel)
section
variable {P : Program} {w : World} {K : PySem.W.Frag} {mg : Str → Option Value} {base : Heap}
theorem same_none {f : Addr} {fd : FuncData} (F : FunD K "_law_same" "_law_same" (defArgs s_law_same) (defBody s_law_same) (defScope s_law_same) [] [] f fd) (hm : mg "_law_same" = some (.ref f)) : Def P w K mg base "_law_same" 0 ["_law_found", "_law_due"] (spSame K 0) := by
  have no : ∀ vs H Q E, ¬ spSame K 0 vs H Q E := fun vs H Q E ⟨_, _, _, _, _, _, _, h, _⟩ => by omega
  exact ⟨f, fd, ⟨fun vs H Q E h => absurd h (no vs H Q E), fun A outer s H args us vs Q E _ _ _ _ h => absurd h (no vs H Q E)⟩, hm, F.kp, F.bindsN fun _ _ _ _ _ _ us hl => match us, hl with | [_, _], _ => rfl⟩
theorem ok_same_step {n : Nat} {f : Addr} {fd : FuncData} (F : FunD K "_law_same" "_law_same" (defArgs s_law_same) (defBody s_law_same) (defScope s_law_same) [] [] f fd) (hm : mg "_law_same" = some (.ref f)) (T : Top K mg)
    (D_law_same : Def P w K mg base "_law_same" n ["_law_found", "_law_due"] (spSame K n)) : Def P w K mg base "_law_same" (n + 1) ["_law_found", "_law_due"] (spSame K (n + 1)) := by
  refine def_mk F hm (F.bindsN fun _ _ _ _ _ _ us hl => match us, hl with | [_, _], _ => rfl) sc_law_same (fun vs H Q E h => ?_) (fun cdv A outer s H vs Q E hr h => ?_)
  · obtain ⟨v, v', d, rfl, _⟩ := h
    rfl
  obtain ⟨v, v', d, rfl, hd, hd', hn, hdn, h60, q⟩ := h
  have hsh : SeqAt.shaped d = true := Nice.shaped (n := 60) ⟨hn, by omega⟩
  have hq := q H (Same.refl H)
  have heq : Q (.bl (PyData.eqv d d)) H := qb hq (SeqAt.eqv_refl d (SeqAt.canLay_of_shaped hsh)).symm
  refine ⟨_, (pss_cons (ps_if (PW.pt (pw_or (pt_cmp (pc_isN (pv 1)) (by rfl)) (pw_or1 (pt_cmp (pc_isN (pv 0)) (by rfl)))))
  (pss_one (ps_ret (pe_and (pe_cmp (pc_isN (pv 1)) (by rfl)) (pe_one (pe_cmp (pc_isN (pv 0)) (by rfl))))))
  pss_nil)
  (pss_cons (ps_if (PW.pt (pw_or (pt_val (pe_callB (call_isK K kb_bool) (by rfl) T.b_isinstance (by decide +kernel) (pa_cons (pv 1) (pa_cons (pe_bltn (v := .ty "bool") (by rfl) T.b_bool (by decide +kernel) rfl) pa_nil)))) (pw_or1 (pt_val (pe_callB (call_isK K kb_bool) (by rfl) T.b_isinstance (by decide +kernel) (pa_cons (pv 0) (pa_cons (pe_bltn (v := .ty "bool") (by rfl) T.b_bool (by decide +kernel) rfl) pa_nil)))))))
  (pss_one (ps_ret (pe_and (pe_callB (call_isK K kb_bool) (by rfl) T.b_isinstance (by decide +kernel) (pa_cons (pv 1) (pa_cons (pe_bltn (v := .ty "bool") (by rfl) T.b_bool (by decide +kernel) rfl) pa_nil))) (pe_and (pe_callB (call_isK K kb_bool) (by rfl) T.b_isinstance (by decide +kernel) (pa_cons (pv 0) (pa_cons (pe_bltn (v := .ty "bool") (by rfl) T.b_bool (by decide +kernel) rfl) pa_nil))) (pe_one (pe_cmpR (op_eqK K hr.units) (pv 0) (pv 1) (nomark _)))))))
  pss_nil)
  (pss_cons (ps_if (PW.pt (pw_or (pt_val (pe_callB (call_isK K kb_int) (by rfl) T.b_isinstance (by decide +kernel) (pa_cons (pv 1) (pa_cons (pe_bltn (v := .ty "int") (by rfl) T.b_int (by decide +kernel) rfl) pa_nil)))) (pw_or1 (pt_val (pe_callB (call_isK K kb_str) (by rfl) T.b_isinstance (by decide +kernel) (pa_cons (pv 1) (pa_cons (pe_bltn (v := .ty "str") (by rfl) T.b_str (by decide +kernel) rfl) pa_nil)))))))
  (pss_one (ps_ret (pe_and (pe_cmpR op_eq (pe_callB (call_isK K kb_int) (by rfl) T.b_isinstance (by decide +kernel) (pa_cons (pv 0) (pa_cons (pe_bltn (v := .ty "int") (by rfl) T.b_int (by decide +kernel) rfl) pa_nil))) (pe_callB (call_isK K kb_int) (by rfl) T.b_isinstance (by decide +kernel) (pa_cons (pv 1) (pa_cons (pe_bltn (v := .ty "int") (by rfl) T.b_int (by decide +kernel) rfl) pa_nil))) (nomark _)) (pe_one (pe_cmpR (op_eqK K hr.units) (pv 0) (pv 1) (nomark _))))))
  pss_nil)
  (pss_cons (ps_if (pt_val (pe_callB (call_isK K kb_dict) (by rfl) T.b_isinstance (by decide +kernel) (pa_cons (pv 1) (pa_cons (pe_bltn (v := .ty "dict") (by rfl) T.b_dict (by decide +kernel) rfl) pa_nil))))
  pss_never
  pss_nil)
  (pss_cons (ps_if (PW.pt (pw_or (pt_cmpR op_ne (pe_callB (call_isK K kb_lst) (by rfl) T.b_isinstance (by decide +kernel) (pa_cons (pv 0) (pa_cons (pe_bltn (v := .ty "list") (by rfl) T.b_list (by decide +kernel) rfl) pa_nil))) (pe_callB (call_isK K kb_lst) (by rfl) T.b_isinstance (by decide +kernel) (pa_cons (pv 1) (pa_cons (pe_bltn (v := .ty "list") (by rfl) T.b_list (by decide +kernel) rfl) pa_nil))) (nomark _)) (pw_or1 (pt_cmpR op_ne (pe_callB (call_isK K kb_tup) (by rfl) T.b_isinstance (by decide +kernel) (pa_cons (pv 0) (pa_cons (pe_bltn (v := .ty "tuple") (by rfl) T.b_tuple (by decide +kernel) rfl) pa_nil))) (pe_callB (call_isK K kb_tup) (by rfl) T.b_isinstance (by decide +kernel) (pa_cons (pv 1) (pa_cons (pe_bltn (v := .ty "tuple") (by rfl) T.b_tuple (by decide +kernel) rfl) pa_nil))) (nomark _)))))
  (pss_one (ps_ret pe_bl))
  pss_nil)
  (pss_one (ps_ret (pe_and (pe_cmpR op_eq (pe_callB (call_lenK K) (by rfl) T.b_len (by decide +kernel) (pa_cons (pv 0) pa_nil)) (pe_callB (call_lenK K) (by rfl) T.b_len (by decide +kernel) (pa_cons (pv 1) pa_nil)) (nomark _)) (pe_one (pe_callB (cr_allK K rfl) (by rfl) T.b_all (by decide +kernel) (pa_cons (pe_lc (own := [("_law_one", 3), ("_law_other", 4)]) rfl sc_law_same.nd (pi_zipK K (by rfl) T.b_zip (pa_cons (pv 0) (pa_cons (pv 1) pa_nil))) (blkOk_by (by kernel_rfl)) (fun _ _ _ _ _ => (pg_tupK K (n := 2) rfl (pgs_cons (pg_name (i := 3) sc_law_same.nd rfl (Or.inl rfl) (.inr rfl)) (pgs_cons (pg_name (i := 4) sc_law_same.nd rfl (Or.inl rfl) (.inr rfl)) pgs_nil)))) (fun _ _ _ _ _ => pts_nil) (fun _ _ _ _ _ => (pe_def D_law_same hr (by first | decide | omega) (pa_cons (pv 3) (pa_cons (pv 4) pa_nil))))) pa_nil))))))))))), ?_⟩
  refine ⟨_, rfl, _, rfl, ?_⟩
  cases d with
  | none =>
    cases hd; cases hd'
    exact ⟨_, rfl, _, rfl, _, rfl, hq⟩
  | bool b =>
    cases hd; cases hd'
    exact ⟨_, rfl, _, rfl, _, rfl, _, _, rfl, .bl b, _, rfl, _, rfl, _, _, rfl, .bl b, _, rfl, _, rfl, _, _, rfl, .bl b, _, rfl, _, rfl, _, rfl, _, _, .bl b, .bl b, hsh, hsh, heq⟩
  | int i =>
    cases hd; cases hd'
    exact ⟨_, rfl, _, rfl, _, rfl, _, _, rfl, .int i, _, rfl, _, rfl, _, _, rfl, .int i, _, rfl, _, rfl, _, _, rfl, .int i, _, rfl, _, rfl, _, _, rfl, .int i, _, rfl, _, _, rfl, .int i, rfl, _, rfl, _, rfl, _, rfl, _, _, .int i, .int i, hsh, hsh, heq⟩
  | str z =>
    cases hd; cases hd'
    exact ⟨_, rfl, _, rfl, _, rfl, _, _, rfl, .str z, _, rfl, _, rfl, _, _, rfl, .str z, _, rfl, _, rfl, _, _, rfl, .str z, _, rfl, _, rfl, _, _, rfl, .str z, _, rfl, _, rfl, _, _, rfl, .str z, _, rfl, _, _, rfl, .str z, rfl, _, rfl, _, rfl, _, rfl, _, _, .str z, .str z, hsh, hsh, heq⟩
  | dict _ => cases hd
  | list ds =>
    cases hd with
    | lst hs ha =>
    cases hd' with
    | lst hs' ha' =>
    rename_i a xs a' xs'
    have l1 := da_len ha
    have l2 := da_len ha'
    refine ⟨_, rfl, _, rfl, _, rfl, _, _, rfl, .lst hs' ha', _, rfl, _, rfl, _, _, rfl, .lst hs ha, _, rfl, ?_⟩
    refine ⟨_, rfl, _, _, rfl, .lst hs' ha', _, rfl, _, rfl, _, _, rfl, .lst hs' ha', _, rfl, ?_⟩
    refine ⟨_, rfl, _, _, rfl, .lst hs' ha', _, rfl, ?_⟩
    refine ⟨_, rfl, _, _, rfl, .lst hs ha, _, rfl, _, _, rfl, .lst hs' ha', rfl, _, rfl, ?_⟩
    refine ⟨_, rfl, _, _, rfl, .lst hs ha, _, rfl, _, _, rfl, .lst hs' ha', rfl, _, rfl, ?_⟩
    refine ⟨_, rfl, _, xs.length, rfl, .inl ⟨_, hs, rfl⟩, _, rfl, _, xs'.length, rfl, .inl ⟨_, hs', rfl⟩, rfl, _, rfl, ?_⟩
    refine if_int (fun _ => ?_) (fun h => absurd (by omega) h)
    refine ⟨_, rfl, _, rfl, a, a', xs, xs', rfl, .inl ⟨hs, hs', fun D hD => ?_⟩⟩
    refine lc_zipS (S := SqL K) (j := 3) (k := 4) (fun e h => up_l e h) (fun _ u _ => u = .bl true) (fun _ _ _ _ _ h => h) hD hs hs' (by omega) (le_line (by have := nice_ll hn; omega)) (fun _ _ => rfl) ?_ ?_
    · intro i x y H2 hx hy e Q' k'
      obtain ⟨d, hd1, hd2⟩ := da_get ha hx
      obtain ⟨d', hd1', hd2'⟩ := da_get ha' hy
      rw [hd1] at hd1'
      cases hd1'
      have hmem := List.mem_of_getElem? hd1
      have := depthAll_mem hmem
      rw [PyData.depth] at hdn
      exact ⟨_, rfl, _, rfl, x, y, d, rfl, up_d e hd2, up_d e hd2', nice_li hn hmem, by omega, by omega, fun H' e' => k' _ _ e' rfl⟩
    · intro H2 us e hD2 hl2 hu
      have hus : us = (List.replicate xs.length true).map V.bl := by
        rw [List.map_replicate]
        exact List.eq_replicate_iff.mpr ⟨hl2, fun b hb => by
          obtain ⟨i, hi, rfl⟩ := List.mem_iff_getElem.mp hb
          exact hu i _ (List.getElem?_eq_getElem hi)⟩
      rw [hus] at hD2
      exact ⟨D, _, rfl, SqL.of hD2, qb (q H2 e) (all_true _).symm⟩
  | tuple ds =>
    cases hd with
    | tup hs ha =>
    cases hd' with
    | tup hs' ha' =>
    rename_i a xs a' xs'
    have l1 := da_len ha
    have l2 := da_len ha'
    refine ⟨_, rfl, _, rfl, _, rfl, _, _, rfl, .tup hs' ha', _, rfl, _, rfl, _, _, rfl, .tup hs ha, _, rfl, ?_⟩
    refine ⟨_, rfl, _, _, rfl, .tup hs' ha', _, rfl, _, rfl, _, _, rfl, .tup hs' ha', _, rfl, ?_⟩
    refine ⟨_, rfl, _, _, rfl, .tup hs' ha', _, rfl, ?_⟩
    refine ⟨_, rfl, _, _, rfl, .tup hs ha, _, rfl, _, _, rfl, .tup hs' ha', rfl, _, rfl, ?_⟩
    refine ⟨_, rfl, _, _, rfl, .tup hs ha, _, rfl, _, _, rfl, .tup hs' ha', rfl, _, rfl, ?_⟩
    refine ⟨_, rfl, _, xs.length, rfl, .inr ⟨_, hs, rfl⟩, _, rfl, _, xs'.length, rfl, .inr ⟨_, hs', rfl⟩, rfl, _, rfl, ?_⟩
    refine if_int (fun _ => ?_) (fun h => absurd (by omega) h)
    refine ⟨_, rfl, _, rfl, a, a', xs, xs', rfl, .inr ⟨hs, hs', fun D hD => ?_⟩⟩
    refine lc_zipS (S := SqT K) (j := 3) (k := 4) (fun e h => up_t e h) (fun _ u _ => u = .bl true) (fun _ _ _ _ _ h => h) hD hs hs' (by omega) (le_line (by have := nice_tl hn; omega)) (fun _ _ => rfl) ?_ ?_
    · intro i x y H2 hx hy e Q' k'
      obtain ⟨d, hd1, hd2⟩ := da_get ha hx
      obtain ⟨d', hd1', hd2'⟩ := da_get ha' hy
      rw [hd1] at hd1'
      cases hd1'
      have hmem := List.mem_of_getElem? hd1
      have := depthAll_mem hmem
      rw [PyData.depth] at hdn
      exact ⟨_, rfl, _, rfl, x, y, d, rfl, up_d e hd2, up_d e hd2', nice_ti hn hmem, by omega, by omega, fun H' e' => k' _ _ e' rfl⟩
    · intro H2 us e hD2 hl2 hu
      have hus : us = (List.replicate xs.length true).map V.bl := by
        rw [List.map_replicate]
        exact List.eq_replicate_iff.mpr ⟨hl2, fun b hb => by
          obtain ⟨i, hi, rfl⟩ := List.mem_iff_getElem.mp hb
          exact hu i _ (List.getElem?_eq_getElem hi)⟩
      rw [hus] at hD2
      exact ⟨D, _, rfl, SqL.of hD2, qb (q H2 e) (all_true _).symm⟩
end
end FF
namespace FF
open PySem PySem.Spec PyProof.Rows L2
section
variable {P : Program} {w : World} {K : PySem.W.Frag} {mg : Str → Option Value} {base : Heap}
theorem ok_fits {f : Addr} {fd : FuncData} (F : FunD K "_law_fits" "_law_fits" (defArgs s_law_fits) (defBody s_law_fits) (defScope s_law_fits) [] [] f fd) (hm : mg "_law_fits" = some (.ref f)) (T : Top K mg)
    (D_law_measure : Def P w K mg base "_law_measure" 12 ["_law_word", "_law_deep"] (spMeasure K 12)) : Def P w K mg base "_law_fits" 13 ["_law_word"] (spFits K) := by
  refine def_mk F hm (F.bindsN fun _ _ _ _ _ _ us hl => match us, hl with | [_], _ => rfl) sc_law_fits (fun vs H Q E h => ?_) (fun cdv A outer s H vs Q E hr h => ?_)
  · obtain ⟨v, d, rfl, _⟩ := h
    rfl
  obtain ⟨v, d, rfl, hd, hn, q⟩ := h
  refine ⟨_, (pss_one (ps_ret (pe_chain op_le op_le pe_int (pe_def D_law_measure hr (by first | decide | omega) (pa_cons (pv 0) (pa_cons pe_int pa_nil))) pe_int))), ?_⟩
  refine ⟨_, rfl, v, d, 5, rfl, hd, hn, by omega, fun H1 e => ?_⟩
  refine ⟨_, _, rfl, rfl, _, rfl, ?_⟩
  have q1 := q H1 e
  refine if_dec (fun h1 => ?_) (fun h1 => ?_)
  · rw [decide_eq_true (show (1 : Int) ≤ meas 5 d from h1), Bool.true_and] at q1
    exact ⟨_, _, rfl, rfl, q1⟩
  · rw [decide_eq_false (show ¬ (1 : Int) ≤ meas 5 d from h1), Bool.false_and] at q1
    exact q1
end
end FF
namespace FF
open PySem PySem.Spec PyProof.Rows L2
def partT (f : PyData → Str) : PyData → Str
  | .str z => z
  | p => ("(" : Str) ++ f p ++ ")"
/-- the text of a term, at most n deep -/
def textD : Nat → PyData → Str
  | 0, _ => ""
  | n + 1, d => match d with
    | .str z => z
    | .tuple (.str o :: ps) => Txt.join ((" " : Str) ++ o ++ " ") (ps.map (partT (textD n)))
    | _ => ""
def spText (K : PySem.W.Frag) (n : Nat) : Sp := fun vs H Q _ => ∃ (v : V) (d : PyData) (m : Nat), vs = [v] ∧ Tp K H v d ∧ Drawn m d ∧ m < n ∧ n ≤ 5 ∧ ∀ H', Same H H' → Q (.str (textD (m + 1) d)) H'
theorem drawn_shape {m : Nat} {d : PyData} (h : Drawn m d) : (∃ z, d = .str z ∧ isLet d = true) ∨ ∃ o ps k, d = .tuple (.str o :: ps) ∧ isOp (.str o) = true ∧ 2 ≤ ps.length ∧ ps.length ≤ 24 ∧ m = k + 1 ∧ ∀ p ∈ ps, Drawn k p := by
  have lt : isLet d = true → ∃ z, d = .str z ∧ isLet d = true := fun hl => by
    cases d with
    | str z => exact ⟨z, rfl, hl⟩
    | _ => cases hl
  match m, h with
  | 0, h => exact .inl (lt h)
  | k + 1, .inl h => exact .inl (lt h)
  | k + 1, .inr ⟨o, ps, e, ho, h2, h4, hp⟩ =>
    cases o with
    | str z => exact .inr ⟨z, ps, k, e, ho, h2, h4, rfl, hp⟩
    | _ => cases ho
theorem tpa_get {K : PySem.W.Frag} {H : Hp} : ∀ {vs : List V} {ds : List PyData} {i : Nat} {v : V}, TpAll K H vs ds → vs[i]? = some v → ∃ d, ds[i]? = some d ∧ Tp K H v d
  | _, _, 0, _, .cons h _, e => by cases e; exact ⟨_, rfl, h⟩
  | _, _, i + 1, _, .cons _ t, e => tpa_get (i := i) t e
theorem sum_le {f : PyData → Str} {B : Nat} : ∀ {l : List PyData}, (∀ p ∈ l, (f p).length ≤ B) → ((l.map f).map (·.length)).sum ≤ l.length * B
  | [], _ => Nat.zero_le _
  | x :: r, h => by
    have h1 := h x List.mem_cons_self
    have h2 := sum_le (l := r) fun p hp => h p (List.mem_cons_of_mem _ hp)
    rw [List.map_cons, List.map_cons, List.sum_cons, List.length_cons, Nat.succ_mul]
    omega
theorem sep_len {o : Str} (ho : isOp (.str o) = true) : ((" " : Str) ++ o ++ " ").length = 3 := by
  rcases op_shape ho with h | h
  · rw [PyData.str.inj h]
    decide +kernel
  · rw [PyData.str.inj h]
    decide +kernel
theorem app_len (a b : Str) : (a ++ b).length = a.length + b.length := by
  show (a.cps ++ b.cps).size = _
  rw [Array.size_append] <;> rfl
theorem text_len : ∀ {n : Nat} {d : PyData}, Drawn n d → (textD (n + 1) d).length + 7 ≤ 8 * 24 ^ n := by
  have lt : ∀ {z : Str}, isLet (.str z) = true → z.length = 1 := fun {z} h => by
    obtain ⟨c, e, _⟩ := let_shape h
    rw [PyData.str.inj e] <;> rfl
  intro n
  induction n with
  | zero =>
    intro d h
    rcases drawn_shape h with ⟨z, rfl, hz⟩ | ⟨_, _, _, _, _, _, _, e, _⟩
    · show z.length + 7 ≤ _
      rw [lt hz]
      decide
    · cases e
  | succ n ih =>
    intro d h
    have p1 : 1 ≤ 24 ^ n := Nat.one_le_pow _ _ (by decide)
    rcases drawn_shape h with ⟨z, rfl, hz⟩ | ⟨o, ps, k, rfl, ho, l2, l4, e, hp⟩
    · show z.length + 7 ≤ _
      rw [lt hz, Nat.pow_succ]
      omega
    · cases e
      have hs : ∀ p ∈ ps, (partT (textD (n + 1)) p).length ≤ 8 * 24 ^ n - 5 := fun p hpp => by
        have h1 := ih (hp p hpp)
        rcases drawn_shape (hp p hpp) with ⟨z, rfl, hz⟩ | ⟨o2, ps2, _, rfl, _⟩
        · show z.length ≤ _
          rw [lt hz]
          omega
        · show (("(" : Str) ++ textD (n + 1) _ ++ ")").length ≤ _
          rw [app_len, app_len]
          have e1 : ("(" : Str).length = 1 := by decide +kernel
          have e2 : (")" : Str).length = 1 := by decide +kernel
          omega
      have hj := StrLaws.join_length_le ((" " : Str) ++ o ++ " ") (ps.map (partT (textD (n + 1))))
      have hsum := sum_le hs
      rw [sep_len ho, List.length_map] at hj
      show (Txt.join ((" " : Str) ++ o ++ " ") (ps.map (partT (textD (n + 1))))).length + 7 ≤ _
      have hj2 : (Txt.join ((" " : Str) ++ o ++ " ") (ps.map (partT (textD (n + 1))))).length ≤ ((ps.map (partT (textD (n + 1)))).map (·.length)).sum + ps.length * 3 := by
        rw [TL.join_eq]
        exact hj
      have hm : ps.length * (8 * 24 ^ n - 5) ≤ 24 * (8 * 24 ^ n - 5) := Nat.mul_le_mul_right _ l4
      rw [Nat.pow_succ]
      omega
section
variable {P : Program} {w : World} {K : PySem.W.Frag} {mg : Str → Option Value} {base : Heap}
theorem ok_text_of_step {n : Nat} {f : Addr} {fd : FuncData} (F : FunD K "text_of" "text_of" (defArgs s_text_of) (defBody s_text_of) (defScope s_text_of) [] [] f fd) (hm : mg "text_of" = some (.ref f)) (T : Top K mg)
    (D_text_of : Def P w K mg base "text_of" n ["term"] (spText K n)) : Def P w K mg base "text_of" (n + 1) ["term"] (spText K (n + 1)) := by
  refine def_mk F hm (F.bindsN fun _ _ _ _ _ _ us hl => match us, hl with | [_], _ => rfl) sc_text_of (fun vs H Q E h => ?_) (fun cdv A outer s H vs Q E hr h => ?_)
  · obtain ⟨v, d, m, rfl, _⟩ := h
    rfl
  obtain ⟨v, d, m, rfl, hd, hdr, hmn, hn10, q⟩ := h
  refine ⟨_, (pss_cons (ps_if (pt_val (pe_callB (call_isK K kb_str) (by rfl) T.b_isinstance (by decide +kernel) (pa_cons (pv 0) (pa_cons (pe_bltn (v := .ty "str") (by rfl) T.b_str (by decide +kernel) rfl) pa_nil))))
  (pss_one (ps_ret (pv 0)))
  pss_nil)
  (pss_cons (ps_asg (pv 0) (pg_star2 rfl (pgs_cons (pg_name (i := 1) sc_text_of.nd rfl (Or.inl rfl) (.inl rfl)) (pgs_cons (pg_name (i := 2) sc_text_of.nd rfl (Or.inl rfl) (.inl rfl)) pgs_nil))))
  (pss_cons (ps_setLc (i := 3) (own := [("part", 4)]) rfl sc_text_of.nd rfl rfl (sw_true rfl rfl rfl (by kernel_rfl)) (pi_listK K (pv 2)) (blkOk_by (by kernel_rfl)) (fun _ _ _ _ _ => (pg_name (i := 4) sc_text_of.nd rfl (Or.inl rfl) (.inr rfl))) (fun _ _ _ _ _ => pts_nil) (fun _ _ _ _ _ => (pe_ifExp (pt_val (pe_callB (call_isK K kb_str) (by rfl) T.b_isinstance (by decide +kernel) (pa_cons (pv 4) (pa_cons (pe_bltn (v := .ty "str") (by rfl) T.b_str (by decide +kernel) rfl) pa_nil)))) (pv 4) (pe_joined (PJ.cons pe_str (PJ.cons (pe_fmt (pe_def D_text_of hr (by first | decide | omega) (pa_cons (pv 4) pa_nil))) (PJ.cons pe_str PJ.nil)))))))
  (pss_one (ps_ret (pe_join (pe_joined (PJ.cons pe_str (PJ.cons (pe_fmt (pv 1)) (PJ.cons pe_str PJ.nil)))) (pv 3))))))), ?_⟩
  refine ⟨_, rfl, v, d, rfl, hd.dp, _, rfl, ?_⟩
  rcases drawn_shape hdr with ⟨z, rfl, _⟩ | ⟨o, ps, k, rfl, ho, l2, l4, rfl, hps⟩
  · cases hd with
    | str z => exact iteT ⟨_, rfl, q H (Same.refl H)⟩
  cases hd with
  | tup ht ha =>
  cases ha with
  | @cons vo vr _ _ hvo hvr =>
  rename_i a
  cases hvo with
  | str o =>
  refine iteF ?_
  refine ⟨_, rfl, a, .str o, vr, rfl, ht.sqT, fun p hp => ?_⟩
  have e1 := same_new hp (.lst vr)
  have lr := hvr.len
  have p4 : 24 ^ k ≤ 24 ^ 3 := Nat.pow_le_pow_right (by decide) (by omega)
  have hB : ∀ {n : Nat}, n ≤ 8 * 24 ^ 4 + 100 → n ≤ sizeLine := fun h => Nat.le_trans h (by decide +kernel)
  refine ⟨.str o, [.ref p], rfl, .ref p, [], rfl, rfl, ?_⟩
  refine ⟨_, rfl, p, rfl, ⟨_, SqL.of upd_same⟩, fun D hD => ?_⟩
  refine lc_mapL (j := 4) (fun i u _ => ∃ d, ps[i]? = some d ∧ u = .str (partT (textD (k + 1)) d)) (fun _ _ _ _ _ h => h) hD (SqL.of upd_same) (le_line (by omega)) (fun _ => rfl) ?_ ?_
  · intro i x H2 hx e2 Q' k'
    obtain ⟨d, hd1, hd2⟩ := tpa_get hvr hx
    have hd3 := (hd2.up (Same.T e1)).up (Same.T e2)
    have hdr2 := hps d (List.mem_of_getElem? hd1)
    have tl := text_len hdr2
    refine ⟨_, rfl, x, d, rfl, hd3.dp, _, rfl, ?_⟩
    rcases drawn_shape hdr2 with ⟨z, rfl, _⟩ | ⟨o2, ps2, k2, rfl, _⟩
    · cases hd3 with
      | str z => exact iteT ⟨_, rfl, k' _ _ (Same.refl _) ⟨_, hd1, rfl⟩⟩
    · refine iteF ?_
      refine ⟨"(", rfl, by decide +kernel, _, rfl, x, _, k, rfl, hd3, hdr2, by omega, by omega, fun H3 e3 => .inl ⟨_, rfl, hB (by omega), _, rfl, ?_, ")", rfl, ?_, k' _ _ e3 ⟨_, hd1, ?_⟩⟩⟩
      · rw [app_len]
        have h1 : (Str.empty ++ ("(" : Str)).length = 1 := by decide +kernel
        exact hB (by omega)
      · rw [app_len, app_len]
        have h1 : (Str.empty ++ ("(" : Str)).length = 1 := by decide +kernel
        have h2 : (")" : Str).length = 1 := by decide +kernel
        exact hB (by omega)
      · rfl
  intro H2 ys e2 hD2 hl2 hy
  have hmap : ys = (ps.map (partT (textD (k + 1)))).map V.str := by
    rw [List.map_map]
    exact eq_map_of (hl2.trans lr) fun i u hu => hy i u hu
  subst hmap
  have q2 := q H2 (e1.trans e2)
  have ev : textD (k + 1 + 1) (.tuple (.str o :: ps)) = Txt.join ((" " : Str) ++ o ++ " ") (ps.map (partT (textD (k + 1)))) := rfl
  rw [ev] at q2
  have sl := sep_len ho
  have hs0 : Str.empty ++ (" " : Str) = (" " : Str) := by decide +kernel
  have lo : o.length = 1 := by
    rcases op_shape ho with h | h
    · rw [PyData.str.inj h]
      decide +kernel
    · rw [PyData.str.inj h]
      decide +kernel
  have l1 : (" " : Str).length = 1 := by decide +kernel
  refine ⟨" ", rfl, by decide +kernel, _, rfl, .inl ⟨o, rfl, hB (by omega), o, rfl, ?_, " ", rfl, ?_, ⟨_, rfl⟩, _, rfl, _, D, ps.map (partT (textD (k + 1))), rfl, rfl, .inl (SqL.of hD2), ?_, ?_⟩⟩
  · rw [hs0, app_len]
    exact hB (by omega)
  · rw [hs0, sl]
    exact hB (by omega)
  · rw [hs0, sl, List.length_map]
    have hs : ∀ p ∈ ps, (partT (textD (k + 1)) p).length ≤ 8 * 24 ^ k + 2 := fun p hpp => by
      have h1 := text_len (hps p hpp)
      rcases drawn_shape (hps p hpp) with ⟨z, rfl, hz⟩ | ⟨o2, ps2, _, rfl, _⟩
      · have h2 : textD (k + 1) (.str z) = z := rfl
        rw [h2] at h1
        show z.length ≤ _
        omega
      · show (("(" : Str) ++ textD (k + 1) _ ++ ")").length ≤ _
        rw [app_len, app_len]
        have e1 : ("(" : Str).length = 1 := by decide +kernel
        have e2 : (")" : Str).length = 1 := by decide +kernel
        omega
    have hsum := sum_le hs
    have hm : ps.length * (8 * 24 ^ k + 2) ≤ 24 * (8 * 24 ^ k + 2) := Nat.mul_le_mul_right _ l4
    omega
  · rw [hs0]
    exact q2
end
end FF
namespace FF
open PySem PySem.Spec PyProof.Rows L2
section
variable {P : Program} {w : World} {K : PySem.W.Frag} {mg : Str → Option Value} {base : Heap}
theorem ok_law_text_step {n : Nat} {f : Addr} {fd : FuncData} (F : FunD K "_law_text" "_law_text" (defArgs s_law_text) (defBody s_law_text) (defScope s_law_text) [] [] f fd) (hm : mg "_law_text" = some (.ref f)) (T : Top K mg)
    (D_law_text : Def P w K mg base "_law_text" n ["_law_word"] (spText K n)) : Def P w K mg base "_law_text" (n + 1) ["_law_word"] (spText K (n + 1)) := by
  refine def_mk F hm (F.bindsN fun _ _ _ _ _ _ us hl => match us, hl with | [_], _ => rfl) sc_law_text (fun vs H Q E h => ?_) (fun cdv A outer s H vs Q E hr h => ?_)
  · obtain ⟨v, d, m, rfl, _⟩ := h
    rfl
  obtain ⟨v, d, m, rfl, hd, hdr, hmn, hn10, q⟩ := h
  refine ⟨_, (pss_cons (ps_if (pt_val (pe_callB (call_isK K kb_str) (by rfl) T.b_isinstance (by decide +kernel) (pa_cons (pv 0) (pa_cons (pe_bltn (v := .ty "str") (by rfl) T.b_str (by decide +kernel) rfl) pa_nil))))
  (pss_one (ps_ret (pv 0)))
  pss_nil)
  (pss_cons (ps_setLc (i := 1) (own := [("_law_one", 2)]) rfl sc_law_text.nd rfl rfl (sw_true rfl rfl rfl (by kernel_rfl)) (pi_tupK K (pe_slice (sl_tupK K) (pv 0) (po_some pe_int) po_none)) (blkOk_by (by kernel_rfl)) (fun _ _ _ _ _ => (pg_name (i := 2) sc_law_text.nd rfl (Or.inl rfl) (.inr rfl))) (fun _ _ _ _ _ => pts_nil) (fun _ _ _ _ _ => (pe_ifExp (pt_val (pe_callB (call_isK K kb_str) (by rfl) T.b_isinstance (by decide +kernel) (pa_cons (pv 2) (pa_cons (pe_bltn (v := .ty "str") (by rfl) T.b_str (by decide +kernel) rfl) pa_nil)))) (pv 2) (pe_op op_add_str (pe_op op_add_str pe_str (pe_def D_law_text hr (by first | decide | omega) (pa_cons (pv 2) pa_nil))) pe_str))))
  (pss_one (ps_ret (pe_join (pe_op op_add_str (pe_op op_add_str pe_str (pe_ix (ix_tupK K) (pv 0) pe_int (fun _ _ => rfl))) pe_str) (pv 1)))))), ?_⟩
  refine ⟨_, rfl, v, d, rfl, hd.dp, _, rfl, ?_⟩
  rcases drawn_shape hdr with ⟨z, rfl, _⟩ | ⟨o, ps, k, rfl, ho, l2, l4, rfl, hps⟩
  · cases hd with
    | str z => exact iteT ⟨_, rfl, q H (Same.refl H)⟩
  cases hd with
  | tup ht ha =>
  cases ha with
  | @cons vo vr _ _ hvo hvr =>
  rename_i a
  cases hvo with
  | str o =>
  refine iteF ?_
  have lr := hvr.len
  have p4 : 24 ^ k ≤ 24 ^ 3 := Nat.pow_le_pow_right (by decide) (by omega)
  have hB : ∀ {n : Nat}, n ≤ 8 * 24 ^ 4 + 100 → n ≤ sizeLine := fun h => Nat.le_trans h (by decide +kernel)
  refine ⟨_, rfl, _, rfl, a, _, rfl, ht.sqT, notWhole1, fun p hp0 => ⟨p, rfl, ⟨_, SqT.of upd_same⟩, fun D hD => ?_⟩⟩
  rw [cut1] at hD ⊢
  have e1 := same_new hp0 (.tup vr)
  refine lc_mapT (j := 2) (fun i u _ => ∃ d, ps[i]? = some d ∧ u = .str (partT (textD (k + 1)) d)) (fun _ _ _ _ _ h => h) hD (SqT.of upd_same) (le_line (by omega)) (fun _ => rfl) ?_ ?_
  · intro i x H2 hx e2 Q' k'
    obtain ⟨d, hd1, hd2⟩ := tpa_get hvr hx
    have hd3 := (hd2.up (Same.T e1)).up (Same.T e2)
    have hdr2 := hps d (List.mem_of_getElem? hd1)
    have tl := text_len hdr2
    refine ⟨_, rfl, x, d, rfl, hd3.dp, _, rfl, ?_⟩
    rcases drawn_shape hdr2 with ⟨z, rfl, _⟩ | ⟨o2, ps2, k2, rfl, _⟩
    · cases hd3 with
      | str z => exact iteT ⟨_, rfl, k' _ _ (Same.refl _) ⟨_, hd1, rfl⟩⟩
    · refine iteF ?_
      refine ⟨_, rfl, x, _, k, rfl, hd3, hdr2, by omega, by omega, fun H3 e3 => ⟨_, _, rfl, rfl, ?_, _, _, rfl, rfl, ?_, k' _ _ e3 ⟨_, hd1, rfl⟩⟩⟩
      · have h1 : ("(" : Str).length = 1 := by decide +kernel
        exact hB (by omega)
      · rw [app_len]
        have h1 : ("(" : Str).length = 1 := by decide +kernel
        have h2 : (")" : Str).length = 1 := by decide +kernel
        exact hB (by omega)
  intro H2 ys e2 hD2 hl2 hy
  have hmap : ys = (ps.map (partT (textD (k + 1)))).map V.str := by
    rw [List.map_map]
    exact eq_map_of (hl2.trans lr) fun i u hu => hy i u hu
  subst hmap
  have q2 := q H2 (e1.trans e2)
  have ev : textD (k + 1 + 1) (.tuple (.str o :: ps)) = Txt.join ((" " : Str) ++ o ++ " ") (ps.map (partT (textD (k + 1)))) := rfl
  rw [ev] at q2
  have sl := sep_len ho
  have lo : o.length = 1 := by
    rcases op_shape ho with h | h
    · rw [PyData.str.inj h]
      decide +kernel
    · rw [PyData.str.inj h]
      decide +kernel
  have l1 : (" " : Str).length = 1 := by decide +kernel
  refine ⟨_, rfl, a, _, _, _, rfl, rfl, up_t (e1.trans e2) ht.sqT, at0, _, _, rfl, rfl, ?_, _, _, rfl, rfl, ?_, ⟨_, rfl⟩, _, rfl, _, D, ps.map (partT (textD (k + 1))), rfl, rfl, .inl (SqL.of hD2), ?_, q2⟩
  · exact hB (by omega)
  · rw [app_len]
    exact hB (by omega)
  · rw [sl, List.length_map]
    have hs : ∀ p ∈ ps, (partT (textD (k + 1)) p).length ≤ 8 * 24 ^ k + 2 := fun p hpp => by
      have h1 := text_len (hps p hpp)
      rcases drawn_shape (hps p hpp) with ⟨z, rfl, hz⟩ | ⟨o2, ps2, _, rfl, _⟩
      · have h2 : textD (k + 1) (.str z) = z := rfl
        rw [h2] at h1
        show z.length ≤ _
        omega
      · show (("(" : Str) ++ textD (k + 1) _ ++ ")").length ≤ _
        rw [app_len, app_len]
        have e1 : ("(" : Str).length = 1 := by decide +kernel
        have e2 : (")" : Str).length = 1 := by decide +kernel
        omega
    have hsum := sum_le hs
    have hm : ps.length * (8 * 24 ^ k + 2) ≤ 24 * (8 * 24 ^ k + 2) := Nat.mul_le_mul_right _ l4
    omega
end
end FF
/-! the reader of terms: what it computes, on lists of signs -/
namespace FF
open PySem PySem.Spec PyProof.Rows L2
abbrev isOpC (o : Nat) : Bool := o == 38 || o == 124
abbrev RdF : Type := List Nat → Option (PyData × List Nat)
def rPart (f : RdF) : RdF
  | [] => none
  | c :: r => if c ∈ lettersS.cps.toList then some (.str ⟨#[c]⟩, r) else if c = 40 then (match f r with
    | some (d, 41 :: r2) => if isLet d = true then none else some (d, r2)
    | _ => none) else none
def rTail (g : RdF) (o : Nat) : Nat → List Nat → Option (List PyData × List Nat)
  | 0, l => some ([], l)
  | k + 1, l => match l with
    | 32 :: p :: 32 :: r => if p = o then (match g r with
      | some (d, r2) => (match rTail g o k r2 with
        | some (ds, r3) => some (d :: ds, r3)
        | none => none)
      | none => none) else some ([], l)
    | _ => some ([], l)
def rAlone (d : PyData) (r : List Nat) : Option (PyData × List Nat) := if isLet d = true then some (d, r) else none
def rEnd (o : Nat) (d : PyData) : List PyData × List Nat → Option (PyData × List Nat)
  | ([], r2) => rAlone d r2
  | (e :: es, r2) => some (.tuple (.str ⟨#[o]⟩ :: d :: e :: es), r2)
def rSeq : Nat → RdF
  | 0, _ => none
  | n + 1, l => (rPart (rSeq n) l).bind fun x => match x.2[1]? with
    | some o => if isOpC o = true then (rTail (rPart (rSeq n)) o x.2.length x.2).bind (rEnd o x.1) else rAlone x.1 x.2
    | none => rAlone x.1 x.2
/-! ### what is left is a suffix; the data is nice -/
/-! ### texts at a place -/
end FF
/-! what rdr3 takes of rdr2 -/
namespace FF
open PySem PySem.Spec PyProof.Rows L2
theorem rPart_paren {f : RdF} {l : List Nat} : rPart f (40 :: l) = match f l with
    | some (d, 41 :: r2) => if isLet d = true then none else some (d, r2)
    | _ => none := by
  show (if 40 ∈ lettersS.cps.toList then some (PyData.str ⟨#[40]⟩, l) else if 40 = 40 then (match f l with
    | some (d, 41 :: r2) => if isLet d = true then none else some (d, r2)
    | _ => none) else none) = _
  rw [if_neg (by rw [lettersS_val]; decide), if_pos rfl]
theorem rTail_end {g : RdF} {o : Nat} : ∀ {k : Nat} {l : List Nat}, ¬ l.take 3 = [32, o, 32] → rTail g o k l = some ([], l)
  | 0, _, _ => rfl
  | k + 1, l, h => by
    unfold rTail
    split
    · rename_i p r
      rw [if_neg fun e => h (by rw [e] <;> rfl)]
    · rfl
theorem rTail_more {g : RdF} {o k : Nat} {l : List Nat} : rTail g o (k + 1) (32 :: o :: 32 :: l) = (g l).bind fun x => (rTail g o k x.2).map fun y => (x.1 :: y.1, y.2) := by
  show (if o = o then (match g l with
      | some (d, r2) => (match rTail g o k r2 with
        | some (ds, r3) => some (d :: ds, r3)
        | none => none)
      | none => none) else some ([], 32 :: o :: 32 :: l)) = _
  rw [if_pos rfl]
  cases g l with
  | none => rfl
  | some x =>
    obtain ⟨d, r2⟩ := x
    show (match rTail g o k r2 with
        | some (ds, r3) => some (d :: ds, r3)
        | none => none) = (rTail g o k r2).map _
    cases rTail g o k r2 <;> rfl
end FF
/-! the reader reads what the law writes -/
namespace FF
open PySem PySem.Spec PyProof.Rows L2
abbrev tl (z : Str) : List Nat := z.cps.toList
theorem tl_app (a b : Str) : tl (a ++ b) = tl a ++ tl b := by
  show (a.cps ++ b.cps).toList = _
  rw [Array.toList_append]
def tailL (o : Nat) (ps : List (List Nat)) : List Nat := ps.flatMap fun p => 32 :: o :: 32 :: p
theorem join_tl {o : Nat} {sep : Str} (hs : tl sep = [32, o, 32]) : ∀ (x : Str) (r : List Str), tl (Str.join sep (x :: r)) = tl x ++ tailL o (r.map tl)
  | x, [] => by
    show tl x = tl x ++ []
    rw [List.append_nil]
  | x, y :: r => by
    show tl (x ++ sep ++ Str.join sep (y :: r)) = _
    rw [tl_app, tl_app, hs, join_tl hs y r]
    show tl x ++ [32, o, 32] ++ (tl y ++ tailL o (r.map tl)) = tl x ++ ((32 :: o :: 32 :: tl y) ++ tailL o (r.map tl))
    rw [List.append_assoc] <;> rfl
theorem op_sign {o : Str} (h : isOp (.str o) = true) : ∃ c, o = ⟨#[c]⟩ ∧ isOpC c = true := by
  rcases op_shape h with h | h
  · exact ⟨38, (PyData.str.inj h).trans (by decide +kernel), by decide⟩
  · exact ⟨124, (PyData.str.inj h).trans (by decide +kernel), by decide⟩
theorem sep_tl {c : Nat} : tl ((" " : Str) ++ ⟨#[c]⟩ ++ (" " : Str)) = [32, c, 32] := by
  rw [tl_app, tl_app, show tl (" " : Str) = [32] by decide +kernel] <;> rfl
def Stop (l : List Nat) : Prop := l = [] ∨ ∃ r, l = 41 :: r
theorem part_let {f : RdF} {z : Str} (h : isLet (.str z) = true) (rest : List Nat) : rPart f (tl z ++ rest) = some (.str z, rest) := by
  obtain ⟨c, e, hc⟩ := let_shape h
  rw [PyData.str.inj e]
  exact if_pos hc
theorem text_tup {n c : Nat} {p : PyData} {ps : List PyData} : tl (textD (n + 1) (.tuple (.str ⟨#[c]⟩ :: p :: ps))) = tl (partT (textD n) p) ++ tailL c (ps.map fun q => tl (partT (textD n) q)) := by
  show tl (Txt.join ((" " : Str) ++ ⟨#[c]⟩ ++ " ") ((p :: ps).map (partT (textD n)))) = _
  rw [TL.join_eq, List.map_cons, join_tl sep_tl, List.map_map] <;> rfl
theorem par_tl (x : Str) : tl (("(" : Str) ++ x ++ ")") = 40 :: (tl x ++ [41]) := by
  rw [tl_app, tl_app, show tl ("(" : Str) = [40] by decide +kernel, show tl (")" : Str) = [41] by decide +kernel] <;> rfl
theorem rTail_all {g : RdF} {o : Nat} {f : PyData → List Nat} {rest : List Nat} (hr : Stop rest) : ∀ (ps : List PyData) (k : Nat), (∀ p ∈ ps, ∀ r, g (f p ++ r) = some (p, r)) → ps.length ≤ k → rTail g o k (tailL o (ps.map f) ++ rest) = some (ps, rest)
  | [], k, _, _ => by
    refine rTail_end ?_
    rcases hr with rfl | ⟨r, rfl⟩
    · exact fun z => by cases z
    · exact fun z => by
        have := List.head_eq_of_cons_eq z
        cases this
  | p :: ps, k, h, hk => by
    obtain ⟨j, rfl⟩ : ∃ j, k = j + 1 := ⟨k - 1, by rw [List.length_cons] at hk; omega⟩
    show rTail g o (j + 1) ((32 :: o :: 32 :: f p) ++ tailL o (ps.map f) ++ rest) = _
    rw [show (32 :: o :: 32 :: f p) ++ tailL o (ps.map f) ++ rest = 32 :: o :: 32 :: (f p ++ (tailL o (ps.map f) ++ rest)) by rw [List.append_assoc] <;> rfl]
    rw [rTail_more, h p List.mem_cons_self]
    show ((rTail g o j (tailL o (ps.map f) ++ rest)).map fun y => (p :: y.1, y.2)) = _
    rw [rTail_all hr ps j (fun q hq => h q (List.mem_cons_of_mem _ hq)) (by rw [List.length_cons] at hk; omega)] <;> rfl
theorem tail_len {o : Nat} : ∀ (ps : List (List Nat)), ps.length ≤ (tailL o ps).length
  | [] => Nat.le_refl _
  | p :: ps => by
    have := tail_len (o := o) ps
    show ps.length + 1 ≤ ((32 :: o :: 32 :: p) ++ tailL o ps).length
    rw [List.length_append, List.length_cons]
    omega
theorem read_seq : ∀ {n : Nat} {d : PyData}, Drawn n d → isTup d = true → ∀ rest, Stop rest → rSeq (n + 1) (tl (textD (n + 1) d) ++ rest) = some (d, rest) := by
  intro n
  induction n with
  | zero =>
    intro d h ht
    rcases drawn_shape h with ⟨z, rfl, _⟩ | ⟨_, _, _, _, _, _, _, e, _⟩
    · cases ht
    · cases e
  | succ n ih =>
    intro d h ht rest hr
    rcases drawn_shape h with ⟨z, rfl, _⟩ | ⟨o, ps, k, rfl, ho, l2, l4, e, hp⟩
    · cases ht
    cases e
    obtain ⟨c, rfl, hc⟩ := op_sign ho
    have part : ∀ p ∈ ps, ∀ r, rPart (rSeq (n + 1)) (tl (partT (textD (n + 1)) p) ++ r) = some (p, r) := fun p hpp r => by
      rcases drawn_shape (hp p hpp) with ⟨z, rfl, hz⟩ | ⟨o2, ps2, _, rfl, _⟩
      · exact part_let hz r
      · show rPart (rSeq (n + 1)) (tl (("(" : Str) ++ textD (n + 1) (.tuple (.str o2 :: ps2)) ++ ")") ++ r) = _
        rw [par_tl]
        show rPart (rSeq (n + 1)) (40 :: ((tl (textD (n + 1) (.tuple (.str o2 :: ps2))) ++ [41]) ++ r)) = _
        rw [List.append_assoc, rPart_paren, ih (hp _ hpp) rfl ([41] ++ r) (.inr ⟨r, rfl⟩)]
        rfl
    match ps, l2, part with
    | p :: q :: ps, _, part =>
    rw [text_tup, List.append_assoc]
    show (rPart (rSeq (n + 1)) (tl (partT (textD (n + 1)) p) ++ (tailL c ((q :: ps).map fun q => tl (partT (textD (n + 1)) q)) ++ rest))).bind _ = _
    rw [part p List.mem_cons_self]
    show (match (tailL c ((q :: ps).map fun q => tl (partT (textD (n + 1)) q)) ++ rest)[1]? with
      | some o => if isOpC o = true then (rTail (rPart (rSeq (n + 1))) o (tailL c ((q :: ps).map fun q => tl (partT (textD (n + 1)) q)) ++ rest).length (tailL c ((q :: ps).map fun q => tl (partT (textD (n + 1)) q)) ++ rest)).bind (rEnd o p) else rAlone p (tailL c ((q :: ps).map fun q => tl (partT (textD (n + 1)) q)) ++ rest)
      | none => rAlone p (tailL c ((q :: ps).map fun q => tl (partT (textD (n + 1)) q)) ++ rest)) = _
    have e1 : (tailL c ((q :: ps).map fun q => tl (partT (textD (n + 1)) q)) ++ rest)[1]? = some c := rfl
    rw [e1]
    show (if isOpC c = true then _ else _) = _
    rw [if_pos hc, rTail_all hr (q :: ps) _ (fun x hx => part x (List.mem_cons_of_mem _ hx)) ?_]
    · rfl
    · rw [List.length_append]
      have := tail_len (o := c) ((q :: ps).map fun q => tl (partT (textD (n + 1)) q))
      rw [List.length_map] at this
      omega
end FF
/-! the order of terms: the plain law -/
namespace FF
open PySem PySem.Spec PyProof.Rows L2
def hdS : PyData → Str
  | .str z => z
  | .tuple (.str o :: _) => o
  | _ => ""
def tlD : PyData → List PyData
  | .tuple (_ :: ps) => ps
  | _ => []
def leqStep (f : PyData → PyData → Bool) (l r : PyData) : Bool :=
  PyData.eqv l r || (if hdS l = "|" then (tlD l).all fun p => f p r else if hdS r = "&" then (tlD r).all fun q => f l q
    else (decide (hdS r = "|") && (tlD r).any fun q => f l q) || (decide (hdS l = "&") && (tlD l).any fun p => f p r))
def leqD : Nat → PyData → PyData → Bool
  | 0, _, _ => false
  | n + 1, l, r => leqStep (leqD n) l r
theorem tl_drawn {n : Nat} {d p : PyData} (h : Drawn n d) (hp : p ∈ tlD d) : ∃ k, n = k + 1 ∧ Drawn k p := by
  cases n with
  | zero =>
    obtain ⟨c, rfl, _⟩ := let_shape h
    cases hp
  | succ k =>
    rcases h with h | ⟨o, ps, rfl, _, _, _, h⟩
    · obtain ⟨c, rfl, _⟩ := let_shape h
      cases hp
    · exact ⟨k, rfl, h p hp⟩
theorem all_cong {α : Type} {f g : α → Bool} : ∀ {l : List α}, (∀ x ∈ l, f x = g x) → l.all f = l.all g
  | [], _ => rfl
  | x :: r, h => by rw [List.all_cons, List.all_cons, h x List.mem_cons_self, all_cong fun y hy => h y (List.mem_cons_of_mem _ hy)]
theorem any_cong {α : Type} {f g : α → Bool} : ∀ {l : List α}, (∀ x ∈ l, f x = g x) → l.any f = l.any g
  | [], _ => rfl
  | x :: r, h => by rw [List.any_cons, List.any_cons, h x List.mem_cons_self, any_cong fun y hy => h y (List.mem_cons_of_mem _ hy)]
theorem step_cong {f g : PyData → PyData → Bool} {l r : PyData} (h1 : ∀ p ∈ tlD l, f p r = g p r) (h2 : ∀ q ∈ tlD r, f l q = g l q) : leqStep f l r = leqStep g l r := by
  unfold leqStep
  rw [all_cong h1, all_cong h2, any_cong h1, any_cong h2]
theorem leq_mono : ∀ (n a b : Nat) (l r : PyData), Drawn a l → Drawn b r → a + b < n → leqD (n + 1) l r = leqD n l r
  | 0, _, _, _, _, _, _, h => by omega
  | n + 1, a, b, l, r, hl, hr, h => by
    show leqStep (leqD (n + 1)) l r = leqStep (leqD n) l r
    refine step_cong (fun p hp => ?_) (fun q hq => ?_)
    · obtain ⟨k, rfl, h1⟩ := tl_drawn hl hp
      exact leq_mono n k b p r h1 hr (by omega)
    · obtain ⟨k, rfl, h1⟩ := tl_drawn hr hq
      exact leq_mono n a k l q hl h1 (by omega)
/-- is the left term below the right one on every board -/
def leq (l r : PyData) : Bool := leqD 9 l r
theorem leq_step {l r : PyData} (hl : Drawn 4 l) (hr : Drawn 4 r) : leq l r = leqStep leq l r := by
  show leqStep (leqD 8) l r = leqStep (leqD 9) l r
  refine step_cong (fun p hp => ?_) (fun q hq => ?_)
  · obtain ⟨k, e, h1⟩ := tl_drawn hl hp
    exact (leq_mono 8 k 4 p r h1 hr (by omega)).symm
  · obtain ⟨k, e, h1⟩ := tl_drawn hr hq
    exact (leq_mono 8 4 k l q hl h1 (by omega)).symm
/-! ### how many pairs are asked -/
def costD : Nat → PyData → PyData → Nat
  | 0, _, _ => 0
  | n + 1, l, r => 1 + (((tlD l).map fun p => costD n p r).sum + ((tlD r).map fun q => costD n l q).sum)
mutual
def lvs : PyData → Nat
  | .tuple (_ :: ps) => 1 + lvsAll ps
  | _ => 1
def lvsAll : List PyData → Nat
  | [] => 0
  | d :: r => lvs d + lvsAll r
end
theorem lvs_pos (d : PyData) : 1 ≤ lvs d := by
  cases d with
  | tuple ds => cases ds <;> simp [lvs]
  | _ => simp [lvs]
theorem sum_mul {f : PyData → Nat} {B : Nat} : ∀ {ps : List PyData}, (∀ p ∈ ps, f p ≤ B * lvs p) → (ps.map f).sum ≤ B * lvsAll ps
  | [], _ => by simp [lvsAll]
  | p :: r, h => by
    have h1 := h p List.mem_cons_self
    have h2 := sum_mul (f := f) (B := B) (ps := r) fun q hq => h q (List.mem_cons_of_mem _ hq)
    rw [List.map_cons, List.sum_cons, lvsAll, Nat.mul_add]
    omega
theorem tl_lvs (d : PyData) : lvsAll (tlD d) ≤ lvs d := by
  cases d with
  | tuple ds =>
    cases ds with
    | nil => simp [tlD, lvsAll]
    | cons o ps =>
      show lvsAll ps ≤ lvs (.tuple (o :: ps))
      rw [lvs]
      omega
  | _ => simp [tlD, lvsAll]
theorem cost_le : ∀ (n : Nat) (l r : PyData), costD n l r + lvs l * lvs r ≤ 2 ^ n * (lvs l * lvs r)
  | 0, l, r => by simp [costD]
  | n + 1, l, r => by
    have h1 : ((tlD l).map fun p => costD n p r).sum ≤ ((2 ^ n - 1) * lvs r) * lvsAll (tlD l) := sum_mul fun p _ => by
      have := cost_le n p r
      have e : 2 ^ n * (lvs p * lvs r) = (2 ^ n - 1) * lvs r * lvs p + lvs p * lvs r := by
        have h2 : 1 ≤ 2 ^ n := Nat.one_le_pow _ _ (by decide)
        obtain ⟨k, hk⟩ : ∃ k, 2 ^ n = k + 1 := ⟨2 ^ n - 1, by omega⟩
        rw [hk, Nat.add_sub_cancel, Nat.add_mul, Nat.one_mul, Nat.mul_assoc, Nat.mul_comm (lvs r)]
      omega
    have h2 : ((tlD r).map fun q => costD n l q).sum ≤ ((2 ^ n - 1) * lvs l) * lvsAll (tlD r) := sum_mul fun q _ => by
      have := cost_le n l q
      have e : 2 ^ n * (lvs l * lvs q) = (2 ^ n - 1) * lvs l * lvs q + lvs l * lvs q := by
        have h2 : 1 ≤ 2 ^ n := Nat.one_le_pow _ _ (by decide)
        obtain ⟨k, hk⟩ : ∃ k, 2 ^ n = k + 1 := ⟨2 ^ n - 1, by omega⟩
        rw [hk, Nat.add_sub_cancel, Nat.add_mul, Nat.one_mul, Nat.mul_assoc]
      omega
    have h3 : ((2 ^ n - 1) * lvs r) * lvsAll (tlD l) ≤ (2 ^ n - 1) * (lvs l * lvs r) := by
      rw [Nat.mul_assoc, Nat.mul_comm (lvs l)]
      exact Nat.mul_le_mul_left _ (Nat.mul_le_mul_left _ (tl_lvs l))
    have h4 : ((2 ^ n - 1) * lvs l) * lvsAll (tlD r) ≤ (2 ^ n - 1) * (lvs l * lvs r) := by
      rw [Nat.mul_assoc]
      exact Nat.mul_le_mul_left _ (Nat.mul_le_mul_left _ (tl_lvs r))
    have h5 : 1 ≤ lvs l * lvs r := Nat.mul_pos (lvs_pos l) (lvs_pos r)
    have h6 : 1 ≤ 2 ^ n := Nat.one_le_pow _ _ (by decide)
    obtain ⟨k, hk⟩ : ∃ k, 2 ^ n = k + 1 := ⟨2 ^ n - 1, by omega⟩
    rw [hk, Nat.add_sub_cancel] at h1 h2 h3 h4
    show 1 + (((tlD l).map fun p => costD n p r).sum + ((tlD r).map fun q => costD n l q).sum) + lvs l * lvs r ≤ _
    rw [Nat.pow_succ, hk]
    generalize lvs l * lvs r = X at *
    have : (k + 1) * 2 * X = k * X + k * X + 2 * X := by
      rw [Nat.mul_comm (k + 1), Nat.mul_assoc, Nat.add_mul, Nat.one_mul, Nat.mul_add]
      omega
    omega
theorem lvs_meas : ∀ {n : Nat} {d : PyData}, Drawn n d → ((lvs d : Int) + 1 ≤ 2 * meas (n + 1) d)
  | 0, d, h => by
    rw [meas_let (show isLet d = true from h), if_pos (by omega)]
    obtain ⟨c, rfl, _⟩ := let_shape h
    simp [lvs]
  | n + 1, d, h => by
    rcases h with h | ⟨o, ps, rfl, ho, h2, h4, hp⟩
    · rw [meas_let h, if_pos (by omega)]
      obtain ⟨c, rfl, _⟩ := let_shape h
      simp [lvs]
    rw [meas_up tup_let (by omega)]
    have hs := sum_in (f := meas (n + 1)) (B := ((24 ^ n : Nat) : Int)) (l := ps) fun p hpp => meas_drawn (hp p hpp) (n + 1) (by omega)
    have hl : ∀ qs : List PyData, (∀ q ∈ qs, Drawn n q) → (lvsAll qs : Int) + qs.length ≤ 2 * ((qs.map (meas (n + 1))).sum) := fun qs => by
      induction qs with
      | nil => exact fun _ => by simp [lvsAll]
      | cons q r ih =>
        intro h
        have h1 := lvs_meas (h q List.mem_cons_self)
        have h2 := ih fun x hx => h x (List.mem_cons_of_mem _ hx)
        rw [List.map_cons, List.sum_cons, lvsAll, List.length_cons]
        omega
    have h5 := hl ps hp
    have e : lvs (.tuple (o :: ps)) = 1 + lvsAll ps := by rw [lvs]
    rw [e]
    match ps, h2, h4, hs, h5 with
    | y :: z :: r, h2, h4, hs, h5 =>
      show _ ≤ 2 * (if isOp o = true then (if (0 : Int) ∈ ((y :: z :: r).map (meas (n + 1))) then 0 else ((y :: z :: r).map (meas (n + 1))).sum) else 0)
      rw [if_pos ho, if_neg hs.1]
      have : (2 : Int) ≤ (y :: z :: r).length := by exact_mod_cast h2
      omega
theorem lvs_fit {d : PyData} (h : Drawn 4 d) (hm : meas 5 d ≤ 24) : lvs d ≤ 47 := by
  have : (lvs d : Int) + 1 ≤ 2 * meas 5 d := lvs_meas h
  omega
theorem cost_fit {l r : PyData} (hl : lvs l ≤ 47) (hr : lvs r ≤ 47) : costD 9 l r ≤ 1130000 := by
  have h1 := cost_le 9 l r
  have h2 : lvs l * lvs r ≤ 47 * 47 := Nat.mul_le_mul hl hr
  have : 2 ^ 9 * (lvs l * lvs r) = 511 * (lvs l * lvs r) + lvs l * lvs r := by omega
  omega
/-! ### what fits is a word -/
theorem meas_nonneg : ∀ (n : Nat) (d : PyData), 0 ≤ meas n d
  | 0, _ => Int.le_refl 0
  | n + 1, d => by
    show 0 ≤ (if isLet d = true then (1 : Int) else if n = 0 then 0 else measP (meas n) d)
    split
    · decide
    · split
      · exact Int.le_refl 0
      · match d with
        | .tuple (x :: y :: z :: r) =>
          show 0 ≤ (if isOp x = true then (if (0 : Int) ∈ ((y :: z :: r).map (meas n)) then 0 else ((y :: z :: r).map (meas n)).sum) else 0)
          split
          · split
            · exact Int.le_refl 0
            · generalize y :: z :: r = l
              induction l with
              | nil => exact Int.le_refl 0
              | cons a t ih =>
                rw [List.map_cons, List.sum_cons]
                have := meas_nonneg n a
                omega
          · exact Int.le_refl 0
        | .tuple [] => exact Int.le_refl 0
        | .tuple [_] => exact Int.le_refl 0
        | .tuple [_, _] => exact Int.le_refl 0
        | .none | .bool _ | .int _ | .str _ | .list _ | .dict _ => exact Int.le_refl 0
theorem pos_le {f : PyData → Int} : ∀ {ps : List PyData}, (∀ p ∈ ps, 1 ≤ f p) → (ps.length : Int) ≤ (ps.map f).sum ∧ ∀ p ∈ ps, f p ≤ (ps.map f).sum
  | [], _ => ⟨by simp, fun p h => by cases h⟩
  | p :: r, h => by
    have h1 := h p List.mem_cons_self
    obtain ⟨h2, h3⟩ := pos_le (f := f) (ps := r) fun q hq => h q (List.mem_cons_of_mem _ hq)
    rw [List.map_cons, List.sum_cons, List.length_cons]
    refine ⟨by omega, fun q hq => ?_⟩
    rcases List.mem_cons.mp hq with rfl | hq
    · omega
    · have := h3 q hq
      omega
theorem word_of : ∀ (n : Nat) (d : PyData), 1 ≤ meas (n + 1) d → meas (n + 1) d ≤ 24 → Drawn n d := by
  intro n
  induction n with
  | zero =>
    intro d h1 _
    show isLet d = true
    cases h : isLet d with
    | true => rfl
    | false =>
      rw [meas_low h (by omega)] at h1
      omega
  | succ n ih =>
    intro d h1 h2
    cases h : isLet d with
    | true => exact .inl h
    | false =>
      rw [meas_up h (by omega)] at h1 h2
      match d, h1, h2 with
      | .tuple (o :: y :: z :: r), h1, h2 =>
        have e : measP (meas (n + 1)) (.tuple (o :: y :: z :: r)) = if isOp o = true then (if (0 : Int) ∈ ((y :: z :: r).map (meas (n + 1))) then 0 else ((y :: z :: r).map (meas (n + 1))).sum) else 0 := rfl
        rw [e] at h1 h2
        cases ho : isOp o with
        | false =>
          rw [ho, if_neg (by decide)] at h1
          omega
        | true =>
          rw [ho, if_pos rfl] at h1 h2
          by_cases h0 : (0 : Int) ∈ ((y :: z :: r).map (meas (n + 1)))
          · rw [if_pos h0] at h1
            omega
          rw [if_neg h0] at h1 h2
          have hp : ∀ p ∈ y :: z :: r, 1 ≤ meas (n + 1) p := fun p hp => by
            have := meas_nonneg (n + 1) p
            have : meas (n + 1) p ≠ 0 := fun e => h0 (List.mem_map.mpr ⟨p, hp, e⟩)
            omega
          obtain ⟨h3, h4⟩ := pos_le hp
          refine .inr ⟨o, y :: z :: r, rfl, ho, by simp, by omega, fun p hpp => ih p (hp p hpp) (by have := h4 p hpp; omega)⟩
      | .tuple [], h1, _ => exact absurd h1 (by show ¬ (1 : Int) ≤ 0; decide)
      | .tuple [_], h1, _ => exact absurd h1 (by show ¬ (1 : Int) ≤ 0; decide)
      | .tuple [_, _], h1, _ => exact absurd h1 (by show ¬ (1 : Int) ≤ 0; decide)
      | .str _, h1, _ => exact absurd h1 (by show ¬ (1 : Int) ≤ 0; decide)
      | .none, h1, _ => exact absurd h1 (by show ¬ (1 : Int) ≤ 0; decide)
      | .bool _, h1, _ => exact absurd h1 (by show ¬ (1 : Int) ≤ 0; decide)
      | .int _, h1, _ => exact absurd h1 (by show ¬ (1 : Int) ≤ 0; decide)
      | .list _, h1, _ => exact absurd h1 (by show ¬ (1 : Int) ≤ 0; decide)
      | .dict _, h1, _ => exact absurd h1 (by show ¬ (1 : Int) ≤ 0; decide)
/-! ### the text of a pair tells the pair -/
theorem tl_inj {a b : Str} (h : tl a = tl b) : a = b := by
  obtain ⟨⟨x⟩⟩ := a
  obtain ⟨⟨y⟩⟩ := b
  have h : x = y := h
  rw [h]
theorem let_sign {z : Str} (h : isLet (.str z) = true) : ∃ c, tl z = [c] ∧ 97 ≤ c := by
  obtain ⟨c, e, hc⟩ := let_shape h
  rw [PyData.str.inj e]
  refine ⟨c, rfl, ?_⟩
  have : c ∈ [97, 98, 99, 100, 101, 102, 103, 104] := hc
  simp only [List.mem_cons, List.not_mem_nil, or_false] at this
  omega
theorem text_sign : ∀ {n : Nat} {d : PyData}, Drawn n d → 60 ∉ tl (textD (n + 1) d)
  | 0, d, h => by
    obtain ⟨c, rfl, _⟩ := let_shape h
    obtain ⟨x, e, hx⟩ := let_sign (z := ⟨#[c]⟩) h
    show 60 ∉ tl ⟨#[c]⟩
    rw [e]
    simp only [List.mem_cons, List.not_mem_nil, or_false]
    omega
  | n + 1, d, h => by
    rcases h with h | ⟨o, ps, rfl, ho, h2, h4, hp⟩
    · obtain ⟨c, rfl, _⟩ := let_shape h
      obtain ⟨x, e, hx⟩ := let_sign (z := ⟨#[c]⟩) h
      show 60 ∉ tl ⟨#[c]⟩
      rw [e]
      simp only [List.mem_cons, List.not_mem_nil, or_false]
      omega
    have part : ∀ p ∈ ps, 60 ∉ tl (partT (textD (n + 1)) p) := fun p hpp => by
      have ih := text_sign (hp p hpp)
      cases p with
      | str z => exact ih
      | tuple qs =>
        show 60 ∉ tl (("(" : Str) ++ textD (n + 1) (.tuple qs) ++ ")")
        rw [par_tl]
        simp [ih]
      | _ =>
        have := hp _ hpp
        rcases drawn_shape this with ⟨z, e, _⟩ | ⟨_, _, _, e, _⟩ <;> cases e
    match o, ho with
    | .str o, ho =>
    obtain ⟨c, rfl, hc⟩ := op_sign ho
    match ps, h2, part with
    | p :: ps, _, part =>
    rw [text_tup]
    have hc : c ≠ 60 := fun e => by
      subst e
      exact absurd hc (by decide)
    intro hm
    rcases List.mem_append.mp hm with hm | hm
    · exact part p List.mem_cons_self hm
    · obtain ⟨x, hx, hm⟩ := List.mem_flatMap.mp hm
      obtain ⟨q, hq, rfl⟩ := List.mem_map.mp hx
      simp only [List.mem_cons] at hm
      rcases hm with hm | hm | hm | hm
      · omega
      · exact hc hm.symm
      · omega
      · exact part q (List.mem_cons_of_mem _ hq) hm
theorem text_long {n : Nat} {d : PyData} (h : Drawn n d) (ht : isTup d = true) : 2 ≤ (tl (textD (n + 1) d)).length := by
  rcases drawn_shape h with ⟨z, rfl, _⟩ | ⟨o, ps, k, rfl, ho, h2, h4, rfl, hp⟩
  · cases ht
  obtain ⟨c, rfl, hc⟩ := op_sign ho
  match ps, h2 with
  | p :: q :: ps, _ =>
  rw [text_tup, List.length_append, List.map_cons]
  show 2 ≤ _ + ((32 :: c :: 32 :: _) ++ tailL c _).length
  rw [List.length_append, List.length_cons, List.length_cons]
  omega
theorem tup_or {n : Nat} {d : PyData} (h : Drawn n d) : (∃ z, d = .str z ∧ isLet d = true) ∨ isTup d = true := by
  rcases drawn_shape h with h | ⟨_, _, _, rfl, _⟩
  · exact .inl h
  · exact .inr rfl
theorem text_inj {d e : PyData} (hd : Drawn 4 d) (he : Drawn 4 e) (h : tl (textD 5 d) = tl (textD 5 e)) : d = e := by
  rcases tup_or hd with ⟨z, rfl, hz⟩ | hd1
  · rcases tup_or he with ⟨y, rfl, hy⟩ | he1
    · have h : tl z = tl y := h
      rw [tl_inj h]
    · have h1 := text_long he he1
      obtain ⟨c, e1, _⟩ := let_sign hz
      have h : tl z = tl (textD 5 e) := h
      rw [← h, e1] at h1
      cases h1 with
      | step h => cases h
  · rcases tup_or he with ⟨y, rfl, hy⟩ | he1
    · have h1 := text_long hd hd1
      obtain ⟨c, e1, _⟩ := let_sign hy
      have h : tl (textD 5 d) = tl y := h
      rw [h, e1] at h1
      cases h1 with
      | step h => cases h
    · have h1 := read_seq hd hd1 [] (.inl rfl)
      have h2 := read_seq he he1 [] (.inl rfl)
      rw [h, h2] at h1
      exact ((Prod.mk.inj (Option.some.inj h1)).1).symm
theorem split_at : ∀ {xs ys as bs : List Nat}, 60 ∉ xs → 60 ∉ ys → xs ++ 60 :: as = ys ++ 60 :: bs → xs = ys ∧ as = bs
  | [], [], _, _, _, _, h => ⟨rfl, (List.cons.inj h).2⟩
  | [], y :: ys, _, _, _, h2, h => absurd (List.cons.inj h).1 (fun e => h2 (by rw [e]; exact List.mem_cons_self))
  | x :: xs, [], _, _, h1, _, h => absurd (List.cons.inj h).1 (fun e => h1 (by rw [← e]; exact List.mem_cons_self))
  | x :: xs, y :: ys, _, _, h1, h2, h => by
    obtain ⟨e1, e2⟩ := List.cons.inj h
    obtain ⟨e3, e4⟩ := split_at (fun z => h1 (List.mem_cons_of_mem _ z)) (fun z => h2 (List.mem_cons_of_mem _ z)) e2
    exact ⟨by rw [e1, e3], e4⟩
/-- the text under which a pair is kept -/
def keyD (l r : PyData) : Str := textD 5 l ++ " < " ++ textD 5 r
theorem key_inj {l r l' r' : PyData} (h1 : Drawn 4 l) (h2 : Drawn 4 r) (h3 : Drawn 4 l') (h4 : Drawn 4 r') (h : keyD l r = keyD l' r') : l = l' ∧ r = r' := by
  have e : ∀ a b : PyData, tl (keyD a b) = (tl (textD 5 a) ++ [32]) ++ 60 :: (32 :: tl (textD 5 b)) := fun a b => by
    unfold keyD
    rw [tl_app, tl_app, show tl (" < " : Str) = [32, 60, 32] by decide +kernel, List.append_assoc, List.append_assoc] <;> rfl
  have h5 := congrArg tl h
  rw [e, e] at h5
  have n : ∀ {a : PyData}, Drawn 4 a → 60 ∉ tl (textD 5 a) ++ [32] := fun ha hm => by
    rcases List.mem_append.mp hm with hm | hm
    · exact text_sign ha hm
    · simp at hm
  obtain ⟨h6, h7⟩ := split_at (n h1) (n h3) h5
  exact ⟨text_inj h1 h3 (List.append_cancel_right h6), text_inj h2 h4 (List.cons.inj h7).2⟩
end FF
namespace FF
open PySem PySem.Spec PyProof.Rows L2
theorem meas_down : ∀ (n : Nat) (d : PyData), meas (n + 1) d = 0 → meas n d = 0
  | 0, _, _ => rfl
  | n + 1, d, h => by
    have hl : isLet d = false := by
      cases e : isLet d with
      | false => rfl
      | true =>
        rw [meas_let e, if_pos (by omega)] at h
        cases h
    by_cases hn : n = 0
    · subst hn
      exact meas_low hl (by omega)
    rw [meas_up hl (by omega)] at h
    rw [meas_up hl (by omega)]
    match d, h with
    | .tuple (x :: y :: z :: r), h =>
      have h : (if isOp x = true then (if (0 : Int) ∈ ((y :: z :: r).map (meas (n + 1))) then 0 else ((y :: z :: r).map (meas (n + 1))).sum) else 0) = 0 := h
      show (if isOp x = true then (if (0 : Int) ∈ ((y :: z :: r).map (meas n)) then 0 else ((y :: z :: r).map (meas n)).sum) else 0) = 0
      split at h
      · rename_i ho
        rw [if_pos ho]
        split at h
        · rename_i hz
          obtain ⟨p, hp, e⟩ := List.mem_map.mp hz
          rw [if_pos (List.mem_map.mpr ⟨p, hp, meas_down n p e⟩)]
        · rename_i hz
          have ge : ∀ l : List PyData, (∀ p ∈ l, meas (n + 1) p ≠ 0) → (l.length : Int) ≤ (l.map (meas (n + 1))).sum := fun l => by
            induction l with
            | nil => exact fun _ => by simp
            | cons a t ih =>
              intro hh
              have h1 := hh a List.mem_cons_self
              have h2 := meas_nonneg (n + 1) a
              have h3 := ih fun p hp => hh p (List.mem_cons_of_mem _ hp)
              rw [List.map_cons, List.sum_cons, List.length_cons]
              omega
          have := ge (y :: z :: r) fun p hp e => hz (List.mem_map.mpr ⟨p, hp, e⟩)
          rw [h] at this
          simp only [List.length_cons] at this
          omega
      · rename_i ho
        rw [if_neg ho]
    | .tuple [], _ => rfl
    | .tuple [_], _ => rfl
    | .tuple [_, _], _ => rfl
    | .none, _ | .bool _, _ | .int _, _ | .str _, _ | .list _, _ | .dict _, _ => rfl
/-- what is no term of any size -/
theorem m3 {x y z : PyData} (h : isOp x = false ∨ meas 8 y = 0 ∨ meas 8 z = 0) : meas 9 (.tuple [x, y, z]) = 0 := by
  rw [meas_up tup_let (by decide)]
  show (if isOp x = true then (if (0 : Int) ∈ [meas 8 y, meas 8 z] then 0 else [meas 8 y, meas 8 z].sum) else 0) = 0
  rcases h with h | h | h
  · rw [if_neg (by rw [h]; decide)]
  · split
    · rw [if_pos (by simp [h])]
    · rfl
  · split
    · rw [if_pos (by simp [h])]
    · rfl
def spOdd0 (K : PySem.W.Frag) : Sp := fun vs H Q _ => ∃ (s : Addr) (v : V) (d : PyData), vs = [.ref s, v] ∧ Src H s ∧ Dp K H v d ∧ Nice 20 d ∧ ∀ v' H' d', Same H H' → Dp K H' v' d' → Nice 30 d' → meas 9 d' = 0 → Q v' H'
end FF
namespace FF
open PySem PySem.Spec PyProof.Rows L2
theorem nice_w {d : PyData} (hd : Nice 20 d) : ∀ e, e ∈ ([.str ("&" : Str), .str ("|" : Str), .str ("" : Str), .tuple [.str ("a" : Str), .str ("b" : Str)], .tuple [.str ("|" : Str), .str ("b" : Str)], .list [.str ("a" : Str)], d] : List PyData) → Nice 25 e := by
  intro e he
  simp only [List.mem_cons, List.not_mem_nil, or_false] at he
  rcases he with rfl | rfl | rfl | rfl | rfl | rfl | rfl
  all_goals first
    | exact hd.mono (by decide)
    | exact ⟨by decide +kernel, by decide +kernel⟩
section
variable {P : Program} {w : World} {K : PySem.W.Frag} {mg : Str → Option Value} {base : Heap}
theorem ok_nest {f : Addr} {fd : FuncData} (F : FunD K "_law_nest" "_law_nest" (defArgs s_law_nest) (defBody s_law_nest) (defScope s_law_nest) [] [] f fd) (hm : mg "_law_nest" = some (.ref f)) (T : Top K mg) : Def P w K mg base "_law_nest" 1 ["_law_many"] (spNest K) := by
  refine def_mk F hm (F.bindsN fun _ _ _ _ _ _ us hl => match us, hl with | [_], _ => rfl) sc_law_nest (fun vs H Q E h => ?_) (fun cdv A outer s H vs Q E hr h => ?_)
  · obtain ⟨m, rfl, _⟩ := h
    rfl
  obtain ⟨m, rfl, h40, q⟩ := h
  refine ⟨_, (pss_cons (ps_set (i := 1) sc_law_nest.nd rfl (Or.inl rfl) pe_str)
  (pss_cons (ps_for PassesOwn.never rfl (pi_range1 (by rfl) T.b_range (pa_cons (pv 0) pa_nil)) (pg_name (i := 2) sc_law_nest.nd rfl (Or.inl rfl) (.inl rfl))
  (pss_one (ps_set (i := 1) sc_law_nest.nd rfl (Or.inl rfl) (pe_tup (pa_cons (pe_ix (ix_listK K) (pe_lst (pa_cons pe_str (pa_cons pe_str pa_nil))) (pe_op op_mod (pe_callTy call_int1 (by rfl) T.b_int (by decide +kernel) (pa_cons (pv 2) pa_nil)) pe_int) (fun _ _ => rfl)) (pa_cons (pv 1) (pa_cons pe_str pa_nil)))))))
  (pss_one (ps_ret (pv 1))))), ?_⟩
  refine ⟨_, rfl, (m : Int), rfl, by omega, by omega, ?_⟩
  rw [Int.toNat_natCast]
  refine for_range (lo := 0) (n := m) (fun i σ H' => ∃ v o, σ = [some (.int m), some v, o] ∧ Same H H' ∧ Tp K H' v (nestD i)) ⟨_, none, rfl, Same.refl H, .str _⟩ ?_ ?_
  · rintro i σ H' hi ⟨v, o, rfl, e, hv⟩
    refine ⟨(by show 2 ≤ sizeLine; decide), fun p hp => ?_⟩
    have e1 := same_new hp (.lst [.str ("&" : Str), .str ("|" : Str)])
    refine ⟨_, rfl, .inl ⟨_, rfl, _, _, rfl, rfl, (by show (0 : Int) < 2; decide), ?_⟩⟩
    have hat : atI [V.str ("&" : Str), V.str ("|" : Str)] ((0 + (i : Int)) % 2) = some (.str (if i % 2 = 0 then ("&" : Str) else ("|" : Str))) := by
      by_cases h : i % 2 = 0
      · rw [if_pos h, show (0 + (i : Int)) % 2 = 0 by omega] <;> rfl
      · rw [if_neg h, show (0 + (i : Int)) % 2 = 1 by omega] <;> rfl
    refine ⟨p, _, _, _, rfl, rfl, SqL.of upd_same, hat, _, rfl, (by show 3 ≤ sizeLine; decide), fun t ht => ?_⟩
    have e2 := e1.trans (same_new ht (.tup [.str (if i % 2 = 0 then ("&" : Str) else ("|" : Str)), v, .str ("b" : Str)]))
    exact ⟨_, _, rfl, e.trans e2, .tup (.inl upd_same) (.cons (.str _) (.cons (hv.up (Same.T e2)) (.cons (.str _) .nil)))⟩
  · rintro σ H' ⟨v, o, rfl, e, hv⟩
    exact ⟨_, rfl, q v H' e hv⟩
theorem ok_odd0 {f : Addr} {fd : FuncData} (F : FunD K "_law_odd" "_law_odd" (defArgs s_law_odd) (defBody s_law_odd) (defScope s_law_odd) [] [] f fd) (hm : mg "_law_odd" = some (.ref f)) (T : Top K mg)
    (D_law_pick : Def P w K mg base "_law_pick" 2 ["_law_source_here", "_law_row"] (spPick K)) (D_law_nest : Def P w K mg base "_law_nest" 1 ["_law_many"] (spNest K)) : Def P w K mg base "_law_odd" 3 ["_law_source_here", "_law_word"] (spOdd0 K) := by
  refine def_mk F hm (F.bindsN fun _ _ _ _ _ _ us hl => match us, hl with | [_, _], _ => rfl) sc_law_odd (fun vs H Q E h => ?_) (fun cdv A outer s H vs Q E hr h => ?_)
  · obtain ⟨s, v, d, rfl, _⟩ := h
    rfl
  obtain ⟨s, v, d, rfl, hs, hd, hn, q⟩ := h
  refine ⟨_, (pss_cons (ps_set (i := 2) sc_law_odd.nd rfl (Or.inl rfl) (pe_lst (pa_cons pe_non (pa_cons pe_int (pa_cons pe_str (pa_cons pe_str (pa_cons pe_str (pa_cons pe_str (pa_cons (pe_tup pa_nil) (pa_cons (pe_tup (pa_cons pe_str pa_nil)) (pa_cons (pe_tup (pa_cons pe_str (pa_cons pe_str pa_nil))) (pa_cons (pe_tup (pa_cons pe_str (pa_cons pe_str (pa_cons pe_str pa_nil)))) (pa_cons (pe_tup (pa_cons pe_str (pa_cons pe_str (pa_cons pe_str pa_nil)))) (pa_cons (pe_lst (pa_cons pe_str (pa_cons pe_str (pa_cons pe_str pa_nil)))) pa_nil))))))))))))))
  (pss_cons (ps_set (i := 2) sc_law_odd.nd rfl (Or.inl rfl) (pe_op op_cat (pv 2) (pe_lst (pa_cons (pe_tup (pa_cons pe_str (pa_cons pe_str (pa_cons pe_non pa_nil)))) (pa_cons (pe_tup (pa_cons pe_str (pa_cons (pv 1) (pa_cons (pe_tup (pa_cons pe_str (pa_cons pe_str pa_nil))) pa_nil)))) (pa_cons (pe_tup (pa_cons (pv 1) pa_nil)) (pa_cons (pe_tup (pa_cons pe_str (pa_cons (pe_tup (pa_cons pe_str (pa_cons pe_str pa_nil))) (pa_cons (pv 1) pa_nil)))) (pa_cons (pe_tup (pa_cons pe_bl (pa_cons pe_str (pa_cons pe_str pa_nil)))) pa_nil))))))))
  (pss_cons (ps_set (i := 2) sc_law_odd.nd rfl (Or.inl rfl) (pe_op op_cat (pv 2) (pe_lst (pa_cons (pe_tup (pa_cons pe_str (pa_cons (pe_lst (pa_cons pe_str pa_nil)) (pa_cons (pv 1) pa_nil)))) (pa_cons (pe_tup (pa_cons pe_str (pa_cons (pv 1) (pa_cons pe_str pa_nil)))) (pa_cons (pe_tup (pa_cons pe_str (pa_cons (pv 1) (pa_cons (pv 1) pa_nil)))) (pa_cons (pe_tup (pa_cons (pe_tup (pa_cons pe_str (pa_cons pe_str (pa_cons pe_str pa_nil)))) (pa_cons pe_str (pa_cons pe_str pa_nil)))) (pa_cons (pe_def D_law_nest hr (by first | decide | omega) (pa_cons pe_int pa_nil)) pa_nil))))))))
  (pss_one (ps_ret (pe_def D_law_pick hr (by first | decide | omega) (pa_cons (pv 0) (pa_cons (pv 2) pa_nil)))))))), ?_⟩
  refine seq_asg ?_
  refine evl_lst (K := K) (H := H) (by (repeat (first | exact evs_nil | exact ev_non | exact ev_bl | exact ev_int | exact ev_str | exact ev_var rfl (by assumption) | apply ev_tup | apply ev_lst | apply evs_cons | exact Nat.le_of_ble_eq_true rfl))) (by decide) H (Same.refl H) _ fun p1 vs1 H1 n1 e1 hp1 hd1 => ?_
  refine seq_asg (op_of ⟨_, rfl, ?_⟩)
  have hdH1 := up_d e1 hd
  show tLst _ _ _ _
  refine evl_lst (K := K) (H := H1) (by (repeat (first | exact evs_nil | exact ev_non | exact ev_bl | exact ev_int | exact ev_str | exact ev_var rfl (by assumption) | apply ev_tup | apply ev_lst | apply evs_cons | exact Nat.le_of_ble_eq_true rfl))) (by simp) H1 (Same.refl H1) _ fun p2 vs2 H2 n2 e2 hp2 hd2 => ?_
  refine ⟨p1, p2, _, _, rfl, rfl, e2 _ _ hp1, hp2, le_line (by rw [da_len hd1, da_len hd2]; simp), fun p3 hp3 => ?_⟩
  refine seq_asg (op_of ⟨_, rfl, ?_⟩)
  have e12 := e1.trans e2
  have e3 := same_new hp3 (.lst (vs1 ++ vs2))
  have e13 := e12.trans e3
  have hdH2 := up_d e13 hd
  have hd3 := da_app (up_da (e2.trans e3) hd1) (up_da e3 hd2)
  show tLst _ _ _ _
  refine evl_lst (K := K) (H := upd H2 p3 (.lst (vs1 ++ vs2))) (evs_cons (by (repeat (first | exact evs_nil | exact ev_non | exact ev_bl | exact ev_int | exact ev_str | exact ev_var rfl (by assumption) | apply ev_tup | apply ev_lst | apply evs_cons | exact Nat.le_of_ble_eq_true rfl))) (evs_cons (by (repeat (first | exact evs_nil | exact ev_non | exact ev_bl | exact ev_int | exact ev_str | exact ev_var rfl (by assumption) | apply ev_tup | apply ev_lst | apply evs_cons | exact Nat.le_of_ble_eq_true rfl))) (evs_cons (by (repeat (first | exact evs_nil | exact ev_non | exact ev_bl | exact ev_int | exact ev_str | exact ev_var rfl (by assumption) | apply ev_tup | apply ev_lst | apply evs_cons | exact Nat.le_of_ble_eq_true rfl))) (evs_cons (by (repeat (first | exact evs_nil | exact ev_non | exact ev_bl | exact ev_int | exact ev_str | exact ev_var rfl (by assumption) | apply ev_tup | apply ev_lst | apply evs_cons | exact Nat.le_of_ble_eq_true rfl))) (evs_cons (d := nestD 10) (fun H5 e5 Q' k' => ⟨10, rfl, by decide, fun v6 H6 e6 h6 => k' v6 H6 e6 h6.dp⟩) evs_nil))))) (by simp) _ (Same.refl _) _ fun p4 vs4 H4 n4 e4 hp4 hd4 => ?_
  refine ⟨p3, p4, _, _, rfl, rfl, e4 _ _ upd_same, hp4, le_line (by rw [List.length_append, da_len hd1, da_len hd2, da_len hd4]; simp), fun p5 hp5 => ?_⟩
  have e5 := same_new hp5 (.lst ((vs1 ++ vs2) ++ vs4))
  have hd5 := da_app (up_da (e4.trans e5) hd3) (up_da e5 hd4)
  have e15 := e13.trans (e4.trans e5)
  refine ⟨_, rfl, _, rfl, s, p5, _, rfl, hs.up e15, SqL.of upd_same, ?_, ?_, fun v' hv' => ?_⟩
  · intro z
    have := congrArg List.length z
    rw [da_len hd5] at this
    simp at this
  · rw [da_len hd5]
    simp
  obtain ⟨d', hd1', hd2'⟩ := da_mem hd5 hv'
  suffices both : Nice 30 d' ∧ meas 9 d' = 0 from q v' _ d' e15 hd2' both.1 both.2
  have w1 := nice_w hn
  have mk : ∀ ds : List PyData, ds.length ≤ 20000 → (∀ e, e ∈ ds → e ∈ ([.str ("&" : Str), .str ("|" : Str), .str ("" : Str), .tuple [.str ("a" : Str), .str ("b" : Str)], .tuple [.str ("|" : Str), .str ("b" : Str)], .list [.str ("a" : Str)], d] : List PyData)) → Nice 30 (.tuple ds) := fun ds hl hm => (Nice.tuple hl fun e he => w1 e (hm e he)).mono (by decide)
  simp only [List.mem_append, List.mem_cons, List.not_mem_nil, or_false, or_assoc] at hd1'
  rcases hd1' with rfl | rfl | rfl | rfl | rfl | rfl | rfl | rfl | rfl | rfl | rfl | rfl | rfl | rfl | rfl | rfl | rfl | rfl | rfl | rfl | rfl | rfl
  all_goals refine ⟨?_, ?_⟩
  all_goals first
    | exact ⟨by decide +kernel, by decide +kernel⟩
    | exact mk _ (by simp) (by simp)
    | exact (nest_nice 10).mono (by decide)
    | decide +kernel
    | exact m3 (.inl (by decide +kernel))
    | exact m3 (.inr (.inl (by decide +kernel)))
    | exact m3 (.inr (.inr (by decide +kernel)))
    | rfl
end
end FF
namespace FF
open PySem PySem.Spec PyProof.Rows L2
abbrev fitsB (d : PyData) : Bool := inB (meas 5 d) 24
def spNeed (K : PySem.W.Frag) : Sp := fun vs H Q E => ∃ (v : V) (d : PyData), vs = [v] ∧ Dp K H v d ∧ nice d = true ∧ (fitsB d = true → ∀ H', Same H H' → Q .non H') ∧
  (fitsB d = false → ∀ dd H', Same H H' → Thr ("InvalidTerm" : Str) dd H' → E (.ref (He.ga K "InvalidTerm")) dd H')
section
variable {P : Program} {w : World} {K : PySem.W.Frag} {mg : Str → Option Value} {base : Heap}
theorem ok_need_term {f fT : Addr} {fd fdT : FuncData} (F : FunD K "need_term" "need_term" (defArgs s_need_term) (defBody s_need_term) (defScope s_need_term) [] [] f fd) (hm : mg "need_term" = some (.ref f)) (T : Top K mg)
    (FT0 : FunD K "is_term" "is_term" (defArgs s_is_term) (defBody s_is_term) (defScope s_is_term) [] [("max_depth", .int 5), ("max_size", .int 24)] fT fdT) (hmT : mg "is_term" = some (.ref fT)) (FT : FnOk P w K mg base CX0 13 fT fdT ["value", "max_depth", "max_size"] (spIsTerm K))
    (x_InvalidTerm : RaiseD P w K mg base "InvalidTerm" "FaultError" 2 "InvalidTerm") : DefX P w K mg base "need_term" 14 ["value"] (spNeed K) := by
  obtain ⟨da, va, ba⟩ := bind_a FT0
  refine defx_mk F hm (F.bindsN fun _ _ _ _ _ _ us hl => match us, hl with | [_], _ => rfl) sc_need_term (fun vs H Q E h => ?_) (fun cdv A outer s0 H vs Q E hr h tk => ?_)
  · obtain ⟨v, d, rfl, _⟩ := h
    rfl
  obtain ⟨v, d, rfl, hd, hn, q1, q2⟩ := h
  refine ⟨_, (pss_one (ps_if (pt_not (pt_val (pe_call FT (hr.mono (by decide)) rfl hmT FT0.kp ba va pass0 (pa_cons (pv 0) pa_nil))))
  (pss_one (ps_raise rfl tk (pmk_raise x_InvalidTerm hr (by first | decide | omega))))
  pss_nil)), ?_⟩
  refine ⟨_, rfl, v, d, 5, 24, rfl, hd, hn, by decide, fun H1 e1 => ⟨_, rfl, ?_⟩⟩
  refine if_nb (fun h1 => ?_) (fun h1 => ?_)
  · exact fun dd H2 e2 ht => q2 h1 dd H2 (e1.trans e2) ht
  · exact q1 h1 H1 e1
end
end FF
/-! the order of terms: _law_below, _law_below_now -/
namespace FF
open PySem PySem.Spec PyProof.Rows L2
def KnownD (kvs : List (Key × V)) : Prop := ∀ k v, valV kvs k = some v → ∃ l r, Drawn 4 l ∧ Drawn 4 r ∧ k = .inr (keyD l r) ∧ v = .bl (leq l r)
theorem known_nil : KnownD [] := fun k v h => by cases h
theorem known_get {kvs : List (Key × V)} {l r : PyData} {v : V} (h : KnownD kvs) (hl : Drawn 4 l) (hr : Drawn 4 r) (hv : valV kvs (.inr (keyD l r)) = some v) : v = .bl (leq l r) := by
  obtain ⟨l', r', h1, h2, e, rfl⟩ := h _ _ hv
  obtain ⟨rfl, rfl⟩ := key_inj hl hr h1 h2 (Sum.inr.inj e)
  rfl
theorem known_put {kvs : List (Key × V)} {l r : PyData} (h : KnownD kvs) (hl : Drawn 4 l) (hr : Drawn 4 r) : KnownD (putK kvs (.inr (keyD l r)) (.bl (leq l r))) := fun k v hv => by
  rw [valV_put] at hv
  by_cases e : k = .inr (keyD l r)
  · rw [if_pos e] at hv
    exact ⟨l, r, hl, hr, e, (Option.some.inj hv).symm⟩
  · rw [if_neg e] at hv
    exact h k v hv
theorem lt_big {n : Nat} (h : n ≤ 16000000) : n < sizeLine := Nat.lt_of_le_of_lt h (by decide +kernel)
theorem all_id {α : Type} (f : α → Bool) (l : List α) : (l.map f).all id = l.all f := by
  rw [List.all_map] <;> rfl
theorem any_id {α : Type} (f : α → Bool) (l : List α) : (l.map f).any id = l.any f := by
  rw [List.any_map] <;> rfl
theorem sum_part {f : PyData → Nat} : ∀ {ps : List PyData} {i : Nat} {p : PyData}, ps[i]? = some p → ((ps.take i).map f).sum + f p ≤ (ps.map f).sum
  | q :: r, 0, p, h => by
    cases h
    simp
  | q :: r, i + 1, p, h => by
    have := sum_part (f := f) (ps := r) (i := i) (p := p) h
    simp only [List.take_succ_cons, List.map_cons, List.sum_cons]
    omega
theorem ret_cb {r : List V → Hp → VK → Prop} {te : TE} {D : Ends} {σ : L2.St} {H : Hp} (h : te σ H fun x H1 => r [x] H1 D.rt) : tRet (tCB r (tCons te tNil)) D σ H := h
theorem cb_of {r : List V → Hp → VK → Prop} {te : TE} {σ : L2.St} {H : Hp} {Q : VK} (h : te σ H fun x H1 => r [x] H1 Q) : tCB r (tCons te tNil) σ H Q := h
theorem tb_cb {r : List V → Hp → VK → Prop} {te : TE} {σ : L2.St} {H : Hp} {Q : Bool → Hp → Prop} (h : te σ H fun x H1 => r [x] H1 fun v H2 => ∃ c, v = .bl c ∧ Q c H2) : tB (tCB r (tCons te tNil)) σ H Q := h
def costN (n : Nat) (l r : PyData) : Nat := ((tlD l).map fun p => costD n p r).sum + ((tlD r).map fun q => costD n l q).sum
/-- a question about a pair, with a table of answers -/
def spLeqG (K : PySem.W.Frag) (args : V → V → Addr → Hp → List V → Prop) (res : Bool → V → Prop) (m : Nat) (cost : PyData → PyData → Nat) : Sp := fun vs H Q _ => ∃ (lv rv : V) (kd : Addr) (l r : PyData) (a b : Nat) (kvs : List (Key × V)), args lv rv kd H vs ∧
  Tp K H lv l ∧ Tp K H rv r ∧ Drawn a l ∧ Drawn b r ∧ a ≤ 4 ∧ b ≤ 4 ∧ a + b < m ∧ m ≤ 9 ∧ H kd = some (.dK kvs) ∧ KnownD kvs ∧ kvs.length + cost l r ≤ 16000000 ∧
  ∀ v H' kvs', SameB kd H H' → H' kd = some (.dK kvs') → KnownD kvs' → kvs'.length ≤ kvs.length + cost l r → res (leq l r) v → Q v H'
def argsL : V → V → Addr → Hp → List V → Prop := fun lv rv kd _ vs => vs = [lv, rv, .ref kd]
def resB : Bool → V → Prop := fun b v => v = .bl b
theorem sameT_d {a : Addr} {kvs : List (Key × V)} {H H' : Hp} (ha : H a = some (.dK kvs)) (e : SameB a H H') : SameT H H' := fun b ys h => e b _ (fun z => by rw [z, ha] at h; cases h) h
theorem up_tB {K : PySem.W.Frag} {kd a : Addr} {xs : List V} {kvs : List (Key × V)} {H H' : Hp} (hk : H kd = some (.dK kvs)) (e : SameB kd H H') (h : SqT K H a xs) : SqT K H' a xs := by
  rcases h with (h | ⟨o, h⟩) | h
  · exact .inl (.inl (e _ _ (fun z => by rw [z, hk] at h; cases h) h))
  · exact .inl (.inr ⟨o, e _ _ (fun z => by rw [z, hk] at h; cases h) h⟩)
  · exact .inr h
theorem word_hd {K : PySem.W.Frag} {H : Hp} {v : V} {d : PyData} {n : Nat} (ht : Tp K H v d) (hd : Drawn n d) (Q : VK) (q : Q (.str (hdS d)) H) : rIxW K v (.int 0) H Q := by
  rcases drawn_shape hd with ⟨z, rfl, hz⟩ | ⟨o, ps, k, rfl, ho, l2, l4, rfl, hps⟩
  · obtain ⟨c, e, _⟩ := let_shape hz
    cases PyData.str.inj e
    cases ht
    exact .inr ⟨_, 0, c, rfl, rfl, (by show 1 ≤ sizeLine; decide), rfl, q⟩
  · cases ht with
    | tup ht ha =>
    cases ha with
    | @cons vo vr _ _ hvo hvr =>
    cases hvo
    exact .inl ⟨_, _, 0, _, rfl, rfl, ht.sqT, at0, q⟩
theorem let_hd {z : Str} (hz : isLet (.str z) = true) : z ≠ "|" ∧ z ≠ "&" := by
  obtain ⟨c, e, hc⟩ := let_sign hz
  refine ⟨fun h => ?_, fun h => ?_⟩
  · rw [h, show tl ("|" : Str) = [124] by decide +kernel] at e
    obtain ⟨c', e', hc'⟩ := let_shape hz
    cases PyData.str.inj e'
    have h2 : c' ∈ [97, 98, 99, 100, 101, 102, 103, 104] := hc'
    have h3 : tl (⟨#[c']⟩ : Str) = [124] := by rw [h]; decide +kernel
    have h4 : c' = 124 := (List.cons.inj h3).1
    rw [h4] at h2
    exact absurd h2 (by decide)
  · rw [h, show tl ("&" : Str) = [38] by decide +kernel] at e
    have := (List.cons.inj e).1
    omega
/-- what has a sign at its head is a tuple -/
theorem word_tup {K : PySem.W.Frag} {H : Hp} {v : V} {d : PyData} {n : Nat} (ht : Tp K H v d) (hd : Drawn n d) (h : hdS d = "|" ∨ hdS d = "&") : ∃ (a : Addr) (o : Str) (vr : List V) (ps : List PyData) (k : Nat), v = .ref a ∧ d = .tuple (.str o :: ps) ∧ SqT K H a (.str o :: vr) ∧ TpAll K H vr ps ∧ 2 ≤ ps.length ∧ ps.length ≤ 24 ∧ n = k + 1 ∧ ∀ p ∈ ps, Drawn k p := by
  rcases drawn_shape hd with ⟨z, rfl, hz⟩ | ⟨o, ps, k, rfl, ho, l2, l4, rfl, hps⟩
  · obtain ⟨h1, h2⟩ := let_hd hz
    rcases h with h | h
    · exact absurd h h1
    · exact absurd h h2
  · cases ht with
    | tup ht ha =>
    cases ha with
    | @cons vo vr _ _ hvo hvr =>
    cases hvo
    exact ⟨_, o, vr, ps, k, rfl, rfl, ht.sqT, hvr, l2, l4, rfl, hps⟩
/-! ### rows of answers -/
def LQ (H1 : Hp) (kd D : Addr) (ps : List PyData) (f : PyData → Bool) (c : PyData → Nat) (k0 : Nat) (i : Nat) (H : Hp) : Prop := SameB kd H1 H ∧ (∃ kvs, H kd = some (.dK kvs) ∧ KnownD kvs ∧ kvs.length ≤ k0 + ((ps.take i).map c).sum) ∧ H D = some (.lst (((ps.take i).map f).map V.bl))
theorem take_s {α : Type} {ps : List α} {i : Nat} {p : α} (h : ps[i]? = some p) : ps.take (i + 1) = ps.take i ++ [p] := by
  rw [List.take_add_one, h] <;> rfl
theorem lq_turn {H1 : Hp} {kd D : Addr} {ps : List PyData} {f : PyData → Bool} {c : PyData → Nat} {k0 i : Nat} {H : Hp} {te : TE} {σ : L2.St} {p : PyData} (hD : H1 D = none) (hk : ∃ o, H1 kd = some o) (q : LQ H1 kd D ps f c k0 i H) (hp : ps[i]? = some p) (hz : ps.length ≤ 1000)
    (st : ∀ kvs2, H kd = some (.dK kvs2) → KnownD kvs2 → kvs2.length ≤ k0 + ((ps.take i).map c).sum → ∀ Q' : VK, (∀ H3 kvs3, SameB kd H H3 → H3 kd = some (.dK kvs3) → KnownD kvs3 → kvs3.length ≤ kvs2.length + c p → Q' (.bl (f p)) H3) → te σ H Q') :
    te σ H fun y H4 => ∃ acc, H4 D = some (.lst acc) ∧ acc.length < sizeLine ∧ LQ H1 kd D ps f c k0 (i + 1) (upd H4 D (.lst (acc ++ [y]))) := by
  obtain ⟨e, ⟨kvs, h1, h2, h3⟩, h4⟩ := q
  have hi := (List.getElem?_eq_some_iff.mp hp).1
  have hDk : D ≠ kd := fun z => by
    obtain ⟨o, ho⟩ := hk
    rw [z, ho] at hD
    cases hD
  refine st kvs h1 h2 h3 _ fun H3 kvs3 e3 h5 h6 h7 => ⟨_, e3 _ _ hDk h4, ?_, ?_, ?_, ?_⟩
  · rw [List.length_map, List.length_map, List.length_take]
    exact lt_line (by omega)
  · intro b u hb hu
    rw [upd_ne (ne_of_none hu hD)]
    exact (e.tr e3) b u hb hu
  · refine ⟨kvs3, by rw [upd_ne (Ne.symm hDk)]; exact h5, h6, ?_⟩
    rw [take_s hp, List.map_append, List.sum_append]
    simp only [List.map_cons, List.map_nil, List.sum_cons, List.sum_nil]
    omega
  · rw [upd_same, take_s hp, List.map_append, List.map_append] <;> rfl
section
variable {K : PySem.W.Frag} {a : Addr} {xs : List V} {te : TE} {vs : List Nat} {σ : L2.St} {H1 : Hp} {D : Addr} {Qd : Hp → Prop} {kd : Addr} {ps : List PyData} {f : PyData → Bool} {c : PyData → Nat} {kvs0 : List (Key × V)}
theorem lc_leqT {j : Nat} (hD : H1 D = none) (hk : H1 kd = some (.dK kvs0)) (hK : KnownD kvs0) (hs : SqT K H1 a xs) (ha : TpAll K H1 xs ps) (hz : ps.length ≤ 1000)
    (hw : ∀ x, wipe ((wipe σ vs).set j (some x)) vs = wipe σ vs)
    (step : ∀ i x p H2 kvs2, xs[i]? = some x → ps[i]? = some p → SameB kd H1 H2 → H2 kd = some (.dK kvs2) → KnownD kvs2 → kvs2.length ≤ kvs0.length + ((ps.take i).map c).sum → ∀ Q' : VK, (∀ H3 kvs3, SameB kd H2 H3 → H3 kd = some (.dK kvs3) → KnownD kvs3 → kvs3.length ≤ kvs2.length + c p → Q' (.bl (f p)) H3) → te ((wipe σ vs).set j (some x)) H2 Q')
    (done : ∀ H2 kvs2, SameB kd H1 H2 → H2 kd = some (.dK kvs2) → KnownD kvs2 → kvs2.length ≤ kvs0.length + (ps.map c).sum → H2 D = some (.lst ((ps.map f).map V.bl)) → Qd H2) :
    ∃ W : Nat → Nat → Hp → Prop, (∃ m, W 0 m (upd H1 D (.lst []))) ∧ ∀ i m H, W i m H →
      ((Itt K a).stop i H ∧ Qd H) ∨ ((Itt K a).go i H ∧ ∃ Nx : Hp → Prop, (∀ H', Nx H' → ∃ m', m' < m ∧ W (i + 1) m' H') ∧ ∀ x H', (Itt K a).yld i H x H' → gName j x (wipe σ vs) H' fun σ2 H2 => wipe σ2 vs = wipe σ vs ∧ tYes σ2 H2 fun b H3 =>
        if b = true then te σ2 H3 fun y H4 => ∃ acc, H4 D = some (.lst acc) ∧ acc.length < sizeLine ∧ Nx (upd H4 D (.lst (acc ++ [y]))) else Nx H3) := by
  have hal := ha.len
  have up : ∀ {H : Hp}, SameB kd H1 H → SqT K H a xs := fun e => up_tB hk e hs
  refine lc_tup (LQ H1 kd D ps f c kvs0.length) ⟨sb_of (same_new hD _), ⟨kvs0, same_new hD _ _ _ hk, hK, by simp⟩, upd_same⟩ (fun i H _ q => up q.1) (fun i x H hx q => ⟨hw x, ?_⟩) (fun H q => ?_)
  · have hi := (List.getElem?_eq_some_iff.mp hx).1
    obtain ⟨p, hp⟩ : ∃ p, ps[i]? = some p := ⟨ps[i]'(by omega), by simp [show i < ps.length by omega]⟩
    unfold tYes
    dsimp only
    rw [if_pos rfl]
    exact lq_turn hD ⟨_, hk⟩ q hp hz fun kvs2 h1 h2 h3 Q' k' => step i x p H kvs2 hx hp q.1 h1 h2 h3 Q' k'
  · obtain ⟨e, ⟨kvs, h1, h2, h3⟩, h4⟩ := q
    rw [hal, List.take_length] at h3 h4
    exact done H kvs e h1 h2 h3 h4
end
section
variable {P : Program} {w : World} {K : PySem.W.Frag} {mg : Str → Option Value} {base : Heap}
theorem ok_law_below {n : Nat} {f : Addr} {fd : FuncData} (F : FunD K "_law_below" "_law_below" (defArgs s_law_below) (defBody s_law_below) (defScope s_law_below) [] [] f fd) (hm : mg "_law_below" = some (.ref f)) (T : Top K mg)
    (D_law_text : Def P w K mg base "_law_text" 5 ["_law_word"] (spText K 5))
    (D_law_below_now : Def P w K mg base "_law_below_now" (2 * n + 6) ["_law_one", "_law_other", "_law_known"] (spLeqG K argsL resB (n + 1) (costN n))) : Def P w K mg base "_law_below" (2 * n + 7) ["_law_one", "_law_other", "_law_known"] (spLeqG K argsL resB (n + 1) (costD (n + 1))) := by
  refine def_mk F hm (F.bindsN fun _ _ _ _ _ _ us hl => match us, hl with | [_, _, _], _ => rfl) sc_law_below (fun vs H Q E h => ?_) (fun cdv A outer s H vs Q E hr h => ?_)
  · obtain ⟨lv, rv, kd, l, r, a, b, kvs, rfl, _⟩ := h
    rfl
  obtain ⟨lv, rv, kd, l, r, a, b, kvs, rfl, hl, hr', dl, dr, a4, b4, hab, hn, hk, hK, hc, q⟩ := h
  have d4l := drawn_mono dl a4
  have d4r := drawn_mono dr b4
  have hcost : costD (n + 1) l r = 1 + costN n l r := rfl
  refine ⟨_, (pss_cons (ps_set (i := 3) sc_law_below.nd rfl (Or.inl rfl) (pe_op op_add_str (pe_op op_add_str (pe_def D_law_text hr (by first | decide | omega) (pa_cons (pv 0) pa_nil)) pe_str) (pe_def D_law_text hr (by first | decide | omega) (pa_cons (pv 1) pa_nil))))
  (C8.pss_cut (ps_if (pt_cmp (pc_dnotin (hu_of hr) (pv 3) (pv 2)) (by rfl))
  (pss_one (ps_dput (hu_of hr) (pv 2) (pv 3) (pe_def D_law_below_now hr (by first | decide | omega) (pa_cons (pv 0) (pa_cons (pv 1) (pa_cons (pv 2) pa_nil)))) (by rfl)))
  pss_nil)
  (pss_one (ps_ret (pe_dget (hu_of hr) (pv 2) (pv 3) (fun _ _ => rfl)))))), ?_⟩
  have tl1 := text_len d4l
  have tr1 := text_len d4r
  have l3 : (" < " : Str).length = 3 := by decide +kernel
  have big : 8 * 24 ^ 4 + 8 * 24 ^ 4 + 100 ≤ sizeLine := by decide +kernel
  refine ⟨_, rfl, lv, l, 4, rfl, hl, d4l, by decide, by decide, fun H1 e1 => ⟨_, _, rfl, rfl, by omega, ?_⟩⟩
  refine ⟨_, rfl, rv, r, 4, rfl, hr'.up (Same.T e1), d4r, by decide, by decide, fun H2 e2 => ⟨_, _, rfl, rfl, by rw [app_len]; omega, ?_⟩⟩
  have e12 := e1.trans e2
  have hk2 := e12 _ _ hk
  refine ⟨fun σ' H' => σ' = [some lv, some rv, some (.ref kd), some (.str (keyD l r))] ∧ ∃ kvs', SameB kd H H' ∧ H' kd = some (.dK kvs') ∧ KnownD kvs' ∧ kvs'.length ≤ kvs.length + costD (n + 1) l r ∧ valV kvs' (.inr (keyD l r)) = some (.bl (leq l r)), ?_, ?_⟩
  rotate_left
  · rintro σ' H' ⟨rfl, kvs', eb, h1, h2, h3, h4⟩
    exact ⟨_, rfl, _, rfl, kd, _, rfl, .inl ⟨kvs', .inr (keyD l r), .inl h1, rfl, h4.symm⟩, q _ H' kvs' eb h1 h2 h3 rfl⟩
  refine ⟨_, rfl, _, rfl, kd, valV kvs (.inr (keyD l r)), rfl, .inl ⟨kvs, .inr (keyD l r), .inl hk2, rfl, rfl⟩, _, rfl, ?_⟩
  cases hv : valV kvs (.inr (keyD l r)) with
  | some v =>
    refine iteF ⟨rfl, kvs, sb_of e12, hk2, hK, by omega, ?_⟩
    rw [hv, known_get hK d4l d4r hv]
  | none =>
    refine iteT ⟨_, rfl, _, rfl, _, rfl, lv, rv, kd, l, r, a, b, kvs, rfl, hl.up (Same.T e12), hr'.up (Same.T e12), dl, dr, a4, b4, hab, hn, hk2, hK, by omega, fun v H3 kvs3 e3 h1 h2 h3 hres => ?_⟩
    cases hres
    have hlen := length_putK kvs3 (.inr (keyD l r)) (.bl (leq l r))
    refine ⟨_, rfl, _, rfl, kd, _, rfl, DPut.k (k := .inr (keyD l r)) h1 (lt_big (by omega)), rfl, _, ((sb_of e12).tr e3).tr sb_upd, upd_same, known_put h2 d4l d4r, by omega, ?_⟩
    rw [valV_put, if_pos rfl]
theorem ok_law_below_now {n : Nat} {f : Addr} {fd : FuncData} (F : FunD K "_law_below_now" "_law_below_now" (defArgs s_law_below_now) (defBody s_law_below_now) (defScope s_law_below_now) [] [] f fd) (hm : mg "_law_below_now" = some (.ref f)) (T : Top K mg)
    (D_law_below : Def P w K mg base "_law_below" (2 * n + 5) ["_law_one", "_law_other", "_law_known"] (spLeqG K argsL resB n (costD n))) : Def P w K mg base "_law_below_now" (2 * n + 6) ["_law_one", "_law_other", "_law_known"] (spLeqG K argsL resB (n + 1) (costN n)) := by
  refine def_mk F hm (F.bindsN fun _ _ _ _ _ _ us hl => match us, hl with | [_, _, _], _ => rfl) sc_law_below_now (fun vs H Q E h => ?_) (fun cdv A outer s H vs Q E hr h => ?_)
  · obtain ⟨lv, rv, kd, l, r, a, b, kvs, rfl, _⟩ := h
    rfl
  obtain ⟨lv, rv, kd, l, r, a, b, kvs, rfl, hl, hr', dl, dr, a4, b4, hab, hn, hk, hK, hc, q⟩ := h
  have d4l := drawn_mono dl a4
  have d4r := drawn_mono dr b4
  refine ⟨_, (pss_cons (ps_if (pt_cmpR (op_eqK K hr.units) (pv 0) (pv 1) (nomark _))
  (pss_one (ps_ret pe_bl))
  pss_nil)
  (pss_cons (ps_if (pt_cmpR op_eq (pe_ix (ix_wordK K) (pv 0) pe_int (fun _ _ => rfl)) pe_str (nomark _))
  (pss_one (ps_ret (pe_callB (cr_allK K rfl) (by rfl) T.b_all (by decide +kernel) (pa_cons (pe_lc (own := [("_law_part", 3)]) rfl sc_law_below_now.nd (pi_tupK K (pe_slice (sl_tupK K) (pv 0) (po_some pe_int) po_none)) (blkOk_by (by kernel_rfl)) (fun _ _ _ _ _ => (pg_name (i := 3) sc_law_below_now.nd rfl (Or.inl rfl) (.inr rfl))) (fun _ _ _ _ _ => pts_nil) (fun _ _ _ _ _ => (pe_def D_law_below hr (by first | decide | omega) (pa_cons (pv 3) (pa_cons (pv 1) (pa_cons (pv 2) pa_nil)))))) pa_nil))))
  pss_nil)
  (pss_cons (ps_if (pt_cmpR op_eq (pe_ix (ix_wordK K) (pv 1) pe_int (fun _ _ => rfl)) pe_str (nomark _))
  (pss_one (ps_ret (pe_callB (cr_allK K rfl) (by rfl) T.b_all (by decide +kernel) (pa_cons (pe_lc (own := [("_law_part", 3)]) rfl sc_law_below_now.nd (pi_tupK K (pe_slice (sl_tupK K) (pv 1) (po_some pe_int) po_none)) (blkOk_by (by kernel_rfl)) (fun _ _ _ _ _ => (pg_name (i := 3) sc_law_below_now.nd rfl (Or.inl rfl) (.inr rfl))) (fun _ _ _ _ _ => pts_nil) (fun _ _ _ _ _ => (pe_def D_law_below hr (by first | decide | omega) (pa_cons (pv 0) (pa_cons (pv 3) (pa_cons (pv 2) pa_nil)))))) pa_nil))))
  pss_nil)
  (C8.pss_cut (ps_if (PW.pt (pw_and (pt_cmpR op_eq (pe_ix (ix_wordK K) (pv 1) pe_int (fun _ _ => rfl)) pe_str (nomark _)) (pw_and1 (pt_val (pe_callB (cr_anyK K rfl) (by rfl) T.b_any (by decide +kernel) (pa_cons (pe_lc (own := [("_law_part", 3)]) rfl sc_law_below_now.nd (pi_tupK K (pe_slice (sl_tupK K) (pv 1) (po_some pe_int) po_none)) (blkOk_by (by kernel_rfl)) (fun _ _ _ _ _ => (pg_name (i := 3) sc_law_below_now.nd rfl (Or.inl rfl) (.inr rfl))) (fun _ _ _ _ _ => pts_nil) (fun _ _ _ _ _ => (pe_def D_law_below hr (by first | decide | omega) (pa_cons (pv 0) (pa_cons (pv 3) (pa_cons (pv 2) pa_nil)))))) pa_nil))))))
  (pss_one (ps_ret pe_bl))
  pss_nil)
  (pss_one (ps_ret (pe_and (pe_cmpR op_eq (pe_ix (ix_wordK K) (pv 0) pe_int (fun _ _ => rfl)) pe_str (nomark _)) (pe_one (pe_callB (cr_anyK K rfl) (by rfl) T.b_any (by decide +kernel) (pa_cons (pe_lc (own := [("_law_part", 3)]) rfl sc_law_below_now.nd (pi_tupK K (pe_slice (sl_tupK K) (pv 0) (po_some pe_int) po_none)) (blkOk_by (by kernel_rfl)) (fun _ _ _ _ _ => (pg_name (i := 3) sc_law_below_now.nd rfl (Or.inl rfl) (.inr rfl))) (fun _ _ _ _ _ => pts_nil) (fun _ _ _ _ _ => (pe_def D_law_below hr (by first | decide | omega) (pa_cons (pv 3) (pa_cons (pv 1) (pa_cons (pv 2) pa_nil)))))) pa_nil)))))))))), ?_⟩
  have hst := leq_step d4l d4r
  unfold leqStep at hst
  refine ⟨_, rfl, _, rfl, l, r, hl.dp, hr'.dp, (drawn_nice d4l).shaped, (drawn_nice d4r).shaped, _, rfl, ?_⟩
  refine if_b (fun h1 => ?_) (fun h1 => ?_)
  · rw [h1, Bool.true_or] at hst
    exact q _ H kvs (sb_refl) hk hK (by omega) (by rw [hst]; exact rfl)
  rw [h1, Bool.false_or] at hst
  have hdl : tlD l = tlD l := rfl
  have hcN : costN n l r = ((tlD l).map fun p => costD n p r).sum + ((tlD r).map fun q => costD n l q).sum := rfl
  -- the left term's parts, asked in a table that has grown
  have rowL : ∀ (H0 : Hp) (kvs0 : List (Key × V)), SameB kd H H0 → H0 kd = some (.dK kvs0) → KnownD kvs0 → kvs0.length + ((tlD l).map fun p => costD n p r).sum ≤ 16000000 → (hdS l = "|" ∨ hdS l = "&") → ∀ Q2 : VK,
      (∀ D H2 kvs2, SameB kd H H2 → H2 kd = some (.dK kvs2) → KnownD kvs2 → kvs2.length ≤ kvs0.length + ((tlD l).map fun p => costD n p r).sum → SqL K H2 D (((tlD l).map fun p => leq p r).map V.bl) → Q2 (.ref D) H2) →
      tLc (iTup K (tSl (rSlT K) (tVar 0) (tPart (tC (.int 1))) tNoPart)) (gName 3) tYes (tCall (spLeqG K argsL resB n (costD n)) [] E0 (tCons (tVar 3) (tCons (tVar 1) (tCons (tVar 2) tNil)))) [3] [some lv, some rv, some (.ref kd), none] H0 Q2 := by
    intro H0 kvs0 e0 hk0 hK0 hc0 hh Q2 k'
    have eT := sameT_d hk e0
    obtain ⟨ta, o, vr, ps, k, rfl, rfl, hta, hvr, l2, l24, rfl, hps⟩ := word_tup (hl.up eT) dl hh
    refine ⟨_, rfl, _, rfl, ta, _, rfl, hta, notWhole1, fun p hp0 => ⟨p, rfl, ⟨_, SqT.of upd_same⟩, fun D hD => ?_⟩⟩
    rw [cut1] at hD ⊢
    have e1 := same_new hp0 (.tup vr)
    have hk1 := e1 _ _ hk0
    refine lc_leqT (j := 3) (f := fun p => leq p r) (c := fun p => costD n p r) hD hk1 hK0 (SqT.of upd_same) (hvr.up (Same.T e1)) (by omega) (fun _ => rfl) ?_ ?_
    · intro i x p H2 kvs2 hx hp e2 h2 h3 h4 Q' kk
      obtain ⟨p', hp', hxp⟩ := hvr.get hx
      cases hp'.symm.trans hp
      have e02 := (sb_of e1).tr e2
      have eT2 := sameT_d hk0 e02
      have hs := sum_part (f := fun p => costD n p r) hp
      refine ⟨_, rfl, _, rfl, _, rfl, x, rv, kd, p, r, k, b, kvs2, rfl, hxp.up eT2, (hr'.up eT).up eT2, hps p (List.mem_of_getElem? hp), dr, by omega, b4, by omega, by omega, h2, h3, ?_, fun v H3 kvs3 e3 h5 h6 h7 hres => ?_⟩
      · have hc0 : kvs0.length + (ps.map fun p => costD n p r).sum ≤ 16000000 := hc0
        omega
      · cases hres
        exact kk H3 kvs3 e3 h5 h6 h7
    · intro H2 kvs2 e2 h2 h3 h4 h5
      exact k' D H2 kvs2 (e0.tr ((sb_of e1).tr e2)) h2 h3 h4 (SqL.of h5)
  have rowR : ∀ (H0 : Hp) (kvs0 : List (Key × V)), SameB kd H H0 → H0 kd = some (.dK kvs0) → KnownD kvs0 → kvs0.length + ((tlD r).map fun q => costD n l q).sum ≤ 16000000 → (hdS r = "|" ∨ hdS r = "&") → ∀ Q2 : VK,
      (∀ D H2 kvs2, SameB kd H H2 → H2 kd = some (.dK kvs2) → KnownD kvs2 → kvs2.length ≤ kvs0.length + ((tlD r).map fun q => costD n l q).sum → SqL K H2 D (((tlD r).map fun q => leq l q).map V.bl) → Q2 (.ref D) H2) →
      tLc (iTup K (tSl (rSlT K) (tVar 1) (tPart (tC (.int 1))) tNoPart)) (gName 3) tYes (tCall (spLeqG K argsL resB n (costD n)) [] E0 (tCons (tVar 0) (tCons (tVar 3) (tCons (tVar 2) tNil)))) [3] [some lv, some rv, some (.ref kd), none] H0 Q2 := by
    intro H0 kvs0 e0 hk0 hK0 hc0 hh Q2 k'
    have eT := sameT_d hk e0
    obtain ⟨ta, o, vr, ps, k, rfl, rfl, hta, hvr, l2, l24, rfl, hps⟩ := word_tup (hr'.up eT) dr hh
    refine ⟨_, rfl, _, rfl, ta, _, rfl, hta, notWhole1, fun p hp0 => ⟨p, rfl, ⟨_, SqT.of upd_same⟩, fun D hD => ?_⟩⟩
    rw [cut1] at hD ⊢
    have e1 := same_new hp0 (.tup vr)
    have hk1 := e1 _ _ hk0
    refine lc_leqT (j := 3) (f := fun q => leq l q) (c := fun q => costD n l q) hD hk1 hK0 (SqT.of upd_same) (hvr.up (Same.T e1)) (by omega) (fun _ => rfl) ?_ ?_
    · intro i x p H2 kvs2 hx hp e2 h2 h3 h4 Q' kk
      obtain ⟨p', hp', hxp⟩ := hvr.get hx
      cases hp'.symm.trans hp
      have e02 := (sb_of e1).tr e2
      have eT2 := sameT_d hk0 e02
      have hs := sum_part (f := fun q => costD n l q) hp
      refine ⟨_, rfl, _, rfl, _, rfl, lv, x, kd, l, p, a, k, kvs2, rfl, (hl.up eT).up eT2, hxp.up eT2, dl, hps p (List.mem_of_getElem? hp), a4, by omega, by omega, by omega, h2, h3, ?_, fun v H3 kvs3 e3 h5 h6 h7 hres => ?_⟩
      · have hc0 : kvs0.length + (ps.map fun q => costD n l q).sum ≤ 16000000 := hc0
        omega
      · cases hres
        exact kk H3 kvs3 e3 h5 h6 h7
    · intro H2 kvs2 e2 h2 h3 h4 h5
      exact k' D H2 kvs2 (e0.tr ((sb_of e1).tr e2)) h2 h3 h4 (SqL.of h5)
  refine ⟨_, rfl, word_hd hl dl _ ⟨rfl, _, rfl, ?_⟩⟩
  refine if_dec (fun h2 => ?_) (fun h2 => ?_)
  · have h2 := V.str.inj h2
    rw [if_pos h2] at hst
    refine ret_cb (rowL H kvs sb_refl hk hK (by omega) (.inl h2) _ fun D H2 kvs2 e k2 k3 k4 k5 => ⟨D, _, rfl, k5, ?_⟩)
    rw [all_id]
    exact q _ H2 kvs2 e k2 k3 (by omega) (by rw [hst]; exact rfl)
  have h2 : ¬ hdS l = "|" := fun z => h2 (by rw [z])
  rw [if_neg h2] at hst
  refine ⟨_, rfl, word_hd hr' dr _ ⟨rfl, _, rfl, ?_⟩⟩
  refine if_dec (fun h3 => ?_) (fun h3 => ?_)
  · have h3 := V.str.inj h3
    rw [if_pos h3] at hst
    refine ret_cb (rowR H kvs sb_refl hk hK (by omega) (.inr h3) _ fun D H2 kvs2 e k2 k3 k4 k5 => ⟨D, _, rfl, k5, ?_⟩)
    rw [all_id]
    exact q _ H2 kvs2 e k2 k3 (by omega) (by rw [hst]; exact rfl)
  have h3 : ¬ hdS r = "&" := fun z => h3 (by rw [z])
  rw [if_neg h3] at hst
  refine ⟨fun σ' H' => σ' = [some lv, some rv, some (.ref kd), none] ∧ ∃ kvs', SameB kd H H' ∧ H' kd = some (.dK kvs') ∧ KnownD kvs' ∧ kvs'.length ≤ kvs.length + ((tlD r).map fun q => costD n l q).sum ∧ (hdS r = "|" → (tlD r).any (fun q => leq l q) = false), ?_, ?_⟩
  · refine ⟨_, rfl, word_hd hr' dr _ ⟨rfl, _, rfl, ?_⟩⟩
    refine if_dec (fun h4 => ?_) (fun h4 => ⟨rfl, kvs, sb_refl, hk, hK, by omega, fun z => absurd (by rw [z]) h4⟩)
    have h4 := V.str.inj h4
    refine tb_cb (rowR H kvs sb_refl hk hK (by omega) (.inl h4) _ fun D H2 kvs2 e k2 k3 k4 k5 => ⟨D, _, rfl, k5, ?_⟩)
    rw [any_id]
    refine ⟨_, rfl, if_b (fun h5 => ?_) (fun h5 => ⟨rfl, kvs2, e, k2, k3, k4, fun _ => h5⟩)⟩
    refine q _ H2 kvs2 e k2 k3 (by omega) ?_
    rw [hst, decide_eq_true h4, h5] <;> rfl
  rintro σ' H' ⟨rfl, kvs', e', hk', hK', hlen', hno⟩
  have eT := sameT_d hk e'
  have hno2 : (decide (hdS r = "|") && (tlD r).any fun q => leq l q) = false := by
    by_cases z : hdS r = "|"
    · rw [hno z, Bool.and_false]
    · rw [decide_eq_false z, Bool.false_and]
  rw [hno2, Bool.false_or] at hst
  refine ⟨_, rfl, word_hd (hl.up eT) dl _ ⟨rfl, _, rfl, ?_⟩⟩
  refine if_dec (fun h4 => ?_) (fun h4 => ?_)
  · have h4 := V.str.inj h4
    refine cb_of (rowL H' kvs' e' hk' hK' (by omega) (.inr h4) _ fun D H2 kvs2 e k2 k3 k4 k5 => ⟨D, _, rfl, k5, ?_⟩)
    rw [any_id]
    refine q _ H2 kvs2 e k2 k3 (by omega) ?_
    rw [hst, decide_eq_true h4] <;> rfl
  · have h4 : ¬ hdS l = "&" := fun z => h4 (by rw [z])
    refine q _ H' kvs' e' hk' hK' (by omega) ?_
    rw [hst, decide_eq_false h4] <;> rfl
end
end FF
/-! the order of terms: the class Free -/
namespace FF
open PySem PySem.Spec PyProof.Rows L2
def FreeAt (K : PySem.W.Frag) (H : Hp) (f kd : Addr) : Prop := ∃ (dx : Addr) (sv pv : V), H f = some (.ins (He.ga K "Free") dx [("known", .ref kd), ("steps", sv), ("place", pv)])
def argsF (K : PySem.W.Frag) : V → V → Addr → Hp → List V → Prop := fun lv rv kd H vs => ∃ f, vs = [.ref f, lv, rv] ∧ FreeAt K H f kd
def resN : Bool → V → Prop := fun b v => decide (v = .non) = !b
theorem FreeAt.b {K : PySem.W.Frag} {H H' : Hp} {f kd : Addr} {kvs : List (Key × V)} (hk : H kd = some (.dK kvs)) (h : FreeAt K H f kd) (e : SameB kd H H') : FreeAt K H' f kd := by
  obtain ⟨dx, sv, pv, h⟩ := h
  exact ⟨dx, sv, pv, e _ _ (fun z => by rw [z, hk] at h; cases h) h⟩
section
variable {K : PySem.W.Frag} {a : Addr} {ys : List V} {te : TE} {vs : List Nat} {σ : L2.St} {H1 : Hp} {D : Addr} {Qd : Hp → Prop} {kd : Addr} {ps : List PyData} {f : PyData → Bool} {c : PyData → Nat} {kvs0 : List (Key × V)}
theorem lc_leqL {j k : Nat} (Rw : PyData → V → V → Prop) (hD : H1 D = none) (hk : H1 kd = some (.dK kvs0)) (hK : KnownD kvs0) (hs : H1 a = some (.lst ys)) (hl : ys.length = ps.length) (hz : ps.length ≤ 1000)
    (hy : ∀ (i : Nat) (y : V), ys[i]? = some y → ∃ t u1 u2 p, y = .ref t ∧ ps[i]? = some p ∧ H1 t = some (.tup [u1, u2]) ∧ Rw p u1 u2)
    (hw : ∀ x y, wipe (((wipe σ vs).set j (some x)).set k (some y)) vs = wipe σ vs)
    (step : ∀ i p u1 u2 H2 kvs2, ps[i]? = some p → Rw p u1 u2 → SameB kd H1 H2 → H2 kd = some (.dK kvs2) → KnownD kvs2 → kvs2.length ≤ kvs0.length + ((ps.take i).map c).sum → ∀ Q' : VK, (∀ H3 kvs3, SameB kd H2 H3 → H3 kd = some (.dK kvs3) → KnownD kvs3 → kvs3.length ≤ kvs2.length + c p → Q' (.bl (f p)) H3) → te (((wipe σ vs).set j (some u1)).set k (some u2)) H2 Q')
    (done : ∀ H2 kvs2, SameB kd H1 H2 → H2 kd = some (.dK kvs2) → KnownD kvs2 → kvs2.length ≤ kvs0.length + (ps.map c).sum → H2 D = some (.lst ((ps.map f).map V.bl)) → Qd H2) :
    ∃ W : Nat → Nat → Hp → Prop, (∃ m, W 0 m (upd H1 D (.lst []))) ∧ ∀ i m H, W i m H →
      ((Itl K a).stop i H ∧ Qd H) ∨ ((Itl K a).go i H ∧ ∃ Nx : Hp → Prop, (∀ H', Nx H' → ∃ m', m' < m ∧ W (i + 1) m' H') ∧ ∀ x H', (Itl K a).yld i H x H' → gTup K 2 (gCons (gName j) (gCons (gName k) gNil)) x (wipe σ vs) H' fun σ2 H2 => wipe σ2 vs = wipe σ vs ∧ tYes σ2 H2 fun b H3 =>
        if b = true then te σ2 H3 fun y H4 => ∃ acc, H4 D = some (.lst acc) ∧ acc.length < sizeLine ∧ Nx (upd H4 D (.lst (acc ++ [y]))) else Nx H3) := by
  have hak : a ≠ kd := fun z => by rw [z, hk] at hs; cases hs
  refine lc_list (LQ H1 kd D ps f c kvs0.length) ⟨sb_of (same_new hD _), ⟨kvs0, same_new hD _ _ _ hk, hK, by simp⟩, upd_same⟩ (fun i H _ q => SqL.of (q.1 _ _ hak hs)) (fun i x H hx q => ?_) (fun H q => ?_)
  · obtain ⟨t, u1, u2, p, rfl, hp, ht, hR⟩ := hy i x hx
    have htk : t ≠ kd := fun z => by rw [z, hk] at ht; cases ht
    refine ⟨t, [u1, u2], rfl, SqT.of (q.1 _ _ htk ht), rfl, u1, [u2], rfl, u2, [], rfl, rfl, hw u1 u2, ?_⟩
    unfold tYes
    dsimp only
    rw [if_pos rfl]
    exact lq_turn hD ⟨_, hk⟩ q hp hz fun kvs2 h1 h2 h3 Q' k' => step i p u1 u2 H kvs2 hp hR q.1 h1 h2 h3 Q' k'
  · obtain ⟨e, ⟨kvs, h1, h2, h3⟩, h4⟩ := q
    rw [hl, List.take_length] at h3 h4
    exact done H kvs e h1 h2 h3 h4
end
section
variable {P : Program} {w : World} {K : PySem.W.Frag} {mg : Str → Option Value} {base : Heap}
def spFreeInit (K : PySem.W.Frag) : Sp := fun vs H Q _ => ∃ (f dx : Addr), vs = [.ref f] ∧ H f = some (.ins (He.ga K "Free") dx []) ∧ ∀ H' kd, SameB f H H' → H kd = none → FreeAt K H' f kd → H' kd = some (.dK []) → Q .non H'
theorem ok_free_init {fd : FuncData} (F : FunD K "__init__" "Free.__init__" (defArgs s_Free___init__) (defBody s_Free___init__) (defScope s_Free___init__) [] [] (He.ma K (He.ga K "Free") "__init__") fd) (T : Top K mg) : MakeD P w K mg base "Free" 1 ["self"] (spFreeInit K) := by
  refine ⟨⟨fd, fnm_mk F sc_Free___init__ (fun vs H Q E h => ?_) (fun cdv A outer s H vs Q E hr h => ?_), F.bindsN fun _ _ _ _ _ _ us hl => match us, hl with | [_], _ => rfl⟩, T.mk_Free, T.c_Free⟩
  · obtain ⟨f, dx, rfl, _⟩ := h
    rfl
  obtain ⟨f, dx, rfl, hf, q⟩ := h
  refine ⟨_, (pss_cons (ps_fld (pv 0) pe_dnewK rfl)
  (pss_cons (ps_fld (pv 0) (pe_lst pa_nil) rfl)
  (pss_one (ps_fld (pv 0) pe_dnewK rfl)))), ?_⟩
  have nf : ∀ {p : Addr} {H1 : Hp}, SameB f H H1 → (∃ o, H1 f = some o) → H1 p = none → f ≠ p := fun _ ⟨o, h⟩ hp e => by
    rw [e, hp] at h
    cases h
  refine fun p1 hp1 => ⟨_, rfl, f, _, dx, _, rfl, same_new hp1 _ _ _ hf, T.k_Free, T.n_Free_known, by decide, ?_⟩
  have n1 := nf sb_refl ⟨_, hf⟩ hp1
  have s1 : SameB f H (upd (upd H p1 (.dK [])) f (.ins (He.ga K "Free") dx (putF "known" (.ref p1) []))) := (sb_of (same_new hp1 _)).tr sb_upd
  have f1 : (upd (upd H p1 (.dK [])) f (.ins (He.ga K "Free") dx (putF "known" (.ref p1) []))) f = some (.ins (He.ga K "Free") dx (putF "known" (.ref p1) [])) := upd_same
  have k1 : (upd (upd H p1 (.dK [])) f (.ins (He.ga K "Free") dx (putF "known" (.ref p1) []))) p1 = some (.dK []) := by rw [upd_ne (Ne.symm n1)]; exact upd_same
  generalize upd (upd H p1 (.dK [])) f (.ins (He.ga K "Free") dx (putF "known" (.ref p1) [])) = H1 at s1 f1 k1 ⊢
  refine ⟨(by show 0 ≤ sizeLine; decide), fun p2 hp2 => ⟨_, rfl, f, _, dx, _, rfl, same_new hp2 _ _ _ f1, T.k_Free, T.n_Free_steps, by show 1 < 1000; decide, ?_⟩⟩
  have n2 := nf s1 ⟨_, f1⟩ hp2
  have s2 : SameB f H1 (upd (upd H1 p2 (.lst [])) f (.ins (He.ga K "Free") dx (putF "steps" (.ref p2) (putF "known" (.ref p1) [])))) := (sb_of (same_new hp2 _)).tr sb_upd
  have f2 : (upd (upd H1 p2 (.lst [])) f (.ins (He.ga K "Free") dx (putF "steps" (.ref p2) (putF "known" (.ref p1) [])))) f = some (.ins (He.ga K "Free") dx (putF "steps" (.ref p2) (putF "known" (.ref p1) []))) := upd_same
  generalize upd (upd H1 p2 (.lst [])) f (.ins (He.ga K "Free") dx (putF "steps" (.ref p2) (putF "known" (.ref p1) []))) = H2 at s2 f2 ⊢
  refine fun p3 hp3 => ⟨_, rfl, f, _, dx, _, rfl, same_new hp3 _ _ _ f2, T.k_Free, T.n_Free_place, by show 2 < 1000; decide, ?_⟩
  have s3 : SameB f H2 (upd (upd H2 p3 (.dK [])) f (.ins (He.ga K "Free") dx (putF "place" (.ref p3) (putF "steps" (.ref p2) (putF "known" (.ref p1) []))))) := (sb_of (same_new hp3 _)).tr sb_upd
  exact q _ p1 (s1.tr (s2.tr s3)) hp1 ⟨dx, .ref p2, .ref p3, upd_same⟩ ((s2.tr s3) _ _ (Ne.symm n1) k1)
theorem ok_is_below {n : Nat} {fd : FuncData} (F : FunD K "is_below" "Free.is_below" (defArgs s_Free_is_below) (defBody s_Free_is_below) (defScope s_Free_is_below) [] [] (He.ma K (He.ga K "Free") "is_below") fd) (T : Top K mg)
    (D_text_of : Def P w K mg base "text_of" 5 ["term"] (spText K 5))
    (D_Free_reason_for : MethD P w K mg base "Free" "reason_for" (2 * n + 6) ["self", "left", "right"] (spLeqG K (argsF K) resN (n + 1) (costN n))) : MethD P w K mg base "Free" "is_below" (2 * n + 7) ["self", "left", "right"] (spLeqG K (argsF K) resB (n + 1) (costD (n + 1))) := by
  refine methd_mk F (F.bindsN fun _ _ _ _ _ _ us hl => match us, hl with | [_, _, _], _ => rfl) T.k_Free T.m_Free_is_below sc_Free_is_below (fun vs H Q E h => ?_) (fun cdv A outer s H vs Q E hr h => ?_)
  · obtain ⟨lv, rv, kd, l, r, a, b, kvs, ⟨f, rfl, _⟩, _⟩ := h
    rfl
  obtain ⟨lv, rv, kd, l, r, a, b, kvs, ⟨f, rfl, hf⟩, hl, hr', dl, dr, a4, b4, hab, hn, hk, hK, hc, q⟩ := h
  have d4l := drawn_mono dl a4
  have d4r := drawn_mono dr b4
  have hcost : costD (n + 1) l r = 1 + costN n l r := rfl
  refine ⟨_, (pss_cons (ps_set (i := 3) sc_Free_is_below.nd rfl (Or.inl rfl) (pe_joined (PJ.cons (pe_fmt (pe_def D_text_of hr (by first | decide | omega) (pa_cons (pv 1) pa_nil))) (PJ.cons pe_str (PJ.cons (pe_fmt (pe_def D_text_of hr (by first | decide | omega) (pa_cons (pv 2) pa_nil))) PJ.nil)))))
  (C8.pss_cut (ps_if (pt_cmp (pc_dnotin (hu_of hr) (pv 3) (pe_fld (pv 0) rfl)) (by rfl))
  (pss_one (ps_dput (hu_of hr) (pe_fld (pv 0) rfl) (pv 3) (pe_cmp (pc_notN (pe_methdK K D_Free_reason_for hr (by first | decide | omega) (pv 0) (pa_cons (pv 1) (pa_cons (pv 2) pa_nil)))) (by rfl)) (by rfl)))
  pss_nil)
  (pss_one (ps_ret (pe_dget (hu_of hr) (pe_fld (pv 0) rfl) (pv 3) (fun _ _ => rfl)))))), ?_⟩
  have tl1 := text_len d4l
  have tr1 := text_len d4r
  have l3 : (" < " : Str).length = 3 := by decide +kernel
  have big : 8 * 24 ^ 4 + 8 * 24 ^ 4 + 100 ≤ sizeLine := by decide +kernel
  have em : ∀ z : Str, Str.empty ++ z = z := fun z => tl_inj (by rw [tl_app]; rfl)
  have ek : Str.empty ++ textD 5 l ++ (" < " : Str) ++ textD 5 r = keyD l r := by
    rw [em]
    rfl
  refine ⟨_, rfl, lv, l, 4, rfl, hl, d4l, by decide, by decide, fun H1 e1 => .inl ⟨_, rfl, by omega, _, rfl, by rw [em]; omega, _, rfl, by rw [em, app_len]; omega, ?_⟩⟩
  refine ⟨_, rfl, rv, r, 4, rfl, hr'.up (Same.T e1), d4r, by decide, by decide, fun H2 e2 => .inl ⟨_, rfl, by omega, _, rfl, by rw [em, app_len, app_len]; omega, ?_⟩⟩
  have e12 := e1.trans e2
  have hk2 := e12 _ _ hk
  show C8.tCut _ _ _ _ _
  rw [show Str.empty ++ textD (4 + 1) l ++ Str.ofString " < " ++ textD (4 + 1) r = keyD l r from ek]
  have hf2 := hf.b hk (sb_of e12)
  obtain ⟨dx, sv, pv, hf3⟩ := id hf2
  refine ⟨fun σ' H' => σ' = [some (.ref f), some lv, some rv, some (.str (keyD l r))] ∧ ∃ kvs', SameB kd H H' ∧ H' kd = some (.dK kvs') ∧ KnownD kvs' ∧ kvs'.length ≤ kvs.length + costD (n + 1) l r ∧ valV kvs' (.inr (keyD l r)) = some (.bl (leq l r)), ?_, ?_⟩
  rotate_left
  · rintro σ' H' ⟨rfl, kvs', eb, h1, h2, h3, h4⟩
    obtain ⟨dx', sv', pv', hf4⟩ := hf.b hk eb
    exact ⟨_, rfl, f, _, dx', _, _, rfl, hf4, T.k_Free, T.n_Free_known, rfl, _, rfl, kd, _, rfl, .inl ⟨kvs', .inr (keyD l r), .inl h1, rfl, h4.symm⟩, q _ H' kvs' eb h1 h2 h3 rfl⟩
  refine ⟨_, rfl, _, rfl, f, _, dx, _, _, rfl, hf3, T.k_Free, T.n_Free_known, rfl, kd, valV kvs (.inr (keyD l r)), rfl, .inl ⟨kvs, .inr (keyD l r), .inl hk2, rfl, rfl⟩, _, rfl, ?_⟩
  cases hv : valV kvs (.inr (keyD l r)) with
  | some v =>
    refine iteF ⟨rfl, kvs, sb_of e12, hk2, hK, by omega, ?_⟩
    rw [hv, known_get hK d4l d4r hv]
  | none =>
    refine iteT ⟨_, rfl, f, dx, _, rfl, hf3, rfl, _, rfl, _, rfl, lv, rv, kd, l, r, a, b, kvs, ⟨f, rfl, hf2⟩, hl.up (Same.T e12), hr'.up (Same.T e12), dl, dr, a4, b4, hab, hn, hk2, hK, by omega, fun v H3 kvs3 e3 h1 h2 h3 hres => ?_⟩
    have hlen := length_putK kvs3 (.inr (keyD l r)) (.bl (leq l r))
    have hvb : V.bl (!decide (v = .non)) = .bl (leq l r) := by
      rw [show decide (v = .non) = !leq l r from hres, Bool.not_not]
    obtain ⟨dx', sv', pv', hf4⟩ := hf2.b hk2 e3
    refine ⟨_, rfl, f, _, dx', _, _, rfl, hf4, T.k_Free, T.n_Free_known, rfl, _, rfl, kd, _, rfl, DPut.k (k := .inr (keyD l r)) h1 (lt_big (by omega)), rfl, _, ((sb_of e12).tr e3).tr sb_upd, upd_same, ?_, ?_, ?_⟩
    · rw [hvb]
      exact known_put h2 d4l d4r
    · rw [hvb]
      omega
    · rw [valV_put, if_pos rfl, hvb]
theorem ok_reason {n : Nat} {fd : FuncData} (F : FunD K "reason_for" "Free.reason_for" (defArgs s_Free_reason_for) (defBody s_Free_reason_for) (defScope s_Free_reason_for) [] [] (He.ma K (He.ga K "Free") "reason_for") fd) (T : Top K mg)
    (D_Free_is_below : MethD P w K mg base "Free" "is_below" (2 * n + 5) ["self", "left", "right"] (spLeqG K (argsF K) resB n (costD n))) : MethD P w K mg base "Free" "reason_for" (2 * n + 6) ["self", "left", "right"] (spLeqG K (argsF K) resN (n + 1) (costN n)) := by
  refine methd_mk F (F.bindsN fun _ _ _ _ _ _ us hl => match us, hl with | [_, _, _], _ => rfl) T.k_Free T.m_Free_reason_for sc_Free_reason_for (fun vs H Q E h => ?_) (fun cdv A outer s H vs Q E hr h => ?_)
  · obtain ⟨lv, rv, kd, l, r, a, b, kvs, ⟨f, rfl, _⟩, _⟩ := h
    rfl
  obtain ⟨lv, rv, kd, l, r, a, b, kvs, ⟨f, rfl, hf⟩, hl, hr', dl, dr, a4, b4, hab, hn, hk, hK, hc, q⟩ := h
  have d4l := drawn_mono dl a4
  have d4r := drawn_mono dr b4
  refine ⟨_, (pss_cons (ps_if (pt_cmpR (op_eqK K hr.units) (pv 1) (pv 2) (nomark _))
  (pss_one (ps_ret (pe_tup (pa_cons pe_str (pa_cons (pe_lst pa_nil) pa_nil)))))
  pss_nil)
  (pss_cons (ps_if (pt_cmpR op_eq (pe_ix (ix_wordK K) (pv 1) pe_int (fun _ _ => rfl)) pe_str (nomark _))
  (pss_cons (ps_setLc (i := 3) (own := [("part", 4)]) rfl sc_Free_reason_for.nd rfl rfl (sw_true rfl rfl rfl (by kernel_rfl)) (pi_tupK K (pe_slice (sl_tupK K) (pv 1) (po_some pe_int) po_none)) (blkOk_by (by kernel_rfl)) (fun _ _ _ _ _ => (pg_name (i := 4) sc_Free_reason_for.nd rfl (Or.inl rfl) (.inr rfl))) (fun _ _ _ _ _ => pts_nil) (fun _ _ _ _ _ => (pe_tup (pa_cons (pv 4) (pa_cons (pv 2) pa_nil)))))
  (pss_one (ps_ret (pe_ifExp (pt_val (pe_callB (cr_allK K rfl) (by rfl) T.b_all (by decide +kernel) (pa_cons (pe_lc (own := [("one", 5), ("other", 6)]) rfl sc_Free_reason_for.nd (pi_listK K (pv 3)) (blkOk_by (by kernel_rfl)) (fun _ _ _ _ _ => (pg_tupK K (n := 2) rfl (pgs_cons (pg_name (i := 5) sc_Free_reason_for.nd rfl (Or.inl rfl) (.inr rfl)) (pgs_cons (pg_name (i := 6) sc_Free_reason_for.nd rfl (Or.inl rfl) (.inr rfl)) pgs_nil)))) (fun _ _ _ _ _ => pts_nil) (fun _ _ _ _ _ => (pe_methdK K D_Free_is_below hr (by first | decide | omega) (pv 0) (pa_cons (pv 5) (pa_cons (pv 6) pa_nil))))) pa_nil))) (pe_tup (pa_cons pe_str (pa_cons (pv 3) pa_nil))) pe_non))))
  pss_nil)
  (pss_cons (ps_if (pt_cmpR op_eq (pe_ix (ix_wordK K) (pv 2) pe_int (fun _ _ => rfl)) pe_str (nomark _))
  (pss_cons (ps_setLc (i := 3) (own := [("part", 4)]) rfl sc_Free_reason_for.nd rfl rfl (sw_true rfl rfl rfl (by kernel_rfl)) (pi_tupK K (pe_slice (sl_tupK K) (pv 2) (po_some pe_int) po_none)) (blkOk_by (by kernel_rfl)) (fun _ _ _ _ _ => (pg_name (i := 4) sc_Free_reason_for.nd rfl (Or.inl rfl) (.inr rfl))) (fun _ _ _ _ _ => pts_nil) (fun _ _ _ _ _ => (pe_tup (pa_cons (pv 1) (pa_cons (pv 4) pa_nil)))))
  (pss_one (ps_ret (pe_ifExp (pt_val (pe_callB (cr_allK K rfl) (by rfl) T.b_all (by decide +kernel) (pa_cons (pe_lc (own := [("one", 5), ("other", 6)]) rfl sc_Free_reason_for.nd (pi_listK K (pv 3)) (blkOk_by (by kernel_rfl)) (fun _ _ _ _ _ => (pg_tupK K (n := 2) rfl (pgs_cons (pg_name (i := 5) sc_Free_reason_for.nd rfl (Or.inl rfl) (.inr rfl)) (pgs_cons (pg_name (i := 6) sc_Free_reason_for.nd rfl (Or.inl rfl) (.inr rfl)) pgs_nil)))) (fun _ _ _ _ _ => pts_nil) (fun _ _ _ _ _ => (pe_methdK K D_Free_is_below hr (by first | decide | omega) (pv 0) (pa_cons (pv 5) (pa_cons (pv 6) pa_nil))))) pa_nil))) (pe_tup (pa_cons pe_str (pa_cons (pv 3) pa_nil))) pe_non))))
  pss_nil)
  (C8.pss_cut (ps_if (pt_cmpR op_eq (pe_ix (ix_wordK K) (pv 2) pe_int (fun _ _ => rfl)) pe_str (nomark _))
  (pss_one (ps_for PassesOwn.never rfl (pi_tupK K (pe_slice (sl_tupK K) (pv 2) (po_some pe_int) po_none)) (pg_name (i := 4) sc_Free_reason_for.nd rfl (Or.inl rfl) (.inl rfl))
  (pss_one (ps_if (pt_val (pe_methdK K D_Free_is_below hr (by first | decide | omega) (pv 0) (pa_cons (pv 1) (pa_cons (pv 4) pa_nil))))
  (pss_one (ps_ret (pe_tup (pa_cons pe_str (pa_cons (pe_lst (pa_cons (pe_tup (pa_cons (pv 1) (pa_cons (pv 4) pa_nil))) (pa_cons (pe_tup (pa_cons (pv 4) (pa_cons (pv 2) pa_nil))) pa_nil))) pa_nil)))))
  pss_nil))))
  pss_nil)
  (C8.pss_cut (ps_if (pt_cmpR op_eq (pe_ix (ix_wordK K) (pv 1) pe_int (fun _ _ => rfl)) pe_str (nomark _))
  (pss_one (ps_for PassesOwn.never rfl (pi_tupK K (pe_slice (sl_tupK K) (pv 1) (po_some pe_int) po_none)) (pg_name (i := 4) sc_Free_reason_for.nd rfl (Or.inl rfl) (.inl rfl))
  (pss_one (ps_if (pt_val (pe_methdK K D_Free_is_below hr (by first | decide | omega) (pv 0) (pa_cons (pv 4) (pa_cons (pv 2) pa_nil))))
  (pss_one (ps_ret (pe_tup (pa_cons pe_str (pa_cons (pe_lst (pa_cons (pe_tup (pa_cons (pv 1) (pa_cons (pv 4) pa_nil))) (pa_cons (pe_tup (pa_cons (pv 4) (pa_cons (pv 2) pa_nil))) pa_nil))) pa_nil)))))
  pss_nil))))
  pss_nil)
  (pss_one (ps_ret pe_non))))))), ?_⟩
  have hst := leq_step d4l d4r
  unfold leqStep at hst
  have hcN : costN n l r = ((tlD l).map fun p => costD n p r).sum + ((tlD r).map fun q => costD n l q).sum := rfl
  refine ⟨_, rfl, _, rfl, l, r, hl.dp, hr'.dp, (drawn_nice d4l).shaped, (drawn_nice d4r).shaped, _, rfl, ?_⟩
  refine if_b (fun h1 => ?_) (fun h1 => ?_)
  · rw [h1, Bool.true_or] at hst
    refine ⟨(by show 0 ≤ sizeLine; decide), fun p0 hp0 => ⟨(by show 2 ≤ sizeLine; decide), fun p1 hp1 => ?_⟩⟩
    have e := (same_new hp0 (.lst [])).trans (same_new hp1 (.tup [.str "same", .ref p0]))
    exact q _ _ kvs (sb_of e) (e _ _ hk) hK (by omega) (by rw [hst]; exact rfl)
  rw [h1, Bool.false_or] at hst
  refine ⟨_, rfl, word_hd hl dl _ ⟨rfl, _, rfl, ?_⟩⟩
  refine if_dec (fun h2 => ?_) (fun h2 => ?_)
  · have h2 := V.str.inj h2
    rw [if_pos h2] at hst
    have hv0 := hl
    obtain ⟨ta, o, vr, ps, k, rfl, rfl, hta, hvr, l2, l24, rfl, hps⟩ := word_tup hl dl (.inl h2)
    refine ⟨_, rfl, _, rfl, ta, _, rfl, hta, notWhole1, fun p hp0 => ⟨p, rfl, ⟨_, SqT.of upd_same⟩, fun D hD => ?_⟩⟩
    rw [cut1] at hD ⊢
    have lvr := hvr.len
    have e1 := same_new hp0 (.tup vr)
    refine lc_mapT (j := 4) (fun i y H' => ∃ x t, vr[i]? = some x ∧ y = .ref t ∧ H' t = some (.tup [x, rv])) (fun i y H1 H2 e ⟨x, t, h1, h2, h3⟩ => ⟨x, t, h1, h2, e _ _ h3⟩) hD (SqT.of upd_same) (le_line (by omega)) (fun _ => rfl) ?_ ?_
    · intro i x H2 hx e2 Q' k'
      exact ⟨_, rfl, _, rfl, (by show 2 ≤ sizeLine; decide), fun t ht => k' _ _ (same_new ht _) ⟨x, t, hx, rfl, upd_same⟩⟩
    intro H2 ys e2 hD2 hl2 hy
    have e12 := e1.trans e2
    have hk2 := e12 _ _ hk
    refine ⟨_, rfl, D, rfl, ⟨ys, SqL.of hD2⟩, fun D2 hD20 => ?_⟩
    refine lc_leqL (j := 5) (k := 6) (ps := ps) (f := fun p => leq p r) (c := fun p => costD n p r) (fun p u1 u2 => Tp K H2 u1 p ∧ u2 = rv) hD20 hk2 hK hD2 (hl2.trans lvr) (by omega) ?_ (fun _ _ => rfl) ?_ ?_
    · intro i y hiy
      obtain ⟨x, t, h3, h4, h5⟩ := hy i y hiy
      obtain ⟨p, hp, hxp⟩ := hvr.get h3
      exact ⟨t, _, _, p, h4, hp, h5, ⟨hxp.up (Same.T e12), rfl⟩⟩
    · rintro i p u1 u2 H3 kvs2 hp ⟨hu, rfl⟩ e3 h3 h4 h5 Q' kk
      have eT3 := sameT_d hk2 e3
      have e03 := (sb_of e12).tr e3
      have eT0 := sameT_d hk e03
      have hf4 := hf.b hk e03
      obtain ⟨dx, sv, pv, hf5⟩ := id hf4
      have hs := sum_part (f := fun p => costD n p r) hp
      have hcS : ((tlD (.tuple (.str o :: ps))).map (fun p => costD n p r)).sum = (ps.map (fun p => costD n p r)).sum := rfl
      refine ⟨_, rfl, f, dx, _, rfl, hf5, rfl, _, rfl, _, rfl, u1, u2, kd, p, r, k, b, kvs2, ⟨f, rfl, hf4⟩, hu.up eT3, hr'.up eT0, hps p (List.mem_of_getElem? hp), dr, by omega, b4, by omega, by omega, h3, h4, by omega, fun v H4 kvs4 e4 h6 h7 h8 hres => ?_⟩
      cases hres
      exact kk H4 kvs4 e4 h6 h7 h8
    · intro H3 kvs2 e3 h3 h4 h5 h6
      have hcS : ((tlD (.tuple (.str o :: ps))).map (fun p => costD n p r)).sum = (ps.map (fun p => costD n p r)).sum := rfl
      refine ⟨D2, _, rfl, SqL.of h6, _, rfl, ?_⟩
      rw [all_id]
      have e03 := (sb_of e12).tr e3
      refine if_b (fun h7 => ?_) (fun h7 => ?_)
      · refine ⟨_, rfl, (by show 2 ≤ sizeLine; decide), fun t ht => ?_⟩
        have e4 := same_new ht (.tup [.str "out", .ref D])
        refine q _ _ kvs2 (e03.tr (sb_of e4)) (e4 _ _ h3) h4 (by omega) ?_
        rw [hst]
        show false = !(ps.all (fun p => leq p r))
        rw [h7] <;> rfl
      · refine q _ _ kvs2 e03 h3 h4 (by omega) ?_
        rw [hst]
        show true = !(ps.all (fun p => leq p r))
        rw [h7] <;> rfl
  have h2 : ¬ hdS l = "|" := fun z => h2 (by rw [z])
  rw [if_neg h2] at hst
  refine ⟨_, rfl, word_hd hr' dr _ ⟨rfl, _, rfl, ?_⟩⟩
  clear h2
  refine if_dec (fun h2 => ?_) (fun h2 => ?_)
  · have h2 := V.str.inj h2
    rw [if_pos h2] at hst
    have hv0 := hr'
    obtain ⟨ta, o, vr, ps, k, rfl, rfl, hta, hvr, l2, l24, rfl, hps⟩ := word_tup hr' dr (.inr h2)
    refine ⟨_, rfl, _, rfl, ta, _, rfl, hta, notWhole1, fun p hp0 => ⟨p, rfl, ⟨_, SqT.of upd_same⟩, fun D hD => ?_⟩⟩
    rw [cut1] at hD ⊢
    have lvr := hvr.len
    have e1 := same_new hp0 (.tup vr)
    refine lc_mapT (j := 4) (fun i y H' => ∃ x t, vr[i]? = some x ∧ y = .ref t ∧ H' t = some (.tup [lv, x])) (fun i y H1 H2 e ⟨x, t, h1, h2, h3⟩ => ⟨x, t, h1, h2, e _ _ h3⟩) hD (SqT.of upd_same) (le_line (by omega)) (fun _ => rfl) ?_ ?_
    · intro i x H2 hx e2 Q' k'
      exact ⟨_, rfl, _, rfl, (by show 2 ≤ sizeLine; decide), fun t ht => k' _ _ (same_new ht _) ⟨x, t, hx, rfl, upd_same⟩⟩
    intro H2 ys e2 hD2 hl2 hy
    have e12 := e1.trans e2
    have hk2 := e12 _ _ hk
    refine ⟨_, rfl, D, rfl, ⟨ys, SqL.of hD2⟩, fun D2 hD20 => ?_⟩
    refine lc_leqL (j := 5) (k := 6) (ps := ps) (f := fun p => leq l p) (c := fun p => costD n l p) (fun p u1 u2 => Tp K H2 u2 p ∧ u1 = lv) hD20 hk2 hK hD2 (hl2.trans lvr) (by omega) ?_ (fun _ _ => rfl) ?_ ?_
    · intro i y hiy
      obtain ⟨x, t, h3, h4, h5⟩ := hy i y hiy
      obtain ⟨p, hp, hxp⟩ := hvr.get h3
      exact ⟨t, _, _, p, h4, hp, h5, ⟨hxp.up (Same.T e12), rfl⟩⟩
    · rintro i p u1 u2 H3 kvs2 hp ⟨hu, rfl⟩ e3 h3 h4 h5 Q' kk
      have eT3 := sameT_d hk2 e3
      have e03 := (sb_of e12).tr e3
      have eT0 := sameT_d hk e03
      have hf4 := hf.b hk e03
      obtain ⟨dx, sv, pv, hf5⟩ := id hf4
      have hs := sum_part (f := fun p => costD n l p) hp
      have hcS : ((tlD (.tuple (.str o :: ps))).map (fun p => costD n l p)).sum = (ps.map (fun p => costD n l p)).sum := rfl
      refine ⟨_, rfl, f, dx, _, rfl, hf5, rfl, _, rfl, _, rfl, u1, u2, kd, l, p, a, k, kvs2, ⟨f, rfl, hf4⟩, hl.up eT0, hu.up eT3, dl, hps p (List.mem_of_getElem? hp), a4, by omega, by omega, by omega, h3, h4, by omega, fun v H4 kvs4 e4 h6 h7 h8 hres => ?_⟩
      cases hres
      exact kk H4 kvs4 e4 h6 h7 h8
    · intro H3 kvs2 e3 h3 h4 h5 h6
      have hcS : ((tlD (.tuple (.str o :: ps))).map (fun p => costD n l p)).sum = (ps.map (fun p => costD n l p)).sum := rfl
      refine ⟨D2, _, rfl, SqL.of h6, _, rfl, ?_⟩
      rw [all_id]
      have e03 := (sb_of e12).tr e3
      refine if_b (fun h7 => ?_) (fun h7 => ?_)
      · refine ⟨_, rfl, (by show 2 ≤ sizeLine; decide), fun t ht => ?_⟩
        have e4 := same_new ht (.tup [.str "into", .ref D])
        refine q _ _ kvs2 (e03.tr (sb_of e4)) (e4 _ _ h3) h4 (by omega) ?_
        rw [hst]
        show false = !(ps.all (fun p => leq l p))
        rw [h7] <;> rfl
      · refine q _ _ kvs2 e03 h3 h4 (by omega) ?_
        rw [hst]
        show true = !(ps.all (fun p => leq l p))
        rw [h7] <;> rfl
  have h3 : ¬ hdS r = "&" := fun z => h2 (by rw [z])
  rw [if_neg h3] at hst
  clear h2
  refine ⟨fun σ' H' => ∃ o4, σ' = [some (.ref f), some lv, some rv, none, o4, none, none] ∧ ∃ kvs', SameB kd H H' ∧ H' kd = some (.dK kvs') ∧ KnownD kvs' ∧ kvs'.length ≤ kvs.length + ((tlD r).map fun q => costD n l q).sum ∧ (hdS r = "|" → (tlD r).any (fun q => leq l q) = false), ?_, ?_⟩
  · refine ⟨_, rfl, word_hd hr' dr _ ⟨rfl, _, rfl, ?_⟩⟩
    refine if_dec (fun h4 => ?_) (fun h4 => ⟨_, rfl, kvs, sb_refl, hk, hK, by omega, fun z => absurd (by rw [z]) h4⟩)
    have eT : SameT H H := SameT.refl H
    have h4 := V.str.inj h4
    obtain ⟨ta, o, vr, ps, k, rfl, rfl, hta, hvr, l2, l24, rfl, hps⟩ := word_tup (hr'.up eT) dr (.inl h4)
    refine ⟨_, rfl, _, rfl, ta, _, rfl, hta, notWhole1, fun p hp0 => ⟨p, rfl, ⟨_, SqT.of upd_same⟩, ?_⟩⟩
    rw [cut1]
    have lvr := hvr.len
    have e1 := same_new hp0 (.tup vr)
    have hkp := e1 _ _ hk
    have hp1 : (upd H p (.tup vr)) p = some (.tup vr) := upd_same
    have hpk : p ≠ kd := fun z => by
      rw [z, hk] at hp0
      cases hp0
    refine for_tup (xs := vr) (fun i σ H' => ∃ o4, σ = [some (.ref f), some lv, some (.ref ta), none, o4, none, none] ∧ ∃ kvs', SameB kd (upd H p (.tup vr)) H' ∧ H' kd = some (.dK kvs') ∧ KnownD kvs' ∧ kvs'.length ≤ kvs.length + ((ps.take i).map (fun q => costD n l q)).sum ∧ ∀ q ∈ ps.take i, (fun q => leq l q) q = false)
      ⟨_, rfl, kvs, sb_refl, hkp, hK, by simp, fun q hq => by simp at hq⟩ (fun i σ H' _ ⟨_, _, _, e, _⟩ => SqT.of (e _ _ hpk hp1)) ?_ ?_
    · rintro i x σ H2 hx ⟨o4, rfl, kvs2, e2, h5, h6, h7, h8⟩
      obtain ⟨p', hp, hxp⟩ := hvr.get hx
      have e02 := (sb_refl (a := kd) (H := H)).tr ((sb_of e1).tr e2)
      have eT2 := sameT_d hk e02
      have eT3 := sameT_d hk ((sb_of e1).tr e2)
      have hf4 := hf.b hk e02
      obtain ⟨dx, sv, pv, hf5⟩ := id hf4
      have hs := sum_part (f := fun q => costD n l q) hp
      have hcS : ((tlD (.tuple (.str o :: ps))).map (fun q => costD n l q)).sum = (ps.map (fun q => costD n l q)).sum := rfl
      refine ⟨_, rfl, f, dx, _, rfl, hf5, rfl, _, rfl, _, rfl, lv, x, kd, l, p', a, k, kvs2, ⟨f, rfl, hf4⟩, hl.up eT2, hxp.up eT3, dl, hps p' (List.mem_of_getElem? hp), a4, by omega, by omega, by omega, h5, h6, by omega, fun v H3 kvs3 e3 k6 k7 k8 hres => ?_⟩
      cases hres
      refine ⟨_, rfl, if_b (fun h9 => ?_) (fun h9 => ?_)⟩
      · refine ⟨_, rfl, _, rfl, (by show 2 ≤ sizeLine; decide), fun t1 ht1 => ⟨_, rfl, _, rfl, (by show 2 ≤ sizeLine; decide), fun t2 ht2 => ⟨(by show 2 ≤ sizeLine; decide), fun t3 ht3 => ⟨(by show 2 ≤ sizeLine; decide), fun t4 ht4 => ?_⟩⟩⟩⟩
        have g := (same_new ht1 (.tup [lv, x])).trans ((same_new ht2 (.tup [x, (.ref ta)])).trans ((same_new ht3 (.lst [.ref t1, .ref t2])).trans (same_new ht4 (.tup [.str "right", .ref t3]))))
        refine q _ _ kvs3 (e02.tr (e3.tr (sb_of g))) (g _ _ k6) k7 (by omega) ?_
        have hany : (tlD (.tuple (.str o :: ps))).any (fun q => leq l q) = true := List.any_eq_true.mpr ⟨p', List.mem_of_getElem? hp, h9⟩
        rw [hst, decide_eq_true h4, hany] <;> rfl
      · refine ⟨_, rfl, kvs3, e2.tr e3, k6, k7, ?_, fun q hq => ?_⟩
        · rw [take_s hp, List.map_append, List.sum_append]
          simp only [List.map_cons, List.map_nil, List.sum_cons, List.sum_nil]
          omega
        · rw [take_s hp] at hq
          rcases List.mem_append.mp hq with hq | hq
          · exact h8 q hq
          · rw [List.mem_singleton.mp hq]
            exact h9
    · rintro σ H2 ⟨o4, rfl, kvs2, e2, h5, h6, h7, h8⟩
      rw [lvr, List.take_length] at h7 h8
      have hany : (tlD (.tuple (.str o :: ps))).any (fun q => leq l q) = false := List.any_eq_false.mpr fun q hq hh => by
        have h9 := h8 q hq
        dsimp only at h9 hh
        rw [h9] at hh
        cases hh
      exact ⟨_, rfl, kvs2, (sb_refl (a := kd) (H := H)).tr ((sb_of e1).tr e2), h5, h6, by have hcS : ((tlD (.tuple (.str o :: ps))).map (fun q => costD n l q)).sum = (ps.map (fun q => costD n l q)).sum := rfl; omega, fun _ => hany⟩
  rintro σ' H0 ⟨o4', rfl, kvs0, e0, hk0, hK0, hle, hno⟩
  have eT := sameT_d hk e0
  have hno2 : (decide (hdS r = "|") && (tlD r).any fun q => leq l q) = false := by
    by_cases z : hdS r = "|"
    · rw [hno z, Bool.and_false]
    · rw [decide_eq_false z, Bool.false_and]
  rw [hno2, Bool.false_or] at hst
  clear hno hno2
  refine ⟨fun σ' H' => ∃ o4, σ' = [some (.ref f), some lv, some rv, none, o4, none, none] ∧ ∃ kvs', SameB kd H H' ∧ H' kd = some (.dK kvs') ∧ KnownD kvs' ∧ kvs'.length ≤ kvs.length + costN n l r ∧ (hdS l = "&" → (tlD l).any (fun p => leq p r) = false), ?_, ?_⟩
  · refine ⟨_, rfl, word_hd (hl.up eT) dl _ ⟨rfl, _, rfl, ?_⟩⟩
    refine if_dec (fun h4 => ?_) (fun h4 => ⟨_, rfl, kvs0, e0, hk0, hK0, by omega, fun z => absurd (by rw [z]) h4⟩)
    have h4 := V.str.inj h4
    obtain ⟨ta, o, vr, ps, k, rfl, rfl, hta, hvr, l2, l24, rfl, hps⟩ := word_tup (hl.up eT) dl (.inr h4)
    refine ⟨_, rfl, _, rfl, ta, _, rfl, hta, notWhole1, fun p hp0 => ⟨p, rfl, ⟨_, SqT.of upd_same⟩, ?_⟩⟩
    rw [cut1]
    have lvr := hvr.len
    have e1 := same_new hp0 (.tup vr)
    have hkp := e1 _ _ hk0
    have hp1 : (upd H0 p (.tup vr)) p = some (.tup vr) := upd_same
    have hpk : p ≠ kd := fun z => by
      rw [z, hk0] at hp0
      cases hp0
    refine for_tup (xs := vr) (fun i σ H' => ∃ o4, σ = [some (.ref f), some (.ref ta), some rv, none, o4, none, none] ∧ ∃ kvs', SameB kd (upd H0 p (.tup vr)) H' ∧ H' kd = some (.dK kvs') ∧ KnownD kvs' ∧ kvs'.length ≤ kvs0.length + ((ps.take i).map (fun p => costD n p r)).sum ∧ ∀ q ∈ ps.take i, (fun p => leq p r) q = false)
      ⟨_, rfl, kvs0, sb_refl, hkp, hK0, by simp, fun q hq => by simp at hq⟩ (fun i σ H' _ ⟨_, _, _, e, _⟩ => SqT.of (e _ _ hpk hp1)) ?_ ?_
    · rintro i x σ H2 hx ⟨o4, rfl, kvs2, e2, h5, h6, h7, h8⟩
      obtain ⟨p', hp, hxp⟩ := hvr.get hx
      have e02 := e0.tr ((sb_of e1).tr e2)
      have eT2 := sameT_d hk e02
      have eT3 := sameT_d hk0 ((sb_of e1).tr e2)
      have hf4 := hf.b hk e02
      obtain ⟨dx, sv, pv, hf5⟩ := id hf4
      have hs := sum_part (f := fun p => costD n p r) hp
      have hcS : ((tlD (.tuple (.str o :: ps))).map (fun p => costD n p r)).sum = (ps.map (fun p => costD n p r)).sum := rfl
      refine ⟨_, rfl, f, dx, _, rfl, hf5, rfl, _, rfl, _, rfl, x, rv, kd, p', r, k, b, kvs2, ⟨f, rfl, hf4⟩, hxp.up eT3, hr'.up eT2, hps p' (List.mem_of_getElem? hp), dr, by omega, b4, by omega, by omega, h5, h6, by omega, fun v H3 kvs3 e3 k6 k7 k8 hres => ?_⟩
      cases hres
      refine ⟨_, rfl, if_b (fun h9 => ?_) (fun h9 => ?_)⟩
      · refine ⟨_, rfl, _, rfl, (by show 2 ≤ sizeLine; decide), fun t1 ht1 => ⟨_, rfl, _, rfl, (by show 2 ≤ sizeLine; decide), fun t2 ht2 => ⟨(by show 2 ≤ sizeLine; decide), fun t3 ht3 => ⟨(by show 2 ≤ sizeLine; decide), fun t4 ht4 => ?_⟩⟩⟩⟩
        have g := (same_new ht1 (.tup [(.ref ta), x])).trans ((same_new ht2 (.tup [x, rv])).trans ((same_new ht3 (.lst [.ref t1, .ref t2])).trans (same_new ht4 (.tup [.str "left", .ref t3]))))
        refine q _ _ kvs3 (e02.tr (e3.tr (sb_of g))) (g _ _ k6) k7 (by omega) ?_
        have hany : (tlD (.tuple (.str o :: ps))).any (fun p => leq p r) = true := List.any_eq_true.mpr ⟨p', List.mem_of_getElem? hp, h9⟩
        rw [hst, decide_eq_true h4, hany] <;> rfl
      · refine ⟨_, rfl, kvs3, e2.tr e3, k6, k7, ?_, fun q hq => ?_⟩
        · rw [take_s hp, List.map_append, List.sum_append]
          simp only [List.map_cons, List.map_nil, List.sum_cons, List.sum_nil]
          omega
        · rw [take_s hp] at hq
          rcases List.mem_append.mp hq with hq | hq
          · exact h8 q hq
          · rw [List.mem_singleton.mp hq]
            exact h9
    · rintro σ H2 ⟨o4, rfl, kvs2, e2, h5, h6, h7, h8⟩
      rw [lvr, List.take_length] at h7 h8
      have hany : (tlD (.tuple (.str o :: ps))).any (fun p => leq p r) = false := List.any_eq_false.mpr fun q hq hh => by
        have h9 := h8 q hq
        dsimp only at h9 hh
        rw [h9] at hh
        cases hh
      exact ⟨_, rfl, kvs2, e0.tr ((sb_of e1).tr e2), h5, h6, by have hcS : ((tlD (.tuple (.str o :: ps))).map (fun p => costD n p r)).sum = (ps.map (fun p => costD n p r)).sum := rfl; omega, fun _ => hany⟩
  rintro σ' H1 ⟨o4, rfl, kvs1, e1, hk1, hK1, hle1, hno⟩
  have hno2 : (decide (hdS l = "&") && (tlD l).any fun p => leq p r) = false := by
    by_cases z : hdS l = "&"
    · rw [hno z, Bool.and_false]
    · rw [decide_eq_false z, Bool.false_and]
  refine q _ H1 kvs1 e1 hk1 hK1 hle1 ?_
  rw [hst, hno2] <;> rfl
end
end FF
/-! the order of terms: below_in, always_below, equal_everywhere, free_steps -/
namespace FF
open PySem PySem.Spec PyProof.Rows L2
def spBelowIn (K : PySem.W.Frag) : Sp := fun vs H Q _ => ∃ (lv rv : V) (l r : PyData), vs = [lv, rv] ∧ Tp K H lv l ∧ Tp K H rv r ∧ Drawn 4 l ∧ Drawn 4 r ∧ lvs l ≤ 47 ∧ lvs r ≤ 47 ∧ ∀ H', Same H H' → Q (.bl (leq l r)) H'
def ErrT (K : PySem.W.Frag) (H : Hp) (E : XK) : Prop := ∀ dd H', Same H H' → Thr ("InvalidTerm" : Str) dd H' → E (.ref (He.ga K "InvalidTerm")) dd H'
theorem fit_word {d : PyData} (h : fitsB d = true) : Drawn 4 d ∧ lvs d ≤ 47 := by
  have h : (decide (1 ≤ meas 5 d) && decide (meas 5 d ≤ 24)) = true := h
  obtain ⟨h1, h2⟩ := Bool.and_eq_true_iff.mp h
  have h1 := of_decide_eq_true h1
  have h2 := of_decide_eq_true h2
  have hd := word_of 4 d h1 h2
  exact ⟨hd, lvs_fit hd h2⟩
section
variable {P : Program} {w : World} {K : PySem.W.Frag} {mg : Str → Option Value} {base : Heap}
theorem ok_below_in {f : Addr} {fd : FuncData} (F : FunD K "below_in" "below_in" (defArgs s_below_in) (defBody s_below_in) (defScope s_below_in) [] [] f fd) (hm : mg "below_in" = some (.ref f)) (T : Top K mg)
    (M_Free : MakeD P w K mg base "Free" 1 ["self"] (spFreeInit K)) (D_Free_is_below : MethD P w K mg base "Free" "is_below" 23 ["self", "left", "right"] (spLeqG K (argsF K) resB 9 (costD 9))) : Def P w K mg base "below_in" 24 ["left", "right"] (spBelowIn K) := by
  refine def_mk F hm (F.bindsN fun _ _ _ _ _ _ us hl => match us, hl with | [_, _], _ => rfl) sc_below_in (fun vs H Q E h => ?_) (fun cdv A outer s H vs Q E hr h => ?_)
  · obtain ⟨lv, rv, l, r, rfl, _⟩ := h
    rfl
  obtain ⟨lv, rv, l, r, rfl, hl, hr', dl, dr, c1, c2, q⟩ := h
  refine ⟨_, (pss_one (ps_ret (pe_methdK K D_Free_is_below hr (by first | decide | omega) (pe_mkd0 M_Free hr (by first | decide | omega)) (pa_cons (pv 0) (pa_cons (pv 1) pa_nil))))), ?_⟩
  refine fun x dx hx hdx hne => ⟨x, dx, rfl, upd_same, fun H1 kd e1 hkd0 hfree hkd => ⟨rfl, ?_⟩⟩
  have e0 : Same H (upd (upd H dx (.own x)) x (.ins (He.ga K "Free") dx [])) := fun b u hb => by
    rw [upd_ne (ne_of_none hb hx), upd_ne (ne_of_none hb hdx)]
    exact hb
  have e01 : Same H H1 := fun b u hb => e1 b u (ne_of_none hb hx) (e0 b u hb)
  have hkd1 : H kd = none := by
    cases h : H kd with
    | none => rfl
    | some u => exact absurd ((e0 _ _ h).symm.trans hkd0) (fun z => by cases z)
  obtain ⟨dx', sv, pv, hf⟩ := id hfree
  have hc := cost_fit c1 c2
  refine ⟨x, dx', _, rfl, hf, rfl, _, rfl, _, rfl, lv, rv, kd, l, r, 4, 4, [], ⟨x, rfl, hfree⟩, hl.up (Same.T e01), hr'.up (Same.T e01), dl, dr, by decide, by decide, by decide, by decide, hkd, known_nil, by simp; omega, fun v H2 kvs2 e2 _ _ _ hres => ?_⟩
  cases hres
  exact q H2 fun b u hb => e2 b u (ne_of_none hb hkd1) (e01 b u hb)
end
end FF
/-! words of terms: walked, their texts in order -/
namespace FF
open PySem PySem.Spec PyProof.Rows L2
/-! ### the texts in order -/
def leS (a b : Str) : Bool := !ltCps b.cps.toList a.cps.toList
theorem leS_trans (a b c : Str) (h1 : leS a b = true) (h2 : leS b c = true) : leS a c = true := by
  unfold leS at *
  rw [ltCps_eq] at *
  simp only [Bool.not_eq_true', decide_eq_false_iff_not, List.not_lt] at *
  exact List.le_trans h1 h2
theorem leS_total (a b : Str) : (leS a b || leS b a) = true := by
  unfold leS
  rw [ltCps_eq, ltCps_eq]
  simp only [Bool.or_eq_true, Bool.not_eq_true', decide_eq_false_iff_not, List.not_lt]
  exact List.le_total _ _
theorem leS_antisymm {a b : Str} (h1 : leS a b = true) (h2 : leS b a = true) : a = b := by
  unfold leS at *
  rw [ltCps_eq] at *
  simp only [Bool.not_eq_true', decide_eq_false_iff_not, List.not_lt] at *
  have := List.le_antisymm h1 h2
  obtain ⟨⟨x⟩⟩ := a
  obtain ⟨⟨y⟩⟩ := b
  cases this
  rfl
theorem rising_all : ∀ {l : List Str} {p : Str}, risingS p l = true → (∀ x ∈ l, leS p x = true) ∧ l.Pairwise fun a b => leS a b = true
  | [], _, _ => ⟨(fun x h => by cases h), List.Pairwise.nil⟩
  | y :: l, p, h => by
    have h : (!ltCps y.cps.toList p.cps.toList && risingS y l) = true := h
    obtain ⟨h1, h2⟩ := Bool.and_eq_true_iff.mp h
    obtain ⟨k1, k2⟩ := rising_all h2
    have k0 : leS p y = true := h1
    refine ⟨fun x hx => ?_, .cons k1 k2⟩
    rcases List.mem_cons.mp hx with rfl | hx
    · exact k0
    · exact leS_trans _ _ _ k0 (k1 x hx)
theorem sorted_pw {l : List Str} (h : sortedS l = true) : l.Pairwise fun a b => leS a b = true := by
  cases l with
  | nil => exact .nil
  | cons x l => exact .cons (rising_all h).1 (rising_all h).2
def sortT (ks : List Str) : List Str := ks.mergeSort leS
theorem sort_eq {ys ks : List Str} (hp : ys.Perm ks) (hs : sortedS ys = true) : ys = sortT ks := by
  refine List.Perm.eq_of_pairwise (le := fun a b => leS a b = true) (fun a b _ _ h1 h2 => leS_antisymm h1 h2) (sorted_pw hs) ?_ (hp.trans (List.mergeSort_perm ks leS).symm)
  exact List.pairwise_mergeSort leS_trans leS_total ks
/-! ### dicts of data by texts -/
abbrev DD := List (Str × PyData)
def ddPut (dd : DD) (k : Str) (v : PyData) : DD := if (dd.any fun e => decide (e.1 = k)) = true then dd.map (fun e => if e.1 = k then (e.1, v) else e) else dd ++ [(k, v)]
def ddGet (dd : DD) (k : Str) : Option PyData := (dd.find? fun e => decide (e.1 = k)).map (·.2)
inductive DRel (K : PySem.W.Frag) (H : Hp) : List (Key × V) → DD → Prop
  | nil : DRel K H [] []
  | cons {k : Str} {v : V} {d : PyData} {kvs : List (Key × V)} {dd : DD} : Tp K H v d → DRel K H kvs dd → DRel K H ((.inr k, v) :: kvs) ((k, d) :: dd)
section
variable {K : PySem.W.Frag} {H H' : Hp}
theorem DRel.up (e : SameT H H') : ∀ {kvs : List (Key × V)} {dd : DD}, DRel K H kvs dd → DRel K H' kvs dd
  | _, _, .nil => .nil
  | _, _, .cons h r => .cons (h.up e) (r.up e)
theorem DRel.keys : ∀ {kvs : List (Key × V)} {dd : DD}, DRel K H kvs dd → kvs.map (·.1) = (dd.map (·.1)).map Sum.inr
  | _, _, .nil => rfl
  | _, _, .cons _ r => by
    show _ :: _ = _ :: _
    rw [r.keys] <;> rfl
theorem DRel.len {kvs : List (Key × V)} {dd : DD} (h : DRel K H kvs dd) : kvs.length = dd.length := by
  have := congrArg List.length h.keys
  simpa using this
theorem DRel.any {k : Str} : ∀ {kvs : List (Key × V)} {dd : DD}, DRel K H kvs dd → (kvs.any fun e => decide (e.1 = Sum.inr k)) = dd.any fun e => decide (e.1 = k)
  | _, _, .nil => rfl
  | _, _, .cons (k := k2) _ r => by
    rw [List.any_cons, List.any_cons, r.any]
    congr 1
    exact decide_eq_decide.mpr ⟨fun e => Sum.inr.inj e, fun e => congrArg Sum.inr e⟩
theorem DRel.repl {k : Str} {v : V} {d : PyData} (h : Tp K H v d) : ∀ {kvs : List (Key × V)} {dd : DD}, DRel K H kvs dd → DRel K H (kvs.map fun e => if e.1 = (Sum.inr k : Key) then (e.1, v) else e) (dd.map fun e => if e.1 = k then (e.1, d) else e)
  | _, _, .nil => .nil
  | _, _, .cons (k := k2) (v := v2) (d := d2) h2 r => by
    rw [List.map_cons, List.map_cons]
    by_cases e : k2 = k
    · subst e
      rw [if_pos rfl, if_pos rfl]
      exact .cons h (r.repl h)
    · rw [if_neg (fun z => e (Sum.inr.inj z)), if_neg e]
      exact .cons h2 (r.repl h)
theorem DRel.snoc {k : Str} {v : V} {d : PyData} (h : Tp K H v d) : ∀ {kvs : List (Key × V)} {dd : DD}, DRel K H kvs dd → DRel K H (kvs ++ [(.inr k, v)]) (dd ++ [(k, d)])
  | _, _, .nil => .cons h .nil
  | _, _, .cons h2 r => .cons h2 (r.snoc h)
theorem DRel.put {k : Str} {v : V} {d : PyData} {kvs : List (Key × V)} {dd : DD} (r : DRel K H kvs dd) (h : Tp K H v d) : DRel K H (putK kvs (.inr k) v) (ddPut dd k d) := by
  unfold putK ddPut
  rw [r.any (k := k)]
  split
  · exact r.repl h
  · exact r.snoc h
theorem DRel.get {k : Str} {d : PyData} : ∀ {kvs : List (Key × V)} {dd : DD}, DRel K H kvs dd → ddGet dd k = some d → ∃ v, valV kvs (.inr k) = some v ∧ Tp K H v d
  | _, _, .nil, e => by cases e
  | _, _, .cons (k := k2) (v := v2) (d := d2) (kvs := kvs) (dd := dd) h2 r, e => by
    by_cases hk : k2 = k
    · subst hk
      have : ddGet ((k2, d2) :: dd) k2 = some d2 := by simp [ddGet]
      rw [this] at e
      cases e
      exact ⟨v2, valV_pos rfl, h2⟩
    · have : ddGet ((k2, d2) :: dd) k = ddGet dd k := by simp [ddGet, List.find?_cons, hk]
      rw [this] at e
      obtain ⟨v, h3, h4⟩ := r.get e
      exact ⟨v, (valV_neg fun z => hk (Sum.inr.inj z)).trans h3, h4⟩
end
theorem ddPut_len (dd : DD) (k : Str) (v : PyData) : (ddPut dd k v).length ≤ dd.length + 1 := by
  unfold ddPut
  split
  · rw [List.length_map]
    exact Nat.le_succ _
  · rw [List.length_append]
    exact Nat.le_refl _
theorem ddGet_mem {dd : DD} {j : Str} (h : j ∈ dd.map (·.1)) : ∃ w, ddGet dd j = some w := by
  induction dd with
  | nil => cases h
  | cons a r ih =>
    by_cases e : a.1 = j
    · exact ⟨a.2, by simp [ddGet, List.find?_cons, e]⟩
    · have : ddGet (a :: r) j = ddGet r j := by simp [ddGet, List.find?_cons, e]
      rw [this]
      exact ih ((List.mem_cons.mp h).resolve_left fun q => e q.symm)
def dictT (f : PyData → Str) (ws : List PyData) : DD := ws.foldl (fun dd w => ddPut dd (f w) w) []
/-- the words in the order of their texts -/
def byText (f : PyData → Str) (ws : List PyData) : List PyData := (sortT ((dictT f ws).map (·.1))).map fun t => (ddGet (dictT f ws) t).getD .none
theorem ddPut_all {P : Str × PyData → Prop} {dd : DD} {k : Str} {v : PyData} (h : ∀ e ∈ dd, P e) (hv : P (k, v)) : ∀ e ∈ ddPut dd k v, P e := fun e he => by
  unfold ddPut at he
  split at he
  · obtain ⟨a, ha, rfl⟩ := List.mem_map.mp he
    split
    · rename_i q
      rw [q]
      exact hv
    · exact h a ha
  · rcases List.mem_append.mp he with he | he
    · exact h e he
    · rw [List.mem_singleton.mp he]
      exact hv
theorem dict_all {P : Str × PyData → Prop} {f : PyData → Str} : ∀ {ws : List PyData} {dd : DD}, (∀ e ∈ dd, P e) → (∀ w ∈ ws, P (f w, w)) → ∀ e ∈ ws.foldl (fun dd w => ddPut dd (f w) w) dd, P e
  | [], _, h, _ => h
  | w :: ws, _, h, hw => dict_all (ws := ws) (ddPut_all h (hw w List.mem_cons_self)) fun x hx => hw x (List.mem_cons_of_mem _ hx)
theorem dict_len {f : PyData → Str} : ∀ (ws : List PyData) (dd : DD), (ws.foldl (fun dd w => ddPut dd (f w) w) dd).length ≤ dd.length + ws.length
  | [], _ => Nat.le_refl _
  | w :: ws, dd => by
    have h1 := dict_len (f := f) ws (ddPut dd (f w) w)
    have h2 := ddPut_len dd (f w) w
    show (ws.foldl _ (ddPut dd (f w) w)).length ≤ _
    rw [List.length_cons]
    omega
theorem get_in {dd : DD} {k : Str} {w : PyData} (h : ddGet dd k = some w) : (k, w) ∈ dd := by
  unfold ddGet at h
  cases q : dd.find? fun e => decide (e.1 = k) with
  | none =>
    rw [q] at h
    cases h
  | some e =>
    rw [q] at h
    have h1 := List.mem_of_find?_eq_some q
    have h2 := List.find?_some q
    have h3 : e.1 = k := of_decide_eq_true h2
    have h4 : e.2 = w := Option.some.inj h
    rw [← h3, ← h4]
    exact h1
theorem byText_mem {f : PyData → Str} {ws : List PyData} {w : PyData} (h : w ∈ byText f ws) : w ∈ ws := by
  obtain ⟨t, ht, rfl⟩ := List.mem_map.mp h
  have ht2 : t ∈ (dictT f ws).map (·.1) := (List.mergeSort_perm _ _).mem_iff.mp ht
  obtain ⟨w, hw⟩ := ddGet_mem ht2
  rw [hw]
  exact dict_all (P := fun e => e.2 ∈ ws) (ws := ws) (dd := []) (fun e he => by cases he) (fun w hw => hw) _ (get_in hw)
end FF
/-! the vocabulary: all words, each once, with their parts -/
namespace FF
open PySem PySem.Spec PyProof.Rows L2
theorem ddPut_keys (dd : DD) (k : Str) (v : PyData) : (ddPut dd k v).map (·.1) = if (dd.any fun e => decide (e.1 = k)) = true then dd.map (·.1) else dd.map (·.1) ++ [k] := by
  unfold ddPut
  split
  · rw [List.map_map]
    refine List.map_congr_left fun e _ => ?_
    show (if e.1 = k then (e.1, v) else e).1 = e.1
    split <;> rfl
  · rw [List.map_append] <;> rfl
theorem ddPut_in (dd : DD) (k : Str) (v : PyData) {j : Str} : j ∈ (ddPut dd k v).map (·.1) ↔ j ∈ dd.map (·.1) ∨ j = k := by
  rw [ddPut_keys]
  split
  · next h =>
    obtain ⟨e, he, hk⟩ := List.any_eq_true.mp h
    exact ⟨.inl, fun h => h.elim id fun q => by rw [q, ← of_decide_eq_true hk]; exact List.mem_map_of_mem he⟩
  · rw [List.mem_append, List.mem_singleton]
theorem ddPut_nodup {dd : DD} {k : Str} {v : PyData} (h : (dd.map (·.1)).Nodup) : ((ddPut dd k v).map (·.1)).Nodup := by
  rw [ddPut_keys]
  split
  · exact h
  · next hn =>
    rw [List.nodup_append]
    refine ⟨h, by simp, fun x hx y hy e => hn ?_⟩
    rw [List.mem_singleton.mp hy] at e
    subst e
    obtain ⟨e, h1, h2⟩ := List.mem_map.mp hx
    exact List.any_eq_true.mpr ⟨e, h1, decide_eq_true h2⟩
theorem dict_nodup {f : PyData → Str} : ∀ (ws : List PyData) (dd : DD), (dd.map (·.1)).Nodup → ((ws.foldl (fun dd w => ddPut dd (f w) w) dd).map (·.1)).Nodup
  | [], _, h => h
  | w :: ws, dd, h => dict_nodup ws (ddPut dd (f w) w) (ddPut_nodup h)
theorem dict_in {f : PyData → Str} : ∀ (ws : List PyData) (dd : DD) {j : Str}, j ∈ (ws.foldl (fun dd w => ddPut dd (f w) w) dd).map (·.1) ↔ j ∈ dd.map (·.1) ∨ ∃ w ∈ ws, f w = j
  | [], _, _ => ⟨.inl, fun h => h.elim id fun ⟨_, h, _⟩ => nomatch h⟩
  | w :: ws, dd, j => by
    refine (dict_in ws (ddPut dd (f w) w)).trans ?_
    rw [ddPut_in]
    constructor
    · rintro ((h | h) | ⟨x, h1, h2⟩)
      · exact .inl h
      · exact .inr ⟨w, List.mem_cons_self, h.symm⟩
      · exact .inr ⟨x, List.mem_cons_of_mem _ h1, h2⟩
    · rintro (h | ⟨x, h1, h2⟩)
      · exact .inl (.inl h)
      · rcases List.mem_cons.mp h1 with e | h1
        · subst e
          exact .inl (.inr h2.symm)
        · exact .inr ⟨x, h1, h2⟩
theorem dictT_key (f : PyData → Str) (ws : List PyData) {k : Str} {w : PyData} (h : ddGet (dictT f ws) k = some w) : f w = k ∧ w ∈ ws := by
  have h1 := dict_all (P := fun e => f e.2 = e.1 ∧ e.2 ∈ ws) (ws := ws) (dd := []) (fun e he => by cases he) (fun w hw => ⟨rfl, hw⟩) _ (get_in h)
  exact h1
theorem byText_keys (f : PyData → Str) (ws : List PyData) : (byText f ws).map f = sortT ((dictT f ws).map (·.1)) := by
  unfold byText
  rw [List.map_map]
  refine (List.map_congr_left fun t ht => ?_).trans (List.map_id _)
  have ht2 : t ∈ (dictT f ws).map (·.1) := (List.mergeSort_perm _ _).mem_iff.mp ht
  obtain ⟨w, hw⟩ := ddGet_mem ht2
  show f ((ddGet (dictT f ws) t).getD .none) = id t
  rw [hw]
  exact (dictT_key f ws hw).1
theorem byText_nodup (f : PyData → Str) (ws : List PyData) : (byText f ws).Nodup := by
  have h : ((byText f ws).map f).Nodup := by
    rw [byText_keys]
    exact (List.mergeSort_perm _ _).nodup_iff.mpr (dict_nodup ws [] List.nodup_nil)
  rw [List.Nodup, List.pairwise_map] at h
  exact h.imp fun h e => h (by rw [e])
theorem byText_all {f : PyData → Str} {ws : List PyData} (inj : ∀ a ∈ ws, ∀ b ∈ ws, f a = f b → a = b) {w : PyData} (h : w ∈ ws) : w ∈ byText f ws := by
  have hk : f w ∈ (byText f ws).map f := by
    rw [byText_keys]
    exact (List.mergeSort_perm _ _).mem_iff.mpr ((dict_in ws []).mpr (.inr ⟨w, h, rfl⟩))
  obtain ⟨x, hx, e⟩ := List.mem_map.mp hk
  rw [← inj x (byText_mem hx) w h e]
  exact hx
theorem byText_asc (f : PyData → Str) (ws : List PyData) : (byText f ws).Pairwise fun a b => leS (f a) (f b) = true := by
  have h : ((byText f ws).map f).Pairwise fun a b => leS a b = true := by
    rw [byText_keys]
    exact List.pairwise_mergeSort leS_trans leS_total _
  rwa [List.pairwise_map] at h
end FF
/-! words_of and the law's twins -/
namespace FF
open PySem PySem.Spec PyProof.Rows L2
theorem yes_ {σ : L2.St} {H : Hp} {A : Bool → Hp → Prop} (h : A true H) : tYes σ H A := h
/-- the words of a dict in the order of its keys -/
theorem order_lc {K : PySem.W.Frag} {σ : L2.St} {H1 : Hp} {D p1 : Addr} {vsl : List Nat} {jv dv : Nat} {kvs : List (Key × V)} {dd : DD} {ys : List Str} {Qd : VK} (hkv : H1 D = some (.dK kvs)) (hr : DRel K H1 kvs dd) (hp1 : H1 p1 = some (.lst (ys.map V.str))) (hy : ∀ y ∈ ys, y ∈ dd.map (·.1)) (hz : ys.length ≤ sizeLine)
    (hw : ∀ x, wipe ((wipe σ vsl).set jv (some x)) vsl = wipe σ vsl) (h1 : ∀ x, ((wipe σ vsl).set jv (some x))[dv]? = some (some (.ref D))) (h2 : ∀ x, ((wipe σ vsl).set jv (some x))[jv]? = some (some x))
    (done : ∀ H2 p rs, Same H1 H2 → H1 p = none → H2 p = some (.lst rs) → TpAll K H2 rs (ys.map fun t => (ddGet dd t).getD .none) → Qd (.ref p) H2) :
    ∀ D2, H1 D2 = none → ∃ W : Nat → Nat → Hp → Prop, (∃ m, W 0 m (upd H1 D2 (.lst []))) ∧ ∀ i m H, W i m H →
      ((Itl K p1).stop i H ∧ Qd (.ref D2) H) ∨ ((Itl K p1).go i H ∧ ∃ Nx : Hp → Prop, (∀ H', Nx H' → ∃ m', m' < m ∧ W (i + 1) m' H') ∧ ∀ x H', (Itl K p1).yld i H x H' → gName jv x (wipe σ vsl) H' fun σ2 H2 => wipe σ2 vsl = wipe σ vsl ∧ tYes σ2 H2 fun b H3 =>
        if b = true then tDGet (tVar dv) (tVar jv) σ2 H3 fun y H4 => ∃ acc, H4 D2 = some (.lst acc) ∧ acc.length < sizeLine ∧ Nx (upd H4 D2 (.lst (acc ++ [y]))) else Nx H3) := by
  intro D2 hD2
  refine lc_mapL (fun i y H' => ∃ t, ys[i]? = some t ∧ Tp K H' y ((ddGet dd t).getD .none)) (fun i y H H' e ⟨t, a, b⟩ => ⟨t, a, b.up e⟩) hD2 (SqL.of hp1) (by rw [List.length_map]; exact hz) hw ?_ ?_
  · intro i x H2 hx e Q' k'
    rw [List.getElem?_map] at hx
    cases hy2 : ys[i]? with
    | none =>
      rw [hy2] at hx
      cases hx
    | some t =>
    rw [hy2] at hx
    have hx : V.str t = x := Option.some.inj hx
    subst hx
    obtain ⟨d, hd⟩ := ddGet_mem (hy t (List.mem_of_getElem? hy2))
    obtain ⟨v, hv1, hv2⟩ := hr.get hd
    refine ⟨_, h1 _, _, h2 _, D, v, rfl, ?_, k' v H2 (Same.refl H2) ⟨t, hy2, by rw [hd]; exact hv2.up (Same.T e)⟩⟩
    rw [← hv1]
    exact DGet.k (k := Sum.inr t) (e _ _ hkv)
  · intro H2 zs e h3 h4 h5
    refine done H2 D2 zs e hD2 h3 (TpAll.of_get (by rw [List.length_map, h4, List.length_map]) fun i v d hi hd => ?_)
    obtain ⟨t, h6, h7⟩ := h5 i v hi
    rw [List.getElem?_map, h6] at hd
    cases hd
    exact h7
section
variable {P : Program} {w : World} {K : PySem.W.Frag} {mg : Str → Option Value} {base : Heap}
end
end FF
/-! free lattices: the order of terms by rules, least forms (plain) -/
namespace FF
open PySem PySem.Spec PyProof.Rows L2
def opS : Bool → Str
  | true => "|"
  | false => "&"
def opW (s : Bool) (ps : List PyData) : PyData := .tuple (.str (opS s) :: ps)
theorem opS_inj {s t : Bool} (h : opS s = opS t) : s = t := by
  cases s <;> cases t <;> first | rfl | exact absurd h (by decide +kernel)
theorem opW_inj {s t : Bool} {ps qs : List PyData} (h : opW s ps = opW t qs) : s = t ∧ ps = qs := by
  unfold opW at h
  simp only [PyData.tuple.injEq, List.cons.injEq, PyData.str.injEq] at h
  exact ⟨opS_inj h.1, h.2⟩
/-- below, by rules -/
inductive LE : PyData → PyData → Prop
  | refl (a : PyData) : LE a a
  | jl {l r : PyData} {ps : List PyData} : l = opW true ps → (∀ p ∈ ps, LE p r) → LE l r
  | mr {l r : PyData} {qs : List PyData} : r = opW false qs → (∀ q ∈ qs, LE l q) → LE l r
  | jr {l r q : PyData} {qs : List PyData} : r = opW true qs → q ∈ qs → LE l q → LE l r
  | ml {l r p : PyData} {ps : List PyData} : l = opW false ps → p ∈ ps → LE p r → LE l r
theorem jl_inv {l r : PyData} (h : LE l r) : ∀ {ps : List PyData}, l = opW true ps → ∀ p ∈ ps, LE p r := by
  induction h with
  | refl a => exact fun e p hp => .jr e hp (.refl p)
  | jl e h _ =>
    intro ps e2 p hp
    obtain ⟨_, rfl⟩ := opW_inj (e.symm.trans e2)
    exact h p hp
  | mr e h ih => exact fun e2 p hp => .mr e fun q hq => ih q hq e2 p hp
  | jr e hq h ih => exact fun e2 p hp => .jr e hq (ih e2 p hp)
  | ml e _ _ _ => exact fun e2 p hp => absurd (opW_inj (e.symm.trans e2)).1 (by decide)
theorem mr_inv {l r : PyData} (h : LE l r) : ∀ {qs : List PyData}, r = opW false qs → ∀ q ∈ qs, LE l q := by
  induction h with
  | refl a => exact fun e p hp => .ml e hp (.refl p)
  | jl e h ih => exact fun e2 q hq => .jl e fun p hp => ih p hp e2 q hq
  | mr e h _ =>
    intro ps e2 p hp
    obtain ⟨_, rfl⟩ := opW_inj (e.symm.trans e2)
    exact h p hp
  | jr e _ _ _ => exact fun e2 p hp => absurd (opW_inj (e.symm.trans e2)).1 (by decide)
  | ml e hp h ih => exact fun e2 q hq => .ml e hp (ih e2 q hq)
theorem LE.trans {a b : PyData} (h : LE a b) : ∀ {c : PyData}, LE b c → LE a c := by
  induction h with
  | refl a => exact fun h => h
  | jl e _ ih => exact fun h => .jl e fun p hp => ih p hp h
  | @mr l r qs e h ih =>
    intro c hc
    have key : ∀ {x y : PyData}, LE x y → x = opW false qs → LE l y := fun {x y} hxy => by
      induction hxy with
      | refl x => exact fun e2 => .mr e2 h
      | jl e3 _ _ => exact fun e2 => absurd (opW_inj (e3.symm.trans e2)).1 (by decide)
      | mr e3 _ ih3 => exact fun e2 => .mr e3 fun q hq => ih3 q hq e2
      | jr e3 hq _ ih3 => exact fun e2 => .jr e3 hq (ih3 e2)
      | @ml x y p ps e3 hp h3 _ =>
        intro e2
        obtain ⟨_, rfl⟩ := opW_inj (e3.symm.trans e2)
        exact ih p hp h3
    exact key hc e
  | jr e hq _ ih => exact fun h => ih (jl_inv h e _ hq)
  | ml e hp _ ih => exact fun h => .ml e hp (ih h)
/-! ### both ways at once -/
/-- s: below; not s: above -/
def LS (s : Bool) (a b : PyData) : Prop := match s with
  | true => LE a b
  | false => LE b a
theorem LS.refl {s : Bool} (a : PyData) : LS s a a := by cases s <;> exact LE.refl a
theorem LS.trans {s : Bool} {a b c : PyData} (h : LS s a b) (k : LS s b c) : LS s a c := by
  cases s with
  | true => exact LE.trans h k
  | false => exact LE.trans k h
theorem ls_not {s : Bool} {a b : PyData} : LS (!s) a b ↔ LS s b a := by cases s <;> exact Iff.rfl
theorem ls_all {s : Bool} {ps : List PyData} {r : PyData} (h : ∀ p ∈ ps, LS s p r) : LS s (opW s ps) r := by
  cases s with
  | true => exact LE.jl rfl h
  | false => exact LE.mr rfl h
theorem ls_any {s : Bool} {qs : List PyData} {l q : PyData} (hq : q ∈ qs) (h : LS s l q) : LS s l (opW s qs) := by
  cases s with
  | true => exact LE.jr rfl hq h
  | false => exact LE.ml rfl hq h
theorem ls_inv {s : Bool} {ps : List PyData} {r : PyData} (h : LS s (opW s ps) r) : ∀ p ∈ ps, LS s p r := by
  cases s with
  | true => exact jl_inv h rfl
  | false => exact mr_inv h rfl
theorem ls_part {s : Bool} {ps : List PyData} {p : PyData} (hp : p ∈ ps) : LS s p (opW s ps) := ls_any hp (LS.refl p)
/-- Whitman: what is below a join and is no join of the same kind -/
theorem ls_whit {s : Bool} {l : PyData} {qs : List PyData} (h : LS s l (opW s qs)) (hl : hdS l ≠ opS s) : (∃ q ∈ qs, LS s l q) ∨ ∃ ps, l = opW (!s) ps ∧ ∃ p ∈ ps, LS s p (opW s qs) := by
  cases s with
  | true =>
    generalize e : opW true qs = r at h
    have h : LE l r := h
    cases h with
    | refl => exact absurd (by rw [← e] <;> rfl) hl
    | jl e2 _ => exact absurd (by rw [e2] <;> rfl) hl
    | mr e2 _ => exact absurd (opW_inj (e.trans e2)).1 (by decide)
    | jr e2 hq h =>
      obtain ⟨_, rfl⟩ := opW_inj (e.trans e2)
      exact .inl ⟨_, hq, h⟩
    | ml e2 hp h => exact .inr ⟨_, e2, _, hp, h⟩
  | false =>
    generalize e : opW false qs = r at h
    have h : LE r l := h
    cases h with
    | refl => exact absurd (by rw [← e] <;> rfl) hl
    | mr e2 _ => exact absurd (by rw [e2] <;> rfl) hl
    | jl e2 _ => exact absurd (opW_inj (e.trans e2)).1 (by decide)
    | ml e2 hq h =>
      obtain ⟨_, rfl⟩ := opW_inj (e.trans e2)
      exact .inl ⟨_, hq, h⟩
    | jr e2 hp h => exact .inr ⟨_, e2, _, hp, h⟩
/-- letters -/
theorem le_let {x y : Str} (h : LE (.str x) (.str y)) : x = y := by
  generalize e : PyData.str x = l at h
  generalize e2 : PyData.str y = r at h
  cases h with
  | refl => exact PyData.str.inj (e.trans e2.symm)
  | jl e3 _ => cases e.trans e3
  | mr e3 _ => cases e2.trans e3
  | jr e3 _ _ => cases e2.trans e3
  | ml e3 _ _ => cases e.trans e3
/-- alike -/
def EQ (a b : PyData) : Prop := LE a b ∧ LE b a
theorem EQ.refl (a : PyData) : EQ a a := ⟨.refl a, .refl a⟩
theorem EQ.symm {a b : PyData} (h : EQ a b) : EQ b a := ⟨h.2, h.1⟩
theorem EQ.trans {a b c : PyData} (h : EQ a b) (k : EQ b c) : EQ a c := ⟨h.1.trans k.1, k.2.trans h.2⟩
theorem EQ.ls {s : Bool} {a b : PyData} (h : EQ a b) : LS s a b := by
  cases s with
  | true => exact h.1
  | false => exact h.2
theorem eq_of_ls {s : Bool} {a b : PyData} (h : LS s a b) (k : LS s b a) : EQ a b := by
  cases s with
  | true => exact ⟨h, k⟩
  | false => exact ⟨k, h⟩
/-- joins whose parts are dominated -/
theorem ls_dom {s : Bool} {ps qs : List PyData} (h : ∀ p ∈ ps, ∃ q ∈ qs, LS s p q) : LS s (opW s ps) (opW s qs) := ls_all fun p hp => let ⟨_, hq, k⟩ := h p hp; ls_any hq k
theorem eq_dom {s : Bool} {ps qs : List PyData} (h : ∀ p ∈ ps, ∃ q ∈ qs, LS s p q) (k : ∀ q ∈ qs, ∃ p ∈ ps, LS s q p) : EQ (opW s ps) (opW s qs) := eq_of_ls (ls_dom h) (ls_dom k)
theorem eq_one {s : Bool} {p : PyData} : EQ (opW s [p]) p := eq_of_ls (s := s) (ls_all fun q hq => by rw [List.mem_singleton.mp hq]; exact LS.refl p) (ls_part List.mem_cons_self)
/-- flattening -/
def flatW (s : Bool) (ps : List PyData) : List PyData := ps.flatMap fun p => if hdS p = opS s then tlD p else [p]
/-- these are terms: letters, or an operator and parts -/
def Shp (d : PyData) : Prop := (∃ z, d = .str z ∧ z ≠ opS true ∧ z ≠ opS false) ∨ ∃ s ps, d = opW s ps
theorem eq_flat {s : Bool} {ps : List PyData} (h : ∀ p ∈ ps, Shp p) : EQ (opW s (flatW s ps)) (opW s ps) := by
  have key : ∀ p ∈ ps, hdS p = opS s → p = opW s (tlD p) := fun p hp e => by
    rcases h p hp with ⟨z, rfl, h1, h2⟩ | ⟨t, qs, rfl⟩
    · have e : z = opS s := e
      cases s
      · exact absurd e h2
      · exact absurd e h1
    · rw [opS_inj (show opS t = opS s from e)] <;> rfl
  refine eq_of_ls (s := s) (ls_all fun x hx => ?_) (ls_all fun p hp => ?_)
  · obtain ⟨p, hp, hx⟩ := List.mem_flatMap.mp hx
    by_cases e : hdS p = opS s
    · rw [if_pos e] at hx
      refine ls_any hp ?_
      rw [key p hp e]
      exact ls_part hx
    · rw [if_neg e, List.mem_singleton] at hx
      subst hx
      exact ls_part hp
  · by_cases e : hdS p = opS s
    · rw [key p hp e]
      exact ls_all fun x hx => ls_part (List.mem_flatMap.mpr ⟨p, hp, by rw [if_pos e]; exact hx⟩)
    · exact ls_part (List.mem_flatMap.mpr ⟨p, hp, by rw [if_neg e]; exact List.mem_singleton.mpr rfl⟩)
/-! ### least forms -/
/-- what the parts of a least form keep among themselves -/
def Anti (s : Bool) (ps : List PyData) : Prop := ps.Pairwise fun p q => ¬ LS s p q ∧ ¬ LS s q p
inductive Lst : PyData → Prop
  | lett {d : PyData} {z : Str} : d = .str z → z ≠ opS true → z ≠ opS false → Lst d
  | op {d : PyData} (s : Bool) {ps : List PyData} : d = opW s ps → 2 ≤ ps.length → (∀ p ∈ ps, Lst p) → (∀ p ∈ ps, hdS p ≠ opS s) → Anti s ps → (∀ p ∈ ps, ∀ x ∈ tlD p, ¬ LS s x (opW s ps)) → (ps.Pairwise fun p q => leS (textD 5 p) (textD 5 q) = true) → Lst d
theorem Lst.shp {d : PyData} (h : Lst d) : Shp d := by
  cases h with
  | lett e h1 h2 => exact .inl ⟨_, e, h1, h2⟩
  | op s e => exact .inr ⟨s, _, e⟩
theorem anti_ne {s : Bool} : ∀ {ps : List PyData}, Anti s ps → ∀ {p q : PyData}, p ∈ ps → q ∈ ps → LS s p q → p = q
  | x :: r, h, p, q, hp, hq, hpq => by
    obtain ⟨h1, h2⟩ := List.pairwise_cons.mp h
    rcases List.mem_cons.mp hp with e1 | hp'
    · rcases List.mem_cons.mp hq with e2 | hq'
      · rw [e1, e2]
      · exact absurd (e1 ▸ hpq) (h1 q hq').1
    · rcases List.mem_cons.mp hq with e2 | hq'
      · exact absurd (e2 ▸ hpq) (h1 p hp').2
      · exact anti_ne h2 hp' hq' hpq
theorem anti_nd {s : Bool} {ps : List PyData} (h : Anti s ps) : ps.Nodup := h.imp fun k e => k.1 (by rw [e]; exact LS.refl _)
/-- two or more: nothing lies above all -/
theorem anti_top {s : Bool} {ps : List PyData} (h : Anti s ps) (h2 : 2 ≤ ps.length) {q : PyData} (hq : q ∈ ps) (k : ∀ p ∈ ps, LS s p q) : False := by
  match ps, h2 with
  | x :: y :: r, _ =>
    have e1 := anti_ne h List.mem_cons_self hq (k x List.mem_cons_self)
    have e2 := anti_ne h (List.mem_cons_of_mem _ List.mem_cons_self) hq (k y (List.mem_cons_of_mem _ List.mem_cons_self))
    exact (List.nodup_cons.mp (anti_nd h)).1 (by rw [e1, ← e2]; exact List.mem_cons_self)
theorem let_op_no {s : Bool} {x : Str} {bs : List PyData} (hx : x ≠ opS true ∧ x ≠ opS false) (ha : Anti s bs) (h2 : 2 ≤ bs.length) (h : EQ (.str x) (opW s bs)) : False := by
  have hs : hdS (.str x) ≠ opS s := by cases s; exact hx.2; exact hx.1
  rcases ls_whit (h.ls (s := s)) hs with ⟨q, hq, hk⟩ | ⟨ps, e, _⟩
  · exact anti_top ha h2 hq fun p hp => (ls_inv (h.symm.ls (s := s)) p hp).trans hk
  · cases e
theorem op_op_no {s : Bool} {as bs : List PyData} (ha : Anti s as) (h2 : 2 ≤ as.length) (hb : Anti (!s) bs) (h3 : 2 ≤ bs.length) (h : EQ (opW s as) (opW (!s) bs)) : False := by
  have hs : hdS (opW (!s) bs) ≠ opS s := fun e => by
    have := opS_inj (show opS (!s) = opS s from e)
    cases s <;> cases this
  rcases ls_whit (h.symm.ls (s := s)) hs with ⟨q, hq, hk⟩ | ⟨ps, e, p, hp, hk⟩
  · exact anti_top ha h2 hq fun p hp => (ls_inv (h.ls (s := s)) p hp).trans hk
  · obtain ⟨_, rfl⟩ := opW_inj e
    refine anti_top hb h3 hp fun x hx => ?_
    rw [ls_not]
    refine hk.trans ((h.ls (s := s)).trans ?_)
    exact ls_not.mp (ls_part (s := !s) hx)
theorem lst_uniq {G : PyData → Prop} (hG : ∀ {s : Bool} {ps : List PyData}, G (opW s ps) → ∀ p ∈ ps, G p) (inj : ∀ {x y : PyData}, G x → G y → textD 5 x = textD 5 y → x = y) {a : PyData} (h : Lst a) : ∀ {b : PyData}, Lst b → EQ a b → G a → G b → a = b := by
  induction h with
  | @lett a z ea h1 h2 =>
    intro b hb hab _ _
    subst ea
    cases hb with
    | lett eb _ _ =>
      subst eb
      rw [le_let hab.1]
    | op t eb k2 _ _ ka _ _ =>
      subst eb
      exact (let_op_no ⟨h1, h2⟩ ka k2 hab).elim
  | @op a s ps ea h2 hl hh ha hi ht ih =>
    intro b hb hab ga gb
    subst ea
    cases hb with
    | lett eb k1 k2 =>
      subst eb
      exact (let_op_no ⟨k1, k2⟩ ha h2 hab.symm).elim
    | @op _ t qs eb k2 kl kh ka ki kt =>
      subst eb
      by_cases hst : t = s
      · subst hst
        have one : ∀ p ∈ ps, ∃ q ∈ qs, LS t p q := fun p hp => by
          rcases ls_whit ((ls_part hp).trans (hab.ls (s := t))) (hh p hp) with h | ⟨rs, e, x, hx, hk⟩
          · exact h
          · exact absurd (hk.trans (hab.symm.ls (s := t))) (hi p hp x (by rw [e]; exact hx))
        have two : ∀ q ∈ qs, ∃ p ∈ ps, LS t q p := fun q hq => by
          rcases ls_whit ((ls_part hq).trans (hab.symm.ls (s := t))) (kh q hq) with h | ⟨rs, e, x, hx, hk⟩
          · exact h
          · exact absurd (hk.trans (hab.ls (s := t))) (ki q hq x (by rw [e]; exact hx))
        have sub1 : ∀ p ∈ ps, p ∈ qs := fun p hp => by
          obtain ⟨q, hq, hpq⟩ := one p hp
          obtain ⟨p', hp', hqp⟩ := two q hq
          obtain rfl := anti_ne ha hp hp' (hpq.trans hqp)
          rw [ih p hp (kl q hq) (eq_of_ls hpq hqp) (hG ga p hp) (hG gb q hq)]
          exact hq
        have sub2 : ∀ q ∈ qs, q ∈ ps := fun q hq => by
          obtain ⟨p, hp, hqp⟩ := two q hq
          obtain ⟨q', hq', hpq⟩ := one p hp
          obtain rfl := anti_ne ka hq hq' (hqp.trans hpq)
          rw [← ih p hp (kl q hq) (eq_of_ls hpq hqp) (hG ga p hp) (hG gb q hq)]
          exact hp
        have pm : ps.Perm qs := (List.perm_ext_iff_of_nodup (anti_nd ha) (anti_nd ka)).mpr fun x => ⟨sub1 x, sub2 x⟩
        rw [List.Perm.eq_of_pairwise (le := fun a b => leS (textD 5 a) (textD 5 b) = true) (fun a b h1 h2 h3 h4 => inj (hG ga a h1) (hG gb b h2) (leS_antisymm h3 h4)) ht kt pm]
      · have e : t = !s := by cases s <;> cases t <;> first | rfl | exact absurd rfl hst
        subst e
        exact (op_op_no ha h2 ka k2 hab).elim
end FF
/-! the computed order is the order by rules -/
namespace FF
open PySem PySem.Spec PyProof.Rows L2
theorem isOp_s {o : PyData} (h : isOp o = true) : ∃ s, o = .str (opS s) := by
  cases o with
  | str z =>
    have h : decide (z ∈ [("&" : Str), "|"]) = true ∨ True := .inr trivial
    by_cases h1 : z = ("|" : Str)
    · exact ⟨true, by rw [h1] <;> rfl⟩
    by_cases h2 : z = ("&" : Str)
    · exact ⟨false, by rw [h2] <;> rfl⟩
    rename_i h0
    exfalso
    unfold isOp at h0
    simp [h1, h2] at h0
  | _ => cases h
theorem opS_isOp (s : Bool) : isOp (.str (opS s)) = true := by cases s <;> decide +kernel
theorem let_noop {z : Str} (h : isLet (.str z) = true) : z ≠ opS true ∧ z ≠ opS false := let_hd h
theorem drawn_op {n : Nat} {d : PyData} (h : Drawn n d) : (∃ z, d = .str z ∧ isLet d = true) ∨ ∃ s ps k, d = opW s ps ∧ n = k + 1 ∧ 2 ≤ ps.length ∧ ps.length ≤ 24 ∧ ∀ p ∈ ps, Drawn k p := by
  rcases drawn_shape h with ⟨z, h1, h2⟩ | ⟨o, ps, k, rfl, ho, h2, h3, rfl, hp⟩
  · exact .inl ⟨z, h1, h2⟩
  · obtain ⟨s, e⟩ := isOp_s ho
    cases e
    exact .inr ⟨s, ps, k, rfl, rfl, h2, h3, hp⟩
theorem eqv_strL : ∀ {a : Str} {d : PyData}, PyData.eqv (.str a) d = true → d = .str a := by
  intro a d h
  cases d with
  | str b =>
    have : (a == b) = true := h
    rw [beq_iff_eq.mp this]
  | _ => cases h
theorem eqv_tup2 {xs ys : List PyData} : PyData.eqv (.tuple xs) (.tuple ys) = PyData.eqvAll xs ys := by rw [PyData.eqv]
theorem eqv_word : ∀ {n : Nat} {d : PyData}, Drawn n d → ∀ {m : Nat} {e : PyData}, Drawn m e → PyData.eqv d e = true → d = e
  | 0, d, h, m, e, _, q => by
    obtain ⟨c, rfl, _⟩ := let_shape h
    exact (eqv_strL q).symm
  | n + 1, d, h, m, e, he, q => by
    rcases drawn_op h with ⟨z, rfl, _⟩ | ⟨s, ps, k, rfl, ek, _, _, hp⟩
    · exact (eqv_strL q).symm
    · rcases drawn_op he with ⟨z, rfl, _⟩ | ⟨t, qs, j, rfl, _, _, _, hq⟩
      · exact absurd q (by unfold opW; rw [PyData.eqv]; decide)
      · have ek : n = k := by omega
        subst ek
        have q : PyData.eqvAll (.str (opS s) :: ps) (.str (opS t) :: qs) = true := eqv_tup2.symm.trans q
        rw [PyData.eqvAll, Bool.and_eq_true] at q
        have e1 := PyData.str.inj (eqv_strL q.1)
        have e2 : ∀ {ps qs : List PyData}, (∀ p ∈ ps, Drawn n p) → (∀ p ∈ qs, Drawn j p) → PyData.eqvAll ps qs = true → ps = qs := fun {ps} => by
          induction ps with
          | nil =>
            intro qs _ _ q
            cases qs with
            | nil => rfl
            | cons _ _ => rw [PyData.eqvAll] at q; cases q; done
          | cons p r ih =>
            intro qs h1 h2 q
            cases qs with
            | nil => rw [PyData.eqvAll] at q; cases q; done
            | cons y t =>
              rw [PyData.eqvAll, Bool.and_eq_true] at q
              rw [eqv_word (h1 p List.mem_cons_self) (h2 y List.mem_cons_self) q.1, ih (fun x hx => h1 x (List.mem_cons_of_mem _ hx)) (fun x hx => h2 x (List.mem_cons_of_mem _ hx)) q.2]
        rw [e2 hp hq q.2]
        unfold opW
        rw [e1]
theorem eqv_drawn {n : Nat} {d : PyData} (h : Drawn n d) (hn : n ≤ 9) : PyData.eqv d d = true := SeqAt.eqv_refl _ (SeqAt.canLay_of_shaped ((drawn_nice h).mono (show n ≤ 9 from hn)).shaped)
theorem leq_LE : ∀ (n : Nat) {a b : Nat} {l r : PyData}, Drawn a l → Drawn b r → leqD n l r = true → LE l r
  | 0, _, _, _, _, _, _, h => by cases h
  | n + 1, a, b, l, r, hl, hr, h => by
    have h : leqStep (leqD n) l r = true := h
    unfold leqStep at h
    rw [Bool.or_eq_true] at h
    rcases h with h | h
    · rw [eqv_word hl hr h]
      exact .refl r
    have dl := drawn_op hl
    have dr := drawn_op hr
    by_cases h1 : hdS l = "|"
    · rw [if_pos h1] at h
      rcases dl with ⟨z, rfl, hz⟩ | ⟨s, ps, k, rfl, _, _, _, hp⟩
      · exact absurd h1 (let_noop hz).1
      · obtain rfl : s = true := opS_inj h1
        exact .jl rfl fun p hpp => leq_LE n (hp p hpp) hr (List.all_eq_true.mp h p hpp)
    rw [if_neg h1] at h
    by_cases h2 : hdS r = "&"
    · rw [if_pos h2] at h
      rcases dr with ⟨z, rfl, hz⟩ | ⟨s, ps, k, rfl, _, _, _, hp⟩
      · exact absurd h2 (let_noop hz).2
      · obtain rfl : s = false := opS_inj h2
        exact .mr rfl fun p hpp => leq_LE n hl (hp p hpp) (List.all_eq_true.mp h p hpp)
    rw [if_neg h2, Bool.or_eq_true, Bool.and_eq_true, Bool.and_eq_true, decide_eq_true_eq, decide_eq_true_eq] at h
    rcases h with ⟨h3, h⟩ | ⟨h3, h⟩
    · rcases dr with ⟨z, rfl, hz⟩ | ⟨s, ps, k, rfl, _, _, _, hp⟩
      · exact absurd h3 (let_noop hz).1
      · obtain rfl : s = true := opS_inj h3
        obtain ⟨q, hq, h⟩ := List.any_eq_true.mp h
        exact .jr rfl hq (leq_LE n hl (hp q hq) h)
    · rcases dl with ⟨z, rfl, hz⟩ | ⟨s, ps, k, rfl, _, _, _, hp⟩
      · exact absurd h3 (let_noop hz).2
      · obtain rfl : s = false := opS_inj h3
        obtain ⟨q, hq, h⟩ := List.any_eq_true.mp h
        exact .ml rfl hq (leq_LE n (hp q hq) hr h)
theorem LE_leq : ∀ (n : Nat) {a b : Nat} {l r : PyData}, Drawn a l → Drawn b r → a ≤ 9 → a + b < n → LE l r → leqD n l r = true
  | 0, _, _, _, _, _, _, _, h, _ => by omega
  | n + 1, a, b, l, r, hl, hr, ha, hn, h => by
    show leqStep (leqD n) l r = true
    unfold leqStep
    rw [Bool.or_eq_true]
    by_cases h1 : hdS l = "|"
    · right
      rw [if_pos h1]
      rcases drawn_op hl with ⟨z, rfl, hz⟩ | ⟨s, ps, k, rfl, rfl, _, _, hp⟩
      · exact absurd h1 (let_noop hz).1
      · obtain rfl : s = true := opS_inj h1
        exact List.all_eq_true.mpr fun p hpp => LE_leq n (hp p hpp) hr (by omega) (by omega) (jl_inv h rfl p hpp)
    rw [if_neg h1]
    by_cases h2 : hdS r = "&"
    · right
      rw [if_pos h2]
      rcases drawn_op hr with ⟨z, rfl, hz⟩ | ⟨s, ps, k, rfl, rfl, _, _, hp⟩
      · exact absurd h2 (let_noop hz).2
      · obtain rfl : s = false := opS_inj h2
        exact List.all_eq_true.mpr fun p hpp => LE_leq n hl (hp p hpp) ha (by omega) (mr_inv h rfl p hpp)
    rw [if_neg h2, Bool.or_eq_true, Bool.and_eq_true, Bool.and_eq_true, decide_eq_true_eq, decide_eq_true_eq]
    cases h with
    | refl => exact .inl (eqv_drawn hl ha)
    | jl e _ => exact absurd (by rw [e] <;> rfl) h1
    | mr e _ => exact absurd (by rw [e] <;> rfl) h2
    | @jr _ _ q qs e hq h =>
      subst e
      rcases drawn_op hr with ⟨z, e, hz⟩ | ⟨s, ps, k, e, rfl, _, _, hp⟩
      · cases e
      · obtain ⟨_, rfl⟩ := opW_inj e
        exact .inr (.inl ⟨rfl, List.any_eq_true.mpr ⟨q, hq, LE_leq n hl (hp q hq) ha (by omega) h⟩⟩)
    | @ml _ _ p ps e hp h =>
      subst e
      rcases drawn_op hl with ⟨z, e, hz⟩ | ⟨s, qs, k, e, rfl, _, _, hq⟩
      · cases e
      · obtain ⟨_, rfl⟩ := opW_inj e
        exact .inr (.inr ⟨rfl, List.any_eq_true.mpr ⟨p, hp, LE_leq n (hq p hp) hr (by omega) (by omega) h⟩⟩)
theorem leq_iff {l r : PyData} (hl : Drawn 4 l) (hr : Drawn 4 r) : leq l r = true ↔ LE l r := ⟨leq_LE 9 hl hr, LE_leq 9 hl hr (by decide) (by decide)⟩
end FF
/-! least forms: faces, flattened, thinned, shortened -/
namespace FF
open PySem PySem.Spec PyProof.Rows L2
def facesB (s : Bool) (l r : PyData) : Bool := match s with
  | true => leq l r
  | false => leq r l
theorem faces_iff {s : Bool} {l r : PyData} (hl : Drawn 4 l) (hr : Drawn 4 r) : facesB s l r = true ↔ LS s l r := by
  cases s with
  | true => exact leq_iff hl hr
  | false => exact leq_iff hr hl
/-- words that below_in may be asked for -/
def Askd (d : PyData) : Prop := Drawn 4 d ∧ lvs d ≤ 47
def spFaces (K : PySem.W.Frag) : Sp := fun vs H Q _ => ∃ (s : Bool) (lv rv : V) (l r : PyData), vs = [.str (opS s), lv, rv] ∧ Tp K H lv l ∧ Tp K H rv r ∧ Askd l ∧ Askd r ∧ ∀ H', Same H H' → Q (.bl (facesB s l r)) H'
def spFlat (K : PySem.W.Frag) : Sp := fun vs H Q _ => ∃ (s : Bool) (a : Addr) (us : List V) (ps : List PyData), vs = [.str (opS s), .ref a] ∧ SqL K H a us ∧ TpAll K H us ps ∧ (∀ p ∈ ps, Drawn 4 p) ∧ ps.length ≤ 24 ∧
  ∀ r vs' H', Same H H' → H r = none → H' r = some (.lst vs') → TpAll K H' vs' (flatW s ps) → Q (.ref r) H'
def ThinD (s : Bool) (ps qs : List PyData) : Prop := qs.Sublist ps ∧ Anti s qs ∧ ∀ p ∈ ps, ∃ q ∈ qs, LS s p q
def spThin (K : PySem.W.Frag) : Sp := fun vs H Q _ => ∃ (s : Bool) (a : Addr) (us : List V) (ps : List PyData), vs = [.str (opS s), .ref a] ∧ SqL K H a us ∧ TpAll K H us ps ∧ (∀ p ∈ ps, Askd p) ∧ ps.length ≤ 600 ∧
  ∀ r vs' qs H', Same H H' → H r = none → H' r = some (.lst vs') → TpAll K H' vs' qs → ThinD s ps qs → Q (.ref r) H'
def ShortD (s : Bool) (ps qs : List PyData) : Prop := ∃ i p x, ps[i]? = some p ∧ x ∈ tlD p ∧ LS s x (opW s ps) ∧ qs = ps.take i ++ x :: ps.drop (i + 1)
def spShort (K : PySem.W.Frag) : Sp := fun vs H Q _ => ∃ (s : Bool) (a : Addr) (us : List V) (ps : List PyData), vs = [.str (opS s), .ref a] ∧ SqL K H a us ∧ TpAll K H us ps ∧ 2 ≤ ps.length ∧ Askd (opW s ps) ∧
  (∀ H', Same H H' → (∀ p ∈ ps, ∀ x ∈ tlD p, ¬ LS s x (opW s ps)) → Q .non H') ∧ ∀ r vs' qs H', Same H H' → H' r = some (.lst vs') → TpAll K H' vs' qs → ShortD s ps qs → Q (.ref r) H'
theorem askd_part {s : Bool} {ps : List PyData} {p : PyData} (h : Askd (opW s ps)) (hp : p ∈ ps) : Askd p := by
  obtain ⟨h1, h2⟩ := h
  rcases drawn_op h1 with ⟨z, e, _⟩ | ⟨t, qs, k, e, hk, _, _, hq⟩
  · cases e
  · obtain ⟨_, rfl⟩ := opW_inj e
    refine ⟨drawn_mono (hq p hp) (by omega), ?_⟩
    have e : lvs (opW s ps) = 1 + lvsAll ps := by unfold opW; rw [lvs]
    have key : ∀ l : List PyData, p ∈ l → lvs p ≤ lvsAll l := fun l => by
      induction l with
      | nil => exact fun h => by cases h
      | cons y r ih =>
        intro h
        rw [lvsAll]
        rcases List.mem_cons.mp h with rfl | h
        · omega
        · have := ih h
          omega
    have := key ps hp
    omega
theorem askd_tl {d x : PyData} (h : Askd d) (hx : x ∈ tlD d) : Askd x := by
  rcases drawn_op h.1 with ⟨z, rfl, _⟩ | ⟨t, qs, k, rfl, _⟩
  · cases hx
  · exact askd_part h hx
/-- the tail of a word, as a slice -/
theorem word_tl {K : PySem.W.Frag} {H : Hp} {v : V} {d : PyData} {n : Nat} (ht : Tp K H v d) (hd : Drawn n d) : (∃ z, v = .str z ∧ d = .str z ∧ isLet d = true) ∨ ∃ (a : Addr) (o : Str) (vr : List V), v = .ref a ∧ SqT K H a (.str o :: vr) ∧ TpAll K H vr (tlD d) ∧ o = hdS d ∧ isLet d = false := by
  rcases drawn_op hd with ⟨z, rfl, hz⟩ | ⟨s, ps, k, rfl, _⟩
  · cases ht
    exact .inl ⟨z, rfl, rfl, hz⟩
  · unfold opW at ht
    cases ht with
    | @tup a xs _ hta htx =>
    cases htx with
    | @cons vo vr _ _ ho htx =>
    cases ho
    exact .inr ⟨a, _, vr, rfl, hta.sqT, htx, rfl, rfl⟩
theorem thin_in {s : Bool} {ps found : List PyData} {i : Nat} {p : PyData} (hp : ps[i]? = some p) (hA : ∀ p ∈ ps, Askd p) (h1 : found.Sublist (ps.take i)) (h2 : Anti s found) (h3 : ∀ f ∈ found, ∀ l ∈ ps.drop i, ¬ LS s f l) (h4 : ∀ q ∈ ps.take i, ∃ f ∈ found ++ ps.drop i, LS s q f) :
    ((found ++ ps.drop (i + 1)).any (facesB s p) = true → found.Sublist (ps.take (i + 1)) ∧ (∀ f ∈ found, ∀ l ∈ ps.drop (i + 1), ¬ LS s f l) ∧ ∀ q ∈ ps.take (i + 1), ∃ f ∈ found ++ ps.drop (i + 1), LS s q f) ∧
    ((found ++ ps.drop (i + 1)).any (facesB s p) = false → (found ++ [p]).Sublist (ps.take (i + 1)) ∧ Anti s (found ++ [p]) ∧ (∀ f ∈ found ++ [p], ∀ l ∈ ps.drop (i + 1), ¬ LS s f l) ∧ ∀ q ∈ ps.take (i + 1), ∃ f ∈ (found ++ [p]) ++ ps.drop (i + 1), LS s q f) := by
  have hd : ps.drop i = p :: ps.drop (i + 1) := by
    have hi := (List.getElem?_eq_some_iff.mp hp).1
    rw [List.drop_eq_getElem_cons hi]
    rw [show ps[i] = p from Option.some.inj ((List.getElem?_eq_getElem hi).symm.trans hp)]
  have ht : ps.take (i + 1) = ps.take i ++ [p] := by
    rw [List.take_add_one, hp] <;> rfl
  have hpm : p ∈ ps := List.mem_of_getElem? hp
  have hfm : ∀ f ∈ found, f ∈ ps := fun f hf => List.mem_of_mem_take (h1.subset hf)
  rw [hd] at h3 h4
  refine ⟨fun hb => ⟨?_, fun f hf l hl => h3 f hf l (List.mem_cons_of_mem _ hl), ?_⟩, fun hb => ⟨?_, ?_, ?_, ?_⟩⟩
  · rw [ht]
    exact h1.trans (List.sublist_append_left _ _)
  · obtain ⟨o, ho, hf⟩ := List.any_eq_true.mp hb
    have hom : o ∈ ps := by
      rcases List.mem_append.mp ho with h | h
      · exact hfm o h
      · exact List.mem_of_mem_drop h
    have hpo : LS s p o := (faces_iff (hA p hpm).1 (hA o hom).1).mp hf
    intro q hq
    rw [ht] at hq
    rcases List.mem_append.mp hq with hq | hq
    · obtain ⟨f, hf, hqf⟩ := h4 q hq
      rcases List.mem_append.mp hf with hf | hf
      · exact ⟨f, List.mem_append_left _ hf, hqf⟩
      · rcases List.mem_cons.mp hf with rfl | hf
        · exact ⟨o, ho, hqf.trans hpo⟩
        · exact ⟨f, List.mem_append_right _ hf, hqf⟩
    · rw [List.mem_singleton.mp hq]
      exact ⟨o, ho, hpo⟩
  · rw [ht]
    exact h1.append (List.Sublist.refl _)
  · refine List.pairwise_append.mpr ⟨h2, List.pairwise_singleton _ _, fun f hf q hq => ?_⟩
    rw [List.mem_singleton.mp hq]
    refine ⟨h3 f hf p List.mem_cons_self, fun k => ?_⟩
    have := List.any_eq_false.mp hb f (List.mem_append_left _ hf)
    exact this ((faces_iff (hA p hpm).1 (hA f (hfm f hf)).1).mpr k)
  · intro f hf l hl
    rcases List.mem_append.mp hf with hf | hf
    · exact h3 f hf l (List.mem_cons_of_mem _ hl)
    · rw [List.mem_singleton.mp hf]
      intro k
      have := List.any_eq_false.mp hb l (List.mem_append_right _ hl)
      exact this ((faces_iff (hA p hpm).1 (hA l (List.mem_of_mem_drop hl)).1).mpr k)
  · intro q hq
    rw [ht] at hq
    rcases List.mem_append.mp hq with hq | hq
    · obtain ⟨f, hf, hqf⟩ := h4 q hq
      refine ⟨f, ?_, hqf⟩
      rcases List.mem_append.mp hf with hf | hf
      · exact List.mem_append_left _ (List.mem_append_left _ hf)
      · rcases List.mem_cons.mp hf with rfl | hf
        · exact List.mem_append_left _ (List.mem_append_right _ List.mem_cons_self)
        · exact List.mem_append_right _ hf
    · rw [List.mem_singleton.mp hq]
      exact ⟨p, List.mem_append_left _ (List.mem_append_right _ List.mem_cons_self), LS.refl p⟩
section
variable {P : Program} {w : World} {K : PySem.W.Frag} {mg : Str → Option Value} {base : Heap}
theorem ok_faces {f : Addr} {fd : FuncData} (F : FunD K "faces" "faces" (defArgs s_faces) (defBody s_faces) (defScope s_faces) [] [] f fd) (hm : mg "faces" = some (.ref f)) (T : Top K mg)
    (D_below_in : Def P w K mg base "below_in" 24 ["left", "right"] (spBelowIn K)) : Def P w K mg base "faces" 25 ["operator", "one", "other"] (spFaces K) := by
  refine def_mk F hm (F.bindsN fun _ _ _ _ _ _ us hl => match us, hl with | [_, _, _], _ => rfl) sc_faces (fun vs H Q E h => ?_) (fun cdv A outer s H vs Q E hr h => ?_)
  · obtain ⟨s, lv, rv, l, r, rfl, _⟩ := h
    rfl
  obtain ⟨s, lv, rv, l, r, rfl, hl, hr', ha, hb, q⟩ := h
  refine ⟨_, (pss_one (ps_ret (pe_ifExp (pt_cmpR op_eq (pv 0) pe_str (nomark _)) (pe_def D_below_in hr (by first | decide | omega) (pa_cons (pv 1) (pa_cons (pv 2) pa_nil))) (pe_def D_below_in hr (by first | decide | omega) (pa_cons (pv 2) (pa_cons (pv 1) pa_nil)))))), ?_⟩
  cases s with
  | true => exact ⟨_, rfl, rfl, _, rfl, iteT ⟨_, rfl, _, rfl, lv, rv, l, r, rfl, hl, hr', ha.1, hb.1, ha.2, hb.2, q⟩⟩
  | false => exact ⟨_, rfl, rfl, _, rfl, iteF ⟨_, rfl, _, rfl, rv, lv, r, l, rfl, hr', hl, hb.1, ha.1, hb.2, ha.2, q⟩⟩
end
end FF
/-! least forms: flattened, thinned -/
namespace FF
open PySem PySem.Spec PyProof.Rows L2
theorem flatW_take {s : Bool} {ps : List PyData} {i : Nat} {p : PyData} (h : ps[i]? = some p) : flatW s (ps.take (i + 1)) = flatW s (ps.take i) ++ (if hdS p = opS s then tlD p else [p]) := by
  unfold flatW
  rw [List.take_add_one, h, List.flatMap_append]
  show _ ++ List.flatMap _ [p] = _
  rw [List.flatMap_cons, List.flatMap_nil, List.append_nil]
theorem tl_len {n : Nat} {d : PyData} (h : Drawn n d) : (tlD d).length ≤ 24 := by
  rcases drawn_op h with ⟨z, rfl, _⟩ | ⟨s, ps, k, rfl, _, _, h24, _⟩
  · exact Nat.zero_le _
  · exact h24
theorem flatW_len {s : Bool} : ∀ {ps : List PyData}, (∀ p ∈ ps, Drawn 4 p) → (flatW s ps).length ≤ ps.length * 24
  | [], _ => Nat.zero_le _
  | p :: r, h => by
    have ih := flatW_len (s := s) (ps := r) fun q hq => h q (List.mem_cons_of_mem _ hq)
    have h1 := tl_len (h p List.mem_cons_self)
    show (flatW s ([p] ++ r)).length ≤ _
    unfold flatW at ih ⊢
    rw [List.flatMap_append, List.length_append, List.flatMap_cons, List.flatMap_nil, List.append_nil, List.length_cons]
    by_cases hs : hdS p = opS s
    · rw [if_pos hs]
      omega
    · rw [if_neg hs, List.length_singleton]
      omega
section
variable {P : Program} {w : World} {K : PySem.W.Frag} {mg : Str → Option Value} {base : Heap}
theorem ok_flattened {f : Addr} {fd : FuncData} (F : FunD K "flattened" "flattened" (defArgs s_flattened) (defBody s_flattened) (defScope s_flattened) [] [] f fd) (hm : mg "flattened" = some (.ref f)) (T : Top K mg) : Def P w K mg base "flattened" 1 ["operator", "parts"] (spFlat K) := by
  refine def_mk F hm (F.bindsN fun _ _ _ _ _ _ us hl => match us, hl with | [_, _], _ => rfl) sc_flattened (fun vs H Q E h => ?_) (fun cdv A outer s0 H vs Q E hr h => ?_)
  · obtain ⟨s, a, us, ps, rfl, _⟩ := h
    rfl
  obtain ⟨s, a, us, ps, rfl, ha, hu, hdr, hl24, q⟩ := h
  refine ⟨_, (pss_cons (ps_set (i := 2) sc_flattened.nd rfl (Or.inl rfl) (pe_lst pa_nil))
  (pss_cons (ps_for PassesOwn.never rfl (pi_listK K (pv 1)) (pg_name (i := 3) sc_flattened.nd rfl (Or.inl rfl) (.inl rfl))
  (pss_one (ps_expr (pe_bmK K PySem.F.plainAttrs_list PySem.F.slot_list_extend PySem.F.type_list_extend mt_extendS (pv 2) (pa_cons (pe_ifExp (pt_cmpR op_eq (pe_ix (ix_wordK K) (pv 3) pe_int (fun _ _ => rfl)) (pv 0) (nomark _)) (pe_slice (sl_wordK K) (pv 3) (po_some pe_int) po_none) (pe_lst (pa_cons (pv 3) pa_nil))) pa_nil)))))
  (pss_one (ps_ret (pv 2))))), ?_⟩
  refine ⟨(by show 0 ≤ sizeLine; decide), fun p0 hp0 => ?_⟩
  have e0 := same_new hp0 (.lst [])
  have hul := hu.len
  refine ⟨_, rfl, a, rfl, ⟨_, up_l e0 ha⟩, ?_⟩
  refine for_list (xs := us) (fun i σ H' => ∃ fs o3, σ = [some (.str (opS s)), some (.ref a), some (.ref p0), o3] ∧ Same H H' ∧ H' p0 = some (.lst fs) ∧ TpAll K H' fs (flatW s (ps.take i))) ⟨[], none, rfl, e0, upd_same, .nil⟩ (fun i σ H' _ ⟨_, _, _, e, _⟩ => up_l e ha) ?_ ?_
  · rintro i x σ H1 hx ⟨fs, o3, rfl, e, hf, hfs⟩
    obtain ⟨d, hd1, hd2⟩ := (hu.up (Same.T e)).get hx
    have hdd := hdr d (List.mem_of_getElem? hd1)
    have htk := flatW_take (s := s) hd1
    have hfl := hfs.len
    have hfb : (flatW s (ps.take i)).length ≤ 576 := by
      have := flatW_len (s := s) (ps := ps.take i) fun p hp => hdr p (List.mem_of_mem_take hp)
      rw [List.length_take] at this
      omega
    have htl := tl_len hdd
    refine ⟨_, rfl, .inl ⟨rfl, _, SqL.of hf⟩, _, rfl, word_hd hd2 hdd _ ⟨_, rfl, rfl, _, rfl, ?_⟩⟩
    refine if_dec (fun h => ?_) (fun h => ?_)
    · have h := V.str.inj h
      rw [if_pos h] at htk
      rcases word_tl hd2 hdd with ⟨z, rfl, rfl, hz⟩ | ⟨ta, o, vr, rfl, hta, hvr, ho, _⟩
      · exact absurd h (by cases s; exact (let_noop hz).2; exact (let_noop hz).1)
      refine ⟨_, rfl, _, rfl, .inl ⟨ta, _, rfl, hta, notWhole1, fun p hp => ?_⟩⟩
      rw [cut1]
      have e1 := same_new hp (.tup vr)
      have hvl := hvr.len
      refine .inr ⟨p0, p, fs, vr, rfl, rfl, e1 _ _ hf, upd_same, le_line (by omega), ?_⟩
      have eB : SameB p0 H1 (upd (upd H1 p (.tup vr)) p0 (.lst (fs ++ vr))) := (sameB_of e1).trans' sameB_upd
      have eT : SameT H1 (upd (upd H1 p (.tup vr)) p0 (.lst (fs ++ vr))) := (Same.T e1).trans ((SameT.refl _).updL (e1 _ _ hf))
      refine ⟨fs ++ vr, _, rfl, fun b u hb => eB _ _ (ne_of_none hb hp0) (e _ _ hb), upd_same, ?_⟩
      rw [htk]
      exact TpAll.app (hfs.up eT) (hvr.up eT)
    · have h : ¬ hdS d = opS s := fun z => h (by rw [z])
      rw [if_neg h] at htk
      refine ⟨_, rfl, (by show 1 ≤ sizeLine; decide), fun p hp => ?_⟩
      have e1 := same_new hp (.lst [x])
      refine .inl ⟨p0, p, fs, [x], rfl, rfl, e1 _ _ hf, upd_same, le_line (by simp; omega), ?_⟩
      have eB : SameB p0 H1 (upd (upd H1 p (.lst [x])) p0 (.lst (fs ++ [x]))) := (sameB_of e1).trans' sameB_upd
      have eT : SameT H1 (upd (upd H1 p (.lst [x])) p0 (.lst (fs ++ [x]))) := (Same.T e1).trans ((SameT.refl _).updL (e1 _ _ hf))
      refine ⟨fs ++ [x], _, rfl, fun b u hb => eB _ _ (ne_of_none hb hp0) (e _ _ hb), upd_same, ?_⟩
      rw [htk]
      exact TpAll.app (hfs.up eT) (.cons (hd2.up eT) .nil)
  · rintro σ H1 ⟨fs, o3, rfl, e, hf, hfs⟩
    rw [hul, List.take_length] at hfs
    exact ⟨_, rfl, q p0 fs H1 e hp0 hf hfs⟩
end
end FF
/-! least forms: thinned, shortened -/
namespace FF
open PySem PySem.Spec PyProof.Rows L2
section
variable {K : PySem.W.Frag} {a : Addr} {xs : List V} {g : TG} {tb : TS} {D : Ends} {σ : L2.St} {H : Hp}
theorem for_enumE {Hb : Hp} (h : SqL K Hb a xs) (eb : Same Hb H) (Pv : Nat → L2.St → Hp → Prop) (h0 : Pv 0 σ H) (hG : ∀ i σ H', i ≤ xs.length → Pv i σ H' → Same Hb H')
    (hs : ∀ i x σ H1 t, xs[i]? = some x → Pv i σ H1 → H1 t = none → g (.ref t) σ (upd H1 t (.tup [.int (i : Nat), x])) fun σ2 H2 => tb { D with nx := Pv (i + 1), ct := Pv (i + 1), bk := D.nx } σ2 H2) (hd : ∀ σ H, Pv xs.length σ H → D.nx σ H) :
    ∃ a' xs', [V.ref a] = [.ref a'] ∧ SqL K H a' xs' ∧ ForR (Ite K a') g tb D σ H :=
  ⟨a, xs, rfl, up_l eb h, for_it (walkE_same h) Pv h0 hG (fun i x σ H1 H2 hi hp ⟨t, x1, y1, e1, n, e2, e3, e4⟩ => by
    cases e3
    subst e1 e2
    exact hs i y1 σ H1 t e4 hp n) hd⟩
theorem cut_from {xs : List V} (n : Nat) (h : n ≤ xs.length) : cutV xs (some (n : Int)) none = xs.drop n := by
  unfold cutV
  rw [HT.sIx_nat, HT.sIx_none, Nat.min_eq_left h, List.take_of_length_le (by rw [List.length_drop]; omega)]
theorem tpa_drop {K : PySem.W.Frag} {H : Hp} : ∀ {us : List V} {ds : List PyData} (n : Nat), TpAll K H us ds → TpAll K H (us.drop n) (ds.drop n)
  | _, _, 0, h => h
  | _, _, n + 1, .nil => .nil
  | _, _, n + 1, .cons _ h => tpa_drop n h
end
section
variable {P : Program} {w : World} {K : PySem.W.Frag} {mg : Str → Option Value} {base : Heap}
theorem ok_thinned {f : Addr} {fd : FuncData} (F : FunD K "thinned" "thinned" (defArgs s_thinned) (defBody s_thinned) (defScope s_thinned) [] [] f fd) (hm : mg "thinned" = some (.ref f)) (T : Top K mg)
    (D_faces : Def P w K mg base "faces" 25 ["operator", "one", "other"] (spFaces K)) : Def P w K mg base "thinned" 26 ["operator", "parts"] (spThin K) := by
  refine def_mk F hm (F.bindsN fun _ _ _ _ _ _ us hl => match us, hl with | [_, _], _ => rfl) sc_thinned (fun vs H Q E h => ?_) (fun cdv A outer s0 H vs Q E hr h => ?_)
  · obtain ⟨s, a, us, ps, rfl, _⟩ := h
    rfl
  obtain ⟨s, a, us, ps, rfl, ha, hu, hA, hl6, q⟩ := h
  refine ⟨_, (pss_cons (ps_set (i := 2) sc_thinned.nd rfl (Or.inl rfl) (pe_lst pa_nil))
  (pss_cons (ps_for PassesOwn.never rfl (pi_enumK K (by rfl) T.b_enumerate (pa_cons (pv 1) pa_nil)) (pg_tupK K (n := 2) rfl (pgs_cons (pg_name (i := 3) sc_thinned.nd rfl (Or.inl rfl) (.inl rfl)) (pgs_cons (pg_name (i := 4) sc_thinned.nd rfl (Or.inr rfl) (.inl rfl)) pgs_nil)))
  (pss_cons (ps_set (i := 5) sc_thinned.nd rfl (Or.inl rfl) (pe_slice (sl_listK K) (pv 1) (po_some (pe_op op_add (pv 3) pe_int)) po_none))
  (pss_one (ps_if (pt_not (pt_val (pe_callB (cr_anyK K rfl) (by rfl) T.b_any (by decide +kernel) (pa_cons (pe_lc (own := [("other", 6)]) rfl sc_thinned.nd (pi_listK K (pe_op op_cat (pv 2) (pv 5))) (blkOk_by (by kernel_rfl)) (fun _ _ _ _ _ => (pg_name (i := 6) sc_thinned.nd rfl (Or.inl rfl) (.inr rfl))) (fun _ _ _ _ _ => pts_nil) (fun _ _ _ _ _ => (pe_def D_faces hr (by first | decide | omega) (pa_cons (pv 0) (pa_cons (pv 4) (pa_cons (pv 6) pa_nil)))))) pa_nil))))
  (pss_one (ps_expr (pe_bmK K PySem.F.plainAttrs_list PySem.F.slot_list_append PySem.F.type_list_append mt_append (pv 2) (pa_cons (pv 4) pa_nil))))
  pss_nil))))
  (pss_one (ps_ret (pv 2))))), ?_⟩
  refine ⟨(by show 0 ≤ sizeLine; decide), fun p0 hp0 => ?_⟩
  have e0 := same_new hp0 (.lst [])
  have hul := hu.len
  have ha0 := up_l e0 ha
  have hd0 : (upd H p0 (.lst [])) p0 = some (.lst []) := upd_same
  have hn0 : ∀ {b : Addr} {u : HO}, H b = some u → b ≠ p0 := fun hb => ne_of_none hb hp0
  generalize upd H p0 (.lst []) = H0 at e0 ha0 hd0 ⊢
  refine ⟨_, rfl, for_enumE ha e0 (fun i σ H' => ∃ fs found o3 o4 o5, σ = [some (.str (opS s)), some (.ref a), some (.ref p0), o3, o4, o5, none] ∧ Same H H' ∧ H' p0 = some (.lst fs) ∧ TpAll K H' fs found ∧ found.Sublist (ps.take i) ∧ Anti s found ∧ (∀ f ∈ found, ∀ l ∈ ps.drop i, ¬ LS s f l) ∧ ∀ q ∈ ps.take i, ∃ f ∈ found ++ ps.drop i, LS s q f)
    ⟨[], [], none, none, none, rfl, e0, hd0, .nil, List.nil_sublist _, .nil, fun f hf => by (cases hf), fun q hq => by (rw [List.take_zero] at hq; cases hq)⟩ (fun i σ H' _ ⟨_, _, _, _, _, _, e, _⟩ => e) ?_ ?_⟩
  · rintro i x σ H1 t hx ⟨fs, found, o3, o4, o5, rfl, e, hf, hfs, i1, i2, i3, i4⟩ ht
    have hi := (List.getElem?_eq_some_iff.mp hx).1
    obtain ⟨p, hp, _⟩ := hu.get hx
    have hpm := List.mem_of_getElem? hp
    obtain ⟨hyes, hno⟩ := thin_in hp hA i1 i2 i3 i4
    have hfl := hfs.len
    have hf6 : found.length ≤ 600 := by
      have := i1.length_le
      rw [List.length_take] at this
      omega
    have e1 := same_new ht (.tup [.int (i : Nat), x])
    refine ⟨t, [.int (i : Nat), x], rfl, SqT.of upd_same, rfl, _, _, rfl, _, _, rfl, rfl, ?_⟩
    refine ⟨_, rfl, _, rfl, _, _, rfl, rfl, _, rfl, a, us, rfl, up_l (e.trans e1) ha, fun p1 hp1 => ?_⟩
    have hcut : cutV us (some ((i : Nat) + 1 : Int)) none = us.drop (i + 1) := by
      have := cut_from (xs := us) (i + 1) (by omega)
      rw [← this] <;> rfl
    rw [hcut]
    have e2 := e1.trans (same_new hp1 (.lst (us.drop (i + 1))))
    have hf2 := e2 _ _ hf
    have hfs2 := hfs.up (Same.T e2)
    have hu2 := hu.up (Same.T (e.trans e2))
    have hp12 : (upd (upd H1 t (.tup [.int (i : Nat), x])) p1 (.lst (us.drop (i + 1)))) p1 = some (.lst (us.drop (i + 1))) := upd_same
    generalize upd (upd H1 t (.tup [.int (i : Nat), x])) p1 (.lst (us.drop (i + 1))) = H2 at e2 hf2 hfs2 hu2 hp12 ⊢
    have e02 := e.trans e2
    clear e1 hp1 ht hf hfs e e2
    refine ⟨_, rfl, _, rfl, p0, p1, fs, us.drop (i + 1), rfl, rfl, hf2, hp12, le_line (by rw [List.length_drop]; omega), fun p2 hp2 => ⟨p2, rfl, ⟨_, SqL.of upd_same⟩, fun D hD => ?_⟩⟩
    have e3 := same_new hp2 (.lst (fs ++ us.drop (i + 1)))
    have hall : TpAll K (upd H2 p2 (.lst (fs ++ us.drop (i + 1)))) (fs ++ us.drop (i + 1)) (found ++ ps.drop (i + 1)) := (hfs2.app (tpa_drop (i + 1) hu2)).up (Same.T e3)
    have hx3 : Tp K (upd H2 p2 (.lst (fs ++ us.drop (i + 1)))) x p := by
      obtain ⟨p', hp', hxp⟩ := (hu2.up (Same.T e3)).get hx
      cases hp'.symm.trans hp
      exact hxp
    have hask : ∀ d ∈ found ++ ps.drop (i + 1), Askd d := fun d hd => by
      rcases List.mem_append.mp hd with hd | hd
      · exact hA d (List.mem_of_mem_take (i1.subset hd))
      · exact hA d (List.mem_of_mem_drop hd)
    refine lc_mapL (j := 6) (fun k y _ => ∃ d, (found ++ ps.drop (i + 1))[k]? = some d ∧ y = .bl (facesB s p d)) (fun _ _ _ _ _ h => h) hD (SqL.of upd_same) (le_line (by rw [List.length_append, List.length_drop]; omega)) (fun _ => rfl) ?_ ?_
    · intro k y H3 hy e4 Q' k'
      obtain ⟨d, hd1, hd2⟩ := hall.get hy
      exact ⟨_, rfl, _, rfl, _, rfl, s, x, y, p, d, rfl, hx3.up (Same.T e4), hd2.up (Same.T e4), hA p hpm, hask d (List.mem_of_getElem? hd1), fun H4 e5 => k' _ _ e5 ⟨d, hd1, rfl⟩⟩
    intro H3 ys e4 hD3 hl3 hy3
    have hys : ys = ((found ++ ps.drop (i + 1)).map (facesB s p)).map V.bl := by
      rw [List.map_map]
      exact eq_map_of (hl3.trans hall.len) fun k y h => hy3 k y h
    subst hys
    refine ⟨D, _, rfl, SqL.of hD3, ?_⟩
    rw [any_id]
    have e23 := e3.trans e4
    have hf3 := e23 _ _ hf2
    refine ⟨_, rfl, if_nb (fun hb => ?_) (fun hb => ?_)⟩
    · obtain ⟨j1, j2, j3, j4⟩ := hno hb
      refine ⟨_, rfl, .inl ⟨rfl, _, SqL.of hf3⟩, _, rfl, p0, fs, x, rfl, rfl, hf3, lt_line (by omega), ?_⟩
      have eB : SameB p0 H2 (upd H3 p0 (.lst (fs ++ [x]))) := (sameB_of e23).trans' sameB_upd
      have eT : SameT H2 (upd H3 p0 (.lst (fs ++ [x]))) := (Same.T e23).trans ((SameT.refl _).updL hf3)
      obtain ⟨p', hp', hxp⟩ := (hu2.up eT).get hx
      cases hp'.symm.trans hp
      exact ⟨fs ++ [x], found ++ [p], _, _, _, rfl, fun b u hb => eB _ _ (hn0 hb) (e02 _ _ hb), upd_same, TpAll.app (hfs2.up eT) (.cons hxp .nil), j1, j2, j3, j4⟩
    · obtain ⟨j1, j3, j4⟩ := hyes hb
      exact ⟨fs, found, _, _, _, rfl, e02.trans e23, hf3, hfs2.up (Same.T e23), j1, i2, j3, j4⟩
  · rintro σ H1 ⟨fs, found, o3, o4, o5, rfl, e, hf, hfs, i1, i2, i3, i4⟩
    rw [hul, List.take_length] at i1 i4
    rw [List.drop_length, List.append_nil] at i4
    exact ⟨_, rfl, q p0 fs found H1 e hp0 hf hfs ⟨i1, i2, i4⟩⟩
end
end FF
/-! least forms: shortened -/
namespace FF
open PySem PySem.Spec PyProof.Rows L2
theorem tpa_take {K : PySem.W.Frag} {H : Hp} : ∀ {us : List V} {ds : List PyData} (n : Nat), TpAll K H us ds → TpAll K H (us.take n) (ds.take n)
  | _, _, 0, _ => .nil
  | _, _, n + 1, .nil => .nil
  | _, _, n + 1, .cons h t => .cons h (tpa_take n t)
section
variable {P : Program} {w : World} {K : PySem.W.Frag} {mg : Str → Option Value} {base : Heap}
theorem ok_shortened {f : Addr} {fd : FuncData} (F : FunD K "shortened" "shortened" (defArgs s_shortened) (defBody s_shortened) (defScope s_shortened) [] [] f fd) (hm : mg "shortened" = some (.ref f)) (T : Top K mg)
    (D_faces : Def P w K mg base "faces" 25 ["operator", "one", "other"] (spFaces K)) : Def P w K mg base "shortened" 26 ["operator", "parts"] (spShort K) := by
  refine def_mk F hm (F.bindsN fun _ _ _ _ _ _ us hl => match us, hl with | [_, _], _ => rfl) sc_shortened (fun vs H Q E h => ?_) (fun cdv A outer s0 H vs Q E hr h => ?_)
  · obtain ⟨s, a, us, ps, rfl, _⟩ := h
    rfl
  obtain ⟨s, a, us, ps, rfl, ha, hu, h2, hA, q0, q1⟩ := h
  have hul := hu.len
  have hu24 : us.length ≤ 24 := by
    rcases drawn_op hA.1 with ⟨z, e, _⟩ | ⟨s', qs, k, e, _, _, h24, _⟩
    · cases e
    · obtain ⟨_, rfl⟩ := opW_inj e
      omega
  refine ⟨_, (pss_cons (ps_set (i := 2) sc_shortened.nd rfl (Or.inl rfl) (pe_ifExp (pt_cmpR op_gt (pe_callB (call_lenK K) (by rfl) T.b_len (by decide +kernel) (pa_cons (pv 1) pa_nil)) pe_int (nomark _)) (pe_tup (pa_cons (pv 0) (StX.pa_star (pv 1) pa_nil))) (pe_ix (ix_listK K) (pv 1) pe_int (fun _ _ => rfl))))
  (pss_cons (ps_for PassesOwn.never rfl (pi_enumK K (by rfl) T.b_enumerate (pa_cons (pv 1) pa_nil)) (pg_tupK K (n := 2) rfl (pgs_cons (pg_name (i := 3) sc_shortened.nd rfl (Or.inl rfl) (.inl rfl)) (pgs_cons (pg_name (i := 4) sc_shortened.nd rfl (Or.inl rfl) (.inl rfl)) pgs_nil)))
  (pss_one (ps_for PassesOwn.never rfl (pi_wordK K (pe_slice (sl_wordK K) (pv 4) (po_some pe_int) po_none)) (pg_name (i := 5) sc_shortened.nd rfl (Or.inl rfl) (.inl rfl))
  (pss_one (ps_if (pt_val (pe_def D_faces hr (by first | decide | omega) (pa_cons (pv 0) (pa_cons (pv 5) (pa_cons (pv 2) pa_nil)))))
  (pss_one (ps_ret (pe_lst (StX.pa_star (pe_slice (sl_listK K) (pv 1) po_none (po_some (pv 3))) (pa_cons (pv 5) (StX.pa_star (pe_slice (sl_listK K) (pv 1) (po_some (pe_op op_add (pv 3) pe_int)) po_none) pa_nil))))))
  pss_nil)))))
  (pss_one (ps_ret pe_non)))), ?_⟩
  refine ⟨_, rfl, _, us.length, rfl, .inl ⟨us, ha, rfl⟩, _, _, rfl, rfl, _, rfl, if_dec (fun _ => ?_) (fun h => absurd (by omega) h)⟩
  refine ⟨_, rfl, _, rfl, a, us, rfl, .inr ha, (by
    refine le_line ?_
    simp
    omega), fun t ht => ?_⟩
  rw [List.append_nil]
  have e0 := same_new ht (.tup (.str (opS s) :: us))
  have hwt : Tp K (upd H t (.tup (.str (opS s) :: us))) (.ref t) (opW s ps) := .tup (.inl upd_same) (.cons (.str _) (hu.up (Same.T e0)))
  generalize upd H t (.tup (.str (opS s) :: us)) = H0 at e0 hwt ⊢
  refine ⟨_, rfl, for_enumE ha e0 (fun i σ H' => ∃ o3 o4 o5, σ = [some (.str (opS s)), some (.ref a), some (.ref t), o3, o4, o5] ∧ Same H0 H' ∧ ∀ p ∈ ps.take i, ∀ x ∈ tlD p, ¬ LS s x (opW s ps))
    ⟨none, none, none, rfl, Same.refl _, fun p hp => by (rw [List.take_zero] at hp; cases hp)⟩ (fun i σ H' _ ⟨_, _, _, _, e, _⟩ => e0.trans e) ?_ ?_⟩
  · rintro i x σ H1 t1 hx ⟨o3, o4, o5, rfl, e, hn⟩ ht1
    have hi := (List.getElem?_eq_some_iff.mp hx).1
    have e1 := same_new ht1 (.tup [.int (i : Nat), x])
    refine ⟨t1, [.int (i : Nat), x], rfl, SqT.of upd_same, rfl, _, _, rfl, _, _, rfl, rfl, ?_⟩
    generalize upd H1 t1 (.tup [.int (i : Nat), x]) = H2 at e1 ⊢
    have e2 := e.trans e1
    have e02 := e0.trans e2
    obtain ⟨p, hp, hxp⟩ := (hu.up (Same.T e02)).get hx
    have hpm := List.mem_of_getElem? hp
    have hpA := askd_part hA hpm
    have htk : ps.take (i + 1) = ps.take i ++ [p] := by
      rw [List.take_add_one, hp] <;> rfl
    rcases word_tl hxp hpA.1 with ⟨z, rfl, rfl, hz⟩ | ⟨ta, o, vr, rfl, hta, hvr, ho, _⟩
    · obtain ⟨c, ec, _⟩ := let_shape hz
      cases ec
      refine .inr ⟨_, rfl, _, rfl, .inr ⟨_, rfl, (show 1 ≤ sizeLine by decide), ⟨#[]⟩, rfl, ?_⟩⟩
      refine ⟨fun j m σ H' => j = 0 ∧ σ = [some (.str (opS s)), some (.ref a), some (.ref t), some (.int (i : Nat)), some (.str ⟨#[c]⟩), o5] ∧ H' = H2, ⟨0, rfl, rfl, rfl⟩, ?_⟩
      rintro j m σ H' ⟨rfl, rfl, rfl⟩
      refine .inl ⟨Nat.le_refl _, _, _, _, rfl, e2, fun p' hp' => ?_⟩
      rw [htk] at hp'
      rcases List.mem_append.mp hp' with h | h
      · exact hn p' h
      · rw [List.mem_singleton.mp h]
        exact fun y hy => by cases hy
    · refine .inl ⟨_, rfl, _, rfl, .inl ⟨ta, _, rfl, hta, notWhole1, fun p1 hp1 => ⟨p1, rfl, ⟨_, SqT.of upd_same⟩, ?_⟩⟩⟩
      rw [cut1]
      have e3 := same_new hp1 (.tup vr)
      have hvl := hvr.len
      refine for_tup (xs := vr) (fun j σ H' => ∃ o5, σ = [some (.str (opS s)), some (.ref a), some (.ref t), some (.int (i : Nat)), some (.ref ta), o5] ∧ Same (upd H2 p1 (.tup vr)) H' ∧ ∀ y ∈ (tlD p).take j, ¬ LS s y (opW s ps)) ⟨_, rfl, Same.refl _, fun y hy => by (rw [List.take_zero] at hy; cases hy)⟩ (fun j σ H' _ ⟨_, _, e, _⟩ => SqT.of (e _ _ upd_same)) ?_ ?_
      · rintro j y σ H3 hy ⟨o5, rfl, e4, hn2⟩
        have e24 := e3.trans e4
        obtain ⟨d, hd, hyd⟩ := (hvr.up (Same.T e24)).get hy
        have hdm := List.mem_of_getElem? hd
        refine ⟨_, rfl, _, rfl, _, rfl, s, y, .ref t, d, opW s ps, rfl, hyd, hwt.up (Same.T (e2.trans e24)), askd_tl hpA hdm, hA, fun H4 e5 => ⟨_, rfl, if_b (fun hb => ?_) (fun hb => ?_)⟩⟩
        · have hls := (faces_iff (askd_tl hpA hdm).1 hA.1).mp hb
          have e6 := e24.trans e5
          have ha4 := up_l (e02.trans e6) ha
          refine ⟨_, rfl, _, rfl, _, rfl, a, us, rfl, ha4, fun q1' hq1 => ⟨q1', _, rfl, .inr (SqL.of upd_same), _, rfl, _, rfl, _, rfl, _, _, rfl, rfl, _, rfl, a, us, rfl, up_l (same_new hq1 _) ha4, fun q2' hq2 => ⟨q2', _, rfl, .inr (SqL.of upd_same), ?_, fun r hr' => ?_⟩⟩⟩
          · have h1 := cutV_length us none (some (i : Int))
            have h2 := cutV_length us (some ((i : Int) + 1)) none
            refine le_line ?_
            rw [List.length_append, List.length_cons, List.append_nil]
            omega
          · have hc1 : cutV us none (some (i : Int)) = us.take i := by
              rw [cut_front (by omega), Int.toNat_natCast]
            have hc2 : cutV us (some ((i : Int) + 1)) none = us.drop (i + 1) := by
              have := cut_from (xs := us) (i + 1) (by omega)
              rw [← this] <;> rfl
            have e7 := (same_new hq1 (.lst (cutV us none (some (i : Int))))).trans ((same_new hq2 (.lst (cutV us (some ((i : Int) + 1)) none))).trans (same_new hr' (.lst (cutV us none (some (i : Int)) ++ y :: (cutV us (some ((i : Int) + 1)) none ++ [])))))
            have e8 := e02.trans (e6.trans e7)
            refine q1 r _ (ps.take i ++ d :: ps.drop (i + 1)) _ e8 upd_same ?_ ⟨i, p, d, hp, hdm, hls, rfl⟩
            rw [hc1, hc2, List.append_nil] at e8 ⊢
            rw [hc1, hc2, List.append_nil] at e7
            have hu8 := hu.up (Same.T e8)
            exact TpAll.app (tpa_take i hu8) (.cons (hyd.up (Same.T (e5.trans e7))) (tpa_drop (i + 1) hu8))
        · refine ⟨_, rfl, e4.trans e5, fun y' hy' => ?_⟩
          rw [List.take_add_one, hd] at hy'
          rcases List.mem_append.mp hy' with h | h
          · exact hn2 y' h
          · rw [List.mem_singleton.mp h]
            intro k
            rw [(faces_iff (askd_tl hpA hdm).1 hA.1).mpr k] at hb
            cases hb
      · rintro σ H3 ⟨o5, rfl, e4, hn2⟩
        rw [hvl, List.take_length] at hn2
        refine ⟨_, _, _, rfl, e2.trans (e3.trans e4), fun p' hp' => ?_⟩
        rw [htk] at hp'
        rcases List.mem_append.mp hp' with h | h
        · exact hn p' h
        · rw [List.mem_singleton.mp h]
          exact hn2
  · rintro σ H1 ⟨o3, o4, o5, rfl, e, hn⟩
    rw [hul, List.take_length] at hn
    exact q0 H1 (e0.trans e) hn
end
end FF
/-! least forms: the parts, plain -/
namespace FF
open PySem PySem.Spec PyProof.Rows L2
theorem meas_tup {o : PyData} {ps : List PyData} {k : Nat} (hk : 0 < k) (ho : isOp o = true) (h2 : 2 ≤ ps.length) (hn : ∀ p ∈ ps, 1 ≤ meas k p) : meas (k + 1) (.tuple (o :: ps)) = (ps.map (meas k)).sum := by
  rw [meas_up tup_let hk]
  have h0 : (0 : Int) ∉ ps.map (meas k) := fun z => by
    obtain ⟨p, hp, e⟩ := List.mem_map.mp z
    have := hn p hp
    omega
  match ps, h2, h0 with
  | y :: z :: r, _, h0 =>
    show (if isOp o = true then (if (0 : Int) ∈ ((y :: z :: r).map (meas k)) then 0 else ((y :: z :: r).map (meas k)).sum) else 0) = _
    rw [if_pos ho, if_neg h0]
theorem meas_fuel : ∀ {n : Nat} {d : PyData}, Drawn n d → ∀ {m k : Nat}, n < m → n < k → meas m d = meas k d
  | 0, d, h, m, k, hm, hk => by rw [meas_let (show isLet d = true from h), meas_let (show isLet d = true from h), if_pos (by omega), if_pos (by omega)]
  | n + 1, d, h, m, k, hm, hk => by
    rcases h with h | ⟨o, ps, rfl, ho, h2, h4, hp⟩
    · rw [meas_let h, meas_let h, if_pos (by omega), if_pos (by omega)]
    obtain ⟨m, rfl⟩ : ∃ j, m = j + 1 := ⟨m - 1, by omega⟩
    obtain ⟨k, rfl⟩ : ∃ j, k = j + 1 := ⟨k - 1, by omega⟩
    rw [meas_tup (by omega) ho h2 fun p hpp => (meas_drawn (hp p hpp) m (by omega)).1, meas_tup (by omega) ho h2 fun p hpp => (meas_drawn (hp p hpp) k (by omega)).1]
    exact congrArg List.sum (List.map_congr_left fun p hpp => meas_fuel (hp p hpp) (by omega) (by omega))
def SumL (ps : List PyData) : Int := (ps.map (meas 5)).sum
theorem lea_op {s : Bool} {k : Nat} {ps : List PyData} (hp : ∀ p ∈ ps, Drawn k p) (hk : k ≤ 3) (h2 : 2 ≤ ps.length) : meas 5 (opW s ps) = SumL ps := by
  unfold opW SumL
  rw [meas_tup (by decide) (opS_isOp s) h2 fun p hpp => (meas_drawn (hp p hpp) 4 (by omega)).1]
  exact congrArg List.sum (List.map_congr_left fun p hpp => meas_fuel (hp p hpp) (by omega) (by omega))
theorem sumL_cons (p : PyData) (r : List PyData) : SumL (p :: r) = meas 5 p + SumL r := by
  unfold SumL
  rw [List.map_cons, List.sum_cons]
theorem sumL_app : ∀ (a b : List PyData), SumL (a ++ b) = SumL a + SumL b
  | [], b => by show SumL b = SumL [] + SumL b; simp [SumL]
  | p :: r, b => by rw [List.cons_append, sumL_cons, sumL_cons, sumL_app r b]; omega
theorem sumL_pos : ∀ {ps : List PyData} {k : Nat}, (∀ p ∈ ps, Drawn k p) → k ≤ 4 → (ps.length : Int) ≤ SumL ps
  | [], _, _, _ => by simp [SumL]
  | p :: r, k, h, hk => by
    have h1 := (meas_drawn (h p List.mem_cons_self) 5 (by omega)).1
    have h2 := sumL_pos (ps := r) (fun q hq => h q (List.mem_cons_of_mem _ hq)) hk
    rw [sumL_cons, List.length_cons]
    push_cast
    omega
theorem sumL_mem {k : Nat} : ∀ {ps : List PyData} {p : PyData}, (∀ p ∈ ps, Drawn k p) → k ≤ 4 → p ∈ ps → meas 5 p ≤ SumL ps
  | x :: r, p, h, hk, hp => by
    have h1 := (meas_drawn (h x List.mem_cons_self) 5 (by omega)).1
    have h2 := sumL_pos (ps := r) (fun q hq => h q (List.mem_cons_of_mem _ hq)) hk
    rw [sumL_cons]
    rcases List.mem_cons.mp hp with rfl | hp
    · omega
    · have := sumL_mem (ps := r) (fun q hq => h q (List.mem_cons_of_mem _ hq)) hk hp
      omega
theorem sumL_sub {k : Nat} (hk : k ≤ 4) : ∀ {qs ps : List PyData}, qs.Sublist ps → (∀ p ∈ ps, Drawn k p) → SumL qs ≤ SumL ps := by
  intro qs ps h
  induction h with
  | slnil => exact fun _ => Int.le_refl _
  | cons a _ ih =>
    intro h
    have h1 := (meas_drawn (h a List.mem_cons_self) 5 (by omega)).1
    have := ih fun q hq => h q (List.mem_cons_of_mem _ hq)
    rw [sumL_cons]
    omega
  | cons_cons a _ ih =>
    intro h
    have := ih fun q hq => h q (List.mem_cons_of_mem _ hq)
    rw [sumL_cons, sumL_cons]
    omega
theorem drawn_tl {k : Nat} {d : PyData} (h : Drawn k d) : ∀ x ∈ tlD d, Drawn k x := fun x hx => by
  rcases drawn_op h with ⟨z, rfl, _⟩ | ⟨s, ps, j, rfl, rfl, _, _, hp⟩
  · cases hx
  · exact drawn_mono (hp x hx) (by omega)
theorem sumL_tl {k : Nat} {d : PyData} {s : Bool} (h : Drawn k d) (hk : k ≤ 4) (hd : hdS d = opS s) : SumL (tlD d) = meas 5 d := by
  rcases drawn_op h with ⟨z, rfl, hz⟩ | ⟨t, ps, j, rfl, rfl, h2, _, hp⟩
  · exact absurd hd (by cases s; exact (let_noop hz).2; exact (let_noop hz).1)
  · exact (lea_op hp (by omega) h2).symm
theorem sumL_flat {s : Bool} {k : Nat} (hk : k ≤ 4) : ∀ {ps : List PyData}, (∀ p ∈ ps, Drawn k p) → SumL (flatW s ps) = SumL ps
  | [], _ => rfl
  | p :: r, h => by
    have e : flatW s (p :: r) = (if hdS p = opS s then tlD p else [p]) ++ flatW s r := by
      unfold flatW
      rw [List.flatMap_cons]
    rw [e, sumL_app, sumL_flat hk fun q hq => h q (List.mem_cons_of_mem _ hq), sumL_cons]
    by_cases hs : hdS p = opS s
    · rw [if_pos hs, sumL_tl (h p List.mem_cons_self) hk hs]
    · rw [if_neg hs, sumL_cons]
      simp [SumL]
theorem lea_tl {k : Nat} {d x : PyData} (h : Drawn k d) (hk : k ≤ 4) (hx : x ∈ tlD d) : meas 5 x < meas 5 d := by
  rcases drawn_op h with ⟨z, rfl, hz⟩ | ⟨t, ps, j, rfl, rfl, h2, _, hp⟩
  · cases hx
  · rw [lea_op hp (by omega) h2]
    have hx : x ∈ ps := hx
    obtain ⟨a, b, e⟩ := List.append_of_mem hx
    have h1 := sumL_pos (ps := a) (k := j) (fun q hq => hp q (by rw [e]; exact List.mem_append_left _ hq)) (by omega)
    have h3 := sumL_pos (ps := b) (k := j) (fun q hq => hp q (by rw [e]; exact List.mem_append_right _ (List.mem_cons_of_mem _ hq))) (by omega)
    rw [e, List.length_append, List.length_cons] at h2
    rw [e, sumL_app, sumL_cons]
    omega
theorem lst_tl {p : PyData} (h : Lst p) : (∀ x ∈ tlD p, Lst x) ∧ ∀ {s : Bool}, hdS p = opS s → ∀ x ∈ tlD p, hdS x ≠ opS s := by
  cases h with
  | lett e _ _ =>
    subst e
    exact ⟨fun x hx => (by cases hx), fun {s} _ x hx => (by cases hx)⟩
  | op t e _ hl hh _ _ _ =>
    subst e
    exact ⟨hl, fun e x hx => by rw [← e]; exact hh x hx⟩
structure RawOk (s : Bool) (k : Nat) (d : PyData) (M : Int) (rs : List PyData) : Prop where
  ne : rs ≠ []
  lst : ∀ q ∈ rs, Lst q
  dr : ∀ q ∈ rs, Drawn k q
  eq : EQ (opW s rs) d
  sum : SumL rs ≤ M
structure PartsOk (s : Bool) (k : Nat) (d : PyData) (M : Int) (qs : List PyData) : Prop where
  raw : RawOk s k d M qs
  hd : ∀ q ∈ qs, hdS q ≠ opS s
  anti : Anti s qs
theorem raw_flat {s : Bool} {k : Nat} {d : PyData} {M : Int} {rs : List PyData} (h : RawOk s k d M rs) (hk : k ≤ 4) : RawOk s k d M (flatW s rs) ∧ ∀ q ∈ flatW s rs, hdS q ≠ opS s := by
  have mem : ∀ q ∈ flatW s rs, (q ∈ rs ∧ hdS q ≠ opS s) ∨ ∃ p ∈ rs, hdS p = opS s ∧ q ∈ tlD p := fun q hq => by
    obtain ⟨p, hp, hq⟩ := List.mem_flatMap.mp hq
    by_cases e : hdS p = opS s
    · rw [if_pos e] at hq
      exact .inr ⟨p, hp, e, hq⟩
    · rw [if_neg e] at hq
      rw [List.mem_singleton.mp hq]
      exact .inl ⟨hp, e⟩
  refine ⟨⟨fun e => ?_, fun q hq => ?_, fun q hq => ?_, (eq_flat fun p hp => (h.lst p hp).shp).trans h.eq, by rw [sumL_flat hk h.dr]; exact h.sum⟩, fun q hq => ?_⟩
  · have h1 := sumL_flat (s := s) hk h.dr
    rw [e] at h1
    have h2 := sumL_pos h.dr hk
    obtain ⟨p, r, e2⟩ := List.exists_cons_of_ne_nil h.ne
    rw [e2, List.length_cons] at h2
    have h3 : SumL [] = 0 := rfl
    rw [e2] at h1
    omega
  · rcases mem q hq with ⟨h1, _⟩ | ⟨p, hp, _, hq⟩
    · exact h.lst q h1
    · exact (lst_tl (h.lst p hp)).1 q hq
  · rcases mem q hq with ⟨h1, _⟩ | ⟨p, hp, _, hq⟩
    · exact h.dr q h1
    · exact drawn_tl (h.dr p hp) q hq
  · rcases mem q hq with ⟨_, h1⟩ | ⟨p, hp, e, hq⟩
    · exact h1
    · exact (lst_tl (h.lst p hp)).2 e q hq
theorem raw_thin {s : Bool} {k : Nat} {d : PyData} {M : Int} {rs qs : List PyData} (h : RawOk s k d M rs) (hk : k ≤ 4) (hh : ∀ q ∈ rs, hdS q ≠ opS s) (ht : ThinD s rs qs) : PartsOk s k d M qs := by
  obtain ⟨h1, h2, h3⟩ := ht
  refine ⟨⟨fun e => ?_, fun q hq => h.lst q (h1.subset hq), fun q hq => h.dr q (h1.subset hq), ?_, Int.le_trans (sumL_sub hk h1 h.dr) h.sum⟩, fun q hq => hh q (h1.subset hq), h2⟩
  · obtain ⟨p, r, e2⟩ := List.exists_cons_of_ne_nil h.ne
    obtain ⟨q, hq, _⟩ := h3 p (by rw [e2]; exact List.mem_cons_self)
    rw [e] at hq
    cases hq
  · exact (eq_dom (s := s) (fun q hq => ⟨q, h1.subset hq, LS.refl q⟩) h3).trans h.eq
theorem parts_short {s : Bool} {k : Nat} {d : PyData} {M : Int} {qs rs : List PyData} (h : PartsOk s k d M qs) (hk : k ≤ 4) (hs : ShortD s qs rs) : RawOk s k d M rs ∧ SumL rs < SumL qs := by
  obtain ⟨i, p, x, hp, hx, hls, rfl⟩ := hs
  have hi := (List.getElem?_eq_some_iff.mp hp).1
  have hpm := List.mem_of_getElem? hp
  have e : qs = qs.take i ++ p :: qs.drop (i + 1) := by
    have h1 := (List.take_append_drop i qs).symm
    rw [List.drop_eq_getElem_cons hi] at h1
    rw [show qs[i] = p from Option.some.inj ((List.getElem?_eq_getElem hi).symm.trans hp)] at h1
    exact h1
  have mem : ∀ q ∈ qs.take i ++ x :: qs.drop (i + 1), q ∈ qs ∨ q = x := fun q hq => by
    rcases List.mem_append.mp hq with hq | hq
    · exact .inl (List.mem_of_mem_take hq)
    · rcases List.mem_cons.mp hq with rfl | hq
      · exact .inr rfl
      · exact .inl (List.mem_of_mem_drop hq)
  have hlt : SumL (qs.take i ++ x :: qs.drop (i + 1)) < SumL qs := by
    have h1 := lea_tl (h.raw.dr p hpm) hk hx
    conv => rhs; rw [e]
    rw [sumL_app, sumL_app, sumL_cons, sumL_cons]
    omega
  refine ⟨⟨by simp, fun q hq => ?_, fun q hq => ?_, ?_, Int.le_trans (Int.le_of_lt hlt) h.raw.sum⟩, hlt⟩
  · rcases mem q hq with h1 | rfl
    · exact h.raw.lst q h1
    · exact (lst_tl (h.raw.lst p hpm)).1 _ hx
  · rcases mem q hq with h1 | rfl
    · exact h.raw.dr q h1
    · exact drawn_tl (h.raw.dr p hpm) _ hx
  · refine EQ.trans (eq_of_ls (s := s) (ls_all fun q hq => ?_) (ls_all fun q hq => ?_)) h.raw.eq
    · rcases mem q hq with h1 | rfl
      · exact ls_part h1
      · exact hls
    · have hq2 := hq
      rw [e] at hq2
      rcases List.mem_append.mp hq2 with h1 | h1
      · exact ls_part (List.mem_append_left _ h1)
      · rcases List.mem_cons.mp h1 with rfl | h1
        · refine LS.trans ?_ (ls_part (List.mem_append_right _ List.mem_cons_self) : LS s x _)
          rcases (h.raw.lst q hpm).shp with ⟨z, rfl, _⟩ | ⟨t, cs, rfl⟩
          · cases hx
          · have ht : t = !s := by
              have := h.hd _ hpm
              cases s <;> cases t <;> first | rfl | exact absurd rfl this
            subst ht
            exact ls_not.mp (ls_part (s := !s) hx)
        · exact ls_part (List.mem_append_right _ (List.mem_cons_of_mem _ h1))
theorem text_injL {x y : PyData} (hx : Drawn 4 x) (hy : Drawn 4 y) (h : textD 5 x = textD 5 y) : x = y := text_inj hx hy (by rw [h])
theorem byText_perm {qs : List PyData} (hd : ∀ q ∈ qs, Drawn 4 q) (nd : qs.Nodup) : (byText (textD 5) qs).Perm qs :=
  (List.perm_ext_iff_of_nodup (byText_nodup _ _) nd).mpr fun x => ⟨byText_mem, byText_all fun a ha b hb e => text_injL (hd a ha) (hd b hb) e⟩
theorem anti_perm {s : Bool} {ps qs : List PyData} (h : ps.Perm qs) (ha : Anti s qs) : Anti s ps := (h.pairwise_iff fun {_ _} h => ⟨h.2, h.1⟩).mpr ha
theorem eq_perm {s : Bool} {ps qs : List PyData} (h : ps.Perm qs) : EQ (opW s ps) (opW s qs) := eq_dom (s := s) (fun p hp => ⟨p, h.mem_iff.mp hp, LS.refl p⟩) fun p hp => ⟨p, h.mem_iff.mpr hp, LS.refl p⟩
theorem sumL_perm {ps qs : List PyData} (h : ps.Perm qs) : SumL ps = SumL qs := by
  induction h with
  | nil => rfl
  | cons x _ ih => rw [sumL_cons, sumL_cons, ih]
  | swap x y l => rw [sumL_cons, sumL_cons, sumL_cons, sumL_cons]; omega
  | trans _ _ h1 h2 => rw [h1, h2]
/-- what least_in gives back -/
structure LeastOf (k : Nat) (d d' : PyData) : Prop where
  lst : Lst d'
  eq : EQ d' d
  dr : Drawn k d'
  le : meas 5 d' ≤ meas 5 d
theorem parts_one {s : Bool} {k : Nat} {d q : PyData} (h : PartsOk s k d (meas 5 d) [q]) : LeastOf (k + 1) d q :=
  ⟨h.raw.lst q List.mem_cons_self, eq_one.symm.trans h.raw.eq, drawn_mono (h.raw.dr q List.mem_cons_self) (by omega), by have := h.raw.sum; rw [sumL_cons] at this; simp [SumL] at this; exact this⟩
theorem parts_many {s : Bool} {k : Nat} {d : PyData} {qs : List PyData} (h : PartsOk s k d (meas 5 d) qs) (hk : k ≤ 3) (hm : meas 5 d ≤ 24) (h2 : 2 ≤ qs.length) (hn : ∀ p ∈ qs, ∀ x ∈ tlD p, ¬ LS s x (opW s qs)) : LeastOf (k + 1) d (opW s (byText (textD 5) qs)) := by
  have d4 : ∀ q ∈ qs, Drawn 4 q := fun q hq => drawn_mono (h.raw.dr q hq) (by omega)
  have pm := byText_perm d4 (anti_nd h.anti)
  have hl := pm.length_eq
  have hlen := sumL_pos h.raw.dr (by omega)
  have hsum := h.raw.sum
  refine ⟨.op s rfl (by omega) (fun p hp => h.raw.lst p (pm.mem_iff.mp hp)) (fun p hp => h.hd p (pm.mem_iff.mp hp)) (anti_perm pm h.anti) (fun p hp x hx k => hn p (pm.mem_iff.mp hp) x hx (k.trans ((eq_perm pm).ls (s := s)))) (byText_asc _ _), (eq_perm pm).trans h.raw.eq, .inr ⟨_, _, rfl, opS_isOp s, by omega, by omega, fun p hp => h.raw.dr p (pm.mem_iff.mp hp)⟩, ?_⟩
  rw [lea_op (k := k) (fun p hp => h.raw.dr p (pm.mem_iff.mp hp)) hk (by omega), sumL_perm pm]
  exact hsum
theorem part_drawn {n : Nat} {s : Bool} {ps : List PyData} (h : Drawn n (opW s ps)) : ∃ k, n = k + 1 ∧ 2 ≤ ps.length ∧ ∀ p ∈ ps, Drawn k p := by
  rcases drawn_op h with ⟨z, e, _⟩ | ⟨t, qs, k, e, hk, h2, _, hq⟩
  · cases e
  · obtain ⟨_, rfl⟩ := opW_inj e
    exact ⟨k, hk, h2, hq⟩
end FF
/-! least forms: least_in -/
namespace FF
open PySem PySem.Spec PyProof.Rows L2
theorem rows_raw {K : PySem.W.Frag} {H : Hp} {k : Nat} : ∀ {ys : List V} {ps : List PyData}, ys.length = ps.length → (∀ (i : Nat) (y : V), ys[i]? = some y → ∃ p d', ps[i]? = some p ∧ Tp K H y d' ∧ LeastOf k p d') →
    ∃ rs, TpAll K H ys rs ∧ rs.length = ps.length ∧ (∀ r ∈ rs, Lst r ∧ Drawn k r) ∧ SumL rs ≤ SumL ps ∧ (∀ p ∈ ps, ∃ r ∈ rs, EQ r p) ∧ ∀ r ∈ rs, ∃ p ∈ ps, EQ r p
  | [], [], _, _ => ⟨[], .nil, rfl, fun r h => by (cases h), Int.le_refl _, fun r h => by (cases h), fun r h => by (cases h)⟩
  | y :: ys, p :: ps, hl, h => by
    obtain ⟨p', d', e, ht, hL⟩ := h 0 y rfl
    cases e
    obtain ⟨rs, h1, h2, h3, h4, h5, h6⟩ := rows_raw (ys := ys) (ps := ps) (by simpa using hl) fun i z hz => h (i + 1) z hz
    refine ⟨d' :: rs, .cons ht h1, by simp [h2], fun r hr => ?_, by rw [sumL_cons, sumL_cons]; have := hL.le; omega, fun q hq => ?_, fun r hr => ?_⟩
    · rcases List.mem_cons.mp hr with rfl | hr
      · exact ⟨hL.lst, hL.dr⟩
      · exact h3 r hr
    · rcases List.mem_cons.mp hq with rfl | hq
      · exact ⟨d', List.mem_cons_self, hL.eq⟩
      · obtain ⟨r, hr, e⟩ := h5 q hq
        exact ⟨r, List.mem_cons_of_mem _ hr, e⟩
    · rcases List.mem_cons.mp hr with rfl | hr
      · exact ⟨p, List.mem_cons_self, hL.eq⟩
      · obtain ⟨q, hq, e⟩ := h6 r hr
        exact ⟨q, List.mem_cons_of_mem _ hq, e⟩
theorem dictT_snoc (f : PyData → Str) (a : List PyData) (q : PyData) : dictT f (a ++ [q]) = ddPut (dictT f a) (f q) q := by
  unfold dictT
  rw [List.foldl_append] <;> rfl
theorem askd_of {k : Nat} {ps : List PyData} (h : ∀ p ∈ ps, Drawn k p) (hk : k ≤ 4) (hs : SumL ps ≤ 24) : ∀ p ∈ ps, Askd p := fun p hp => by
  have d4 := drawn_mono (h p hp) hk
  exact ⟨d4, lvs_fit d4 (Int.le_trans (sumL_mem h hk hp) hs)⟩
def spLeast (K : PySem.W.Frag) (n : Nat) : Sp := fun vs H Q _ => ∃ (v : V) (d : PyData) (m : Nat), vs = [v] ∧ Tp K H v d ∧ Drawn m d ∧ m < n ∧ n ≤ 5 ∧ meas 5 d ≤ 24 ∧ ∀ v' d' H', Same H H' → Tp K H' v' d' → LeastOf m d d' → Q v' H'
section
variable {P : Program} {w : World} {K : PySem.W.Frag} {mg : Str → Option Value} {base : Heap}
set_option maxHeartbeats 4000000 in
theorem ok_least_step {n : Nat} {f : Addr} {fd : FuncData} (F : FunD K "least_in" "least_in" (defArgs s_least_in) (defBody s_least_in) (defScope s_least_in) [] [] f fd) (hm : mg "least_in" = some (.ref f)) (T : Top K mg)
    (D_least_in : Def P w K mg base "least_in" (n + 27) ["term"] (spLeast K n)) (D_flattened : Def P w K mg base "flattened" 1 ["operator", "parts"] (spFlat K)) (D_thinned : Def P w K mg base "thinned" 26 ["operator", "parts"] (spThin K))
    (D_shortened : Def P w K mg base "shortened" 26 ["operator", "parts"] (spShort K)) (D_text_of : Def P w K mg base "text_of" 5 ["term"] (spText K 5)) : Def P w K mg base "least_in" (n + 28) ["term"] (spLeast K (n + 1)) := by
  refine def_mk F hm (F.bindsN fun _ _ _ _ _ _ us hl => match us, hl with | [_], _ => rfl) sc_least_in (fun vs H Q E h => ?_) (fun cdv A outer s0 H vs Q E hr h => ?_)
  · obtain ⟨v, d, m, rfl, _⟩ := h
    rfl
  obtain ⟨v, d, m, rfl, ht, hd, hmn, hn5, h24, q⟩ := h
  refine ⟨_, (pss_cons (ps_if (pt_val (pe_callB (call_isK K kb_str) (by rfl) T.b_isinstance (by decide +kernel) (pa_cons (pv 0) (pa_cons (pe_bltn (v := .ty "str") (by rfl) T.b_str (by decide +kernel) rfl) pa_nil))))
  (pss_one (ps_ret (pv 0)))
  pss_nil)
  (pss_cons (ps_asg (pv 0) (pg_star2 rfl (pgs_cons (pg_name (i := 1) sc_least_in.nd rfl (Or.inl rfl) (.inl rfl)) (pgs_cons (pg_name (i := 2) sc_least_in.nd rfl (Or.inl rfl) (.inl rfl)) pgs_nil))))
  (pss_cons (ps_set (i := 2) sc_least_in.nd rfl (Or.inl rfl) (pe_def D_thinned hr (by first | decide | omega) (pa_cons (pv 1) (pa_cons (pe_def D_flattened hr (by first | decide | omega) (pa_cons (pv 1) (pa_cons (pe_lc (own := [("part", 3)]) rfl sc_least_in.nd (pi_listK K (pv 2)) (blkOk_by (by kernel_rfl)) (fun _ _ _ _ _ => (pg_name (i := 3) sc_least_in.nd rfl (Or.inl rfl) (.inr rfl))) (fun _ _ _ _ _ => pts_nil) (fun _ _ _ _ _ => (pe_def D_least_in hr (by first | decide | omega) (pa_cons (pv 3) pa_nil)))) pa_nil))) pa_nil))))
  (C8.pss_cut (ps_whileW PassesOwn.never (ptw_and (pt_cmpR op_gt (pe_callB (call_lenK K) (by rfl) T.b_len (by decide +kernel) (pa_cons (pv 2) pa_nil)) pe_int (nomark _)) (ptw_notN (pew_named (i := 4) sc_least_in.nd rfl (Or.inl rfl) (pew_of (pe_def D_shortened hr (by first | decide | omega) (pa_cons (pv 1) (pa_cons (pv 2) pa_nil))))))) 
  (pss_one (ps_set (i := 2) sc_least_in.nd rfl (Or.inl rfl) (pe_def D_thinned hr (by first | decide | omega) (pa_cons (pv 1) (pa_cons (pe_def D_flattened hr (by first | decide | omega) (pa_cons (pv 1) (pa_cons (pv 4) pa_nil))) pa_nil))))) pss_nil)
  (pss_cons (ps_if (pt_cmpR op_eq (pe_callB (call_lenK K) (by rfl) T.b_len (by decide +kernel) (pa_cons (pv 2) pa_nil)) pe_int (nomark _))
  (pss_one (ps_ret (pe_ix (ix_listK K) (pv 2) pe_int (fun _ _ => rfl))))
  pss_nil)
  (pss_cons (ps_set (i := 5) sc_least_in.nd rfl (Or.inr rfl) (pe_dc (own := [("part", 3)]) rfl sc_least_in.nd (pi_listK K (pv 2)) (blkOk_by (by kernel_rfl)) (fun _ _ _ _ _ => (pg_name (i := 3) sc_least_in.nd rfl (Or.inl rfl) (.inr rfl))) (fun _ _ _ _ _ => pts_nil) (fun _ _ _ _ _ => (pe_def D_text_of hr (by first | decide | omega) (pa_cons (pv 3) pa_nil))) (fun _ _ _ _ _ => (pv 3))))
  (pss_one (ps_ret (pe_tup (pa_cons (pv 1) (StX.pa_star (pe_lc (own := [("text", 6)]) rfl sc_least_in.nd (pi_listK K (pe_callB (cr_sortedDA rfl) (by rfl) T.b_sorted (by decide +kernel) (pa_cons (pv 5) pa_nil))) (blkOk_by (by kernel_rfl)) (fun _ _ _ _ _ => (pg_name (i := 6) sc_least_in.nd rfl (Or.inl rfl) (.inr rfl))) (fun _ _ _ _ _ => pts_nil) (fun _ _ _ _ _ => (pe_dget (hu_of hr) (pv 5) (pv 6) (fun _ _ => rfl)))) pa_nil))))))))))), ?_⟩
  refine ⟨_, rfl, v, d, rfl, ht.dp, _, rfl, ?_⟩
  rcases drawn_op hd with ⟨z, rfl, hz⟩ | ⟨s, ps, k, rfl, rfl, l2, l24, hps⟩
  · cases ht
    obtain ⟨h1, h2⟩ := let_noop hz
    exact iteT ⟨_, rfl, q _ _ _ (Same.refl _) (.str z) ⟨.lett rfl h1 h2, EQ.refl _, hd, Int.le_refl _⟩⟩
  unfold opW at ht
  cases ht with
  | @tup a xs _ hta htx =>
  cases htx with
  | @cons vo vr _ _ ho hvr =>
  cases ho
  refine iteF ?_
  have hk3 : k ≤ 3 := by omega
  have hsum : meas 5 (opW s ps) = SumL ps := lea_op hps hk3 l2
  have hvl := hvr.len
  refine ⟨_, rfl, a, .str (opS s), vr, rfl, hta.sqT, fun p1 hp1 => ?_⟩
  have e1 := same_new hp1 (.lst vr)
  refine ⟨.str (opS s), [.ref p1], rfl, .ref p1, [], rfl, rfl, ?_⟩
  have hp11 : (upd H p1 (.lst vr)) p1 = some (.lst vr) := upd_same
  have hvr1 := hvr.up (Same.T e1)
  generalize upd H p1 (.lst vr) = H1 at e1 hp11 hvr1 ⊢
  refine ⟨_, rfl, _, rfl, _, rfl, p1, rfl, ⟨_, SqL.of hp11⟩, fun D hD => ?_⟩
  refine lc_mapL (j := 3) (fun i y H' => ∃ p d', ps[i]? = some p ∧ Tp K H' y d' ∧ LeastOf k p d') (fun i y H1 H2 e ⟨p, d', h1, h2, h3⟩ => ⟨p, d', h1, h2.up e, h3⟩) hD (SqL.of hp11) (le_line (by omega)) (fun _ => rfl) ?_ ?_
  · intro i x H2 hx e2 Q' k'
    obtain ⟨p, hp, hxp⟩ := (hvr1.up (Same.T e2)).get hx
    have hpm := List.mem_of_getElem? hp
    refine ⟨_, rfl, x, p, k, rfl, hxp, hps p hpm, by omega, by omega, ?_, fun v' d' H3 e3 hv' hL => k' _ _ e3 ⟨p, d', hp, hv', hL⟩⟩
    have := sumL_mem hps (by omega) hpm
    omega
  intro H2 ys e2 hD2 hl2 hy
  obtain ⟨rs, hrs, hrl, hr1, hr2, hr3, hr4⟩ := rows_raw (hl2.trans hvl) hy
  have hraw : RawOk s k (opW s ps) (meas 5 (opW s ps)) rs := ⟨fun e => (by rw [e] at hrl; simp at hrl; omega), fun r hr => (hr1 r hr).1, fun r hr => (hr1 r hr).2, eq_dom (s := s) (fun r hr => let ⟨p, hp, e⟩ := hr4 r hr; ⟨p, hp, e.ls⟩) fun p hp => let ⟨r, hr, e⟩ := hr3 p hp; ⟨r, hr, e.symm.ls⟩, by rw [hsum]; exact hr2⟩
  clear hr1 hr2 hr3 hr4 hy
  have e02 := e1.trans e2
  generalize hM : opW s ps = d at hraw h24 q hd
  clear hM
  -- flattened, thinned: once for all
  have flth : ∀ {H3 : Hp} {b : Addr} {us : List V} {rs : List PyData} (Q' : VK), Same H H3 → H3 b = some (.lst us) → TpAll K H3 us rs → RawOk s k d (meas 5 d) rs → (∀ r vs' qs H4, Same H H4 → H4 r = some (.lst vs') → TpAll K H4 vs' qs → PartsOk s k d (meas 5 d) qs → SumL qs ≤ SumL rs → Q' (.ref r) H4) →
      spFlat K ([.str (opS s), .ref b] ++ []) H3 (fun y H4 => spThin K ([.str (opS s), y] ++ []) H4 Q' E0) E0 := fun {H3 b us rs} Q' e hb hus hR k' => by
    have hlen := sumL_pos hR.dr (by omega)
    have hs := hR.sum
    refine ⟨s, b, us, rs, rfl, SqL.of hb, hus, fun p hp => drawn_mono (hR.dr p hp) (by omega), by omega, fun r vs' H4 e4 _ hr' hvs' => ?_⟩
    obtain ⟨hF, hh⟩ := raw_flat hR (by omega)
    have hlen2 := sumL_pos hF.dr (by omega)
    have hs2 := hF.sum
    refine ⟨s, r, vs', _, rfl, SqL.of hr', hvs', askd_of hF.dr (by omega) (by omega), by omega, fun r2 vs2 qs H5 e5 _ hr2 hvs2 hT => ?_⟩
    refine k' r2 vs2 qs H5 (e.trans (e4.trans e5)) hr2 hvs2 (raw_thin hF (by omega) hh hT) ?_
    have h1 := sumL_sub (by omega) hT.1 hF.dr
    rw [sumL_flat (by omega) hR.dr] at h1
    exact h1
  dsimp only [tNil]
  refine flth _ e02 hD2 hrs hraw fun r vs' qs H4 e4 hr4 hvs4 hP _ => ?_
  clear hraw hrs hrl hD2 hl2 e02 e2 hp11 hvr1 e1 hp1 hD
  refine ⟨fun σ H' => ∃ b us qs o4, σ = [some (.ref a), some (.str (opS s)), some (.ref b), none, o4, none, none] ∧ Same H H' ∧ H' b = some (.lst us) ∧ TpAll K H' us qs ∧ PartsOk s k d (meas 5 d) qs ∧ (qs.length ≤ 1 ∨ (2 ≤ qs.length ∧ ∀ p ∈ qs, ∀ x ∈ tlD p, ¬ LS s x (opW s qs))), ?_, ?_⟩
  · refine ⟨fun m σ H' => ∃ b us qs o4, σ = [some (.ref a), some (.str (opS s)), some (.ref b), none, o4, none, none] ∧ Same H H' ∧ H' b = some (.lst us) ∧ TpAll K H' us qs ∧ PartsOk s k d (meas 5 d) qs ∧ m = (SumL qs).toNat, ⟨_, r, vs', qs, none, rfl, e4, hr4, hvs4, hP, rfl⟩, ?_⟩
    rintro m σ H5 ⟨b, us, qs, o4, rfl, e5, hb, hus, hP, rfl⟩
    have hul := hus.len
    refine ⟨_, rfl, _, us.length, rfl, .inl ⟨us, SqL.of hb, rfl⟩, _, _, rfl, rfl, _, rfl, if_dec (fun h => ?_) (fun h => ?_)⟩
    · have hlen := sumL_pos hP.raw.dr (by omega)
      have hS := hP.raw.sum
      have ask : Askd (opW s qs) := by
        have d4 : Drawn 4 (opW s qs) := .inr ⟨_, _, rfl, opS_isOp s, by omega, by omega, fun p hp => drawn_mono (hP.raw.dr p hp) (by omega)⟩
        exact ⟨d4, lvs_fit d4 (by rw [lea_op hP.raw.dr hk3 (by omega)]; omega)⟩
      refine ⟨_, rfl, _, rfl, s, b, us, qs, rfl, SqL.of hb, hus, by omega, ask, fun H6 e6 hn => ?_, fun r2 vs2 rs2 H6 e6 hr2 hvs2 hSh => ?_⟩
      · exact iteF ⟨b, us, qs, _, rfl, e5.trans e6, e6 _ _ hb, hus.up (Same.T e6), hP, .inr ⟨by omega, hn⟩⟩
      · obtain ⟨hR, hlt⟩ := parts_short hP (by omega) hSh
        refine iteT ⟨fun σ' H' => ∃ b' us' qs' o4', σ' = [some (.ref a), some (.str (opS s)), some (.ref b'), none, o4', none, none] ∧ Same H H' ∧ H' b' = some (.lst us') ∧ TpAll K H' us' qs' ∧ PartsOk s k d (meas 5 d) qs' ∧ SumL qs' ≤ SumL rs2, fun σ' H' ⟨b', us', qs', o4', g1, g2, g3, g4, g5, g6⟩ => ⟨_, ?_, b', us', qs', o4', g1, g2, g3, g4, g5, rfl⟩, ?_⟩
        · have := sumL_pos g5.raw.dr (by omega)
          omega
        refine ⟨_, rfl, _, rfl, _, rfl, ?_⟩
        dsimp only [tNil]
        refine flth _ (e5.trans e6) hr2 hvs2 hR fun r3 vs3 qs3 H7 e7 hr3 hvs3 hP3 hle => ?_
        exact ⟨r3, vs3, qs3, _, rfl, e7, hr3, hvs3, hP3, hle⟩
    · exact iteF ⟨b, us, qs, o4, rfl, e5, hb, hus, hP, .inl (by omega)⟩
  · rintro σ H5 ⟨b, us, qs, o4, rfl, e5, hb, hus, hP, hfin⟩
    have hul := hus.len
    refine ⟨_, rfl, _, us.length, rfl, .inl ⟨us, SqL.of hb, rfl⟩, rfl, _, rfl, if_int (fun h => ?_) (fun h => ?_)⟩
    · match qs, us, hul, hus, hP, hb, h with
      | [q0], [u0], _, hus, hP, hb, _ =>
        cases hus with
        | cons h0 _ => exact ⟨_, rfl, b, _, _, u0, rfl, rfl, SqL.of hb, at0, q u0 q0 H5 e5 h0 (parts_one hP)⟩
      | [], [], _, _, _, _, h => simp at h
      | _ :: _ :: _, _ :: _ :: _, _, _, _, _, h => simp at h; omega
    have h2 : 2 ≤ qs.length ∧ ∀ p ∈ qs, ∀ x ∈ tlD p, ¬ LS s x (opW s qs) := by
      rcases hfin with h1 | h1
      · exfalso
        have := List.length_pos_iff.mpr hP.raw.ne
        apply h
        omega
      · exact h1
    have hlen := sumL_pos hP.raw.dr (by omega)
    have hS := hP.raw.sum
    refine ⟨_, rfl, b, rfl, ⟨us, SqL.of hb⟩, fun D3 hD3 => ?_⟩
    have hbD : b ≠ D3 := ne_of_none hb hD3
    refine dc_it (walkL_same (H := H5) (SqL.of hb)) (fun i H' => Same H5 H' ∧ ∃ kvs, H' D3 = some (.dK kvs) ∧ DRel K H' kvs (dictT (textD 5) (qs.take i))) ⟨same_new hD3 _, [], upd_same, .nil⟩ (fun i H' _ p => p.1) ?_ ?_
    · rintro i x H6 H7 hi ⟨e6, kvs, hk, hrel⟩ ⟨rfl, hx⟩
      obtain ⟨q0, hq0, hxq⟩ := (hus.up (Same.T e6)).get hx
      have hqm := List.mem_of_getElem? hq0
      refine ⟨rfl, yes_ (if_t ?_)⟩
      refine ⟨_, rfl, x, q0, 4, rfl, hxq, drawn_mono (hP.raw.dr q0 hqm) (by omega), by decide, by decide, fun H8 e8 => ⟨_, rfl, kvs, .inr (textD 5 q0), rfl, e8 _ _ hk, ?_, same_at hD3 (e6.trans e8), _, upd_same, ?_⟩⟩
      · have h1 := hrel.len
        have h3 : (dictT (textD 5) (qs.take i)).length ≤ 0 + (qs.take i).length := dict_len (f := textD 5) (qs.take i) []
        rw [List.length_take] at h3
        exact lt_line (by omega)
      · rw [List.take_add_one, hq0]
        have eT : SameT H8 (upd H8 D3 (.dK (putK kvs (.inr (textD 5 q0)) x))) := sameT_d (e8 _ _ hk) sameB_upd
        show DRel K _ _ (dictT (textD 5) (qs.take i ++ [q0]))
        rw [dictT_snoc]
        exact ((hrel.up (Same.T e8)).up eT).put ((hxq.up (Same.T e8)).up eT)
    · rintro H6 ⟨e6, kvs, hk, hrel⟩
      rw [hul, List.take_length] at hrel
      have hdl : (dictT (textD 5) qs).length ≤ 0 + qs.length := dict_len (f := textD 5) qs []
      refine ⟨_, rfl, _, rfl, D3, kvs, (dictT (textD 5) qs).map (·.1), rfl, hk, hrel.keys, fun ys p1 hperm hs hp1 => ⟨p1, rfl, ⟨_, SqL.of upd_same⟩, ?_⟩⟩
      have e7 := same_new hp1 (.lst (ys.map V.str))
      have hyl : ys.length ≤ 24 := by
        rw [hperm.length_eq, List.length_map]
        omega
      intro D4 hD4
      refine order_lc (Qd := fun x H1 => ∃ p xs, x = V.ref p ∧ (SqT K H1 p xs ∨ SqL K H1 p xs) ∧ ((V.str (opS s) :: (xs ++ [])).length ≤ sizeLine ∧ ∀ t, H1 t = none → Q (.ref t) (upd H1 t (.tup (V.str (opS s) :: (xs ++ [])))))) (σ := [some (.ref a), some (.str (opS s)), some (.ref b), none, o4, some (.ref D3), none]) (dv := 5) (jv := 6) (vsl := [6]) (e7 _ _ hk) (hrel.up (Same.T e7)) upd_same (fun y hy => hperm.mem_iff.mp hy) (le_line (by omega)) (fun _ => rfl) (fun _ => rfl) (fun _ => rfl) (fun H8 p rs e8 hn8 h8 hrs => ?_) D4 hD4
      have hrl := hrs.len
      rw [List.length_map] at hrl
      refine ⟨p, rs, rfl, .inr (SqL.of h8), le_line (by simp; omega), fun t ht => ?_⟩
      rw [List.append_nil]
      have e9 := same_new ht (.tup (.str (opS s) :: rs))
      refine q _ _ _ (e5.trans (e6.trans (e7.trans (e8.trans e9)))) ?_ (parts_many hP hk3 h24 h2.1 h2.2)
      rw [sort_eq hperm hs] at hrs
      exact .tup (.inl upd_same) (.cons (.str _) (hrs.up (Same.T e9)))
end
end FF
/-! rewritten words are alike -/
namespace FF
open PySem PySem.Spec PyProof.Rows L2
theorem sqt_updL {K : PySem.W.Frag} {H : Hp} {a b : Addr} {xs ys zs : List V} (hb : H b = some (.lst xs)) (h : SqT K H a ys) : SqT K (upd H b (.lst zs)) a ys := by
  rcases h with (h | ⟨o, h⟩) | h
  · exact .inl (.inl (by rw [upd_ne (fun z => by rw [z, hb] at h; cases h)]; exact h))
  · exact .inl (.inr ⟨o, by rw [upd_ne (fun z => by rw [z, hb] at h; cases h)]; exact h⟩)
  · exact .inr h
theorem tp3 {K : PySem.W.Frag} {H : Hp} {p : Addr} {a b c : V} {x y z : PyData} (hp : H p = some (.tup [a, b, c])) (ha : Tp K H a x) (hb : Tp K H b y) (hc : Tp K H c z) : Tp K H (.ref p) (.tuple [x, y, z]) := .tup (.inl hp) (.cons ha (.cons hb (.cons hc .nil)))
theorem niceT3 {n : Nat} {x y z : PyData} (hx : Nice n x) (hy : Nice n y) (hz : Nice n z) : Nice (n + 1) (.tuple [x, y, z]) := Nice.tuple (by simp) fun u hu => by
  simp only [List.mem_cons, List.not_mem_nil, or_false] at hu
  rcases hu with rfl | rfl | rfl
  · exact hx
  · exact hy
  · exact hz
theorem nice_s {n : Nat} {z : Str} (h : nice (.str z) = true) : Nice n (.str z) := ⟨h, by rw [PyData.depth]; omega⟩
theorem niceW {n : Nat} {o : Str} {ps : List PyData} (ho : nice (.str o) = true) (hl : ps.length < 20000) (h : ∀ p ∈ ps, Nice n p) : Nice (n + 1) (.tuple (.str o :: ps)) := Nice.tuple (by simp; omega) fun u hu => by
  rcases List.mem_cons.mp hu with rfl | hu
  · exact nice_s ho
  · exact h u hu
theorem abs_or (d z : PyData) : EQ (opW true [d, opW false [d, z]]) d := eq_of_ls (s := true) (ls_all fun p hp => by
  simp only [List.mem_cons, List.not_mem_nil, or_false] at hp
  rcases hp with rfl | rfl
  · exact LS.refl _
  · exact LE.ml rfl List.mem_cons_self (.refl _)) (ls_part List.mem_cons_self)
theorem abs_and (d z : PyData) : EQ (opW false [opW true [z, d], d]) d := eq_of_ls (s := false) (ls_all fun p hp => by
  simp only [List.mem_cons, List.not_mem_nil, or_false] at hp
  rcases hp with rfl | rfl
  · exact LE.jr rfl (List.mem_cons_of_mem _ List.mem_cons_self) (.refl _)
  · exact LS.refl _) (ls_part (List.mem_cons_of_mem _ List.mem_cons_self))
theorem eq_twice (d : PyData) : EQ (opW false [d, d]) d := eq_of_ls (s := false) (ls_all fun p hp => by
  simp only [List.mem_cons, List.not_mem_nil, or_false, or_self] at hp
  rw [hp]
  exact LS.refl _) (ls_part List.mem_cons_self)
theorem eq_dup {s : Bool} {p : PyData} {ps : List PyData} (hp : p ∈ ps) : EQ (opW s (p :: ps)) (opW s ps) := eq_dom (s := s) (fun q hq => by
  rcases List.mem_cons.mp hq with rfl | hq
  · exact ⟨_, hp, LS.refl _⟩
  · exact ⟨_, hq, LS.refl _⟩) fun q hq => ⟨q, List.mem_cons_of_mem _ hq, LS.refl _⟩
theorem eq_nest {s : Bool} (a b : List PyData) : EQ (opW s (a ++ [opW s b])) (opW s (a ++ b)) := eq_of_ls (s := s) (ls_all fun q hq => by
  rcases List.mem_append.mp hq with hq | hq
  · exact ls_part (List.mem_append_left _ hq)
  · rw [List.mem_singleton.mp hq]
    exact ls_all fun x hx => ls_part (List.mem_append_right _ hx)) (ls_all fun q hq => by
  rcases List.mem_append.mp hq with hq | hq
  · exact ls_part (List.mem_append_left _ hq)
  · exact ls_any (List.mem_append_right _ List.mem_cons_self) (ls_part hq))
theorem eq_set {s : Bool} {ps : List PyData} {i : Nat} {p d : PyData} (hp : ps[i]? = some p) (h : EQ d p) : EQ (opW s (ps.set i d)) (opW s ps) := by
  have hi := (List.getElem?_eq_some_iff.mp hp).1
  refine eq_dom (s := s) (fun q hq => ?_) fun q hq => ?_
  · rcases List.mem_or_eq_of_mem_set hq with hq | rfl
    · exact ⟨q, hq, LS.refl _⟩
    · exact ⟨p, List.mem_of_getElem? hp, h.ls⟩
  · obtain ⟨j, hj⟩ := List.getElem?_of_mem hq
    by_cases e : i = j
    · subst e
      rw [hp] at hj
      cases hj
      exact ⟨d, List.mem_of_getElem? (i := i) (by rw [List.getElem?_set_self hi]), h.symm.ls⟩
    · exact ⟨q, List.mem_of_getElem? (i := j) (by rw [List.getElem?_set_ne e]; exact hj), LS.refl _⟩
theorem tpa_perm {K : PySem.W.Frag} {H : Hp} {us ys : List V} (h : ys.Perm us) : ∀ {ds : List PyData}, TpAll K H us ds → ∃ es, TpAll K H ys es ∧ es.Perm ds := by
  induction h with
  | nil => exact fun h => ⟨_, h, .refl _⟩
  | cons x _ ih =>
    intro ds h
    cases h with
    | cons h1 h2 =>
      obtain ⟨es, h3, h4⟩ := ih h2
      exact ⟨_, .cons h1 h3, h4.cons _⟩
  | swap x y l =>
    intro ds h
    cases h with
    | cons h1 h2 =>
      cases h2 with
      | cons h3 h4 => exact ⟨_, .cons h3 (.cons h1 h4), .swap _ _ _⟩
  | trans _ _ i1 i2 =>
    intro ds h
    obtain ⟨es, h1, h2⟩ := i2 h
    obtain ⟨fs, h3, h4⟩ := i1 h1
    exact ⟨fs, h3, h4.trans h2⟩
theorem tpa_set {K : PySem.W.Frag} {H : Hp} : ∀ {us : List V} {ds : List PyData} {i : Nat} {v : V} {d : PyData}, TpAll K H us ds → Tp K H v d → TpAll K H (us.set i v) (ds.set i d)
  | _, _, i, _, _, .nil, _ => by cases i <;> exact .nil
  | _, _, 0, _, _, .cons _ h2, h => .cons h h2
  | _, _, i + 1, _, _, .cons h1 h2, h => .cons h1 (tpa_set (i := i) h2 h)
theorem set_nice {n : Nat} {ps : List PyData} {i : Nat} {d : PyData} (h : ∀ p ∈ ps, Nice n p) (hd : Nice n d) : ∀ p ∈ ps.set i d, Nice n p := fun p hp => by
  rcases List.mem_or_eq_of_mem_set hp with hp | rfl
  · exact h p hp
  · exact hd
theorem cut_a {vs : List V} {n : Nat} (h : n + 2 = vs.length) : cutV vs none (some (-2)) = vs.take n := by
  have e : HT.sIx vs.length vs.length (some (-2)) = n := by
    show ((-2 : Int) + (vs.length : Int)).toNat = n
    omega
  unfold cutV
  rw [e, HT.sIx_none] <;> rfl
theorem cut_b {vs : List V} {n : Nat} (h : n + 2 = vs.length) : cutV vs (some (-2)) none = vs.drop n := by
  have e : HT.sIx vs.length 0 (some (-2)) = n := by
    show ((-2 : Int) + (vs.length : Int)).toNat = n
    omega
  unfold cutV
  rw [e, HT.sIx_none, List.take_of_length_le (by rw [List.length_drop]; omega)]
def spSameW (K : PySem.W.Frag) (n : Nat) : Sp := fun vs H Q _ => ∃ (s : Addr) (v kv : V) (d : PyData) (m : Nat), vs = [.ref s, v, kv] ∧ Src H s ∧ Tp K H v d ∧ Drawn m d ∧ m < n ∧ n ≤ 10 ∧ ∀ v' H' d', Same H H' → Tp K H' v' d' → Nice (m + 2) d' → EQ d' d → Q v' H'
theorem op_niceS {o : Str} (h : isOp (.str o) = true) : nice (.str o) = true := by
  rcases op_shape h with h | h <;> rw [h] <;> decide +kernel
section
variable {P : Program} {w : World} {K : PySem.W.Frag} {mg : Str → Option Value} {base : Heap}
theorem same_w_none {f : Addr} {fd : FuncData} (F : FunD K "_law_same_word" "_law_same_word" (defArgs s_law_same_word) (defBody s_law_same_word) (defScope s_law_same_word) [] [] f fd) (hm : mg "_law_same_word" = some (.ref f)) : Def P w K mg base "_law_same_word" 3 ["_law_source_here", "_law_word", "_law_known"] (spSameW K 0) := by
  have no : ∀ vs H Q E, ¬ spSameW K 0 vs H Q E := fun vs H Q E ⟨_, _, _, _, _, _, _, _, _, h, _⟩ => by omega
  exact ⟨f, fd, ⟨fun vs H Q E h => absurd h (no vs H Q E), fun A outer s H args us vs Q E _ _ _ _ h => absurd h (no vs H Q E)⟩, hm, F.kp, F.bindsN fun _ _ _ _ _ _ us hl => match us, hl with | [_, _, _], _ => rfl⟩
theorem ok_same_w_step {n : Nat} {f : Addr} {fd : FuncData} (F : FunD K "_law_same_word" "_law_same_word" (defArgs s_law_same_word) (defBody s_law_same_word) (defScope s_law_same_word) [] [] f fd) (hm : mg "_law_same_word" = some (.ref f)) (T : Top K mg)
    (D_law_take : Def P w K mg base "_law_take" 1 ["_law_source_here", "_law_many"] spTake) (D_law_pick : Def P w K mg base "_law_pick" 2 ["_law_source_here", "_law_row"] (spPick K)) (D_law_mixed : Def P w K mg base "_law_mixed" 2 ["_law_source_here", "_law_row"] (spMixed K))
    (D_law_same_word : Def P w K mg base "_law_same_word" (n + 3) ["_law_source_here", "_law_word", "_law_known"] (spSameW K n)) : Def P w K mg base "_law_same_word" (n + 4) ["_law_source_here", "_law_word", "_law_known"] (spSameW K (n + 1)) := by
  refine def_mk F hm (F.bindsN fun _ _ _ _ _ _ us hl => match us, hl with | [_, _, _], _ => rfl) sc_law_same_word (fun vs H Q E h => ?_) (fun cdv A outer s0 H vs Q E hr h => ?_)
  · obtain ⟨s, v, kv, d, m, rfl, _⟩ := h
    rfl
  obtain ⟨s, v, kv, d, m, rfl, hs, hv, hd, hmn, hn, q⟩ := h
  refine ⟨_, (pss_cons (ps_set (i := 3) sc_law_same_word.nd rfl (Or.inl rfl) (pe_def D_law_take hr (by first | decide | omega) (pa_cons (pv 0) (pa_cons pe_int pa_nil))))
  (pss_cons (ps_set (i := 4) sc_law_same_word.nd rfl (Or.inl rfl) (pe_def D_law_pick hr (by first | decide | omega) (pa_cons (pv 0) (pa_cons (pe_callTy (call_list_s rfl) (by rfl) T.b_list (by decide +kernel) (pa_cons pe_str pa_nil)) pa_nil))))
  (pss_cons (ps_if (pt_cmpR op_eq (pv 3) pe_int (nomark _))
  (pss_one (ps_ret (pe_tup (pa_cons pe_str (pa_cons (pv 1) (pa_cons (pe_tup (pa_cons pe_str (pa_cons (pv 1) (pa_cons (pv 4) pa_nil)))) pa_nil))))))
  pss_nil)
  (pss_cons (ps_if (pt_cmpR op_eq (pv 3) pe_int (nomark _))
  (pss_one (ps_ret (pe_tup (pa_cons pe_str (pa_cons (pe_tup (pa_cons pe_str (pa_cons (pv 4) (pa_cons (pv 1) pa_nil)))) (pa_cons (pv 1) pa_nil))))))
  pss_nil)
  (pss_cons (ps_if (pt_cmpR op_eq (pv 3) pe_int (nomark _))
  (pss_one (ps_ret (pe_tup (pa_cons pe_str (pa_cons (pv 1) (pa_cons (pv 1) pa_nil))))))
  pss_nil)
  (pss_cons (ps_if (pt_val (pe_callB (call_isK K kb_str) (by rfl) T.b_isinstance (by decide +kernel) (pa_cons (pv 1) (pa_cons (pe_bltn (v := .ty "str") (by rfl) T.b_str (by decide +kernel) rfl) pa_nil))))
  (pss_one (ps_ret (pv 1)))
  pss_nil)
  (pss_cons (ps_set (i := 5) sc_law_same_word.nd rfl (Or.inl rfl) (pe_callTy (call_list_ofK K) (by rfl) T.b_list (by decide +kernel) (pa_cons (pe_slice (sl_tupK K) (pv 1) (po_some pe_int) po_none) pa_nil)))
  (pss_cons (ps_if (pt_cmpR op_eq (pv 3) pe_int (nomark _))
  (pss_one (ps_ret (pe_callTy (call_tuple_ofK K) (by rfl) T.b_tuple (by decide +kernel) (pa_cons (pe_op op_cat (pe_lst (pa_cons (pe_ix (ix_tupK K) (pv 1) pe_int (fun _ _ => rfl)) pa_nil)) (pe_def D_law_mixed hr (by first | decide | omega) (pa_cons (pv 0) (pa_cons (pv 5) pa_nil)))) pa_nil))))
  pss_nil)
  (pss_cons (ps_if (pt_cmpR op_eq (pv 3) pe_int (nomark _))
  (pss_one (ps_ret (pe_callTy (call_tuple_ofK K) (by rfl) T.b_tuple (by decide +kernel) (pa_cons (pe_op op_cat (pe_lst (pa_cons (pe_ix (ix_tupK K) (pv 1) pe_int (fun _ _ => rfl)) (pa_cons (pe_ix (ix_tupK K) (pv 1) pe_int (fun _ _ => rfl)) pa_nil))) (pv 5)) pa_nil))))
  pss_nil)
  (C8.pss_cut (ps_if (PW.pt (pw_and (pt_cmpR op_eq (pv 3) pe_int (nomark _)) (pw_and1 (pt_cmpR op_gt (pe_callB (call_lenK K) (by rfl) T.b_len (by decide +kernel) (pa_cons (pv 5) pa_nil)) pe_int (nomark _)))))
  (pss_one (ps_ret (pe_callTy (call_tuple_ofK K) (by rfl) T.b_tuple (by decide +kernel) (pa_cons (pe_op op_cat (pe_op op_cat (pe_lst (pa_cons (pe_ix (ix_tupK K) (pv 1) pe_int (fun _ _ => rfl)) pa_nil)) (pe_slice (sl_listK K) (pv 5) po_none (po_some (pe_un un_neg pe_int)))) (pe_lst (pa_cons (pe_callTy (call_tuple_ofK K) (by rfl) T.b_tuple (by decide +kernel) (pa_cons (pe_op op_cat (pe_lst (pa_cons (pe_ix (ix_tupK K) (pv 1) pe_int (fun _ _ => rfl)) pa_nil)) (pe_slice (sl_listK K) (pv 5) (po_some (pe_un un_neg pe_int)) po_none)) pa_nil)) pa_nil))) pa_nil))))
  pss_nil)
  (pss_cons (ps_set (i := 6) sc_law_same_word.nd rfl (Or.inl rfl) (pe_def D_law_take hr (by first | decide | omega) (pa_cons (pv 0) (pa_cons (pe_callB (call_lenK K) (by rfl) T.b_len (by decide +kernel) (pa_cons (pv 5) pa_nil)) pa_nil))))
  (pss_cons (ps_asg (pe_def D_law_same_word hr (by first | decide | omega) (pa_cons (pv 0) (pa_cons (pe_ix (ix_listK K) (pv 5) (pv 6) (fun _ _ => rfl)) (pa_cons (pv 2) pa_nil)))) (pg_sub (pv 5) (pv 6) set_list))
  (pss_one (ps_ret (pe_callTy (call_tuple_ofK K) (by rfl) T.b_tuple (by decide +kernel) (pa_cons (pe_op op_cat (pe_lst (pa_cons (pe_ix (ix_tupK K) (pv 1) pe_int (fun _ _ => rfl)) pa_nil)) (pv 5)) pa_nil)))))))))))))))), ?_⟩
  refine ⟨_, rfl, s, 8, rfl, by omega, by omega, hs, fun way w0 w1 => ?_⟩
  refine ⟨_, rfl, _, rfl, (by show 8 ≤ sizeLine; decide), fun D hD => ?_⟩
  have eD := same_new hD (.lst (lettersS.cps.toList.map fun c => V.str ⟨#[c]⟩))
  refine ⟨s, D, _, rfl, hs.up eD, SqL.of upd_same, (by decide +kernel), (by decide +kernel), fun v1 hv1 => ?_⟩
  obtain ⟨ch, hch, rfl⟩ := List.mem_map.mp hv1
  have hz : isLet (.str ⟨#[ch]⟩) = true := decide_eq_true hch
  have q : ∀ v' H' d', Same (upd H D (.lst (lettersS.cps.toList.map fun c => V.str ⟨#[c]⟩))) H' → Tp K H' v' d' → Nice (m + 2) d' → EQ d' d → Q v' H' := fun v' H' d' e => q v' H' d' (eD.trans e)
  have hs := hs.up eD
  have hv := hv.up (Same.T eD)
  generalize upd H D (.lst (lettersS.cps.toList.map fun c => V.str ⟨#[c]⟩)) = H1 at q hs hv ⊢
  clear eD hD hv1
  have nd := drawn_nice hd
  have nz : ∀ {k : Nat}, Nice k (.str ⟨#[ch]⟩) := nice_s (let_nice hz)
  have na : ∀ {k : Nat}, Nice k (.str "&") := nice_s (by decide +kernel)
  have no : ∀ {k : Nat}, Nice k (.str "|") := nice_s (by decide +kernel)
  refine ⟨_, rfl, rfl, _, rfl, if_int (fun h => ?_) (fun h => ?_)⟩
  · refine ⟨_, rfl, _, rfl, _, rfl, (by show 3 ≤ sizeLine; decide), fun t1 ht1 => ⟨(by show 3 ≤ sizeLine; decide), fun t2 ht2 => ?_⟩⟩
    have e1 := same_new ht1 (.tup [.str "&", v, .str ⟨#[ch]⟩])
    have e2 := same_new ht2 (.tup [.str "|", v, .ref t1])
    exact q _ _ (opW true [d, opW false [d, .str ⟨#[ch]⟩]]) (e1.trans e2) (tp3 upd_same (.str _) (hv.up (Same.T (e1.trans e2))) (tp3 (e2 _ _ upd_same) (.str _) (hv.up (Same.T (e1.trans e2))) (.str _))) (niceT3 no (nd.mono (by omega)) (niceT3 na nd nz)) (abs_or _ _)
  clear h
  refine ⟨_, rfl, rfl, _, rfl, if_int (fun h => ?_) (fun h => ?_)⟩
  · refine ⟨_, rfl, _, rfl, (by show 3 ≤ sizeLine; decide), fun t1 ht1 => ⟨_, rfl, (by show 3 ≤ sizeLine; decide), fun t2 ht2 => ?_⟩⟩
    have e1 := same_new ht1 (.tup [.str "|", .str ⟨#[ch]⟩, v])
    have e2 := same_new ht2 (.tup [.str "&", .ref t1, v])
    exact q _ _ (opW false [opW true [.str ⟨#[ch]⟩, d], d]) (e1.trans e2) (tp3 upd_same (.str _) (tp3 (e2 _ _ upd_same) (.str _) (.str _) (hv.up (Same.T (e1.trans e2)))) (hv.up (Same.T (e1.trans e2)))) (niceT3 na (niceT3 no nz nd) (nd.mono (by omega))) (abs_and _ _)
  clear h
  refine ⟨_, rfl, rfl, _, rfl, if_int (fun h => ?_) (fun h => ?_)⟩
  · refine ⟨_, rfl, _, rfl, (by show 3 ≤ sizeLine; decide), fun t1 ht1 => ?_⟩
    have e1 := same_new ht1 (.tup [.str "&", v, v])
    exact q _ _ (opW false [d, d]) e1 (tp3 upd_same (.str _) (hv.up (Same.T e1)) (hv.up (Same.T e1))) ((niceT3 na nd nd).mono (by omega)) (eq_twice _)
  clear h
  refine ⟨_, rfl, v, d, rfl, hv.dp, _, rfl, ?_⟩
  rcases drawn_op hd with ⟨z, rfl, _⟩ | ⟨sb, dps, k, rfl, rfl, l2, l4, hps⟩
  · cases hv with
    | str z => exact iteT ⟨_, rfl, q _ H1 _ (Same.refl _) (.str z) (nd.mono (by omega)) (EQ.refl _)⟩
  have ho : isOp (.str (opS sb)) = true := opS_isOp sb
  have epq : opW sb dps = .tuple (.str (opS sb) :: dps) := rfl
  rw [epq] at hv q hd nd ⊢
  generalize hoo : opS sb = o at *
  cases hv with
  | @tup ta vs _ hta ha =>
  cases ha with
  | @cons vo vr _ _ hvo hvr =>
  cases hvo with
  | str o =>
  refine iteF ?_
  have lvr := hvr.len
  have hnp : ∀ p ∈ dps, Nice k p := fun p hp => drawn_nice (hps p hp)
  refine ⟨_, rfl, _, rfl, ta, _, rfl, hta.sqT, notWhole1, fun p hp0 => ⟨p, _, rfl, .inr (SqT.of upd_same), fun pl hpl => ?_⟩⟩
  rw [cut1] at hpl ⊢
  have e1 := same_new hp0 (.tup vr)
  have e2 := same_new hpl (.lst vr)
  have e12 := e1.trans e2
  have hpl2 : (upd (upd H1 p (.tup vr)) pl (.lst vr)) pl = some (.lst vr) := upd_same
  have hplN : H1 pl = none := by
    cases h : H1 pl with
    | none => rfl
    | some u => exact absurd ((e1 _ _ h).symm.trans hpl) (fun z => by cases z)
  generalize upd (upd H1 p (.tup vr)) pl (.lst vr) = H2 at e12 hpl2 ⊢
  have hs2 := hs.up e12
  have hta2 := up_t e12 hta.sqT
  have hvr2 := hvr.up (Same.T e12)
  have hoN : nice (.str o) = true := op_niceS ho
  have eqq : ∀ {rs : List PyData}, EQ (opW sb rs) (opW sb dps) → EQ (.tuple (.str o :: rs)) (.tuple (.str o :: dps)) := fun h => by
    rw [← hoo]
    exact h
  refine ⟨_, rfl, rfl, _, rfl, if_int (fun h => ?_) (fun h => ?_)⟩
  · refine ⟨_, rfl, ta, _, _, .str o, rfl, rfl, hta2, at0, (by show 1 ≤ sizeLine; decide), fun p1 hp1 => ?_⟩
    have f1 := same_new hp1 (.lst [.str o])
    refine ⟨_, rfl, _, rfl, s, pl, vr, rfl, hs2.up f1, SqL.of (f1 _ _ hpl2), by omega, fun p2 H3 ys hp2 f2 hys perm => ?_⟩
    refine ⟨p1, p2, _, _, rfl, rfl, f2 _ _ upd_same, hys, le_line (by simp [perm.length_eq]; omega), fun p3 hp3 => ⟨p3, _, rfl, .inl ⟨SqL.of upd_same, fun t ht => ?_⟩⟩⟩
    have f3 := same_new hp3 (.lst ([.str o] ++ ys))
    have f4 := same_new ht (.tup ([.str o] ++ ys))
    have f := f1.trans (f2.trans (f3.trans f4))
    obtain ⟨qs, hqs, hpm⟩ := tpa_perm perm hvr2
    exact q _ _ (.tuple (.str o :: qs)) (e12.trans f) (.tup (.inl upd_same) (.cons (.str _) (hqs.up (Same.T f)))) ((niceW hoN (by have := hpm.length_eq; omega) fun p hp => hnp p (hpm.mem_iff.mp hp)).mono (by omega)) (eqq (eq_perm hpm))
  clear h
  refine ⟨_, rfl, rfl, _, rfl, if_int (fun h => ?_) (fun h => ?_)⟩
  · obtain ⟨x0, hx0⟩ : ∃ x0, vr[0]? = some x0 := ⟨vr[0]'(by omega), by simp⟩
    obtain ⟨p0, hp0, hxp0⟩ := hvr2.get hx0
    refine ⟨_, rfl, ta, _, _, .str o, rfl, rfl, hta2, at0, _, rfl, ta, _, _, x0, rfl, rfl, hta2, atI_nat (j := 1) hx0, (by show 2 ≤ sizeLine; decide), fun p1 hp1 => ?_⟩
    have f1 := same_new hp1 (.lst [.str o, x0])
    refine ⟨_, rfl, p1, pl, _, _, rfl, rfl, upd_same, f1 _ _ hpl2, le_line (by simp; omega), fun p3 hp3 => ⟨p3, _, rfl, .inl ⟨SqL.of upd_same, fun t ht => ?_⟩⟩⟩
    have f3 := same_new hp3 (.lst ([.str o, x0] ++ vr))
    have f4 := same_new ht (.tup ([.str o, x0] ++ vr))
    have f := f1.trans (f3.trans f4)
    have hpm := List.mem_of_getElem? hp0
    exact q _ _ (.tuple (.str o :: p0 :: dps)) (e12.trans f) (.tup (.inl upd_same) (.cons (.str _) (.cons (hxp0.up (Same.T f)) (hvr2.up (Same.T f))))) ((niceW hoN (by simp; omega) fun p hp => by
      rcases List.mem_cons.mp hp with rfl | hp
      · exact hnp _ hpm
      · exact hnp p hp).mono (by omega)) (eqq (eq_dup hpm))
  clear h
  refine ⟨fun σ' H' => σ' = [some (.ref s), some (.ref ta), some kv, some (.int way), some (.str ⟨#[ch]⟩), some (.ref pl), none] ∧ H' = H2, ?_, ?_⟩
  · refine ⟨_, rfl, rfl, _, rfl, if_int (fun h => ?_) (fun h => ⟨rfl, rfl⟩)⟩
    refine ⟨_, rfl, _, _, rfl, .inl ⟨_, SqL.of hpl2, rfl⟩, _, _, rfl, rfl, _, rfl, if_dec (fun h => ?_) (fun h => ⟨rfl, rfl⟩)⟩
    obtain ⟨n2, hn2⟩ : ∃ n2, n2 + 2 = vr.length := ⟨vr.length - 2, by omega⟩
    have hca : TpAll K H2 (cutV vr none (some (-2))) (dps.take n2) := by
      rw [cut_a hn2]
      exact tpa_take n2 hvr2
    have hcb : TpAll K H2 (cutV vr (some (-2)) none) (dps.drop n2) := by
      rw [cut_b hn2]
      exact tpa_drop n2 hvr2
    refine ⟨_, rfl, ta, _, _, .str o, rfl, rfl, hta2, at0, (by show 1 ≤ sizeLine; decide), fun p1 hp1 => ?_⟩
    have f1 := same_new hp1 (.lst [.str o])
    refine ⟨_, rfl, 2, rfl, -2, rfl, pl, vr, rfl, SqL.of (f1 _ _ hpl2), fun p2 hp2 => ?_⟩
    have f2 := same_new hp2 (.lst (cutV vr none (some (-2))))
    have c1 := cutV_length vr none (some (-2))
    refine ⟨p1, p2, _, _, rfl, rfl, f2 _ _ upd_same, upd_same, le_line (by simp; omega), fun p3 hp3 => ?_⟩
    have f3 := same_new hp3 (.lst ([.str o] ++ cutV vr none (some (-2))))
    have f13 := f1.trans (f2.trans f3)
    have hp33 : (upd (upd (upd H2 p1 (.lst [.str o])) p2 (.lst (cutV vr none (some (-2))))) p3 (.lst ([.str o] ++ cutV vr none (some (-2))))) p3 = some (.lst ([.str o] ++ cutV vr none (some (-2)))) := upd_same
    generalize upd (upd (upd H2 p1 (.lst [.str o])) p2 (.lst (cutV vr none (some (-2))))) p3 (.lst ([.str o] ++ cutV vr none (some (-2)))) = H3 at f13 hp33 ⊢
    refine ⟨_, rfl, ta, _, _, .str o, rfl, rfl, up_t f13 hta2, at0, (by show 1 ≤ sizeLine; decide), fun p4 hp4 => ?_⟩
    have f4 := same_new hp4 (.lst [.str o])
    refine ⟨_, rfl, 2, rfl, -2, rfl, pl, vr, rfl, SqL.of (f4 _ _ (f13 _ _ hpl2)), fun p5 hp5 => ?_⟩
    have f5 := same_new hp5 (.lst (cutV vr (some (-2)) none))
    have c2 := cutV_length vr (some (-2)) none
    refine ⟨p4, p5, _, _, rfl, rfl, f5 _ _ upd_same, upd_same, le_line (by simp; omega), fun p6 hp6 => ⟨p6, _, rfl, .inl ⟨SqL.of upd_same, fun t1 ht1 => ⟨(by show 1 ≤ sizeLine; decide), fun p7 hp7 => ?_⟩⟩⟩⟩
    have f6 := same_new hp6 (.lst ([.str o] ++ cutV vr (some (-2)) none))
    have f7 := same_new ht1 (.tup ([.str o] ++ cutV vr (some (-2)) none))
    have f8 := same_new hp7 (.lst [.ref t1])
    have f48 := f4.trans (f5.trans (f6.trans (f7.trans f8)))
    have ht : Tp K _ (.ref t1) (.tuple (.str o :: dps.drop n2)) := .tup (.inl (f8 _ _ upd_same)) (.cons (.str _) (hcb.up (Same.T (f13.trans f48))))
    refine ⟨p3, p7, _, _, rfl, rfl, f48 _ _ hp33, upd_same, le_line (by simp; omega), fun p8 hp8 => ⟨p8, _, rfl, .inl ⟨SqL.of upd_same, fun t2 ht2 => ?_⟩⟩⟩
    have f9 := same_new hp8 (.lst ([.str o] ++ cutV vr none (some (-2)) ++ [.ref t1]))
    have f10 := same_new ht2 (.tup ([.str o] ++ cutV vr none (some (-2)) ++ [.ref t1]))
    have f910 := f9.trans f10
    refine q _ _ (.tuple (.str o :: (dps.take n2 ++ [.tuple (.str o :: dps.drop n2)]))) (e12.trans (f13.trans (f48.trans f910))) (.tup (.inl upd_same) (.cons (.str _) (TpAll.app (hca.up (Same.T (f13.trans (f48.trans f910)))) (.cons (ht.up (Same.T f910)) .nil)))) ((niceW (n := k + 1) hoN (by simp; omega) fun p hp => ?_).mono (by omega)) (eqq ?_)
    · rcases List.mem_append.mp hp with hp | hp
      · exact (hnp p (List.mem_of_mem_take hp)).mono (by omega)
      · rw [List.mem_singleton.mp hp]
        exact niceW hoN (by simp; omega) fun p hp => hnp p (List.mem_of_mem_drop hp)
    · have h1 := eq_nest (s := sb) (dps.take n2) (dps.drop n2)
      rw [List.take_append_drop] at h1
      rw [← hoo]
      exact h1
  rintro σ' H' ⟨rfl, rfl⟩
  refine ⟨_, rfl, _, rfl, _, vr.length, rfl, .inl ⟨vr, SqL.of hpl2, rfl⟩, s, vr.length, rfl, by omega, by omega, hs2, fun j j0 j1 => ?_⟩
  obtain ⟨i, rfl⟩ : ∃ i : Nat, j = i := ⟨j.toNat, by omega⟩
  have hi : i < vr.length := by omega
  obtain ⟨x, hx⟩ : ∃ x, vr[i]? = some x := ⟨vr[i], by simp [hi]⟩
  obtain ⟨p', hp', hxp⟩ := hvr.get hx
  refine ⟨_, rfl, _, rfl, _, rfl, pl, vr, _, x, rfl, rfl, SqL.of hpl2, atI_nat hx, _, rfl, s, x, kv, p', k, rfl, hs2, hxp.up (Same.T e12), hps p' (List.mem_of_getElem? hp'), by omega, by omega, fun v' H3 dn e3 hv' hdn heq => ?_⟩
  have hpl3 := e3 _ _ hpl2
  refine ⟨_, rfl, _, rfl, pl, vr, (i : Int), i, rfl, rfl, hpl3, ?_, ?_⟩
  · unfold ixN
    rw [if_pos (by omega), if_pos (by omega)]
    rfl
  have eU : SameT H3 (upd H3 pl (.lst (vr.set i v'))) := (SameT.refl H3).updL hpl3
  have hta4 : SqT K (upd H3 pl (.lst (vr.set i v'))) ta (.str o :: vr) := sqt_updL hpl3 (up_t e3 hta2)
  have e14 : Same H1 (upd H3 pl (.lst (vr.set i v'))) := fun b u hb => by
    rw [upd_ne (ne_of_none hb hplN)]
    exact e3 _ _ (e12 _ _ hb)
  have hv4 : TpAll K (upd H3 pl (.lst (vr.set i v'))) (vr.set i v') (dps.set i dn) := tpa_set (hvr2.up ((Same.T e3).trans eU)) (hv'.up eU)
  have hl4 : (vr.set i v').length = vr.length := List.length_set
  have hpl4 : (upd H3 pl (.lst (vr.set i v'))) pl = some (.lst (vr.set i v')) := upd_same
  generalize upd H3 pl (.lst (vr.set i v')) = H4 at eU hta4 e14 hv4 hpl4 ⊢
  generalize vr.set i v' = ws at hv4 hl4 hpl4
  refine ⟨_, rfl, ta, _, _, .str o, rfl, rfl, hta4, at0, (by show 1 ≤ sizeLine; decide), fun p1 hp1 => ?_⟩
  have f1 := same_new hp1 (.lst [.str o])
  refine ⟨_, rfl, p1, pl, _, _, rfl, rfl, upd_same, f1 _ _ hpl4, le_line (by simp; omega), fun p3 hp3 => ⟨p3, _, rfl, .inl ⟨SqL.of upd_same, fun t ht => ?_⟩⟩⟩
  have f3 := same_new hp3 (.lst ([.str o] ++ ws))
  have f4 := same_new ht (.tup ([.str o] ++ ws))
  have f := f1.trans (f3.trans f4)
  exact q _ _ (.tuple (.str o :: dps.set i dn)) (e14.trans f) (.tup (.inl upd_same) (.cons (.str _) (hv4.up (Same.T f)))) (niceW hoN (by simp; omega) (set_nice (fun p hp => (hnp p hp).mono (by omega)) hdn)) (eqq (eq_set hp' heq))
/-- a word of this law -/
def WordD (d : PyData) : Prop := Drawn 4 d ∧ meas 5 d ≤ 24
def spRewr (K : PySem.W.Frag) : Sp := fun vs H Q _ => ∃ (s : Addr) (v : V) (d : PyData) (many : Nat), vs = [.ref s, v, .int many] ∧ Src H s ∧ Tp K H v d ∧ WordD d ∧ many ≤ 100 ∧ ∀ v' H' d', Same H H' → Tp K H' v' d' → WordD d' → EQ d' d → Q v' H'
theorem ok_rewritten {f : Addr} {fd : FuncData} (F : FunD K "_law_rewritten" "_law_rewritten" (defArgs s_law_rewritten) (defBody s_law_rewritten) (defScope s_law_rewritten) [] [] f fd) (hm : mg "_law_rewritten" = some (.ref f)) (T : Top K mg)
    (D_law_same_word : Def P w K mg base "_law_same_word" 8 ["_law_source_here", "_law_word", "_law_known"] (spSameW K 5)) (D_law_fits : Def P w K mg base "_law_fits" 13 ["_law_word"] (spFits K)) : Def P w K mg base "_law_rewritten" 14 ["_law_source_here", "_law_word", "_law_many"] (spRewr K) := by
  refine def_mk F hm (F.bindsN fun _ _ _ _ _ _ us hl => match us, hl with | [_, _, _], _ => rfl) sc_law_rewritten (fun vs H Q E h => ?_) (fun cdv A outer s0 H vs Q E hr h => ?_)
  · obtain ⟨s, v, d, many, rfl, _⟩ := h
    rfl
  obtain ⟨s, v, d, many, rfl, hs, hv, hd, hmany, q⟩ := h
  refine ⟨_, (pss_cons (ps_for PassesOwn.never rfl (pi_range1 (by rfl) T.b_range (pa_cons (pv 2) pa_nil)) (pg_name (i := 3) sc_law_rewritten.nd rfl (Or.inl rfl) (.inl rfl))
  (pss_cons (ps_set (i := 4) sc_law_rewritten.nd rfl (Or.inl rfl) (pe_def D_law_same_word hr (by first | decide | omega) (pa_cons (pv 0) (pa_cons (pv 1) (pa_cons pe_dnewK pa_nil)))))
  (pss_one (ps_if (pt_val (pe_def D_law_fits hr (by first | decide | omega) (pa_cons (pv 4) pa_nil)))
  (pss_one (ps_set (i := 1) sc_law_rewritten.nd rfl (Or.inl rfl) (pv 4)))
  pss_nil))))
  (pss_one (ps_ret (pv 1)))), ?_⟩
  refine ⟨_, rfl, (many : Int), rfl, by omega, by omega, ?_⟩
  rw [Int.toNat_natCast]
  refine for_range (lo := 0) (n := many) (fun i σ H' => ∃ v' d' o3 o4, σ = [some (.ref s), some v', some (.int many), o3, o4] ∧ Same H H' ∧ Tp K H' v' d' ∧ WordD d' ∧ EQ d' d) ⟨v, d, none, none, rfl, Same.refl H, hv, hd, EQ.refl d⟩ ?_ ?_
  · rintro i σ H1 hi ⟨v', d', o3, o4, rfl, e1, hv1, hd1, hq1⟩
    refine ⟨_, rfl, _, rfl, fun kd hkd => ?_⟩
    have e2 := same_new hkd (.dK [])
    have e12 := e1.trans e2
    refine ⟨s, v', .ref kd, d', 4, rfl, hs.up e12, hv1.up (Same.T e2), hd1.1, by decide, by decide, fun v2 H3 d2 e3 h4 h5 hq2 => ?_⟩
    refine ⟨_, rfl, v2, d2, rfl, h4.dp, h5.mono (by decide), fun H4 e4 => ⟨_, rfl, if_b (fun h6 => ?_) (fun h6 => ?_)⟩⟩
    · obtain ⟨h7, h8⟩ := Bool.and_eq_true_iff.mp h6
      have h8 := of_decide_eq_true h8
      exact ⟨_, rfl, v2, d2, _, _, rfl, e12.trans (e3.trans e4), h4.up (Same.T e4), ⟨word_of 4 d2 (of_decide_eq_true h7) h8, h8⟩, hq2.trans hq1⟩
    · exact ⟨v', d', _, _, rfl, e12.trans (e3.trans e4), hv1.up (Same.T (e2.trans (e3.trans e4))), hd1, hq1⟩
  · rintro σ H1 ⟨v', d', o3, o4, rfl, e1, hv1, hd1, hq1⟩
    exact ⟨_, rfl, q v' H1 d' e1 hv1 hd1 hq1⟩
def spTwoW (K : PySem.W.Frag) : Sp := fun vs H Q _ => ∃ (s : Addr), vs = [.ref s] ∧ Src H s ∧ ∀ (t : Addr) (lv rv : V) (H' : Hp) (l r : PyData), Same H H' → H' t = some (.tup [lv, rv]) → Tp K H' lv l → Tp K H' rv r → WordD l → WordD r → Q (.ref t) H'
theorem ok_two_words {f : Addr} {fd : FuncData} (F : FunD K "_law_two_words" "_law_two_words" (defArgs s_law_two_words) (defBody s_law_two_words) (defScope s_law_two_words) [] [] f fd) (hm : mg "_law_two_words" = some (.ref f)) (T : Top K mg)
    (D_law_take : Def P w K mg base "_law_take" 1 ["_law_source_here", "_law_many"] spTake) (D_law_pick : Def P w K mg base "_law_pick" 2 ["_law_source_here", "_law_row"] (spPick K))
    (D_law_signs : Def P w K mg base "_law_signs" 3 ["_law_source_here", "_law_most"] spSigns) (D_law_term : Def P w K mg base "_law_term" 8 ["_law_source_here", "_law_signs_here", "_law_deep", "_law_room"] (spTermR K 6))
    (D_law_rewritten : Def P w K mg base "_law_rewritten" 14 ["_law_source_here", "_law_word", "_law_many"] (spRewr K)) (D_law_fits : Def P w K mg base "_law_fits" 13 ["_law_word"] (spFits K)) : Def P w K mg base "_law_two_words" 15 ["_law_source_here"] (spTwoW K) := by
  refine def_mk F hm (F.bindsN fun _ _ _ _ _ _ us hl => match us, hl with | [_], _ => rfl) sc_law_two_words (fun vs H Q E h => ?_) (fun cdv A outer s0 H vs Q E hr h => ?_)
  · obtain ⟨s, rfl, _⟩ := h
    rfl
  obtain ⟨s, rfl, hs, q⟩ := h
  refine ⟨_, (pss_cons (ps_set (i := 1) sc_law_two_words.nd rfl (Or.inl rfl) (pe_def D_law_signs hr (by first | decide | omega) (pa_cons (pv 0) (pa_cons pe_int pa_nil))))
  (pss_cons (ps_set (i := 2) sc_law_two_words.nd rfl (Or.inl rfl) (pe_def D_law_term hr (by first | decide | omega) (pa_cons (pv 0) (pa_cons (pv 1) (pa_cons (pe_op op_add pe_int (pe_def D_law_take hr (by first | decide | omega) (pa_cons (pv 0) (pa_cons pe_int pa_nil)))) (pa_cons (pe_lst (pa_cons (pe_def D_law_pick hr (by first | decide | omega) (pa_cons (pv 0) (pa_cons (pe_lst (pa_cons pe_int (pa_cons pe_int (pa_cons pe_int pa_nil)))) pa_nil))) pa_nil)) pa_nil))))))
  (pss_cons (ps_set (i := 3) sc_law_two_words.nd rfl (Or.inl rfl) (pe_def D_law_term hr (by first | decide | omega) (pa_cons (pv 0) (pa_cons (pv 1) (pa_cons (pe_op op_add pe_int (pe_def D_law_take hr (by first | decide | omega) (pa_cons (pv 0) (pa_cons pe_int pa_nil)))) (pa_cons (pe_lst (pa_cons (pe_def D_law_pick hr (by first | decide | omega) (pa_cons (pv 0) (pa_cons (pe_lst (pa_cons pe_int (pa_cons pe_int (pa_cons pe_int pa_nil)))) pa_nil))) pa_nil)) pa_nil))))))
  (pss_cons (ps_set (i := 4) sc_law_two_words.nd rfl (Or.inl rfl) (pe_def D_law_take hr (by first | decide | omega) (pa_cons (pv 0) (pa_cons pe_int pa_nil))))
  (C8.pss_cut (ps_if (pt_cmpR op_eq (pv 4) pe_int (nomark _))
  (pss_one (ps_set (i := 3) sc_law_two_words.nd rfl (Or.inl rfl) (pe_def D_law_rewritten hr (by first | decide | omega) (pa_cons (pv 0) (pa_cons (pv 2) (pa_cons pe_int pa_nil))))))
  pss_nil)
  (C8.pss_cut (ps_if (PW.pt (pw_and (pt_cmpR op_eq (pv 4) pe_int (nomark _)) (pw_and1 (pt_val (pe_def D_law_fits hr (by first | decide | omega) (pa_cons (pe_tup (pa_cons pe_str (pa_cons (pv 3) (pa_cons (pv 2) pa_nil)))) pa_nil))))))
  (pss_one (ps_set (i := 3) sc_law_two_words.nd rfl (Or.inl rfl) (pe_tup (pa_cons pe_str (pa_cons (pv 3) (pa_cons (pv 2) pa_nil))))))
  pss_nil)
  (C8.pss_cut (ps_if (PW.pt (pw_and (pt_cmpR op_eq (pv 4) pe_int (nomark _)) (pw_and1 (pt_val (pe_def D_law_fits hr (by first | decide | omega) (pa_cons (pe_tup (pa_cons pe_str (pa_cons (pv 2) (pa_cons (pv 3) pa_nil)))) pa_nil))))))
  (pss_one (ps_set (i := 2) sc_law_two_words.nd rfl (Or.inl rfl) (pe_tup (pa_cons pe_str (pa_cons (pv 2) (pa_cons (pv 3) pa_nil))))))
  pss_nil)
  (pss_one (ps_ret (pe_tup (pa_cons (pv 2) (pa_cons (pv 3) pa_nil)))))))))))), ?_⟩
  refine ⟨_, rfl, s, 4, rfl, by omega, by omega, hs, fun g H1 zs e1 hg hz hzl hlet => ?_⟩
  -- one drawn term
  have one : ∀ (H0 : Hp) (σ : L2.St) (Q2 : VK), Same H1 H0 → σ[0]? = some (some (.ref s)) → σ[1]? = some (some (.ref g)) → (∀ v H' d, Same H0 H' → Tp K H' v d → WordD d → Q2 v H') →
      tCall (spTermR K 6) [] E0 (tCons (tVar 0) (tCons (tVar 1) (tCons (tOp (rI0 fun i j => V.int (i + j)) (tC (.int 1)) (tCall spTake [] E0 (tCons (tVar 0) (tCons (tC (.int 4)) tNil)))) (tCons (tLst (tCons (tCall (spPick K) [] E0 (tCons (tVar 0) (tCons (tLst (tCons (tC (.int 2)) (tCons (tC (.int 4)) (tCons (tC (.int 8)) tNil)))) tNil))) tNil)) tNil)))) σ H0 Q2 := by
    intro H0 σ Q2 e0 hσ0 hσ1 k'
    have hs0 := hs.up (e1.trans e0)
    refine ⟨_, hσ0, _, hσ1, _, hσ0, s, 4, rfl, by omega, by omega, hs0, fun t t0 t1 => ?_⟩
    refine ⟨_, _, rfl, rfl, _, hσ0, (by show 3 ≤ sizeLine; decide), fun p1 hp1 => ?_⟩
    have f1 := same_new hp1 (.lst [.int 2, .int 4, .int 8])
    refine ⟨s, p1, _, rfl, hs0.up f1, SqL.of upd_same, by simp, by simp, fun r hr1 => ?_⟩
    obtain ⟨ri, rfl, hri, hri2⟩ : ∃ i, r = .int i ∧ 0 ≤ i ∧ i ≤ 8 := by
      simp only [List.mem_cons, List.not_mem_nil, or_false] at hr1
      rcases hr1 with rfl | rfl | rfl <;> exact ⟨_, rfl, by decide, by decide⟩
    refine ⟨(by show 1 ≤ sizeLine; decide), fun p2 hp2 => ?_⟩
    obtain ⟨c, ns, h1, h2⟩ := hs0.up f1
    have f2 := same_new hp2 (.lst [.int ri])
    refine ⟨s, g, p2, c, _, ri, zs, ns, rfl, f2 _ _ h1, f2 _ _ h2, ne_of_none h2 hp2, f2 _ _ (f1 _ _ (e0 _ _ hg)), hz, by omega, hlet, upd_same, hri, by omega, by omega, fun v H' d r' e4 _ r0' _ hd1 hd2 hmm => k' v H' d ?_ hd1 ⟨drawn_mono hd2 (by omega), ?_⟩⟩
    · intro b u hu
      have hu2 := f1 _ _ hu
      exact e4 _ _ (ne_of_none hu2 hp2) (f2 _ _ hu2)
    · rw [hmm 5 (by omega)]
      omega
  refine one H1 _ _ (Same.refl H1) rfl rfl fun lv H2 l e2 hl hwl => ?_
  refine one H2 _ _ e2 rfl rfl fun rv H3 r e3 hr1 hwr => ?_
  have hl3 := hl.up (Same.T e3)
  have e13 := e1.trans (e2.trans e3)
  have hs3 := hs.up e13
  refine ⟨_, rfl, s, 5, rfl, by omega, by omega, hs3, fun way w0 w1 => ?_⟩
  have nice2 : ∀ (o : Str) (x y : PyData), nice (.str o) = true → WordD x → WordD y → Nice 60 (.tuple [.str o, x, y]) := fun o x y ho hx hy => (Nice.tuple (n := 4) (by simp) fun u hu => by
    simp only [List.mem_cons, List.not_mem_nil, or_false] at hu
    rcases hu with rfl | rfl | rfl
    · exact ⟨ho, by rw [PyData.depth]; omega⟩
    · exact drawn_nice hx.1
    · exact drawn_nice hy.1).mono (by decide)
  have fitW : ∀ d : PyData, (decide (1 ≤ meas 5 d) && decide (meas 5 d ≤ 24)) = true → WordD d := fun d h => by
    obtain ⟨h7, h8⟩ := Bool.and_eq_true_iff.mp h
    have h8 := of_decide_eq_true h8
    exact ⟨word_of 4 d (of_decide_eq_true h7) h8, h8⟩
  refine ⟨fun σ' H' => ∃ rv' r', σ' = [some (.ref s), some (.ref g), some lv, some rv', some (.int way)] ∧ Same H H' ∧ Tp K H' lv l ∧ Tp K H' rv' r' ∧ WordD r', ?_, ?_⟩
  · refine ⟨_, rfl, rfl, _, rfl, if_int (fun h => ?_) (fun h => ⟨rv, r, rfl, e13, hl3, hr1, hwr⟩)⟩
    refine ⟨_, rfl, _, rfl, s, lv, l, 3, rfl, hs3, hl3, hwl, by decide, fun v' H4 d' e4 hv' hd' _ => ⟨v', d', rfl, e13.trans e4, hl3.up (Same.T e4), hv', hd'⟩⟩
  clear hl hl3 hr1 hwr e3 e13 hs3 rv r
  rintro σ' H4 ⟨rv, r, rfl, e4, hl4, hr4, hwr⟩
  have hs4 := hs.up e4
  refine ⟨fun σ' H' => ∃ rv' r', σ' = [some (.ref s), some (.ref g), some lv, some rv', some (.int way)] ∧ Same H H' ∧ Tp K H' lv l ∧ Tp K H' rv' r' ∧ WordD r', ?_, ?_⟩
  · refine ⟨_, rfl, rfl, _, rfl, if_int (fun h => ?_) (fun h => ⟨rv, r, rfl, e4, hl4, hr4, hwr⟩)⟩
    refine ⟨_, rfl, _, rfl, (by show 3 ≤ sizeLine; decide), fun t ht => ?_⟩
    have f1 := same_new ht (.tup [.str "|", rv, lv])
    have ht1 : Tp K (upd H4 t (.tup [.str "|", rv, lv])) (.ref t) (.tuple [.str "|", r, l]) := .tup (.inl upd_same) (.cons (.str _) (.cons (hr4.up (Same.T f1)) (.cons (hl4.up (Same.T f1)) .nil)))
    refine ⟨.ref t, _, rfl, ht1.dp, nice2 "|" r l (by decide +kernel) hwr hwl, fun H5 e5 => ⟨_, rfl, if_b (fun h6 => ?_) (fun h6 => ?_)⟩⟩
    · refine ⟨_, rfl, _, rfl, (by show 3 ≤ sizeLine; decide), fun t2 ht2 => ?_⟩
      have f2 := same_new ht2 (.tup [.str "|", rv, lv])
      have f := f1.trans (e5.trans f2)
      exact ⟨_, .tuple [.str "|", r, l], rfl, e4.trans f, hl4.up (Same.T f), .tup (.inl upd_same) (.cons (.str _) (.cons (hr4.up (Same.T f)) (.cons (hl4.up (Same.T f)) .nil))), fitW _ h6⟩
    · have f := f1.trans e5
      exact ⟨rv, r, rfl, e4.trans f, hl4.up (Same.T f), hr4.up (Same.T f), hwr⟩
  clear hl4 hr4 hwr hs4 e4 rv r
  rintro σ' H5 ⟨rv, r, rfl, e5, hl5, hr5, hwr⟩
  refine ⟨fun σ' H' => ∃ lv' l', σ' = [some (.ref s), some (.ref g), some lv', some rv, some (.int way)] ∧ Same H H' ∧ Tp K H' lv' l' ∧ Tp K H' rv r ∧ WordD l', ?_, ?_⟩
  · refine ⟨_, rfl, rfl, _, rfl, if_int (fun h => ?_) (fun h => ⟨lv, l, rfl, e5, hl5, hr5, hwl⟩)⟩
    refine ⟨_, rfl, _, rfl, (by show 3 ≤ sizeLine; decide), fun t ht => ?_⟩
    have f1 := same_new ht (.tup [.str "&", lv, rv])
    have ht1 : Tp K (upd H5 t (.tup [.str "&", lv, rv])) (.ref t) (.tuple [.str "&", l, r]) := .tup (.inl upd_same) (.cons (.str _) (.cons (hl5.up (Same.T f1)) (.cons (hr5.up (Same.T f1)) .nil)))
    refine ⟨.ref t, _, rfl, ht1.dp, nice2 "&" l r (by decide +kernel) hwl hwr, fun H6 e6 => ⟨_, rfl, if_b (fun h6 => ?_) (fun h6 => ?_)⟩⟩
    · refine ⟨_, rfl, _, rfl, (by show 3 ≤ sizeLine; decide), fun t2 ht2 => ?_⟩
      have f2 := same_new ht2 (.tup [.str "&", lv, rv])
      have f := f1.trans (e6.trans f2)
      exact ⟨_, .tuple [.str "&", l, r], rfl, e5.trans f, .tup (.inl upd_same) (.cons (.str _) (.cons (hl5.up (Same.T f)) (.cons (hr5.up (Same.T f)) .nil))), hr5.up (Same.T f), fitW _ h6⟩
    · have f := f1.trans e6
      exact ⟨lv, l, rfl, e5.trans f, hl5.up (Same.T f), hr5.up (Same.T f), hwl⟩
  rintro σ' H6 ⟨lv', l', rfl, e6, hl6, hr6, hwl'⟩
  refine ⟨_, rfl, _, rfl, (by show 2 ≤ sizeLine; decide), fun t ht => ?_⟩
  have f := same_new ht (.tup [lv', rv])
  exact q t lv' rv _ l' r (e6.trans f) upd_same (hl6.up (Same.T f)) (hr6.up (Same.T f)) hwl' hwr
end
end FF
/-! least forms: least_form; equal least forms -/
namespace FF
open PySem PySem.Spec PyProof.Rows L2
/-- least_form, told of any value -/
def spLF (K : PySem.W.Frag) : Sp := fun vs H Q E => ∃ (v : V) (d : PyData), vs = [v] ∧ Dp K H v d ∧ nice d = true ∧
  (fitsB d = true → Tp K H v d ∧ ∀ v' d' H', Same H H' → Tp K H' v' d' → LeastOf 4 d d' → Q v' H') ∧ (fitsB d = false → ErrT K H E)
theorem drawn_of {s : Bool} {ps : List PyData} (h : Drawn 4 (opW s ps)) : ∀ p ∈ ps, Drawn 4 p := fun p hp => by
  obtain ⟨k, hk, _, hd⟩ := part_drawn h
  exact drawn_mono (hd p hp) (by omega)
/-- two least forms of one thing are one -/
theorem least_uniq {x y x' y' : PyData} (hx : LeastOf 4 x x') (hy : LeastOf 4 y y') (h : EQ x y) : x' = y' :=
  lst_uniq (G := Drawn 4) (fun h => drawn_of h) (fun h1 h2 h3 => text_injL h1 h2 h3) hx.lst hy.lst (hx.eq.trans (h.trans hy.eq.symm)) hx.dr hy.dr
section
variable {P : Program} {w : World} {K : PySem.W.Frag} {mg : Str → Option Value} {base : Heap}
theorem fn_least_form {f : Addr} {fd : FuncData} (F : FunD K "least_form" "least_form" (defArgs s_least_form) (defBody s_least_form) (defScope s_least_form) [] [] f fd) (T : Top K mg)
    (D_need_term : DefX P w K mg base "need_term" 14 ["value"] (spNeed K)) (D_least_in : Def P w K mg base "least_in" 32 ["term"] (spLeast K 5)) : FnOk P w K mg base (L2.CX P w) 33 f fd ["term"] (spLF K) := by
  refine FunD.ok F sc_least_form (fun vs H Q E h => ?_) (fun cdv A outer s0 H vs Q E hr h => ?_)
  · obtain ⟨v, d, rfl, _⟩ := h
    rfl
  have tk : Takes (cxOf (L2.CX P w) P w K mg base ["term"] "least_form" (defScope s_least_form) f cdv A outer s0 H E) fun cls d _ H => E cls d H := takes_of rfl rfl rfl rfl
  obtain ⟨v, d, rfl, hd, hn, q1, q2⟩ := h
  refine ⟨_, (pss_cons (ps_expr (pe_defx (E := E) D_need_term tk (fun _ _ _ _ h => h) hr (by first | decide | omega) (pa_cons (pv 0) pa_nil)))
  (pss_one (ps_ret (pe_def D_least_in hr (by first | decide | omega) (pa_cons (pv 0) pa_nil))))), ?_⟩
  refine ⟨_, rfl, v, d, rfl, hd, hn, fun f1 H1 e1 => ?_, fun f1 => q2 f1⟩
  obtain ⟨ht, q⟩ := q1 f1
  have h24 : meas 5 d ≤ 24 := by
    have h : (decide (1 ≤ meas 5 d) && decide (meas 5 d ≤ 24)) = true := f1
    exact of_decide_eq_true (Bool.and_eq_true_iff.mp h).2
  exact ⟨_, rfl, v, d, 4, rfl, ht.up (Same.T e1), (fit_word f1).1, by decide, by decide, h24, fun v' d' H' e' hv' hl => q v' d' H' (e1.trans e') hv' hl⟩
end
end FF
/-! format_term, the law's words -/
namespace FF
open PySem PySem.Spec PyProof.Rows L2
theorem text_low : ∀ {n : Nat} {d : PyData}, Drawn n d → ∀ c ∈ tl (textD (n + 1) d), c < 0x110000 := by
  have lt : ∀ {z : Str}, isLet (.str z) = true → ∀ c ∈ tl z, c < 0x110000 := fun {z} h c hc => by
    obtain ⟨k, e, hk⟩ := let_shape h
    rw [PyData.str.inj e] at hc
    rw [lettersS_val] at hk
    have : c = k := by simpa using hc
    subst this
    simp only [List.mem_cons, List.not_mem_nil, or_false] at hk
    omega
  intro n
  induction n with
  | zero =>
    intro d h
    rcases drawn_shape h with ⟨z, rfl, hz⟩ | ⟨_, _, _, _, _, _, _, e, _⟩
    · exact lt hz
    · cases e
  | succ n ih =>
    intro d h
    rcases drawn_shape h with ⟨z, rfl, hz⟩ | ⟨o, ps, k, rfl, ho, l2, l4, e, hp⟩
    · exact lt hz
    · cases e
      obtain ⟨c, rfl, hc⟩ := op_sign ho
      have hcl : c < 0x110000 := by
        rcases Bool.or_eq_true _ _ ▸ hc with h | h
        · rw [eq_of_beq h]; decide
        · rw [eq_of_beq h]; decide
      have part : ∀ p ∈ ps, ∀ x ∈ tl (partT (textD (n + 1)) p), x < 0x110000 := fun p hpp x hx => by
        have h1 := ih (hp p hpp)
        rcases drawn_shape (hp p hpp) with ⟨z, rfl, hz⟩ | ⟨o2, ps2, _, rfl, _⟩
        · exact lt hz x hx
        · have hx : x ∈ tl (("(" : Str) ++ textD (n + 1) (.tuple (.str o2 :: ps2)) ++ ")") := hx
          rw [par_tl] at hx
          rcases List.mem_cons.mp hx with rfl | hx
          · decide
          rcases List.mem_append.mp hx with hx | hx
          · exact h1 x hx
          · rw [List.mem_singleton.mp hx]; decide
      match ps, l2, part with
      | p :: ps, _, part =>
      intro x hx
      rw [text_tup] at hx
      rcases List.mem_append.mp hx with hx | hx
      · exact part p List.mem_cons_self x hx
      · obtain ⟨l, hl, hx⟩ := List.mem_flatMap.mp hx
        obtain ⟨q, hq, rfl⟩ := List.mem_map.mp hl
        rcases List.mem_cons.mp hx with rfl | hx
        · decide
        rcases List.mem_cons.mp hx with rfl | hx
        · exact hcl
        rcases List.mem_cons.mp hx with rfl | hx
        · decide
        · exact part q (List.mem_cons_of_mem _ hq) x hx
section
variable {P : Program} {w : World} {K : PySem.W.Frag} {mg : Str → Option Value} {base : Heap}
end
end FF
/-! least forms: the law's test -/
namespace FF
open PySem PySem.Spec PyProof.Rows L2
theorem up_lB {K : PySem.W.Frag} {kd a : Addr} {xs : List V} {kvs : List (Key × V)} {H H' : Hp} (hk : H kd = some (.dK kvs)) (e : SameB kd H H') (h : SqL K H a xs) : SqL K H' a xs := by
  rcases h with (h | ⟨o, h⟩) | h
  · exact .inl (.inl (e _ _ (fun z => by rw [z, hk] at h; cases h) h))
  · exact .inl (.inr ⟨o, e _ _ (fun z => by rw [z, hk] at h; cases h) h⟩)
  · exact .inr h
/-! ### rows of answers that are all False -/
def LF (H1 : Hp) (kd D : Addr) (c : Nat → Nat) (k0 : Nat) (i : Nat) (H : Hp) : Prop := SameB kd H1 H ∧ (∃ kvs, H kd = some (.dK kvs) ∧ KnownD kvs ∧ kvs.length ≤ k0 + c i) ∧ ∃ n, n ≤ i ∧ H D = some (.lst (List.replicate n (V.bl false)))
theorem lf_turn {H1 : Hp} {kd D : Addr} {c : Nat → Nat} {k0 i : Nat} {H : Hp} {te : TE} {σ : L2.St} {cost : Nat} (hD : H1 D = none) (hk : ∃ o, H1 kd = some o) (q : LF H1 kd D c k0 i H) (hi : i ≤ 1000) (hc : c i + cost ≤ c (i + 1))
    (st : ∀ kvs2, H kd = some (.dK kvs2) → KnownD kvs2 → kvs2.length ≤ k0 + c i → ∀ Q' : VK, (∀ H3 kvs3, SameB kd H H3 → H3 kd = some (.dK kvs3) → KnownD kvs3 → kvs3.length ≤ kvs2.length + cost → Q' (.bl false) H3) → te σ H Q') :
    te σ H fun y H4 => ∃ acc, H4 D = some (.lst acc) ∧ acc.length < sizeLine ∧ LF H1 kd D c k0 (i + 1) (upd H4 D (.lst (acc ++ [y]))) := by
  obtain ⟨e, ⟨kvs, h1, h2, h3⟩, n, hn, h4⟩ := q
  have hDk : D ≠ kd := fun z => by
    obtain ⟨o, ho⟩ := hk
    rw [z, ho] at hD
    cases hD
  refine st kvs h1 h2 h3 _ fun H3 kvs3 e3 h5 h6 h7 => ⟨_, e3 _ _ hDk h4, ?_, ?_, ?_, n + 1, by omega, ?_⟩
  · rw [List.length_replicate]
    exact lt_line (by omega)
  · intro b u hb hu
    rw [upd_ne (ne_of_none hu hD)]
    exact (e.tr e3) b u hb hu
  · exact ⟨kvs3, by rw [upd_ne (Ne.symm hDk)]; exact h5, h6, by omega⟩
  · rw [upd_same, List.replicate_succ']
theorem lf_skip {H1 : Hp} {kd D : Addr} {c : Nat → Nat} {k0 i : Nat} {H : Hp} (q : LF H1 kd D c k0 i H) (hc : c i ≤ c (i + 1)) : LF H1 kd D c k0 (i + 1) H := by
  obtain ⟨e, ⟨kvs, h1, h2, h3⟩, n, hn, h4⟩ := q
  exact ⟨e, ⟨kvs, h1, h2, by omega⟩, n, by omega, h4⟩
theorem any_no (n : Nat) : (List.replicate n false).any id = false := by
  induction n with
  | zero => rfl
  | succ n ih => rw [List.replicate_succ, List.any_cons, ih] <;> rfl
theorem repl_bl (n : Nat) (b : Bool) : List.replicate n (V.bl b) = (List.replicate n b).map V.bl := by rw [List.map_replicate]
section
variable {K : PySem.W.Frag} {a : Addr} {xs : List V} {te : TE} {tt : TT} {vs : List Nat} {σ : L2.St} {H1 : Hp} {D : Addr} {Qd : Hp → Prop} {kd : Addr} {kvs0 : List (Key × V)}
theorem lc_noT {j : Nat} (c : Nat → Nat) (G : Nat → Prop) (f : Nat → Nat) (hD : H1 D = none) (hk : H1 kd = some (.dK kvs0)) (hK : KnownD kvs0) (h0 : c 0 = 0) (hc : ∀ i, c (i + 1) = c i + f i) (hs : SqT K H1 a xs) (hz : xs.length ≤ 1000)
    (hw : ∀ x, wipe ((wipe σ vs).set j (some x)) vs = wipe σ vs)
    (test : ∀ i x H2, xs[i]? = some x → SameB kd H1 H2 → ∀ Qb : Bool → Hp → Prop, (∀ b, (b = true → G i) → Qb b H2) → tt ((wipe σ vs).set j (some x)) H2 Qb)
    (step : ∀ i x H2 kvs2, G i → xs[i]? = some x → SameB kd H1 H2 → H2 kd = some (.dK kvs2) → KnownD kvs2 → kvs2.length ≤ kvs0.length + c i → ∀ Q' : VK, (∀ H3 kvs3, SameB kd H2 H3 → H3 kd = some (.dK kvs3) → KnownD kvs3 → kvs3.length ≤ kvs2.length + f i → Q' (.bl false) H3) → te ((wipe σ vs).set j (some x)) H2 Q')
    (done : ∀ H2 kvs2 n, SameB kd H1 H2 → H2 kd = some (.dK kvs2) → KnownD kvs2 → kvs2.length ≤ kvs0.length + c xs.length → H2 D = some (.lst ((List.replicate n false).map V.bl)) → Qd H2) :
    ∃ W : Nat → Nat → Hp → Prop, (∃ m, W 0 m (upd H1 D (.lst []))) ∧ ∀ i m H, W i m H →
      ((Itt K a).stop i H ∧ Qd H) ∨ ((Itt K a).go i H ∧ ∃ Nx : Hp → Prop, (∀ H', Nx H' → ∃ m', m' < m ∧ W (i + 1) m' H') ∧ ∀ x H', (Itt K a).yld i H x H' → gName j x (wipe σ vs) H' fun σ2 H2 => wipe σ2 vs = wipe σ vs ∧ tt σ2 H2 fun b H3 =>
        if b = true then te σ2 H3 fun y H4 => ∃ acc, H4 D = some (.lst acc) ∧ acc.length < sizeLine ∧ Nx (upd H4 D (.lst (acc ++ [y]))) else Nx H3) :=
  lc_tup (LF H1 kd D c kvs0.length) ⟨sb_of (same_new hD _), ⟨kvs0, same_new hD _ _ _ hk, hK, by omega⟩, 0, Nat.le_refl _, upd_same⟩ (fun i H _ q => up_tB hk q.1 hs)
    (fun i x H hx q => ⟨hw x, test i x H hx q.1 _ fun b hb => by
      have hi := (List.getElem?_eq_some_iff.mp hx).1
      have hci := hc i
      cases b with
      | false => exact iteF (lf_skip q (by omega))
      | true => exact iteT (lf_turn hD ⟨_, hk⟩ q (by omega) (by omega) fun kvs2 h1 h2 h3 Q' k' => step i x H kvs2 (hb rfl) hx q.1 h1 h2 h3 Q' k')⟩)
    fun H ⟨e, ⟨kvs, h1, h2, h3⟩, n, _, h4⟩ => done H kvs n e h1 h2 h3 (by rw [← repl_bl]; exact h4)
theorem lc_noL {j : Nat} (c : Nat → Nat) (f : Nat → Nat) (hD : H1 D = none) (hk : H1 kd = some (.dK kvs0)) (hK : KnownD kvs0) (h0 : c 0 = 0) (hc : ∀ i, c (i + 1) = c i + f i) (hs : SqL K H1 a xs) (hz : xs.length ≤ 1000)
    (hw : ∀ x, wipe ((wipe σ vs).set j (some x)) vs = wipe σ vs)
    (step : ∀ i x H2 kvs2, xs[i]? = some x → SameB kd H1 H2 → H2 kd = some (.dK kvs2) → KnownD kvs2 → kvs2.length ≤ kvs0.length + c i → ∀ Q' : VK, (∀ H3 kvs3, SameB kd H2 H3 → H3 kd = some (.dK kvs3) → KnownD kvs3 → kvs3.length ≤ kvs2.length + f i → Q' (.bl false) H3) → te ((wipe σ vs).set j (some x)) H2 Q')
    (done : ∀ H2 kvs2 n, SameB kd H1 H2 → H2 kd = some (.dK kvs2) → KnownD kvs2 → kvs2.length ≤ kvs0.length + c xs.length → H2 D = some (.lst ((List.replicate n false).map V.bl)) → Qd H2) :
    ∃ W : Nat → Nat → Hp → Prop, (∃ m, W 0 m (upd H1 D (.lst []))) ∧ ∀ i m H, W i m H →
      ((Itl K a).stop i H ∧ Qd H) ∨ ((Itl K a).go i H ∧ ∃ Nx : Hp → Prop, (∀ H', Nx H' → ∃ m', m' < m ∧ W (i + 1) m' H') ∧ ∀ x H', (Itl K a).yld i H x H' → gName j x (wipe σ vs) H' fun σ2 H2 => wipe σ2 vs = wipe σ vs ∧ tYes σ2 H2 fun b H3 =>
        if b = true then te σ2 H3 fun y H4 => ∃ acc, H4 D = some (.lst acc) ∧ acc.length < sizeLine ∧ Nx (upd H4 D (.lst (acc ++ [y]))) else Nx H3) :=
  lc_list (LF H1 kd D c kvs0.length) ⟨sb_of (same_new hD _), ⟨kvs0, same_new hD _ _ _ hk, hK, by omega⟩, 0, Nat.le_refl _, upd_same⟩ (fun i H _ q => up_lB hk q.1 hs)
    (fun i x H hx q => ⟨hw x, by
      have hi := (List.getElem?_eq_some_iff.mp hx).1
      have hci := hc i
      exact yes_ (iteT (lf_turn hD ⟨_, hk⟩ q (by omega) (by omega) fun kvs2 h1 h2 h3 Q' k' => step i x H kvs2 hx q.1 h1 h2 h3 Q' k'))⟩)
    fun H ⟨e, ⟨kvs, h1, h2, h3⟩, n, _, h4⟩ => done H kvs n e h1 h2 h3 (by rw [← repl_bl]; exact h4)
end
/-! ### costs -/
def lvw (d : PyData) : Nat := 1022 * (lvs d * lvs d)
def leastCost (n : Nat) (d : PyData) : Nat := n * lvw d
def Lsum (f : PyData → Nat) (ps : List PyData) (i : Nat) : Nat := ((ps.take i).map f).sum
theorem Lsum_succ (g : PyData → Nat) (ps : List PyData) (i : Nat) : Lsum g ps (i + 1) = Lsum g ps i + ((ps[i]?).map g).getD 0 := by
  unfold Lsum
  rw [List.take_add_one, List.map_append, List.sum_append]
  cases ps[i]? with
  | none => rfl
  | some p => simp
theorem Lsum_get {g : PyData → Nat} {ps : List PyData} {i : Nat} {p : PyData} (h : ps[i]? = some p) : ((ps[i]?).map g).getD 0 = g p := by rw [h] <;> rfl
theorem Lsum_le {g : PyData → Nat} {B : Nat} {ps : List PyData} (h : ∀ p ∈ ps, g p ≤ B * lvs p) (i : Nat) : Lsum g ps i ≤ B * lvsAll ps := by
  refine Nat.le_trans (sum_mul (ps := ps.take i) fun p hp => h p (List.mem_of_mem_take hp)) (Nat.mul_le_mul_left _ ?_)
  have : ∀ (ps : List PyData) (i : Nat), lvsAll (ps.take i) ≤ lvsAll ps := fun ps => by
    induction ps with
    | nil => exact fun i => by cases i <;> exact Nat.le_refl _
    | cons p r ih =>
      intro i
      cases i with
      | zero => exact Nat.zero_le _
      | succ i =>
        rw [List.take_succ_cons, lvsAll, lvsAll]
        have := ih i
        omega
  exact this ps i
theorem anti_le {s : Bool} {ps : List PyData} (ha : Anti s ps) {p q : PyData} (hp : p ∈ ps) (hq : q ∈ ps) (h : LE p q) : p = q := by
  cases s with
  | true => exact anti_ne ha hp hq h
  | false => exact (anti_ne ha hq hp h).symm
theorem cost_511 (l r : PyData) : costD 9 l r ≤ 511 * (lvs l * lvs r) := by
  have := cost_le 9 l r
  generalize lvs l * lvs r = X at *
  omega
theorem sum_le_mul {f : PyData → Nat} {B : Nat} {ps : List PyData} (h : ∀ p ∈ ps, f p ≤ B * lvs p) : ∀ i, ((ps.take i).map f).sum ≤ B * lvsAll ps := fun i => by
  refine Nat.le_trans (sum_mul (ps := ps.take i) fun p hp => h p (List.mem_of_mem_take hp)) (Nat.mul_le_mul_left _ ?_)
  have : ∀ (ps : List PyData) (i : Nat), lvsAll (ps.take i) ≤ lvsAll ps := fun ps => by
    induction ps with
    | nil => exact fun i => by cases i <;> exact Nat.le_refl _
    | cons p r ih =>
      intro i
      cases i with
      | zero => exact Nat.zero_le _
      | succ i =>
        rw [List.take_succ_cons, lvsAll, lvsAll]
        have := ih i
        omega
  exact this ps i
end FF
namespace FF
open PySem PySem.Spec PyProof.Rows L2
def spLeastB (K : PySem.W.Frag) (n : Nat) : Sp := fun vs H Q _ => ∃ (v : V) (kd : Addr) (d : PyData) (m : Nat) (kvs : List (Key × V)), vs = [v, .ref kd] ∧ Tp K H v d ∧ Drawn m d ∧ m < n ∧ n ≤ 5 ∧ Lst d ∧ lvs d ≤ 47 ∧ H kd = some (.dK kvs) ∧ KnownD kvs ∧ kvs.length + leastCost n d ≤ 16000000 ∧
  ∀ H' kvs', SameB kd H H' → H' kd = some (.dK kvs') → KnownD kvs' → kvs'.length ≤ kvs.length + leastCost n d → Q (.bl true) H'
theorem texts_shaped {ps : List PyData} (h : ∀ p ∈ ps, Drawn 4 p) : SeqAt.shaped (.list (ps.map fun p => .str (textD 5 p))) = true := by
  have one : ∀ d : PyData, d ∈ ps.map (fun p => PyData.str (textD 5 p)) → d.canLay0 = true ∧ d.depth ≤ 0 := fun d hd => by
    obtain ⟨p, hp, rfl⟩ := List.mem_map.mp hd
    refine ⟨?_, by rw [PyData.depth]; exact Nat.le_refl _⟩
    show ((textD 5 p).cps.all fun x => decide (x < 0x110000)) = true
    rw [← Array.all_toList, List.all_eq_true]
    exact fun c hc => decide_eq_true (text_low (h p hp) c hc)
  have all : ∀ ds : List PyData, (∀ d ∈ ds, d.canLay0 = true ∧ d.depth ≤ 0) → PyData.canLayAll0 ds = true := fun ds => by
    induction ds with
    | nil => exact fun _ => rfl
    | cons x xs ih =>
      intro h
      simp only [PyData.canLayAll0, (h x List.mem_cons_self).1, ih fun d hd => h d (List.mem_cons_of_mem _ hd), Bool.and_self]
  have h1 : (PyData.list (ps.map fun p => .str (textD 5 p))).canLay0 = true := by
    simp only [PyData.canLay0]
    exact all _ one
  have h2 : (PyData.list (ps.map fun p => .str (textD 5 p))).depth ≤ 64 := by
    simp only [PyData.depth]
    have := depthAll_of (n := 0) fun d hd => (one d hd).2
    omega
  show ((PyData.list _).canLay0 && decide ((PyData.list _).depth ≤ 64)) = true
  rw [h1, decide_eq_true h2] <;> rfl
theorem dp_strs {K : PySem.W.Frag} {H : Hp} : ∀ zs : List Str, DpAll K H (zs.map V.str) (zs.map PyData.str)
  | [] => .nil
  | z :: r => .cons (.str z) (dp_strs r)
/-- the parts of a least form, by their texts -/
theorem texts_set {s : Bool} {ps : List PyData} (hd : ∀ p ∈ ps, Drawn 4 p) (ha : Anti s ps) (ht : ps.Pairwise fun p q => leS (textD 5 p) (textD 5 q) = true) {ys : List Str} (nd : ys.Nodup) (hm : ∀ k, k ∈ ys ↔ k ∈ ps.map (textD 5)) (hs : sortedS ys = true) : ys = ps.map (textD 5) := by
  have nd2 : (ps.map (textD 5)).Nodup := List.pairwise_map.mpr ((anti_nd ha).imp_of_mem fun {a b} h1 h2 h3 e => h3 (text_injL (hd a h1) (hd b h2) e))
  have pm : ys.Perm (ps.map (textD 5)) := (List.perm_ext_iff_of_nodup nd nd2).mpr hm
  exact List.Perm.eq_of_pairwise (le := fun a b => leS a b = true) (fun a b _ _ h1 h2 => leS_antisymm h1 h2) (sorted_pw hs) (List.pairwise_map.mpr ht) pm
section
variable {P : Program} {w : World} {K : PySem.W.Frag} {mg : Str → Option Value} {base : Heap}
theorem ok_law_parts {f : Addr} {fd : FuncData} (F : FunD K "_law_parts" "_law_parts" (defArgs s_law_parts) (defBody s_law_parts) (defScope s_law_parts) [] [] f fd) (hm : mg "_law_parts" = some (.ref f)) (T : Top K mg) : Def P w K mg base "_law_parts" 1 ["_law_word"] (fun vs H Q _ => ∃ (v : V) (d : PyData) (m : Nat), vs = [v] ∧ Tp K H v d ∧ Drawn m d ∧ ∀ p us H', Same H H' → H p = none → H' p = some (.lst us) → TpAll K H' us (tlD d) → Q (.ref p) H') := by
  refine def_mk F hm (F.bindsN fun _ _ _ _ _ _ us hl => match us, hl with | [_], _ => rfl) sc_law_parts (fun vs H Q E h => ?_) (fun cdv A outer s H vs Q E hr h => ?_)
  · obtain ⟨v, d, m, rfl, _⟩ := h
    rfl
  obtain ⟨v, d, m, rfl, hd, hdr, q⟩ := h
  refine ⟨_, (pss_one (ps_ret (pe_ifExp (pt_val (pe_callB (call_isK K kb_str) (by rfl) T.b_isinstance (by decide +kernel) (pa_cons (pv 0) (pa_cons (pe_bltn (v := .ty "str") (by rfl) T.b_str (by decide +kernel) rfl) pa_nil)))) (pe_lst pa_nil) (pe_callTy (call_list_ofK K) (by rfl) T.b_list (by decide +kernel) (pa_cons (pe_slice (sl_tupK K) (pv 0) (po_some pe_int) po_none) pa_nil))))), ?_⟩
  refine ⟨_, rfl, v, d, rfl, hd.dp, _, rfl, ?_⟩
  rcases word_tl hd hdr with ⟨z, rfl, rfl, hz⟩ | ⟨ta, o, vr, rfl, hta, hvr, ho, _⟩
  · refine iteT ⟨(by show 0 ≤ sizeLine; decide), fun p hp => q p _ _ (same_new hp _) hp upd_same .nil⟩
  · rcases drawn_op hdr with ⟨z, rfl, _⟩ | ⟨s, ps, k, rfl, _, _, h24, _⟩
    · cases hd
    refine iteF ⟨_, rfl, _, rfl, ta, _, rfl, hta, notWhole1, fun p hp0 => ?_⟩
    rw [cut1]
    have e1 := same_new hp0 (.tup vr)
    refine ⟨p, vr, rfl, .inr (SqT.of upd_same), fun l hl => ?_⟩
    have hl0 : H l = none := by
      cases e : H l with
      | none => rfl
      | some u =>
        rw [e1 _ _ e] at hl
        cases hl
    exact q l vr _ (e1.trans (same_new hl _)) hl0 upd_same (hvr.up ((Same.T e1).trans (Same.T (same_new hl _))))
theorem ok_law_leaves {n : Nat} {f : Addr} {fd : FuncData} (F : FunD K "_law_leaves" "_law_leaves" (defArgs s_law_leaves) (defBody s_law_leaves) (defScope s_law_leaves) [] [] f fd) (hm : mg "_law_leaves" = some (.ref f)) (T : Top K mg)
    (D_law_leaves : Def P w K mg base "_law_leaves" n ["_law_word"] (fun vs H Q _ => ∃ (v : V) (d : PyData) (m : Nat), vs = [v] ∧ Tp K H v d ∧ Drawn m d ∧ m < n ∧ n ≤ 5 ∧ ∀ H', Same H H' → Q (.int (meas 5 d)) H')) : Def P w K mg base "_law_leaves" (n + 1) ["_law_word"] (fun vs H Q _ => ∃ (v : V) (d : PyData) (m : Nat), vs = [v] ∧ Tp K H v d ∧ Drawn m d ∧ m < n + 1 ∧ n + 1 ≤ 5 ∧ ∀ H', Same H H' → Q (.int (meas 5 d)) H') := by
  refine def_mk F hm (F.bindsN fun _ _ _ _ _ _ us hl => match us, hl with | [_], _ => rfl) sc_law_leaves (fun vs H Q E h => ?_) (fun cdv A outer s H vs Q E hr h => ?_)
  · obtain ⟨v, d, m, rfl, _⟩ := h
    rfl
  obtain ⟨v, d, m, rfl, hd, hdr, hmn, hn5, q⟩ := h
  refine ⟨_, (pss_one (ps_ret (pe_ifExp (pt_val (pe_callB (call_isK K kb_str) (by rfl) T.b_isinstance (by decide +kernel) (pa_cons (pv 0) (pa_cons (pe_bltn (v := .ty "str") (by rfl) T.b_str (by decide +kernel) rfl) pa_nil)))) pe_int (pe_callB (cr_sumK K rfl) (by rfl) T.b_sum (by decide +kernel) (pa_cons (pe_lc (own := [("_law_one", 1)]) rfl sc_law_leaves.nd (pi_tupK K (pe_slice (sl_tupK K) (pv 0) (po_some pe_int) po_none)) (blkOk_by (by kernel_rfl)) (fun _ _ _ _ _ => (pg_name (i := 1) sc_law_leaves.nd rfl (Or.inl rfl) (.inr rfl))) (fun _ _ _ _ _ => pts_nil) (fun _ _ _ _ _ => (pe_def D_law_leaves hr (by first | decide | omega) (pa_cons (pv 1) pa_nil)))) pa_nil))))), ?_⟩
  refine ⟨_, rfl, v, d, rfl, hd.dp, _, rfl, ?_⟩
  rcases drawn_op hdr with ⟨z, rfl, hz⟩ | ⟨s, ps, k, rfl, rfl, h2, h24, hps⟩
  · refine iteT (qi (q H (Same.refl H)) ?_)
    rw [meas_let hz] <;> rfl
  have hl := lea_op (s := s) hps (by omega) h2
  unfold opW at hd
  cases hd with
  | @tup ta xs _ hta htx =>
  cases htx with
  | @cons vo vr _ _ ho hvr =>
  refine iteF ⟨_, rfl, _, rfl, ta, _, rfl, hta.sqT, notWhole1, fun p hp0 => ?_⟩
  rw [cut1]
  have e1 := same_new hp0 (.tup vr)
  have hp1 : (upd H p (.tup vr)) p = some (.tup vr) := upd_same
  generalize upd H p (.tup vr) = H1 at e1 hp1 ⊢
  refine ⟨p, rfl, ⟨vr, SqT.of hp1⟩, fun D hD => ?_⟩
  have hvl := hvr.len
  refine lc_mapT (xs := vr) (j := 1) (fun i u _ => ∃ y, ps[i]? = some y ∧ u = .int (meas 5 y)) (fun _ _ _ _ _ h => h) hD (SqT.of hp1) (le_line (by omega)) (fun _ => rfl) ?_ ?_
  · intro i u H3 hu e3 Q' k'
    obtain ⟨y, hy, hyt⟩ := hvr.get hu
    exact ⟨_, rfl, u, y, k, rfl, hyt.up (Same.T (e1.trans e3)), hps y (List.mem_of_getElem? hy), by omega, by omega, fun H' e' => k' _ _ e' ⟨y, hy, rfl⟩⟩
  · intro H3 ys e3 hD3 hyl hy
    have hys : ys = (ps.map (meas 5)).map V.int := by
      rw [List.map_map]
      exact eq_map_of (by rw [hyl, hvl]) fun i y h => hy i y h
    subst hys
    have := q H3 (e1.trans e3)
    rw [hl] at this
    exact ⟨D, _, rfl, SqL.of hD3, this⟩
theorem ok_law_least {n : Nat} {f : Addr} {fd : FuncData} (F : FunD K "_law_least" "_law_least" (defArgs s_law_least) (defBody s_law_least) (defScope s_law_least) [] [] f fd) (hm : mg "_law_least" = some (.ref f)) (T : Top K mg)
    (D_law_least : Def P w K mg base "_law_least" (n + 24) ["_law_word", "_law_known"] (spLeastB K n)) (D_law_text : Def P w K mg base "_law_text" 5 ["_law_word"] (spText K 5))
    (D_law_below : Def P w K mg base "_law_below" 23 ["_law_one", "_law_other", "_law_known"] (spLeqG K argsL resB 9 (costD 9)))
    (D_law_parts : Def P w K mg base "_law_parts" 1 ["_law_word"] (fun vs H Q _ => ∃ (v : V) (d : PyData) (m : Nat), vs = [v] ∧ Tp K H v d ∧ Drawn m d ∧ ∀ p us H', Same H H' → H p = none → H' p = some (.lst us) → TpAll K H' us (tlD d) → Q (.ref p) H')) :
    Def P w K mg base "_law_least" (n + 25) ["_law_word", "_law_known"] (spLeastB K (n + 1)) := by
  refine def_mk F hm (F.bindsN fun _ _ _ _ _ _ us hl => match us, hl with | [_, _], _ => rfl) sc_law_least (fun vs H Q E h => ?_) (fun cdv A outer s0 H vs Q E hr h => ?_)
  · obtain ⟨v, kd, d, m, kvs, rfl, _⟩ := h
    rfl
  obtain ⟨v, kd, d, m, kvs, rfl, hd, hdr, hmn, hn5, hL, h47, hk, hK, hc, q⟩ := h
  refine ⟨_, (pss_cons (ps_if (pt_val (pe_callB (call_isK K kb_str) (by rfl) T.b_isinstance (by decide +kernel) (pa_cons (pv 0) (pa_cons (pe_bltn (v := .ty "str") (by rfl) T.b_str (by decide +kernel) rfl) pa_nil))))
  (pss_one (ps_ret pe_bl))
  pss_nil)
  (pss_cons (ps_setLc (i := 2) (own := [("_law_one", 3)]) rfl sc_law_least.nd rfl rfl (sw_true rfl rfl rfl (by kernel_rfl)) (pi_tupK K (pe_slice (sl_tupK K) (pv 0) (po_some pe_int) po_none)) (blkOk_by (by kernel_rfl)) (fun _ _ _ _ _ => (pg_name (i := 3) sc_law_least.nd rfl (Or.inl rfl) (.inr rfl))) (fun _ _ _ _ _ => pts_nil) (fun _ _ _ _ _ => (pe_def D_law_text hr (by first | decide | omega) (pa_cons (pv 3) pa_nil))))
  (pss_cons (ps_if (PW.pt (pw_or (pt_cmpR (op_neK K hr.units) (pv 2) (pe_callB (cr_sortedT rfl) (by rfl) T.b_sorted (by decide +kernel) (pa_cons (pe_callTy (cr_setS rfl) (by rfl) T.b_set (by decide +kernel) (pa_cons (pv 2) pa_nil)) pa_nil)) (nomark _)) (pw_or1 (pt_val (pe_callB (cr_anyK K rfl) (by rfl) T.b_any (by decide +kernel) (pa_cons (pe_lc (own := [("_law_one", 3)]) rfl sc_law_least.nd (pi_tupK K (pe_slice (sl_tupK K) (pv 0) (po_some pe_int) po_none)) (blkOk_by (by kernel_rfl)) (fun _ _ _ _ _ => (pg_name (i := 3) sc_law_least.nd rfl (Or.inl rfl) (.inr rfl))) (fun _ _ _ _ _ => pts_nil) (fun _ _ _ _ _ => (pe_cmpR op_eq (pe_ix (ix_wordK K) (pv 3) pe_int (fun _ _ => rfl)) (pe_ix (ix_wordK K) (pv 0) pe_int (fun _ _ => rfl)) (nomark _)))) pa_nil))))))
  (pss_one (ps_ret pe_bl))
  pss_nil)
  (pss_cons (ps_if (pt_not (pt_val (pe_callB (cr_allK K rfl) (by rfl) T.b_all (by decide +kernel) (pa_cons (pe_lc (own := [("_law_one", 3)]) rfl sc_law_least.nd (pi_tupK K (pe_slice (sl_tupK K) (pv 0) (po_some pe_int) po_none)) (blkOk_by (by kernel_rfl)) (fun _ _ _ _ _ => (pg_name (i := 3) sc_law_least.nd rfl (Or.inl rfl) (.inr rfl))) (fun _ _ _ _ _ => pts_nil) (fun _ _ _ _ _ => (pe_def D_law_least hr (by first | decide | omega) (pa_cons (pv 3) (pa_cons (pv 1) pa_nil))))) pa_nil))))
  (pss_one (ps_ret pe_bl))
  pss_nil)
  (pss_cons (ps_for PassesOwn.never rfl (pi_tupK K (pe_slice (sl_tupK K) (pv 0) (po_some pe_int) po_none)) (pg_name (i := 3) sc_law_least.nd rfl (Or.inr rfl) (.inl rfl))
  (pss_cons (ps_if (pt_val (pe_callB (cr_anyK K rfl) (by rfl) T.b_any (by decide +kernel) (pa_cons (pe_lc (own := [("_law_other", 4)]) rfl sc_law_least.nd (pi_tupK K (pe_slice (sl_tupK K) (pv 0) (po_some pe_int) po_none)) (blkOk_by (by kernel_rfl)) (fun _ _ _ _ _ => (pg_name (i := 4) sc_law_least.nd rfl (Or.inl rfl) (.inr rfl))) (fun _ _ _ _ _ => (pts_one (pt_cmpR (op_neK K hr.units) (pv 4) (pv 3) (nomark _)))) (fun _ _ _ _ _ => (pe_def D_law_below hr (by first | decide | omega) (pa_cons (pv 3) (pa_cons (pv 4) (pa_cons (pv 1) pa_nil)))))) pa_nil)))
  (pss_one (ps_ret pe_bl))
  pss_nil)
  (pss_cons (ps_if (PW.pt (pw_and (pt_cmpR op_eq (pe_ix (ix_wordK K) (pv 0) pe_int (fun _ _ => rfl)) pe_str (nomark _)) (pw_and1 (pt_val (pe_callB (cr_anyK K rfl) (by rfl) T.b_any (by decide +kernel) (pa_cons (pe_lc (own := [("_law_part", 5)]) rfl sc_law_least.nd (pi_listK K (pe_def D_law_parts hr (by first | decide | omega) (pa_cons (pv 3) pa_nil))) (blkOk_by (by kernel_rfl)) (fun _ _ _ _ _ => (pg_name (i := 5) sc_law_least.nd rfl (Or.inl rfl) (.inr rfl))) (fun _ _ _ _ _ => pts_nil) (fun _ _ _ _ _ => (pe_def D_law_below hr (by first | decide | omega) (pa_cons (pv 5) (pa_cons (pv 0) (pa_cons (pv 1) pa_nil)))))) pa_nil))))))
  (pss_one (ps_ret pe_bl))
  pss_nil)
  (pss_one (ps_if (PW.pt (pw_and (pt_cmpR op_eq (pe_ix (ix_wordK K) (pv 0) pe_int (fun _ _ => rfl)) pe_str (nomark _)) (pw_and1 (pt_val (pe_callB (cr_anyK K rfl) (by rfl) T.b_any (by decide +kernel) (pa_cons (pe_lc (own := [("_law_part", 5)]) rfl sc_law_least.nd (pi_listK K (pe_def D_law_parts hr (by first | decide | omega) (pa_cons (pv 3) pa_nil))) (blkOk_by (by kernel_rfl)) (fun _ _ _ _ _ => (pg_name (i := 5) sc_law_least.nd rfl (Or.inl rfl) (.inr rfl))) (fun _ _ _ _ _ => pts_nil) (fun _ _ _ _ _ => (pe_def D_law_below hr (by first | decide | omega) (pa_cons (pv 0) (pa_cons (pv 5) (pa_cons (pv 1) pa_nil)))))) pa_nil))))))
  (pss_one (ps_ret pe_bl))
  pss_nil)))))
  (pss_one (ps_ret pe_bl))))))), ?_⟩
  refine ⟨_, rfl, v, d, rfl, hd.dp, _, rfl, ?_⟩
  rcases drawn_op hdr with ⟨z, rfl, hz⟩ | ⟨s, ps, k, rfl, rfl, h2, h24, hps⟩
  · exact iteT (q H kvs sb_refl hk hK (by omega))
  cases hL with
  | lett e _ _ => cases e
  | @op _ t qs e k2 kl kh ka ki kt =>
  obtain ⟨rfl, rfl⟩ := opW_inj e
  have hdW := hd
  unfold opW at hd
  cases hd with
  | @tup ta xs _ hta htx =>
  cases htx with
  | @cons vo vr _ _ ho hvr =>
  cases ho
  have hd4 : ∀ p ∈ ps, Drawn 4 p := fun p hp => drawn_mono (hps p hp) (by omega)
  have hvl := hvr.len
  have eTt : ∀ {H' : Hp}, SameB kd H H' → SameT H H' := fun e => sameT_d hk e
  have hall : lvsAll ps ≤ lvs (opW s ps) := by
    show lvsAll ps ≤ lvs (.tuple (_ :: ps))
    rw [lvs]
    omega
  have hpl : ∀ p ∈ ps, lvs p ≤ lvs (opW s ps) := fun p hp => by
    obtain ⟨i, hi⟩ := List.getElem?_of_mem hp
    have h1 := sum_part (f := lvs) hi
    have h2 := sum_le_mul (B := 1) (f := lvs) (ps := ps) (fun p _ => by omega) ps.length
    rw [List.take_length] at h2
    omega
  refine iteF ?_
  unfold tNext
  dsimp only
  -- the texts
  refine ⟨_, rfl, _, rfl, ta, _, rfl, hta.sqT, notWhole1, fun p hp0 => ⟨p, rfl, ⟨_, SqT.of upd_same⟩, fun D hD => ?_⟩⟩
  rw [cut1] at hD ⊢
  have e1 := same_new hp0 (.tup vr)
  refine lc_mapT (j := 3) (fun i u _ => ∃ y, ps[i]? = some y ∧ u = .str (textD 5 y)) (fun _ _ _ _ _ h => h) hD (SqT.of upd_same) (le_line (by omega)) (fun _ => rfl) ?_ ?_
  · intro i u H3 hu e3 Q' k'
    obtain ⟨y, hy, hyt⟩ := hvr.get hu
    exact ⟨_, rfl, u, y, 4, rfl, hyt.up (Same.T (e1.trans e3)), hd4 y (List.mem_of_getElem? hy), by decide, by decide, fun H' e' => k' _ _ e' ⟨y, hy, rfl⟩⟩
  intro H2 ys e2 hD2 hl2 hy2
  have hys : ys = (ps.map (textD 5)).map V.str := by
    rw [List.map_map]
    exact eq_map_of (by rw [hl2, hvl]) fun i y h => hy2 i y h
  subst hys
  have e02 := e1.trans e2
  have hta2 := up_t e02 hta.sqT
  have hvr2 := hvr.up (Same.T e02)
  have hk2 := e02 _ _ hk
  refine ⟨_, rfl, _, rfl, D, ps.map (textD 5), rfl, SqL.of hD2, by rw [List.length_map]; omega, fun S nS hS hn => ?_⟩
  refine ⟨S, _, nS, rfl, upd_same, fun zs p2 nd hmem hzl hs hp2 => ?_⟩
  have ez : zs = ps.map (textD 5) := texts_set hd4 ka kt nd (fun k => by rw [hmem k, decide_eq_true_eq]) hs
  subst ez
  have f1 := same_new hS (SetTO w S (fun j => decide (j ∈ ps.map (textD 5))) nS)
  have f2 := f1.trans (same_new hp2 (.lst ((ps.map (textD 5)).map V.str)))
  have hsh := texts_shaped hd4
  have hmm : ps.map (fun p => PyData.str (textD 5 p)) = (ps.map (textD 5)).map PyData.str := by rw [List.map_map] <;> rfl
  rw [hmm] at hsh
  refine ⟨.list ((ps.map (textD 5)).map PyData.str), .list ((ps.map (textD 5)).map PyData.str), .lst (SqL.of (f2 _ _ hD2)) (dp_strs _), .lst (SqL.of upd_same) (dp_strs _), hsh, hsh, ?_⟩
  rw [SeqAt.eqv_refl _ (SeqAt.canLay_of_shaped hsh)]
  have e03 := e02.trans f2
  have hta3 := up_t f2 hta2
  have hvr3 := hvr2.up (Same.T f2)
  have hk3 := f2 _ _ hk2
  generalize upd (upd H2 S _) p2 _ = H3 at f2 e03 hta3 hvr3 hk3 ⊢
  refine ⟨_, rfl, iteF ?_⟩
  -- no part with the operator
  refine ⟨_, rfl, _, rfl, ta, _, rfl, hta3, notWhole1, fun p hp0 => ⟨p, rfl, ⟨_, SqT.of upd_same⟩, fun D2 hD2 => ?_⟩⟩
  rw [cut1] at hD2 ⊢
  have hwn : Drawn 4 (opW s ps) := drawn_mono hdr (by omega)
  have g1 := same_new hp0 (.tup vr)
  refine lc_mapT (j := 3) (fun i u _ => ∃ y, ps[i]? = some y ∧ u = .bl false) (fun _ _ _ _ _ h => h) hD2 (SqT.of upd_same) (le_line (by omega)) (fun _ => rfl) ?_ ?_
  · intro i u H4 hu e4 Q' k'
    obtain ⟨y, hy, hyt⟩ := hvr3.get hu
    have hym := List.mem_of_getElem? hy
    refine ⟨_, rfl, word_hd (hyt.up (Same.T (g1.trans e4))) (hd4 y hym) _ ⟨_, rfl, .inl ⟨ta, _, 0, _, rfl, rfl, up_t (g1.trans e4) hta3, at0, rfl, ?_⟩⟩⟩
    have hno : ¬ V.str (hdS y) = V.str (opS s) := fun h => kh y hym (V.str.inj h)
    rw [decide_eq_false hno]
    exact k' _ H4 (Same.refl _) ⟨y, hy, rfl⟩
  intro H4 ys e4 hD4 hl4 hy4
  have hys : ys = (ps.map fun _ => false).map V.bl := by
    rw [List.map_map]
    exact eq_map_of (by rw [hl4, hvl]) fun i y h => hy4 i y h
  subst hys
  refine ⟨D2, _, rfl, SqL.of hD4, ?_⟩
  rw [any_id]
  have hanyF : (ps.any fun _ => false) = false := List.any_eq_false.mpr fun _ _ h => by cases h
  rw [hanyF]
  refine ⟨_, rfl, iteF ?_⟩
  have g14 := g1.trans e4
  have e04 := e03.trans g14
  have hta4 := up_t g14 hta3
  have hvr4 := hvr3.up (Same.T g14)
  have hk4 := g14 _ _ hk3
  clear hta3 hvr3 hk3 e03 g14 g1 e4 hD4 hD2 hp0 hy4 hl4
  -- costs
  have hL47 : lvs (opW s ps) ≤ 47 := h47
  have hcost : leastCost (n + 1) (opW s ps) = n * (1022 * (lvs (opW s ps) * lvs (opW s ps))) + 1022 * (lvs (opW s ps) * lvs (opW s ps)) := by
    unfold leastCost lvw
    rw [Nat.add_mul, Nat.one_mul]
  have hS1 : ∀ i, Lsum (leastCost n) ps i ≤ n * (1022 * (lvs (opW s ps) * lvs (opW s ps))) := fun i => by
    have h1 := Lsum_le (g := leastCost n) (B := n * (1022 * lvs (opW s ps))) (ps := ps) (fun p hp => by
      unfold leastCost lvw
      have h2 := hpl p hp
      have h3 : 1022 * (lvs p * lvs p) ≤ 1022 * lvs (opW s ps) * lvs p := by
        rw [Nat.mul_assoc]
        exact Nat.mul_le_mul_left _ (Nat.mul_le_mul_right _ h2)
      rw [Nat.mul_assoc]
      exact Nat.mul_le_mul_left _ h3) i
    refine Nat.le_trans h1 ?_
    rw [Nat.mul_assoc, Nat.mul_assoc]
    exact Nat.mul_le_mul_left _ (Nat.mul_le_mul_left _ (Nat.mul_le_mul_left _ hall))
  have hS2 : ∀ i, Lsum (fun p => 1022 * lvs (opW s ps) * lvs p) ps i ≤ 1022 * (lvs (opW s ps) * lvs (opW s ps)) := fun i => by
    refine Nat.le_trans (Lsum_le (B := 1022 * lvs (opW s ps)) (fun p _ => Nat.le_refl _) i) ?_
    rw [Nat.mul_assoc]
    exact Nat.mul_le_mul_left _ (Nat.mul_le_mul_left _ hall)
  generalize hMM : 1022 * (lvs (opW s ps) * lvs (opW s ps)) = M at hcost hS1 hS2
  have hnM : n * M ≤ 5 * M := Nat.mul_le_mul_right _ (by omega)
  -- the parts are least forms
  refine ⟨_, rfl, _, rfl, ta, _, rfl, hta4, notWhole1, fun p hp0 => ⟨p, rfl, ⟨_, SqT.of upd_same⟩, fun D3 hD3 => ?_⟩⟩
  rw [cut1] at hD3 ⊢
  have g1 := same_new hp0 (.tup vr)
  have hkp := g1 _ _ hk4
  refine lc_leqT (j := 3) (f := fun _ => true) (c := leastCost n) hD3 hkp hK (SqT.of upd_same) (hvr4.up (Same.T g1)) (by omega) (fun _ => rfl) ?_ ?_
  · intro i x p' H5 kvs5 hx hp' e5 h5 h6 h7 Q' kk
    obtain ⟨p2, hp2, hxp⟩ := hvr4.get hx
    cases hp2.symm.trans hp'
    have hpm := List.mem_of_getElem? hp'
    have eT5 := sameT_d hk4 ((sb_of g1).tr e5)
    have hs1 : Lsum (leastCost n) ps (i + 1) = Lsum (leastCost n) ps i + leastCost n p' := by rw [Lsum_succ, Lsum_get hp']
    have hs2 := hS1 (i + 1)
    have h7 : kvs5.length ≤ kvs.length + Lsum (leastCost n) ps i := h7
    refine ⟨_, rfl, _, rfl, x, kd, p', k, kvs5, rfl, hxp.up eT5, hps p' hpm, by omega, by omega, kl p' hpm, Nat.le_trans (hpl p' hpm) h47, h5, h6, by omega, fun H6 kvs6 e6 k6 k7 k8 => kk H6 kvs6 e6 k6 k7 k8⟩
  intro H5 kvs5 e5 h5 h6 h7 h8
  refine ⟨D3, _, rfl, SqL.of h8, ?_⟩
  rw [all_id]
  have hallT : (ps.all fun _ => true) = true := List.all_eq_true.mpr fun _ _ => rfl
  rw [hallT]
  refine ⟨_, rfl, iteF ?_⟩
  have h7 : kvs5.length ≤ kvs.length + n * M := by
    refine Nat.le_trans h7 (Nat.add_le_add_left ?_ _)
    have := hS1 ps.length
    unfold Lsum at this
    rw [List.take_length] at this
    exact this
  have e45 := (sb_of g1).tr e5
  have hta5 := up_tB hk4 e45 hta4
  have hvr5 := hvr4.up (sameT_d hk4 e45)
  have e05 := (sb_of e04).tr e45
  clear hta4 hvr4 e45 e5 g1 hkp hD3 h8 hp0 hallT hanyF
  -- one answer
  have ask : ∀ (H0 : Hp) (kvs0 : List (Key × V)) (xv yv : V) (x y : PyData) (i j : Nat) (σ : L2.St), σ[i]? = some (some xv) → σ[j]? = some (some yv) → σ[1]? = some (some (.ref kd)) → Tp K H0 xv x → Tp K H0 yv y → Askd x → Askd y → H0 kd = some (.dK kvs0) → KnownD kvs0 → kvs0.length + 511 * (lvs x * lvs y) ≤ 16000000 → ¬ LE x y →
      ∀ Q : VK, (∀ H3 kvs3, SameB kd H0 H3 → H3 kd = some (.dK kvs3) → KnownD kvs3 → kvs3.length ≤ kvs0.length + 511 * (lvs x * lvs y) → Q (.bl false) H3) →
        tCall (spLeqG K argsL resB 9 (costD 9)) [] E0 (tCons (tVar i) (tCons (tVar j) (tCons (tVar 1) tNil))) σ H0 Q := by
    intro H0 kvs0 xv yv x y i j σ hi hj h1 hx hy ax ay hk0 hK0 hlen hno Q k'
    have cc := cost_511 x y
    refine ⟨_, hi, _, hj, _, h1, xv, yv, kd, x, y, 4, 4, kvs0, rfl, hx, hy, ax.1, ay.1, by decide, by decide, by decide, by decide, hk0, hK0, by omega, fun v H3 kvs3 e3 k1 k2 k3 hres => ?_⟩
    cases hres
    have hf : leq x y = false := Bool.eq_false_iff.mpr fun h => hno ((leq_iff ax.1 ay.1).mp h)
    have := k' H3 kvs3 e3 k1 k2 (by omega)
    rw [← hf] at this
    exact this
  have hA : Askd (opW s ps) := ⟨hwn, h47⟩
  -- the loop over the parts
  refine ⟨_, rfl, _, rfl, ta, _, rfl, hta5, notWhole1, fun p hp0 => ⟨p, rfl, ⟨_, SqT.of upd_same⟩, ?_⟩⟩
  rw [cut1]
  have g1 := same_new hp0 (.tup vr)
  have hpk : p ≠ kd := fun z => by
    rw [z, h5] at hp0
    cases hp0
  have hpv : (upd H5 p (.tup vr)) p = some (.tup vr) := upd_same
  have hk6 := g1 _ _ h5
  have hta6 := up_t g1 hta5
  have hvr6 := hvr5.up (Same.T g1)
  have e06 := e05.tr (sb_of g1)
  generalize upd H5 p (.tup vr) = H6 at hpv hk6 hta6 hvr6 e06 ⊢
  refine for_tup (xs := vr) (fun i σ H' => ∃ o3, σ = [some (.ref ta), some (.ref kd), some (.ref D), o3, none, none] ∧ ∃ kvs', SameB kd H6 H' ∧ H' kd = some (.dK kvs') ∧ KnownD kvs' ∧ kvs'.length ≤ kvs.length + n * M + Lsum (fun p => 1022 * lvs (opW s ps) * lvs p) ps i)
    ⟨_, rfl, kvs5, sb_refl, hk6, h6, by unfold Lsum; simp; omega⟩ (fun i σ H' _ ⟨_, _, _, e, _⟩ => SqT.of (e _ _ hpk hpv)) ?_ ?_
  · rintro i x σ H7 hx ⟨o3, rfl, kvs7, e7, k5, k6, k7⟩
    obtain ⟨p', hp', hxp⟩ := hvr6.get hx
    have hpm := List.mem_of_getElem? hp'
    have hpA := askd_part hA hpm
    have hs1 : Lsum (fun p => 1022 * lvs (opW s ps) * lvs p) ps (i + 1) = Lsum (fun p => 1022 * lvs (opW s ps) * lvs p) ps i + 1022 * lvs (opW s ps) * lvs p' := by rw [Lsum_succ, Lsum_get hp']
    have hs2 := hS2 (i + 1)
    have hX : 1022 * lvs (opW s ps) * lvs p' = 511 * (lvs p' * lvs (opW s ps)) + 511 * (lvs p' * lvs (opW s ps)) := by
      rw [Nat.mul_assoc, Nat.mul_comm (lvs (opW s ps))]
      omega
    have hta7 := up_tB hk6 e7 hta6
    have eT7 := sameT_d hk6 e7
    have hvr7 := hvr6.up eT7
    have hx7 := hxp.up eT7
    -- other parts
    refine ⟨_, rfl, _, rfl, ta, _, rfl, hta7, notWhole1, fun p2 hp2 => ⟨p2, rfl, ⟨_, SqT.of upd_same⟩, fun D4 hD4 => ?_⟩⟩
    rw [cut1] at hD4 ⊢
    have f1 := same_new hp2 (.tup vr)
    have hk8 := f1 _ _ k5
    have hsum3 : ∀ i, Lsum (fun q => 511 * (lvs p' * lvs q)) ps i ≤ 511 * (lvs p' * lvs (opW s ps)) := fun i => by
      refine Nat.le_trans (Lsum_le (B := 511 * lvs p') (fun q _ => by rw [Nat.mul_assoc]; exact Nat.le_refl _) i) ?_
      rw [Nat.mul_assoc]
      exact Nat.mul_le_mul_left _ (Nat.mul_le_mul_left _ hall)
    refine lc_noT (j := 4) (Lsum (fun q => 511 * (lvs p' * lvs q)) ps) (fun i => ∃ q, ps[i]? = some q ∧ q ≠ p') (fun i => ((ps[i]?).map fun q => 511 * (lvs p' * lvs q)).getD 0) hD4 hk8 k6 rfl (Lsum_succ _ _) (SqT.of upd_same) (by omega) (fun _ => rfl) ?_ ?_ ?_
    · intro i2 y H8 hy e8 Qb kb
      obtain ⟨q', hq', hyq⟩ := hvr7.get hy
      have hqm := List.mem_of_getElem? hq'
      have eT8 := sameT_d k5 ((sb_of f1).tr e8)
      refine ⟨_, rfl, _, rfl, q', p', (hyq.up eT8).dp, (hx7.up eT8).dp, (drawn_nice (hd4 q' hqm)).shaped, (drawn_nice (hd4 p' hpm)).shaped, _, rfl, kb _ fun hb => ⟨q', hq', fun e => ?_⟩⟩
      rw [e, eqv_drawn (hd4 p' hpm) (by decide)] at hb
      cases hb
    · rintro i2 y H8 kvs8 ⟨q', hq', hne⟩ hy e8 m5 m6 m7 Q' kk
      obtain ⟨q2, hq2, hyq⟩ := hvr7.get hy
      cases hq2.symm.trans hq'
      have hqm := List.mem_of_getElem? hq'
      have eT8 := sameT_d k5 ((sb_of f1).tr e8)
      have h1 := hsum3 (i2 + 1)
      rw [Lsum_succ, Lsum_get hq'] at h1
      refine ask H8 kvs8 x y p' q' 3 4 _ rfl rfl rfl (hx7.up eT8) (hyq.up eT8) hpA (askd_part hA hqm) m5 m6 (by omega) (fun h => hne (anti_le ka hpm hqm h).symm) Q' fun H9 kvs9 e9 n1 n2 n3 => kk H9 kvs9 e9 n1 n2 ?_
      rw [Lsum_get hq']
      exact n3
    intro H8 kvs8 nn e8 m5 m6 m7 hD8
    have m7 : kvs8.length ≤ kvs7.length + 511 * (lvs p' * lvs (opW s ps)) := by
      have := hsum3 vr.length
      omega
    refine ⟨D4, _, rfl, SqL.of hD8, ?_⟩
    rw [any_no]
    refine ⟨_, rfl, iteF ?_⟩
    have e78 := (sb_of f1).tr e8
    have hta8 := up_tB k5 e78 hta7
    have eT78 := sameT_d k5 e78
    have hx8 := hx7.up eT78
    have e68 := e7.tr e78
    have hw8 : Tp K H8 (.ref ta) (opW s ps) := hdW.up (sameT_d hk (e06.tr e68))
    clear hta7 hvr7 hx7 e78 e8 f1 hk8 hD4 hD8 hp2 eT78
    -- parts of this part
    have hlp : lvsAll (tlD p') ≤ lvs p' := tl_lvs p'
    have hsum4 : ∀ i, Lsum (fun q => 511 * (lvs q * lvs (opW s ps))) (tlD p') i ≤ 511 * (lvs p' * lvs (opW s ps)) := fun i => by
      refine Nat.le_trans (Lsum_le (B := 511 * lvs (opW s ps)) (fun q _ => by rw [Nat.mul_comm (lvs q), Nat.mul_assoc]; exact Nat.le_refl _) i) ?_
      rw [Nat.mul_assoc, Nat.mul_comm (lvs p')]
      exact Nat.mul_le_mul_left _ (Nat.mul_le_mul_left _ hlp)
    have h24p : (tlD p').length ≤ 24 := tl_len (hd4 p' hpm)
    have inner : ∀ (j : Nat) (te : TE) (Q2 : Bool → Hp → Prop), (∀ (H0 : Hp) (kvs0 : List (Key × V)) (y : V) (q : PyData), q ∈ tlD p' → SameB kd H8 H0 → H0 kd = some (.dK kvs0) → KnownD kvs0 → kvs0.length + 511 * (lvs q * lvs (opW s ps)) ≤ 16000000 → Tp K H0 y q → ∀ Q : VK, (∀ H3 kvs3, SameB kd H0 H3 → H3 kd = some (.dK kvs3) → KnownD kvs3 → kvs3.length ≤ kvs0.length + 511 * (lvs q * lvs (opW s ps)) → Q (.bl false) H3) → te [some (.ref ta), some (.ref kd), some (.ref D), some x, none, some y] H0 Q) →
        (∀ H9 kvs9, SameB kd H8 H9 → H9 kd = some (.dK kvs9) → KnownD kvs9 → kvs9.length ≤ kvs8.length + 511 * (lvs p' * lvs (opW s ps)) → Q2 false H9) →
        tB (tCB (rAny K) (tCons (tLc (iList K (tCall (fun vs H Q _ => ∃ (v : V) (d : PyData) (m : Nat), vs = [v] ∧ Tp K H v d ∧ Drawn m d ∧ ∀ p us H', Same H H' → H p = none → H' p = some (.lst us) → TpAll K H' us (tlD d) → Q (.ref p) H') [] E0 (tCons (tVar 3) tNil))) (gName 5) tYes te [5]) tNil)) [some (.ref ta), some (.ref kd), some (.ref D), some x, none, none] H8 Q2 := by
      intro j te Q2 hte hq2
      refine ⟨_, rfl, x, p', 4, rfl, hx8, hd4 p' hpm, fun pl us H9 e9 hpl0 hpl hus => ⟨pl, rfl, ⟨_, SqL.of hpl⟩, fun D5 hD5 => ?_⟩⟩
      have hk9 := e9 _ _ m5
      have hul := hus.len
      refine lc_noL (j := 5) (Lsum (fun q => 511 * (lvs q * lvs (opW s ps))) (tlD p')) (fun i => (((tlD p')[i]?).map fun q => 511 * (lvs q * lvs (opW s ps))).getD 0) hD5 hk9 m6 rfl (Lsum_succ _ _) (SqL.of hpl) (by omega) (fun _ => rfl) ?_ ?_
      · intro i2 y H10 kvs10 hy e10 n5 n6 n7 Q' kk
        obtain ⟨q', hq', hyq⟩ := hus.get hy
        have hqm := List.mem_of_getElem? hq'
        have h1 := hsum4 (i2 + 1)
        rw [Lsum_succ, Lsum_get hq'] at h1
        refine hte H10 kvs10 y q' hqm ((sb_of e9).tr e10) n5 n6 (by omega) (hyq.up (sameT_d hk9 e10)) Q' fun H11 kvs11 e11 o1 o2 o3 => kk H11 kvs11 e11 o1 o2 ?_
        rw [Lsum_get hq']
        exact o3
      · intro H10 kvs10 n10 e10 n5 n6 n7 hD10
        refine ⟨D5, _, rfl, SqL.of hD10, ?_⟩
        rw [any_no]
        have := hsum4 us.length
        exact ⟨_, rfl, hq2 H10 kvs10 ((sb_of e9).tr e10) n5 n6 (by omega)⟩
    dsimp only
    have fin : ∀ H9 kvs9, SameB kd H8 H9 → H9 kd = some (.dK kvs9) → KnownD kvs9 → kvs9.length ≤ kvs8.length + 511 * (lvs p' * lvs (opW s ps)) → ∃ o3, [some (.ref ta), some (.ref kd), some (.ref D), some x, none, none] = [some (V.ref ta), some (.ref kd), some (.ref D), o3, none, none] ∧ ∃ kvs', SameB kd H6 H9 ∧ H9 kd = some (.dK kvs') ∧ KnownD kvs' ∧ kvs'.length ≤ kvs.length + n * M + Lsum (fun p => 1022 * lvs (opW s ps) * lvs p) ps (i + 1) := fun H9 kvs9 e9 n5 n6 n7 => ⟨_, rfl, kvs9, e68.tr e9, n5, n6, by omega⟩
    cases s with
    | true =>
      refine ⟨_, rfl, word_hd hw8 hwn _ ⟨rfl, _, rfl, if_dec (fun _ => ?_) (fun h => absurd rfl h)⟩⟩
      refine inner 0 _ _ (fun H0 kvs0 y q' hq eb hk0 hK0 hlen hy Q' kk => ask H0 kvs0 y _ q' (opW true ps) 5 0 _ rfl rfl rfl hy (hw8.up (sameT_d m5 eb)) (askd_tl hpA hq) hA hk0 hK0 hlen (ki p' hpm q' hq) Q' kk) fun H9 kvs9 e9 n5 n6 n7 => iteF ?_
      refine ⟨_, rfl, word_hd (hw8.up (sameT_d m5 e9)) hwn _ ⟨rfl, _, rfl, if_dec (fun h => absurd (V.str.inj h) (show ¬ ("|" : Str) = "&" by decide +kernel)) (fun _ => fin H9 kvs9 e9 n5 n6 n7)⟩⟩
    | false =>
      refine ⟨_, rfl, word_hd hw8 hwn _ ⟨rfl, _, rfl, if_dec (fun h => absurd (V.str.inj h) (show ¬ ("&" : Str) = "|" by decide +kernel)) (fun _ => ?_)⟩⟩
      refine ⟨_, rfl, word_hd hw8 hwn _ ⟨rfl, _, rfl, if_dec (fun _ => ?_) (fun h => absurd rfl h)⟩⟩
      refine inner 0 _ _ (fun H0 kvs0 y q' hq eb hk0 hK0 hlen hy Q' kk => ask H0 kvs0 _ y (opW false ps) q' 0 5 _ rfl rfl rfl (hw8.up (sameT_d m5 eb)) hy hA (askd_tl hpA hq) hk0 hK0 (by rw [Nat.mul_comm (lvs (opW false ps))]; exact hlen) (ki p' hpm q' hq) Q' (by rw [Nat.mul_comm (lvs (opW false ps))]; exact kk)) fun H9 kvs9 e9 n5 n6 n7 => iteF (fin H9 kvs9 e9 n5 n6 n7)
  · rintro σ H7 ⟨o3, rfl, kvs7, e7, k5, k6, k7⟩
    rw [hvl] at k7
    have := hS2 ps.length
    exact q H7 kvs7 (e06.tr e7) k5 k6 (by omega)
end
end FF
/-! is_least -/
namespace FF
open PySem PySem.Spec PyProof.Rows L2
def spIL (K : PySem.W.Frag) : Sp := fun vs H Q E => ∃ (v : V) (d : PyData), vs = [v] ∧ Dp K H v d ∧ nice d = true ∧
  (fitsB d = true → Tp K H v d ∧ ∀ d' H', Same H H' → LeastOf 4 d d' → Q (.bl (PyData.eqv d' d)) H') ∧ (fitsB d = false → ErrT K H E)
section
variable {P : Program} {w : World} {K : PySem.W.Frag} {mg : Str → Option Value} {base : Heap}
theorem fn_is_least {f : Addr} {fd : FuncData} (F : FunD K "is_least" "is_least" (defArgs s_is_least) (defBody s_is_least) (defScope s_is_least) [] [] f fd) (T : Top K mg)
    (D_need_term : DefX P w K mg base "need_term" 14 ["value"] (spNeed K)) (D_least_in : Def P w K mg base "least_in" 32 ["term"] (spLeast K 5)) : FnOk P w K mg base (L2.CX P w) 33 f fd ["term"] (spIL K) := by
  refine FunD.ok F sc_is_least (fun vs H Q E h => ?_) (fun cdv A outer s0 H vs Q E hr h => ?_)
  · obtain ⟨v, d, rfl, _⟩ := h
    rfl
  have tk : Takes (cxOf (L2.CX P w) P w K mg base ["term"] "is_least" (defScope s_is_least) f cdv A outer s0 H E) fun cls d _ H => E cls d H := takes_of rfl rfl rfl rfl
  obtain ⟨v, d, rfl, hd, hn, q1, q2⟩ := h
  refine ⟨_, (pss_cons (ps_expr (pe_defx (E := E) D_need_term tk (fun _ _ _ _ h => h) hr (by first | decide | omega) (pa_cons (pv 0) pa_nil)))
  (pss_one (ps_ret (pe_cmpR (op_eqK K hr.units) (pe_def D_least_in hr (by first | decide | omega) (pa_cons (pv 0) pa_nil)) (pv 0) (nomark _))))), ?_⟩
  refine ⟨_, rfl, v, d, rfl, hd, hn, fun f1 H1 e1 => ?_, fun f1 => q2 f1⟩
  obtain ⟨ht, q⟩ := q1 f1
  have h24 : meas 5 d ≤ 24 := by
    have h : (decide (1 ≤ meas 5 d) && decide (meas 5 d ≤ 24)) = true := f1
    exact of_decide_eq_true (Bool.and_eq_true_iff.mp h).2
  have dd := (fit_word f1).1
  refine ⟨_, rfl, v, d, 4, rfl, ht.up (Same.T e1), dd, by decide, by decide, h24, fun v' d' H' e' hv' hl => ⟨_, rfl, d', d, hv'.dp, (ht.up (Same.T (e1.trans e'))).dp, (drawn_nice hl.dr).shaped, (drawn_nice dd).shaped, q d' H' (e1.trans e') hl⟩⟩
end
end FF
namespace FF
open PySem PySem.Spec PyProof.Rows L2
def TBL (K : PySem.W.Frag) : List (Addr × Str) := [((He.cT K ("law", none)).2, (("law" : Str) ++ ".<locals>.") ++ "<lambda>")]
def spLaw (K : PySem.W.Frag) : Sp := fun vs H Q _ => ∃ (a : Addr) (ns : List Int), vs = [.ref a] ∧ SqL K H a (ns.map V.int) ∧ LamX.Tabs (TBL K) H ∧ ∀ H', Q (.bl true) H'
theorem Src.upN {H H' : Hp} {s : Addr} (e : LamX.ExtN H H') (h : Src H s) : Src H' s := by
  obtain ⟨c, ns, h1, h2⟩ := h
  exact ⟨c, ns, e _ _ h1 (fun ps z => by unfold hid at z; cases z), e _ _ h2 (fun ps z => by cases z)⟩
theorem tp_n {K : PySem.W.Frag} {H H' : Hp} {v : V} {d : PyData} (h : Tp K H v d) (e : LamX.ExtN H H') : Tp K H' v d := h.up fun b xs hb => e _ _ hb fun ps z => by cases z
theorem Src.upD {H H' : Hp} {s kd : Addr} {kvs : List (Key × V)} (hk : H kd = some (.dK kvs)) (e : SameB kd H H') (h : Src H s) : Src H' s := by
  obtain ⟨c, ns, h1, h2⟩ := h
  refine ⟨c, ns, e _ _ (fun z => ?_) h1, e _ _ (fun z => ?_) h2⟩
  · rw [z, hk] at h1
    unfold hid at h1
    cases h1
  · rw [z, hk] at h2
    cases h2
theorem tabs_d {T : List (Addr × Str)} {a : Addr} {H H' : Hp} {kvs : List (Key × V)} (t : LamX.Tabs T H) (ha : H a = some (.dK kvs)) (e : SameB a H H') : LamX.Tabs T H' := fun p hp => by
  obtain ⟨ps, h1, h2, h3⟩ := t p hp
  refine ⟨ps, e _ _ (fun z => by rw [z, ha] at h1; cases h1) h1, h2, fun pos cv hc => ?_⟩
  obtain ⟨c, e1, e2⟩ := h3 pos cv hc
  exact ⟨c, e1, e _ _ (fun z => by rw [z, ha] at e2; unfold LamX.CodeO at e2; cases e2) e2⟩
theorem odd_fits {d : PyData} (h : meas 9 d = 0) : fitsB d = false := by
  have h5 : meas 5 d = 0 := meas_down 5 d (meas_down 6 d (meas_down 7 d (meas_down 8 d h)))
  show (decide (1 ≤ meas 5 d) && decide (meas 5 d ≤ 24)) = false
  rw [h5] <;> rfl
theorem word_fits {d : PyData} (h : WordD d) : fitsB d = true := by
  obtain ⟨h1, _⟩ := meas_drawn h.1 5 (by decide)
  show (decide (1 ≤ meas 5 d) && decide (meas 5 d ≤ 24)) = true
  rw [decide_eq_true h1, decide_eq_true h.2] <;> rfl
theorem least_word {d d' : PyData} (h : LeastOf 4 d d') (hd : WordD d) : WordD d' := ⟨h.dr, Int.le_trans h.le hd.2⟩
theorem eqv_words {x y : PyData} (hx : Drawn 4 x) (hy : Drawn 4 y) : PyData.eqv x y = true ↔ x = y := ⟨fun h => eqv_word hx hy h, fun e => by rw [← e]; exact eqv_drawn hx (by decide)⟩
theorem least_is {x x' y : PyData} (hx : LeastOf 4 x x') (hy : Lst y) (dy : Drawn 4 y) (h : EQ y x) : x' = y :=
  lst_uniq (G := Drawn 4) (fun h => drawn_of h) (fun h1 h2 h3 => text_injL h1 h2 h3) hx.lst hy (hx.eq.trans h.symm) hx.dr dy
def wa : PyData := .str "a"
def wb : PyData := .str "b"
def wc : PyData := .str "c"
theorem lst_a : Lst wa := .lett rfl (by decide +kernel) (by decide +kernel)
theorem lst_c : Lst wc := .lett rfl (by decide +kernel) (by decide +kernel)
theorem no_ac : ¬ LE wa wc := fun h => absurd (le_let h) (by decide +kernel)
theorem no_ca : ¬ LE wc wa := fun h => absurd (le_let h) (by decide +kernel)
theorem lst_ac : Lst (opW true [wa, wc]) := by
  refine .op true rfl (by decide) (fun p hp => ?_) (fun p hp => ?_) ?_ (fun p hp x hx => ?_) ?_
  · simp only [List.mem_cons, List.not_mem_nil, or_false] at hp
    rcases hp with rfl | rfl
    · exact lst_a
    · exact lst_c
  · simp only [List.mem_cons, List.not_mem_nil, or_false] at hp
    rcases hp with rfl | rfl
    · exact (by decide +kernel : ¬ ("a" : Str) = "|")
    · exact (by decide +kernel : ¬ ("c" : Str) = "|")
  · refine List.pairwise_cons.mpr ⟨fun q hq => ?_, List.pairwise_singleton _ _⟩
    rw [List.mem_singleton.mp hq]
    exact ⟨no_ac, no_ca⟩
  · simp only [List.mem_cons, List.not_mem_nil, or_false] at hp
    rcases hp with rfl | rfl <;> cases hx
  · refine List.pairwise_cons.mpr ⟨fun q hq => ?_, List.pairwise_singleton _ _⟩
    rw [List.mem_singleton.mp hq]
    decide +kernel
theorem eq_1 : EQ wa (opW false [opW true [wa, wb], wa]) := EQ.symm (eq_of_ls (s := false) (ls_all fun p hp => by
  simp only [List.mem_cons, List.not_mem_nil, or_false] at hp
  rcases hp with rfl | rfl
  · exact LE.jr rfl List.mem_cons_self (.refl _)
  · exact LS.refl _) (ls_part (List.mem_cons_of_mem _ List.mem_cons_self)))
theorem eq_2 : EQ (opW true [wa, wc]) (opW true [wc, opW true [wa, wc]]) := EQ.symm (eq_of_ls (s := true) (ls_all fun p hp => by
  simp only [List.mem_cons, List.not_mem_nil, or_false] at hp
  rcases hp with rfl | rfl
  · exact ls_part (List.mem_cons_of_mem _ List.mem_cons_self)
  · exact LS.refl _) (ls_part (List.mem_cons_of_mem _ List.mem_cons_self)))
theorem cost_least {d : PyData} (h : lvs d ≤ 47) : leastCost 5 d ≤ 11300000 := by
  have h2 : lvs d * lvs d ≤ 47 * 47 := Nat.mul_le_mul h h
  unfold leastCost lvw
  generalize lvs d * lvs d = x at *
  omega
section
variable {P : Program} {w : World} {K : PySem.W.Frag} {mg : Str → Option Value} {base : Heap}
theorem ok_law {gC fL fI : Addr} {fd fdC fdL fdI : FuncData} (F : FunD K "law" "law" (defArgs s_law) (defBody s_law) (defScope s_law) [] [] (He.fAd K ("law", none)) fd) (T : Top K mg)
    (TB : LamX.TabB base mg (He.codeOf K ("law", none)) (He.cT K ("law", none)).2)
    (F_law_call : FunD K "_law_call" "_law_call" (defArgs s_law_call) (defBody s_law_call) (defScope s_law_call) [] [] gC fdC) (m_law_call : mg "_law_call" = some (.ref gC))
    (FL0 : FunD K "least_form" "least_form" (defArgs s_least_form) (defBody s_least_form) (defScope s_least_form) [] [] fL fdL) (hmL : mg "least_form" = some (.ref fL)) (FL : FnOk P w K mg base (L2.CX P w) 33 fL fdL ["term"] (spLF K))
    (FI0 : FunD K "is_least" "is_least" (defArgs s_is_least) (defBody s_is_least) (defScope s_is_least) [] [] fI fdI) (hmI : mg "is_least" = some (.ref fI)) (FI : FnOk P w K mg base (L2.CX P w) 33 fI fdI ["term"] (spIL K))
    (D_law_source : Def P w K mg base "_law_source" 1 ["_law_script"] (spSource K)) (D_law_take : Def P w K mg base "_law_take" 1 ["_law_source_here", "_law_many"] spTake)
    (D_law_two_words : Def P w K mg base "_law_two_words" 15 ["_law_source_here"] (spTwoW K)) (D_law_rewritten : Def P w K mg base "_law_rewritten" 14 ["_law_source_here", "_law_word", "_law_many"] (spRewr K))
    (D_law_fits : Def P w K mg base "_law_fits" 13 ["_law_word"] (spFits K)) (D_law_least : Def P w K mg base "_law_least" 29 ["_law_word", "_law_known"] (spLeastB K 5))
    (D_law_leaves : Def P w K mg base "_law_leaves" 5 ["_law_word"] (fun vs H Q _ => ∃ (v : V) (d : PyData) (m : Nat), vs = [v] ∧ Tp K H v d ∧ Drawn m d ∧ m < 5 ∧ 5 ≤ 5 ∧ ∀ H', Same H H' → Q (.int (meas 5 d)) H'))
    (D_law_below : Def P w K mg base "_law_below" 23 ["_law_one", "_law_other", "_law_known"] (spLeqG K argsL resB 9 (costD 9)))
    (D_law_odd : Def P w K mg base "_law_odd" 3 ["_law_source_here", "_law_word"] (spOdd0 K)) (D_law_same : Def P w K mg base "_law_same" 40 ["_law_found", "_law_due"] (spSame K 40)) :
    FnOk P w K mg base CX0 42 (He.fAd K ("law", none)) fd ["_law_script"] (spLaw K) := by
  have b_law_call : Binds K fdC ["_law_ask"] [] := F_law_call.bindsN fun _ _ _ _ _ _ us hl => match us, hl with | [_], _ => rfl
  have kL : KBn K fdL ["term"] 0 ["term"] (fun us ws => us ++ ws) (fun vs zs => vs ++ zs) := kb_plain FL0 fun kV doc pm an cdv ct us ws h1 h2 => match us, ws, h1, h2 with | [], [_], _, _ => rfl
  have kI : KBn K fdI ["term"] 0 ["term"] (fun us ws => us ++ ws) (fun vs zs => vs ++ zs) := kb_plain FI0 fun kV doc pm an cdv ct us ws h1 h2 => match us, ws, h1, h2 with | [], [_], _, _ => rfl
  have D_least_form : DefX P w K mg base "least_form" 33 ["term"] (spLF K) := ⟨fL, fdL, FL, hmL, FL0.kp, FL0.bindsN fun _ _ _ _ _ _ us hl => match us, hl with | [_], _ => rfl⟩
  have D_is_least : DefX P w K mg base "is_least" 33 ["term"] (spIL K) := ⟨fI, fdI, FI, hmI, FI0.kp, FI0.bindsN fun _ _ _ _ _ _ us hl => match us, hl with | [_], _ => rfl⟩
  refine fn_mkC F sc_law (fun vs H Q E h => ?_) (fun cdv A outer s0 H vs Q E ec hr h => ?_)
  · obtain ⟨a, ns, rfl, _⟩ := h
    rfl
  subst ec
  obtain ⟨a, ns, rfl, hS, hT, q⟩ := h
  refine ⟨_, (pss_cons (ps_set (i := 1) sc_law.nd rfl (Or.inl rfl) (pe_def D_law_source hr (by first | decide | omega) (pa_cons (pv 0) pa_nil)))
  (pss_cons (ps_for PassesOwn.never rfl (pi_range1 (by rfl) T.b_range (pa_cons pe_int pa_nil)) (pg_name (i := 2) sc_law.nd rfl (Or.inl rfl) (.inl rfl))
  (pss_cons (ps_set (i := 3) sc_law.nd rfl (Or.inl rfl) (pe_def D_law_rewritten hr (by first | decide | omega) (pa_cons (pv 1) (pa_cons (pe_ix (ix_tupK K) (pe_def D_law_two_words hr (by first | decide | omega) (pa_cons (pv 1) pa_nil)) pe_int (fun _ _ => rfl)) (pa_cons (pe_def D_law_take hr (by first | decide | omega) (pa_cons (pv 1) (pa_cons pe_int pa_nil))) pa_nil)))))
  (pss_cons (ps_set (i := 4) sc_law.nd rfl (Or.inl rfl) pe_dnewK)
  (pss_cons (ps_set (i := 5) sc_law.nd rfl (Or.inl rfl) (pe_defN D_least_form hr (by first | decide | omega) (pa_cons (pv 3) pa_nil)))
  (pss_cons (ps_if (PW.pt (pw_or (pt_not (pt_val (pe_def D_law_fits hr (by first | decide | omega) (pa_cons (pv 5) pa_nil)))) (pw_or (pt_not (pt_val (pe_def D_law_least hr (by first | decide | omega) (pa_cons (pv 5) (pa_cons (pv 4) pa_nil))))) (pw_or1 (pt_cmpR op_gt (pe_def D_law_leaves hr (by first | decide | omega) (pa_cons (pv 5) pa_nil)) (pe_def D_law_leaves hr (by first | decide | omega) (pa_cons (pv 3) pa_nil)) (nomark _))))))
  (pss_one (ps_ret pe_bl))
  pss_nil)
  (pss_cons (ps_if (PW.pt (pw_or (pt_not (pt_val (pe_def D_law_below hr (by first | decide | omega) (pa_cons (pv 5) (pa_cons (pv 3) (pa_cons (pv 4) pa_nil)))))) (pw_or1 (pt_not (pt_val (pe_def D_law_below hr (by first | decide | omega) (pa_cons (pv 3) (pa_cons (pv 5) (pa_cons (pv 4) pa_nil)))))))))
  (pss_one (ps_ret pe_bl))
  pss_nil)
  (pss_cons (ps_if (PW.pt (pw_or (pt_cmpR (op_neK K hr.units) (pe_callN0 FL (hr.mono (by decide)) rfl hmL FL0.kp kL passN (pk_cons (pv 5) pk_nil)) (pv 5) (nomark _)) (pw_or1 (pt_not (pt_val (pe_def D_law_same hr (by first | decide | omega) (pa_cons (pe_lst (pa_cons (pe_defN D_is_least hr (by first | decide | omega) (pa_cons (pv 3) pa_nil)) (pa_cons (pe_callN0 FI (hr.mono (by decide)) rfl hmI FI0.kp kI passN (pk_cons (pv 5) pk_nil)) pa_nil))) (pa_cons (pe_lst (pa_cons (pe_cmpR (op_eqK K hr.units) (pv 3) (pv 5) (nomark _)) (pa_cons pe_bl pa_nil))) pa_nil))))))))
  (pss_one (ps_ret pe_bl))
  pss_nil)
  (pss_cons (ps_set (i := 6) sc_law.nd rfl (Or.inr rfl) (pe_def D_law_odd hr (by first | decide | omega) (pa_cons (pv 1) (pa_cons (pv 3) pa_nil))))
  (pss_one (ps_if (pt_cmpR (op_neK K hr.units) (pe_lst (pa_cons (pe_lamS (by rfl) m_law_call F_law_call b_law_call sc_law_call rfl (Or.inl rfl) (fun cdg => gives_law_call T) TB rfl rfl hr (lam_by (st := s_law) rfl (by decide +kernel)) rfl (fun _ _ _ _ _ => rfl) (fun A1 outer1 s1 H1 E1 f1 c1 hr1 => (pe_defx (E := E1) D_least_form (takes_of rfl rfl rfl rfl) (fun _ _ _ _ h => h) hr1 (by first | decide | omega) (pa_cons (pv 6) pa_nil)))) (pa_cons (pe_lamS (by rfl) m_law_call F_law_call b_law_call sc_law_call rfl (Or.inl rfl) (fun cdg => gives_law_call T) TB rfl rfl hr (lam_by (st := s_law) rfl (by decide +kernel)) rfl (fun _ _ _ _ _ => rfl) (fun A1 outer1 s1 H1 E1 f1 c1 hr1 => (pe_defx (E := E1) D_is_least (takes_of rfl rfl rfl rfl) (fun _ _ _ _ h => h) hr1 (by first | decide | omega) (pa_cons (pv 6) pa_nil)))) pa_nil))) (pe_op op_rep (pe_lst (pa_cons (pe_tup (pa_cons pe_non (pa_cons pe_str pa_nil))) pa_nil)) pe_int) (nomark _))
  (pss_one (ps_ret pe_bl))
  pss_nil))))))))))
  (pss_one (ps_ret (pe_and (pe_cmpR (op_eqK K hr.units) (pe_defN D_least_form hr (by first | decide | omega) (pa_cons (pe_tup (pa_cons pe_str (pa_cons (pe_tup (pa_cons pe_str (pa_cons pe_str (pa_cons pe_str pa_nil)))) (pa_cons pe_str pa_nil)))) pa_nil)) pe_str (nomark _)) (pe_one (pe_cmpR (op_eqK K hr.units) (pe_defN D_least_form hr (by first | decide | omega) (pa_cons (pe_tup (pa_cons pe_str (pa_cons pe_str (pa_cons (pe_tup (pa_cons pe_str (pa_cons pe_str (pa_cons pe_str pa_nil)))) pa_nil)))) pa_nil)) (pe_tup (pa_cons pe_str (pa_cons pe_str (pa_cons pe_str pa_nil)))) (nomark _)))))))), ?_⟩
  refine ⟨_, rfl, a, ns, rfl, hS, fun s H1 e1 hs1 => ?_⟩
  refine ⟨4, rfl, by omega, by omega, ?_⟩
  refine for_range (lo := 0) (n := 4) (fun i σ H' => ∃ o2 o3 o4 o5 o6, σ = [some (.ref a), some (.ref s), o2, o3, o4, o5, o6] ∧ Src H' s ∧ LamX.Tabs (TBL K) H') ⟨none, none, none, none, none, rfl, hs1, hT.ext e1⟩ ?_ ?_
  · rintro i σ H' hi ⟨o2, o3, o4, o5, o6, rfl, hs, hT⟩
    refine ⟨_, rfl, _, rfl, s, rfl, hs, fun t lv rv H2 l0 r0 e2 ht hl hr' wl _ => ⟨t, _, _, lv, rfl, rfl, SqT.of ht, at0, ?_⟩⟩
    have hs2 := hs.up e2
    refine ⟨_, rfl, s, 4, rfl, by omega, by omega, hs2, fun m m0 m1 => ?_⟩
    obtain ⟨m, rfl⟩ : ∃ i : Nat, m = i := ⟨m.toNat, by omega⟩
    refine ⟨s, lv, l0, m, rfl, hs2, hl, wl, by omega, fun wv H3 d e3 hwv w q3 => ?_⟩
    have hT3 := hT.ext (e2.trans e3)
    have hs3 := hs2.up e3
    clear hs hT hs2 hl hr' e2 e3 ht wl q3
    refine fun kd hkd => ?_
    have f1 := same_new hkd (.dK [])
    have hk4 : (upd H3 kd (.dK [])) kd = some (.dK []) := upd_same
    have hT4 := hT3.ext f1
    have hs4 := hs3.up f1
    have hw4 := hwv.up (Same.T f1)
    generalize upd H3 kd (.dK []) = H4 at hk4 hT4 hs4 hw4 ⊢
    clear hT3 hs3 hwv f1 hkd
    have fw := word_fits w
    have nw := drawn_nice w.1
    refine ⟨_, rfl, wv, d, rfl, hw4.dp, nw.ok, fun _ => ⟨hw4, fun fv fd5 H5 e5 hfv hL => ?_⟩, fun h => (by rw [fw] at h; cases h)⟩
    have wf := least_word hL w
    have ff := word_fits wf
    have nf := drawn_nice wf.1
    have lw := lvs_fit w.1 w.2
    have lf := lvs_fit wf.1 wf.2
    have hk5 := e5 _ _ hk4
    have hT5 := hT4.ext e5
    have hs5 := hs4.up e5
    have hw5 := hw4.up (Same.T e5)
    clear hk4 hT4 hs4 hw4 e5
    -- fits, least, leaves
    refine ⟨_, rfl, fv, fd5, rfl, hfv.dp, nf.mono (by decide), fun H6 e6 => ?_⟩
    have ff' : (decide (1 ≤ meas 5 fd5) && decide (meas 5 fd5 ≤ 24)) = true := ff
    rw [ff']
    refine ⟨_, rfl, iteF ?_⟩
    have hk6 := e6 _ _ hk5
    have hT6 := hT5.ext e6
    have hs6 := hs5.up e6
    have hw6 := hw5.up (Same.T e6)
    have hf6 := hfv.up (Same.T e6)
    clear hk5 hT5 hs5 hw5 hfv e6
    have cl := cost_least lf
    refine ⟨_, rfl, _, rfl, fv, kd, fd5, 4, [], rfl, hf6, wf.1, by decide, by decide, hL.lst, lf, hk6, known_nil, by simp; omega, fun H7 kvs7 e7 hk7 hK7 hlen7 => ⟨_, rfl, iteF ?_⟩⟩
    have eT7 := sameT_d hk6 e7
    have hT7 := tabs_d hT6 hk6 e7
    have hs7 := hs6.upD hk6 e7
    have hw7 := hw6.up eT7
    have hf7 := hf6.up eT7
    clear hT6 hs6 hw6 hf6 e7 eT7 hk6
    refine ⟨_, rfl, fv, fd5, 4, rfl, hf7, wf.1, by decide, by decide, fun H8 e8 => ⟨_, rfl, wv, d, 4, rfl, hw7.up (Same.T e8), w.1, by decide, by decide, fun H9 e9 => ?_⟩⟩
    refine ⟨_, _, rfl, rfl, _, rfl, ?_⟩
    rw [decide_eq_false (by have := hL.le; omega)]
    refine iteF ?_
    have f79 := e8.trans e9
    have hk9 := f79 _ _ hk7
    have hT9 := hT7.ext f79
    have hs9 := hs7.up f79
    have hw9 := hw7.up (Same.T f79)
    have hf9 := hf7.up (Same.T f79)
    clear hk7 hT7 hs7 hw7 hf7 f79 e8 e9
    have hlen7 : kvs7.length ≤ 11300000 := by
      have : ([] : List (Key × V)).length = 0 := rfl
      omega
    have c1 := cost_fit lf lw
    have c2 := cost_fit lw lf
    unfold tNext
    dsimp only
    refine ⟨_, rfl, _, rfl, _, rfl, fv, wv, kd, fd5, d, 4, 4, kvs7, rfl, hf9, hw9, wf.1, w.1, by decide, by decide, by decide, by decide, hk9, hK7, by omega, fun v H10 kvs10 e10 hk10 hK10 hl10 hres => ?_⟩
    cases hres
    rw [(leq_iff wf.1 w.1).mpr hL.eq.1]
    refine ⟨_, rfl, iteF ?_⟩
    have eT10 := sameT_d hk9 e10
    have hw10 := hw9.up eT10
    have hf10 := hf9.up eT10
    have hT10 := tabs_d hT9 hk9 e10
    have hs10 := hs9.upD hk9 e10
    clear hw9 hf9 hT9 hs9 eT10 e10 hk9
    refine ⟨_, rfl, _, rfl, _, rfl, wv, fv, kd, d, fd5, 4, 4, kvs10, rfl, hw10, hf10, w.1, wf.1, by decide, by decide, by decide, by decide, hk10, hK10, by omega, fun v H11 kvs11 e11 hk11 hK11 hl11 hres => ?_⟩
    cases hres
    rw [(leq_iff w.1 wf.1).mpr hL.eq.2]
    refine ⟨_, rfl, iteF ?_⟩
    have eT11 := sameT_d hk10 e11
    have hw11 := hw10.up eT11
    have hf11 := hf10.up eT11
    have hT11 := tabs_d hT10 hk10 e11
    have hs11 := hs10.upD hk10 e11
    clear hw10 hf10 hT10 hs10 eT11 e11 hk10 hk11 hK11 hK10 hl11 hl10 hK7 hlen7
    dsimp only
    -- least_form of the found, is_least of both
    refine ⟨_, rfl, rfl, fv, fd5, rfl, hf11.dp, nf.ok, fun _ => ⟨hf11, fun v12 d12 H12 e12 hv12 hL12 => ?_⟩, fun h => (by rw [ff] at h; cases h)⟩
    have e12d : d12 = fd5 := least_uniq hL12 hL hL.eq
    subst e12d
    have sh := (drawn_nice hL12.dr).shaped
    refine ⟨_, rfl, d12, d12, hv12.dp, (hf11.up (Same.T e12)).dp, sh, sh, ?_⟩
    rw [eqv_drawn hL12.dr (by decide)]
    refine ⟨_, rfl, iteF ?_⟩
    have hw12 := hw11.up (Same.T e12)
    have hf12 := hf11.up (Same.T e12)
    have hT12 := hT11.ext e12
    have hs12 := hs11.up e12
    clear hw11 hf11 hT11 hs11 e12 hv12
    refine ⟨_, rfl, wv, d, rfl, hw12.dp, nw.ok, fun _ => ⟨hw12, fun d13 H13 e13 hL13 => ?_⟩, fun h => (by rw [fw] at h; cases h)⟩
    have e13d : d13 = d12 := least_uniq hL13 hL (EQ.refl d)
    subst e13d
    refine ⟨_, rfl, rfl, fv, d13, rfl, (hf12.up (Same.T e13)).dp, nf.ok, fun _ => ⟨hf12.up (Same.T e13), fun d14 H14 e14 hL14 => ?_⟩, fun h => (by rw [ff] at h; cases h)⟩
    have e14d : d14 = d13 := least_uniq hL14 hL hL.eq
    subst e14d
    have f23 := e13.trans e14
    have hw14 := hw12.up (Same.T f23)
    have hf14 := hf12.up (Same.T f23)
    have hT14 := hT12.ext f23
    have hs14 := hs12.up f23
    clear hw12 hf12 hT12 hs12 f23 e13 e14
    rw [eqv_drawn hL14.dr (by decide)]
    have ecomm : PyData.eqv d d14 = PyData.eqv d14 d := Bool.eq_iff_iff.mpr ((eqv_words w.1 hL14.dr).trans (Iff.trans ⟨Eq.symm, Eq.symm⟩ (eqv_words hL14.dr w.1).symm))
    refine ⟨(by show 2 ≤ sizeLine; decide), fun p1 hp1 => ?_⟩
    have f1 := same_new hp1 (.lst [.bl (PyData.eqv d14 d), .bl true])
    refine ⟨_, rfl, _, rfl, d, d14, (hw14.up (Same.T f1)).dp, (hf14.up (Same.T f1)).dp, nw.shaped, sh, ?_⟩
    rw [ecomm]
    refine ⟨(by show 2 ≤ sizeLine; decide), fun p2 hp2 => ?_⟩
    have f2 := same_new hp2 (.lst [.bl (PyData.eqv d14 d), .bl true])
    have f12 := f1.trans f2
    have nb : ∀ x y : Bool, nice (.list [.bool x, .bool y]) = true ∧ (PyData.list [.bool x, .bool y]).depth < 40 := fun x y => by cases x <;> cases y <;> exact ⟨by decide +kernel, by decide +kernel⟩
    refine ⟨.ref p1, .ref p2, .list [.bool (PyData.eqv d14 d), .bool true], rfl, .lst (SqL.of (f2 _ _ upd_same)) (.cons (.bl _) (.cons (.bl _) .nil)), .lst (SqL.of upd_same) (.cons (.bl _) (.cons (.bl _) .nil)), (nb _ _).1, (nb _ _).2, by decide, fun H15 e15 => ⟨_, rfl, iteF ?_⟩⟩
    have f15 := f12.trans e15
    have hw15 := hw14.up (Same.T f15)
    have hT15 := hT14.ext f15
    have hs15 := hs14.up f15
    clear hw14 hf14 hT14 hs14 f15 f12 f1 f2 e15 hp1 hp2
    dsimp only
    -- odd values
    refine ⟨_, rfl, _, rfl, s, wv, d, rfl, hs15, hw15.dp, nw.mono (by decide), fun ov H16 od e16 hod hno hmo => ?_⟩
    have hof := odd_fits hmo
    have hs16 := hs15.up e16
    have hT16 := hT15.ext e16
    clear hs15 hT15 hw15 e16
    refine ⟨hT16, fun H17 eN hT17 => ?_⟩
    have hs17 := hs16.upN eN
    have ho17 := sn_d eN hod
    refine ⟨_, rfl, ov, od, rfl, ho17, hno.ok, fun h => (by rw [hof] at h; cases h), fun _ dd H18 e18 ht => ⟨_, _, rfl, T.x_InvalidTerm.c, T.x_InvalidTerm.exm, ht, fun t1 ht1 => ?_⟩⟩
    have f1 := same_new ht1 (.tup [.non, .str "InvalidTerm"])
    have e19 := e18.trans f1
    have hd1 : Tp K (upd H18 t1 (.tup [.non, .str "InvalidTerm"])) (.ref t1) (.tuple [.none, .str "InvalidTerm"]) := .tup (.inl upd_same) (.cons .non (.cons (.str _) .nil))
    have hs19 := hs17.up e19
    have ho19 := up_d e19 ho17
    have hT19 := hT17.ext e19
    generalize upd H18 t1 (.tup [.non, .str "InvalidTerm"]) = H19 at hd1 hs19 ho19 hT19 ⊢
    clear f1 e19 hs17 ho17 hT17 e18 ht1 ht
    refine ⟨hT19, fun H20 eN2 hT20 => ?_⟩
    have hs20 := hs19.upN eN2
    have ho20 := sn_d eN2 ho19
    have hd20 := tp_n hd1 eN2
    refine ⟨_, rfl, ov, od, rfl, ho20, hno.ok, fun h => (by rw [hof] at h; cases h), fun _ dd H21 e21 ht => ⟨_, _, rfl, T.x_InvalidTerm.c, T.x_InvalidTerm.exm, ht, fun t2 ht2 => ?_⟩⟩
    have f2 := same_new ht2 (.tup [.non, .str "InvalidTerm"])
    refine ⟨(by show 2 ≤ sizeLine; decide), fun p5 hp5 => ?_⟩
    have f3 := same_new hp5 (.lst [.ref t1, .ref t2])
    have e22 := e21.trans (f2.trans f3)
    have hd2 : Tp K (upd (upd H21 t2 (.tup [.non, .str "InvalidTerm"])) p5 (.lst [.ref t1, .ref t2])) (.ref t2) (.tuple [.none, .str "InvalidTerm"]) := .tup (.inl (f3 _ _ upd_same)) (.cons .non (.cons (.str _) .nil))
    have hp22 : (upd (upd H21 t2 (.tup [.non, .str "InvalidTerm"])) p5 (.lst [.ref t1, .ref t2])) p5 = some (.lst [.ref t1, .ref t2]) := upd_same
    have hd1b := hd20.up (Same.T e22)
    have hs22 := hs20.up e22
    have hT22 := hT20.ext e22
    generalize (upd (upd H21 t2 (.tup [.non, .str "InvalidTerm"])) p5 (.lst [.ref t1, .ref t2])) = H22 at hd2 hp22 hd1b hs22 hT22 ⊢
    refine ⟨(by show 2 ≤ sizeLine; decide), fun t4 ht4 => ⟨(by show 1 ≤ sizeLine; decide), fun p8 hp8 => ?_⟩⟩
    have g1 := same_new ht4 (.tup [.non, .str "InvalidTerm"])
    have g2 := same_new hp8 (.lst [.ref t4])
    refine ⟨p8, 2, _, rfl, rfl, upd_same, by decide, by decide, (by show 1 * 2 ≤ sizeLine; decide), fun p9 hp9 => ?_⟩
    have g3 := same_new hp9 (.lst (List.replicate (2 : Int).toNat [.ref t4]).flatten)
    have ge := g1.trans (g2.trans g3)
    have hd4 : Tp K (upd (upd (upd H22 t4 (.tup [.non, .str "InvalidTerm"])) p8 (.lst [.ref t4])) p9 (.lst (List.replicate (2 : Int).toNat [.ref t4]).flatten)) (.ref t4) (.tuple [.none, .str "InvalidTerm"]) := .tup (.inl (g3 _ _ (g2 _ _ upd_same))) (.cons .non (.cons (.str _) .nil))
    have a1 := (hd1b.up (Same.T ge)).dp
    have a2 := (hd2.up (Same.T ge)).dp
    refine ⟨.list [.tuple [.none, .str "InvalidTerm"], .tuple [.none, .str "InvalidTerm"]], .list [.tuple [.none, .str "InvalidTerm"], .tuple [.none, .str "InvalidTerm"]], .lst (SqL.of (ge _ _ hp22)) (.cons a1 (.cons a2 .nil)), .lst (SqL.of upd_same) (.cons hd4.dp (.cons hd4.dp .nil)), ?_⟩
    refine ⟨by decide +kernel, by decide +kernel, _, rfl, if_nb (fun h => absurd h (by decide +kernel)) (fun _ => ?_)⟩
    exact ⟨_, _, _, _, _, rfl, hs22.up ge, hT22.ext ge⟩
  · rintro σ H' ⟨o2, o3, o4, o5, o6, rfl, hs, hT⟩
    have tp3 : ∀ {H : Hp} {t : Addr} {o : Str} {a b : V} {x y : PyData}, H t = some (.tup [.str o, a, b]) → Tp K H a x → Tp K H b y → Tp K H (.ref t) (.tuple [.str o, x, y]) := fun ht ha hb => .tup (.inl ht) (.cons (.str _) (.cons ha (.cons hb .nil)))
    refine ⟨(by show 3 ≤ sizeLine; decide), fun t1 ht1 => ⟨(by show 3 ≤ sizeLine; decide), fun t2 ht2 => ?_⟩⟩
    have f1 := same_new ht1 (.tup [.str "|", .str "a", .str "b"])
    have f2 := same_new ht2 (.tup [.str "&", .ref t1, .str "a"])
    have h1 : Tp K (upd (upd H' t1 (.tup [.str "|", .str "a", .str "b"])) t2 (.tup [.str "&", .ref t1, .str "a"])) (.ref t2) (opW false [opW true [wa, wb], wa]) := tp3 upd_same (tp3 (f2 _ _ upd_same) (.str _) (.str _)) (.str _)
    have g1 : fitsB (opW false [opW true [wa, wb], wa]) = true := by decide +kernel
    have n1 : nice (opW false [opW true [wa, wb], wa]) = true := by decide +kernel
    refine ⟨.ref t2, opW false [opW true [wa, wb], wa], rfl, h1.dp, n1, fun _ => ⟨h1, fun v3 d3 H3 e3 hv3 hL3 => ?_⟩, fun h => (by rw [g1] at h; cases h)⟩
    have e3d : d3 = wa := least_is hL3 lst_a (word_of 4 _ (by decide +kernel) (by decide +kernel)) eq_1
    subst e3d
    refine ⟨wa, wa, hv3.dp, .str _, by decide +kernel, by decide +kernel, ?_⟩
    refine ⟨_, rfl, if_b (fun _ => ?_) (fun h => absurd h (by decide +kernel))⟩
    refine ⟨(by show 3 ≤ sizeLine; decide), fun t3 ht3 => ⟨(by show 3 ≤ sizeLine; decide), fun t4 ht4 => ?_⟩⟩
    have f3 := same_new ht3 (.tup [.str "|", .str "a", .str "c"])
    have f4 := same_new ht4 (.tup [.str "|", .str "c", .ref t3])
    have h2 : Tp K (upd (upd H3 t3 (.tup [.str "|", .str "a", .str "c"])) t4 (.tup [.str "|", .str "c", .ref t3])) (.ref t4) (opW true [wc, opW true [wa, wc]]) := tp3 upd_same (.str _) (tp3 (f4 _ _ upd_same) (.str _) (.str _))
    have g2 : fitsB (opW true [wc, opW true [wa, wc]]) = true := by decide +kernel
    have n2 : nice (opW true [wc, opW true [wa, wc]]) = true := by decide +kernel
    refine ⟨.ref t4, opW true [wc, opW true [wa, wc]], rfl, h2.dp, n2, fun _ => ⟨h2, fun v5 d5 H5 e5 hv5 hL5 => ?_⟩, fun h => (by rw [g2] at h; cases h)⟩
    have dy : Drawn 4 (opW true [wa, wc]) := word_of 4 _ (by decide +kernel) (by decide +kernel)
    have e5d : d5 = opW true [wa, wc] := least_is hL5 lst_ac dy eq_2
    subst e5d
    refine ⟨(by show 3 ≤ sizeLine; decide), fun t5 ht5 => ?_⟩
    have f5 := same_new ht5 (.tup [.str "|", .str "a", .str "c"])
    have h3 : Tp K (upd H5 t5 (.tup [.str "|", .str "a", .str "c"])) (.ref t5) (opW true [wa, wc]) := tp3 upd_same (.str _) (.str _)
    refine ⟨opW true [wa, wc], opW true [wa, wc], (hv5.up (Same.T f5)).dp, h3.dp, (drawn_nice dy).shaped, (drawn_nice dy).shaped, ?_⟩
    rw [eqv_drawn dy (by decide)]
    exact q _
end
end FF

namespace FF
open PySem PySem.Spec PyProof.Rows L2
theorem facts {P : Program} {w : World} {K : PySem.W.Frag} {h : Heap} {mg : Str → Option Value} {f : Addr} (X : K.In h) (G : h.Ns mainGlobals mg) (hfa : mg ("law" : Str) = some (.ref f)) (cx : He.SaysX fa fn [] [("law", none)] ex w h K) :
    ∃ fd : FuncData, (∀ (s : Shared) (v : Value), BindsTo s fd ⟨[v], []⟩ [("_law_script", v)]) ∧ ∀ base : Heap, K.In base → base.Ns mainGlobals mg → (∀ p ∈ [He.cT K ("law", none)], LamX.TabB base mg p.1 p.2) → FnOk P w K mg base CX0 42 f fd ["_law_script"] (spLaw K) := by
  have c := cx.t.d
  have T := top_of X G c cx.more
  obtain ⟨fd_wall, F_wall⟩ := c.def_ 0 (d := d_wall) rfl
  have m_wall := He.glo_ok X G (c.fact 38 (f := .glo "_wall") rfl)
  obtain ⟨fd_is_letter, F_is_letter⟩ := c.def_ 1 (d := d_is_letter) rfl
  have m_is_letter := He.glo_ok X G (c.fact 39 (f := .glo "is_letter") rfl)
  obtain ⟨fd_measured, F_measured⟩ := c.def_ 2 (d := d_measured) rfl
  have m_measured := He.glo_ok X G (c.fact 40 (f := .glo "measured") rfl)
  obtain ⟨fd_is_term, F_is_term⟩ := c.def_ 3 (d := d_is_term) rfl
  have m_is_term := He.glo_ok X G (c.fact 41 (f := .glo "is_term") rfl)
  obtain ⟨fd_need_term, F_need_term⟩ := c.def_ 4 (d := d_need_term) rfl
  have m_need_term := He.glo_ok X G (c.fact 42 (f := .glo "need_term") rfl)
  obtain ⟨fd_text_of, F_text_of⟩ := c.def_ 5 (d := d_text_of) rfl
  have m_text_of := He.glo_ok X G (c.fact 43 (f := .glo "text_of") rfl)
  obtain ⟨fd_below_in, F_below_in⟩ := c.def_ 6 (d := d_below_in) rfl
  have m_below_in := He.glo_ok X G (c.fact 44 (f := .glo "below_in") rfl)
  obtain ⟨fd_faces, F_faces⟩ := c.def_ 7 (d := d_faces) rfl
  have m_faces := He.glo_ok X G (c.fact 45 (f := .glo "faces") rfl)
  obtain ⟨fd_flattened, F_flattened⟩ := c.def_ 8 (d := d_flattened) rfl
  have m_flattened := He.glo_ok X G (c.fact 46 (f := .glo "flattened") rfl)
  obtain ⟨fd_thinned, F_thinned⟩ := c.def_ 9 (d := d_thinned) rfl
  have m_thinned := He.glo_ok X G (c.fact 47 (f := .glo "thinned") rfl)
  obtain ⟨fd_shortened, F_shortened⟩ := c.def_ 10 (d := d_shortened) rfl
  have m_shortened := He.glo_ok X G (c.fact 48 (f := .glo "shortened") rfl)
  obtain ⟨fd_least_in, F_least_in⟩ := c.def_ 11 (d := d_least_in) rfl
  have m_least_in := He.glo_ok X G (c.fact 49 (f := .glo "least_in") rfl)
  obtain ⟨fd_least_form, F_least_form⟩ := c.def_ 12 (d := d_least_form) rfl
  have m_least_form := He.glo_ok X G (c.fact 50 (f := .glo "least_form") rfl)
  obtain ⟨fd_is_least, F_is_least⟩ := c.def_ 13 (d := d_is_least) rfl
  have m_is_least := He.glo_ok X G (c.fact 51 (f := .glo "is_least") rfl)
  obtain ⟨fd_law_source, F_law_source⟩ := c.def_ 14 (d := d_law_source) rfl
  have m_law_source := He.glo_ok X G (c.fact 52 (f := .glo "_law_source") rfl)
  obtain ⟨fd_law_take, F_law_take⟩ := c.def_ 15 (d := d_law_take) rfl
  have m_law_take := He.glo_ok X G (c.fact 53 (f := .glo "_law_take") rfl)
  obtain ⟨fd_law_pick, F_law_pick⟩ := c.def_ 16 (d := d_law_pick) rfl
  have m_law_pick := He.glo_ok X G (c.fact 54 (f := .glo "_law_pick") rfl)
  obtain ⟨fd_law_mixed, F_law_mixed⟩ := c.def_ 17 (d := d_law_mixed) rfl
  have m_law_mixed := He.glo_ok X G (c.fact 55 (f := .glo "_law_mixed") rfl)
  obtain ⟨fd_law_same, F_law_same⟩ := c.def_ 18 (d := d_law_same) rfl
  have m_law_same := He.glo_ok X G (c.fact 56 (f := .glo "_law_same") rfl)
  obtain ⟨fd_law_call, F_law_call⟩ := c.def_ 19 (d := d_law_call) rfl
  have m_law_call := He.glo_ok X G (c.fact 57 (f := .glo "_law_call") rfl)
  obtain ⟨fd_law_parts, F_law_parts⟩ := c.def_ 20 (d := d_law_parts) rfl
  have m_law_parts := He.glo_ok X G (c.fact 58 (f := .glo "_law_parts") rfl)
  obtain ⟨fd_law_text, F_law_text⟩ := c.def_ 21 (d := d_law_text) rfl
  have m_law_text := He.glo_ok X G (c.fact 59 (f := .glo "_law_text") rfl)
  obtain ⟨fd_law_leaves, F_law_leaves⟩ := c.def_ 22 (d := d_law_leaves) rfl
  have m_law_leaves := He.glo_ok X G (c.fact 60 (f := .glo "_law_leaves") rfl)
  obtain ⟨fd_law_term, F_law_term⟩ := c.def_ 23 (d := d_law_term) rfl
  have m_law_term := He.glo_ok X G (c.fact 61 (f := .glo "_law_term") rfl)
  obtain ⟨fd_law_signs, F_law_signs⟩ := c.def_ 24 (d := d_law_signs) rfl
  have m_law_signs := He.glo_ok X G (c.fact 62 (f := .glo "_law_signs") rfl)
  obtain ⟨fd_law_below, F_law_below⟩ := c.def_ 25 (d := d_law_below) rfl
  have m_law_below := He.glo_ok X G (c.fact 63 (f := .glo "_law_below") rfl)
  obtain ⟨fd_law_below_now, F_law_below_now⟩ := c.def_ 26 (d := d_law_below_now) rfl
  have m_law_below_now := He.glo_ok X G (c.fact 64 (f := .glo "_law_below_now") rfl)
  obtain ⟨fd_law_least, F_law_least⟩ := c.def_ 27 (d := d_law_least) rfl
  have m_law_least := He.glo_ok X G (c.fact 65 (f := .glo "_law_least") rfl)
  obtain ⟨fd_law_measure, F_law_measure⟩ := c.def_ 28 (d := d_law_measure) rfl
  have m_law_measure := He.glo_ok X G (c.fact 66 (f := .glo "_law_measure") rfl)
  obtain ⟨fd_law_fits, F_law_fits⟩ := c.def_ 29 (d := d_law_fits) rfl
  have m_law_fits := He.glo_ok X G (c.fact 67 (f := .glo "_law_fits") rfl)
  obtain ⟨fd_law_odd, F_law_odd⟩ := c.def_ 30 (d := d_law_odd) rfl
  have m_law_odd := He.glo_ok X G (c.fact 68 (f := .glo "_law_odd") rfl)
  obtain ⟨fd_law_nest, F_law_nest⟩ := c.def_ 31 (d := d_law_nest) rfl
  have m_law_nest := He.glo_ok X G (c.fact 69 (f := .glo "_law_nest") rfl)
  obtain ⟨fd_law_same_word, F_law_same_word⟩ := c.def_ 32 (d := d_law_same_word) rfl
  have m_law_same_word := He.glo_ok X G (c.fact 70 (f := .glo "_law_same_word") rfl)
  obtain ⟨fd_law_rewritten, F_law_rewritten⟩ := c.def_ 33 (d := d_law_rewritten) rfl
  have m_law_rewritten := He.glo_ok X G (c.fact 71 (f := .glo "_law_rewritten") rfl)
  obtain ⟨fd_law_two_words, F_law_two_words⟩ := c.def_ 34 (d := d_law_two_words) rfl
  have m_law_two_words := He.glo_ok X G (c.fact 72 (f := .glo "_law_two_words") rfl)
  obtain ⟨fd_law, F_law⟩ := c.def_ 35 (d := d_law) rfl
  have m_law := He.glo_ok X G (c.fact 73 (f := .glo "law") rfl)
  obtain ⟨fd_FaultError_init, F_FaultError_init⟩ := c.def_ 36 (d := d_FaultError_init) rfl
  obtain ⟨fd_InvalidTerm_init, F_InvalidTerm_init⟩ := c.def_ 37 (d := d_InvalidTerm_init) rfl
  obtain ⟨fd_Free___init__, F_Free___init__⟩ := c.def_ 38 (d := d_Free___init__) rfl
  obtain ⟨fd_Free_is_below, F_Free_is_below⟩ := c.def_ 39 (d := d_Free_is_below) rfl
  obtain ⟨fd_Free_reason_for, F_Free_reason_for⟩ := c.def_ 40 (d := d_Free_reason_for) rfl
  obtain ⟨fd_Free_added, F_Free_added⟩ := c.def_ 41 (d := d_Free_added) rfl
  obtain ⟨fd_Free_step_for, F_Free_step_for⟩ := c.def_ 42 (d := d_Free_step_for) rfl
  obtain ⟨fd_Free_written_reason, F_Free_written_reason⟩ := c.def_ 43 (d := d_Free_written_reason) rfl
  have e := hfa.symm.trans m_law
  cases e
  have b := FunD.bindsA (ps := ["_law_script"]) F_law fun _ _ _ _ _ _ us hl => match us, hl with | [_], _ => rfl
  refine ⟨fd_law, fun s v => b s [v] rfl, fun base _ _ hTB => ?_⟩
  have D_take : Def P w K mg base "_law_take" 1 ["_law_source_here", "_law_many"] spTake := take_hid (ok_take F_law_take m_law_take T)
  have D_source : Def P w K mg base "_law_source" 1 ["_law_script"] (spSource K) := ok_source F_law_source m_law_source T
  have D_pick : Def P w K mg base "_law_pick" 2 ["_law_source_here", "_law_row"] (spPick K) := ok_pick F_law_pick m_law_pick T D_take
  have D_mixed : Def P w K mg base "_law_mixed" 2 ["_law_source_here", "_law_row"] (spMixed K) := ok_mixed F_law_mixed m_law_mixed T D_take
  have D_signs : Def P w K mg base "_law_signs" 3 ["_law_source_here", "_law_most"] spSigns := ok_signs F_law_signs m_law_signs T D_take D_mixed
  have D_term : Def P w K mg base "_law_term" 8 ["_law_source_here", "_law_signs_here", "_law_deep", "_law_room"] (spTermR K 6) := ok_termR F_law_term m_law_term T D_take D_pick 6
  have D_nest : Def P w K mg base "_law_nest" 1 ["_law_many"] (spNest K) := ok_nest F_law_nest m_law_nest T
  have D_odd : Def P w K mg base "_law_odd" 3 ["_law_source_here", "_law_word"] (spOdd0 K) := ok_odd0 F_law_odd m_law_odd T D_pick D_nest
  have D_same : ∀ n, Def P w K mg base "_law_same" n ["_law_found", "_law_due"] (spSame K n) := fun n => by
    induction n with
    | zero => exact same_none F_law_same m_law_same
    | succ n ih => exact ok_same_step F_law_same m_law_same T ih
  have D_let : Def P w K mg base "is_letter" 1 ["value"] (spIsLetter K) := ok_is_letter F_is_letter m_is_letter T
  have D_measured : ∀ n, Def P w K mg base "measured" (n + 1) ["value", "max_depth"] (spMeasured K n) := fun n => by
    induction n with
    | zero => exact (def_none F_measured m_measured (F_measured.bindsN fun _ _ _ _ _ _ us hl => match us, hl with | [_, _], _ => rfl) fun vs H Q E ⟨_, _, _, _, _, _, h, _⟩ => by omega).mono (Nat.zero_le _)
    | succ n ih => exact ok_measured_step F_measured m_measured T D_let ih
  have b_fe : Binds K fd_FaultError_init ["self", "code"] [] := F_FaultError_init.bindsN fun _ _ _ _ _ _ us hl => match us, hl with | [_, _], _ => rfl
  have FE : FnOk P w K mg base CX0 1 (He.ma K (He.ga K "FaultError") "__init__") fd_FaultError_init ["self", "code"] (spFE K) := fn_fe F_FaultError_init T
  have R_term : RaiseD P w K mg base "InvalidTerm" "FaultError" 2 "InvalidTerm" := ⟨T.x_InvalidTerm, T.c_InvalidTerm, fd_InvalidTerm_init, fn_InvalidTerm F_InvalidTerm_init T FE b_fe, F_InvalidTerm_init.bindsN fun _ _ _ _ _ _ us hl => match us, hl with | [_], _ => rfl⟩
  have D_need : DefX P w K mg base "need_term" 14 ["value"] (spNeed K) := ok_need_term F_need_term m_need_term T F_is_term m_is_term (fn_is_term F_is_term T (D_measured 11)) R_term
  have D_to : ∀ n, Def P w K mg base "text_of" n ["term"] (spText K n) := fun n => by
    induction n with
    | zero => exact def_none F_text_of m_text_of (F_text_of.bindsN fun _ _ _ _ _ _ us hl => match us, hl with | [_], _ => rfl) fun vs H Q E ⟨_, _, _, _, _, _, h, _⟩ => by omega
    | succ n ih => exact ok_text_of_step F_text_of m_text_of T ih
  have D_lt : ∀ n, Def P w K mg base "_law_text" n ["_law_word"] (spText K n) := fun n => by
    induction n with
    | zero => exact def_none F_law_text m_law_text (F_law_text.bindsN fun _ _ _ _ _ _ us hl => match us, hl with | [_], _ => rfl) fun vs H Q E ⟨_, _, _, _, _, _, h, _⟩ => by omega
    | succ n ih => exact ok_law_text_step F_law_text m_law_text T ih
  have D_measure : ∀ n, Def P w K mg base "_law_measure" n ["_law_word", "_law_deep"] (spMeasure K n) := fun n => by
    induction n with
    | zero => exact def_none F_law_measure m_law_measure (F_law_measure.bindsN fun _ _ _ _ _ _ us hl => match us, hl with | [_, _], _ => rfl) fun vs H Q E ⟨_, _, _, _, _, _, h, _⟩ => by omega
    | succ n ih => exact ok_law_measure_step F_law_measure m_law_measure T ih
  have D_fits : Def P w K mg base "_law_fits" 13 ["_law_word"] (spFits K) := ok_fits F_law_fits m_law_fits T (D_measure 12)
  have D_lb : ∀ n, Def P w K mg base "_law_below" (2 * n + 5) ["_law_one", "_law_other", "_law_known"] (spLeqG K argsL resB n (costD n)) := fun n => by
    induction n with
    | zero => exact (def_none F_law_below m_law_below (F_law_below.bindsN fun _ _ _ _ _ _ us hl => match us, hl with | [_, _, _], _ => rfl) fun vs H Q E ⟨_, _, _, _, _, _, _, _, _, _, _, _, _, _, _, _, h, _⟩ => by omega).mono (Nat.zero_le _)
    | succ n ih => exact ok_law_below F_law_below m_law_below T (D_lt 5) (ok_law_below_now F_law_below_now m_law_below_now T ih)
  have D_fb : ∀ n, MethD P w K mg base "Free" "is_below" (2 * n + 5) ["self", "left", "right"] (spLeqG K (argsF K) resB n (costD n)) := fun n => by
    induction n with
    | zero =>
      have no : ∀ vs H Q E, ¬ spLeqG K (argsF K) resB 0 (costD 0) vs H Q E := fun vs H Q E ⟨_, _, _, _, _, _, _, _, _, _, _, _, _, _, _, _, h, _⟩ => by omega
      exact ⟨⟨fd_Free_is_below, ⟨fun vs H Q E h => absurd h (no vs H Q E), fun A outer s H args us vs Q E _ _ _ _ h => absurd h (no vs H Q E)⟩, F_Free_is_below.bindsN fun _ _ _ _ _ _ us hl => match us, hl with | [_, _, _], _ => rfl⟩, T.k_Free, T.m_Free_is_below⟩
    | succ n ih => exact ok_is_below F_Free_is_below T (D_to 5) (ok_reason F_Free_reason_for T ih)
  have D_bi : Def P w K mg base "below_in" 24 ["left", "right"] (spBelowIn K) := ok_below_in F_below_in m_below_in T (ok_free_init F_Free___init__ T) (D_fb 9)
  have D_sw : ∀ n, Def P w K mg base "_law_same_word" (n + 3) ["_law_source_here", "_law_word", "_law_known"] (spSameW K n) := fun n => by
    induction n with
    | zero => exact same_w_none F_law_same_word m_law_same_word
    | succ n ih => exact ok_same_w_step F_law_same_word m_law_same_word T D_take D_pick D_mixed ih
  have D_rw : Def P w K mg base "_law_rewritten" 14 ["_law_source_here", "_law_word", "_law_many"] (spRewr K) := ok_rewritten F_law_rewritten m_law_rewritten T (D_sw 5) D_fits
  have D_tw : Def P w K mg base "_law_two_words" 15 ["_law_source_here"] (spTwoW K) := ok_two_words F_law_two_words m_law_two_words T D_take D_pick D_signs D_term D_rw D_fits
  have D_fc : Def P w K mg base "faces" 25 ["operator", "one", "other"] (spFaces K) := ok_faces F_faces m_faces T D_bi
  have D_fl : Def P w K mg base "flattened" 1 ["operator", "parts"] (spFlat K) := ok_flattened F_flattened m_flattened T
  have D_th : Def P w K mg base "thinned" 26 ["operator", "parts"] (spThin K) := ok_thinned F_thinned m_thinned T D_fc
  have D_sh : Def P w K mg base "shortened" 26 ["operator", "parts"] (spShort K) := ok_shortened F_shortened m_shortened T D_fc
  have D_li : ∀ n, Def P w K mg base "least_in" (n + 27) ["term"] (spLeast K n) := fun n => by
    induction n with
    | zero => exact (def_none F_least_in m_least_in (F_least_in.bindsN fun _ _ _ _ _ _ us hl => match us, hl with | [_], _ => rfl) fun vs H Q E ⟨_, _, _, _, _, _, h, _⟩ => by omega).mono (Nat.zero_le _)
    | succ n ih => exact ok_least_step F_least_in m_least_in T ih D_fl D_th D_sh (D_to 5)
  have D_pa : Def P w K mg base "_law_parts" 1 ["_law_word"] (fun vs H Q _ => ∃ (v : V) (d : PyData) (m : Nat), vs = [v] ∧ Tp K H v d ∧ Drawn m d ∧ ∀ p us H', Same H H' → H p = none → H' p = some (.lst us) → TpAll K H' us (tlD d) → Q (.ref p) H') := ok_law_parts F_law_parts m_law_parts T
  have D_lv : ∀ n, Def P w K mg base "_law_leaves" n ["_law_word"] (fun vs H Q _ => ∃ (v : V) (d : PyData) (m : Nat), vs = [v] ∧ Tp K H v d ∧ Drawn m d ∧ m < n ∧ n ≤ 5 ∧ ∀ H', Same H H' → Q (.int (meas 5 d)) H') := fun n => by
    induction n with
    | zero => exact def_none F_law_leaves m_law_leaves (F_law_leaves.bindsN fun _ _ _ _ _ _ us hl => match us, hl with | [_], _ => rfl) fun vs H Q E ⟨_, _, _, _, _, _, h, _⟩ => by omega
    | succ n ih => exact ok_law_leaves F_law_leaves m_law_leaves T ih
  have D_le : ∀ n, Def P w K mg base "_law_least" (n + 24) ["_law_word", "_law_known"] (spLeastB K n) := fun n => by
    induction n with
    | zero => exact (def_none F_law_least m_law_least (F_law_least.bindsN fun _ _ _ _ _ _ us hl => match us, hl with | [_, _], _ => rfl) fun vs H Q E ⟨_, _, _, _, _, _, _, _, h, _⟩ => by omega).mono (Nat.zero_le _)
    | succ n ih => exact ok_law_least F_law_least m_law_least T ih (D_lt 5) (D_lb 9) D_pa
  exact ok_law F_law T (hTB (He.cT K ("law", none)) (List.mem_singleton.mpr rfl)) F_law_call m_law_call F_least_form m_least_form (fn_least_form F_least_form T D_need (D_li 5)) F_is_least m_is_least (fn_is_least F_is_least T D_need (D_li 5))
    D_source D_take D_tw D_rw D_fits (D_le 5) (D_lv 5) (D_lb 9) D_odd (D_same 40)
end FF
open PySem PySem.W PySem.Calls PyProof.Rows
set_option maxRecDepth 100000 in
set_option maxHeartbeats 0 in
theorem PySem.Challenge.cw_fivefault_k44_whole_least_forms_holds : PySem.Challenge.rw_fivefault_k44_whole_least_forms.Holds := by
  w_on; o_law
  refine HandSHeadRun.head_any (r := PySem.W.OpenLaw.row PySem.Challenge.rw_fivefault_k44_whole_least_forms) (q := PySem.W.view (PySem.W.OpenLaw.row PySem.Challenge.rw_fivefault_k44_whole_least_forms).prog [49]) (H := FF.hk) (ob := FF.ob) (M := 4000) (loose := FF.loose) (d := HandSHeadRun.topDef (PySem.W.OpenLaw.row PySem.Challenge.rw_fivefault_k44_whole_least_forms).prog 49) (kwd := []) FF.ob_eq
    (by kernel_rfl) (fun s => by kernel_rfl) FF.run (by kernel_rfl) (by kernel_rfl) (by kernel_rfl) (by rfl) (by first | assumption | decide +kernel) (by decide +kernel) ⟨rfl, rfl, rfl, rfl, rfl, by decide +kernel⟩ ?hw ?hc
  case hw => w_witness2
  case hc =>
    refine LamX.walk_ofTsE (l := PySem.Challenge.rw_fivefault_k44_whole_least_forms) (n := 63) (k := 42) (x := "_law_script") (CX := fun _ => L2.CX0) rfl (by decide) (by kernel_rfl) ⟨rfl, by decide, by decide⟩ ?F (fun _ _ _ _ _ z => z)
    intro w mg fa h Y G hmg0
    obtain ⟨K, KX, c⟩ := Y
    have hmg : mg ("law" : PySem.Str) = some (.ref fa) := by
      have e : (HandSHeadRun.topDef (PySem.W.OpenLaw.row PySem.Challenge.rw_fivefault_k44_whole_least_forms).prog 49).name = ("law" : PySem.Str) := by kernel_rfl
      rw [← e]
      exact hmg0
    obtain ⟨fd, hb, hF⟩ := FF.facts (P := (PySem.Challenge.rw_fivefault_k44_whole_least_forms).prog) (w := w) KX G hmg c
    refine ⟨K, KX, fd, [He.cT K ("law", none)], FF.spLaw K, fun p hp => ?_, fun p hp => ?_, fun p hp => ?_, hb, fun H a ns hl _ hT hS => ⟨a, ns, rfl, hS, fun p hp => ?_, fun _ => rfl⟩, hF⟩
    · exact List.mem_singleton.mp hp ▸ c.empty ("law", none) (by simp)
    · exact List.mem_singleton.mp hp ▸ c.out ("law", none) (by simp)
    · exact List.mem_singleton.mp hp ▸ PySem.W.codeHd_of_K KX (c.hd ("law", none) (by simp))
    · exact List.mem_singleton.mp hp ▸ LamX.TabS.nil (hT (He.cT K ("law", none)) (by simp))

