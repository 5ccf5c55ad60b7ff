import PyProof.Rows.All
import Wide.All
import OpenK.AllK
import Wide.FinOn
import HandS.ForMost
import HandS.IsInst
import HandS.Deep
import HandS.Zip
import HandS.Defaults
import HandS.More
import HandS.Conv
import HandS.Style
import HandS.Codes
import HandS.ExcInit
import HandS.ExcField
import HandS.TryMany
import HandS.ClsMeth
import HandS.Lambda
import HandS.EndTab
import HandS.HeadWalk
import HandS.WordsExc
import PyProof.P3Eq
import HandS.HeadHook4
import HandS.Head2
import HandS.HeadEnd
import PyProof.P3In
import PyProof.ListStr
import HandS.Star
import HandS.DictComp
import HandS.FStr
import HandS.StrMore
import PyProof.Rows.SortShellSt
import KE.GoesMore
import HandS.Walk
import HandS.SetKeys
import HandS.IntHex
import HandS.OwnEq
import HandS.DictSub
import HandS.MakeKwOnly
import KE.DataCmp
import HandS.Property
import HandS.MethStar
import HandS.SetFor
import HandS.SetBool
import HandS.Strs
import HandS.TupAny
import HandS.GenYield
import HandS.GenList
import HandS.IterVal
import HandS.SortKw
import HandS.SortRule
import KE.DatumOrd
import KE.KeyNested
import KE.KDictKeyed
import PySem.Challenge.RW_fivefault_k73_whole_large_boards_spread
set_option Elab.async false
set_option linter.all false
set_option maxRecDepth 100000
set_option maxHeartbeats 2000000
/-! Fivefault, part 1: heaps that grow, data, the draws' source. -/
namespace FF
open PySem PySem.Spec PyProof.Rows L2

/-! ### heaps that grow -/
theorem same_new {H : Hp} {p : Addr} (h : H p = none) (o : HO) : Same H (upd H p o) := fun b u q => by rw [upd_ne (ne_of_none q h)]; exact q
theorem same_rd {H H' : Hp} {a : Addr} {u : HO} (e : Same H H') (h : Rd H a u) : Rd H' a u := by
  rcases h with h | ⟨o, h⟩
  · exact .inl (e _ _ h)
  · exact .inr ⟨o, e _ _ h⟩
theorem up_l {K : PySem.W.Frag} {H H' : Hp} {a : Addr} {xs : List V} (e : Same H H') (h : SqL K H a xs) : SqL K H' a xs := by
  rcases h with h | h
  · exact .inl (same_rd e h)
  · exact .inr h
theorem up_t {K : PySem.W.Frag} {H H' : Hp} {a : Addr} {xs : List V} (e : Same H H') (h : SqT K H a xs) : SqT K H' a xs := by
  rcases h with h | h
  · exact .inl (same_rd e h)
  · exact .inr h
mutual
theorem up_d {K : PySem.W.Frag} {H H' : Hp} (e : Same H H') : ∀ {v : V} {d : PyData}, Dp K H v d → Dp K H' v d
  | _, _, .non => .non
  | _, _, .bl b => .bl b
  | _, _, .int i => .int i
  | _, _, .str x => .str x
  | _, _, .lst h a => .lst (up_l e h) (up_da e a)
  | _, _, .tup h a => .tup (up_t e h) (up_da e a)
theorem up_da {K : PySem.W.Frag} {H H' : Hp} (e : Same H H') : ∀ {vs : List V} {ds : List PyData}, DpAll K H vs ds → DpAll K H' vs ds
  | _, _, .nil => .nil
  | _, _, .cons h a => .cons (up_d e h) (up_da e a)
end
theorem da_get {K : PySem.W.Frag} {H : Hp} : ∀ {vs : List V} {ds : List PyData} {i : Nat} {v : V}, DpAll K H vs ds → vs[i]? = some v → ∃ d, ds[i]? = some d ∧ Dp K H v d
  | _, _, 0, _, .cons h _, e => by cases e; exact ⟨_, rfl, h⟩
  | _, _, i + 1, _, .cons _ t, e => da_get (i := i) t e
theorem da_len {K : PySem.W.Frag} {H : Hp} : ∀ {vs : List V} {ds : List PyData}, DpAll K H vs ds → vs.length = ds.length
  | _, _, .nil => rfl
  | _, _, .cons _ t => congrArg Nat.succ (da_len t)
/-! ### what data is -/
def tyN : PyData → String
  | .none => "NoneType"
  | .bool _ => "bool"
  | .int _ => "int"
  | .str _ => "str"
  | .list _ => "list"
  | .tuple _ => "tuple"
  | .dict _ => "dict"
theorem dp_ty {K : PySem.W.Frag} {H : Hp} {v : V} {d : PyData} (h : Dp K H v d) : TyX K H v (.type (tyN d)) := by
  cases h with
  | non => exact .base .non
  | bl b => exact .base (.bl b)
  | int i => exact .base (.int i)
  | str x => exact .base (.str x)
  | lst h _ =>
    rcases h with (h | ⟨o, h⟩) | ⟨o, _, _, h, c, _⟩
    · exact .base (.lst h)
    · exact .base (.frz h)
    · exact .kList h c
  | tup h _ =>
    rcases h with (h | ⟨o, h⟩) | ⟨o, _, _, h, c, _⟩
    · exact .base (.tup h)
    · exact .fTuple h
    · exact .kTuple h c
def isStr : PyData → Bool
  | .str _ => true
  | _ => false
def isTup : PyData → Bool
  | .tuple _ => true
  | _ => false
def isBool : PyData → Bool
  | .bool _ => true
  | _ => false
def isInt : PyData → Bool
  | .bool _ => true
  | .int _ => true
  | _ => false
theorem kb_str (d : PyData) : kitB (tyN d) "str" = some (isStr d) := by cases d <;> kernel_rfl
theorem kb_tup (d : PyData) : kitB (tyN d) "tuple" = some (isTup d) := by cases d <;> kernel_rfl
theorem kb_bool (d : PyData) : kitB (tyN d) "bool" = some (isBool d) := by cases d <;> kernel_rfl
theorem kb_int (d : PyData) : kitB (tyN d) "int" = some (isInt d) := by cases d <;> kernel_rfl
/-- isinstance(x, T) over data -/
def rIsD (K : PySem.W.Frag) (T : String) (f : PyData → Bool) : List V → Hp → VK → Prop := fun xs H Q => ∃ (x : V) (d : PyData), xs = [x, .ty T] ∧ Dp K H x d ∧ Q (.bl (f d)) H
theorem call_isD {X : Cx} {T : String} {f : PyData → Bool} (hk : ∀ d, kitB (tyN d) T = some (f d)) : CallR X (.builtin "isinstance") (rIsD X.K T f) := by
  intro pins s σ H xs us Q I r h
  obtain ⟨x, d, rfl, hd, q⟩ := h
  exact call_isi pins s σ H _ us Q I r ⟨x, .ty T, _, _, _, rfl, .ty T, dp_ty hd, kit_ty (hk d), q⟩

/-! ### defs of the text -/
/-- the def x of the top keeps the promise sp at level k -/
structure Def (P : Program) (w : World) (K : PySem.W.Frag) (mg : Str → Option Value) (base : Heap) (x : Str) (k : Nat) (ps : List Str) (sp : Sp) : Prop where
  ex : ∃ (f : Addr) (fd : FuncData), FnOk P w K mg base CX0 k f fd ps sp ∧ mg x = some (.ref f) ∧ PySem.W.keepIn K (.ref f) = true ∧ Binds K fd ps []
theorem pe_def {X : Cx} {x : Str} {k j : Nat} {ps : List Str} {sp : Sp} {e : Expr} {es : List Expr} {p pos : Pos} {t : TA} (D : Def X.prog X.w X.K X.mg X.base x k ps sp) (hr : Room j X.A) (hkj : k ≤ j) (ha : PA X (e :: es) t)
    (hg : Gl X x := by rfl) (hdb : (x == ("__debug__" : Str)) = false := by decide) (he : starEach (e :: es) X.env = (false, eval e X.env) :: starEach es X.env := by rfl) (hpl : (backTo pos (starEach es X.env)).any (·.1) = false := by rfl) :
    PE X (.Call (.Name x p) (e :: es) [] pos) (tCall sp [] E0 t) := by
  obtain ⟨f, fd, F, hm, hk, hb⟩ := D.ex
  exact pe_call F (hr.mono hkj) hg hm hk hb .nil pass0 ha hdb he hpl
theorem Def.imp {P : Program} {w : World} {K : PySem.W.Frag} {mg : Str → Option Value} {base : Heap} {x : Str} {k : Nat} {ps : List Str} {sp sp' : Sp} (D : Def P w K mg base x k ps sp) (h : ∀ vs H Q E, sp' vs H Q E → sp vs H Q E) : Def P w K mg base x k ps sp' := by
  obtain ⟨f, fd, F, r⟩ := D.ex
  exact ⟨f, fd, F.imp h, r⟩
theorem Def.mono {P : Program} {w : World} {K : PySem.W.Frag} {mg : Str → Option Value} {base : Heap} {x : Str} {j k : Nat} {ps : List Str} {sp : Sp} (D : Def P w K mg base x j ps sp) (h : j ≤ k) : Def P w K mg base x k ps sp := by
  obtain ⟨f, fd, F, r⟩ := D.ex
  exact ⟨f, fd, F.mono h, r⟩

/-! ### a list that is hidden: its state is some good one -/
/-- at a stands a list whose items are good -/
def hid (good : List V → Prop) (a : Addr) : HO := .ext fun h => ∃ (xs : List V) (its : List Value) (n : Nat), good xs ∧ xs.length ≤ sizeLine ∧ Vals xs its ∧ h.get? a = some { cls := .type "list", data := .seq its.toArray n }
section
variable {P : Program} {w : World} {K : PySem.W.Frag} {mg : Str → Option Value} {base : Heap}
theorem upd_back {H : Hp} {a : Addr} {o u : HO} (h : H a = some u) : upd (upd H a o) a u = H := by
  funext b
  unfold upd
  split
  · next e => rw [e, h]
  · rfl
theorem hok_open {H : Hp} {h : Heap} {a : Addr} {good : List V → Prop} (hs : H a = some (hid good a)) (ok : HOk P w H h) : ∃ xs, good xs ∧ HOk P w (upd H a (.lst xs)) h := by
  obtain ⟨⟨xs, its, n, hg, hz, hv, he⟩, _, _⟩ := ok a _ hs
  refine ⟨xs, hg, fun b o e => ?_⟩
  by_cases hb : b = a
  · subst hb
    rw [upd_same] at e
    cases e
    exact ⟨hz, its, n, hv, he⟩
  · rw [upd_ne hb] at e
    refine (ok b o e).stay (fun _ _ _ q => q) (fun c q => ?_) (fun c ys q => ?_)
    · have hc : c ≠ a := by
        intro z
        rw [z, hs] at q
        cases q
      rw [upd_ne hc]
      exact q
    · have hc : c ≠ a := by
        intro z
        rw [z, hs] at q
        cases q
      rw [upd_ne hc]
      exact q
theorem hok_shut {H : Hp} {h : Heap} {a : Addr} {good : List V → Prop} {xs : List V} (hs : H a = some (.lst xs)) (hg : good xs) (ok : HOk P w H h) : HOk P w (upd H a (hid good a)) h := by
  obtain ⟨hz, its, n, hv, he⟩ := ok a _ hs
  intro b o e
  by_cases hb : b = a
  · subst hb
    rw [upd_same] at e
    cases e
    refine ⟨⟨xs, its, n, hg, hz, hv, he⟩, ⟨_, he⟩, fun h1 h2 ⟨xs1, its1, n1, g1, z1, v1, e1⟩ hk => ⟨xs1, its1, n1, g1, z1, v1, hk _ e1⟩⟩
  · rw [upd_ne hb] at e
    refine (ok b o e).stay (fun _ _ _ q => q) (fun c q => ?_) (fun c ys q => ?_)
    · have hc : c ≠ a := by
        intro z
        rw [z, hs] at q
        cases q
      rw [upd_ne hc]
      exact q
    · have hc : c ≠ a := by
        intro z
        rw [z, hs] at q
        cases q
      rw [upd_ne hc]
      exact q
/-- the list at a opened: what its items are the body may read and change; behind it the list is hidden again -/
theorem FnOk.open_ {k : Nat} {f : Addr} {fd : FuncData} {ps : List Str} {sp sp' : Sp} (F : FnOk P w K mg base CX0 k f fd ps sp) (len : ∀ vs H Q E, sp' vs H Q E → vs.length = ps.length)
    (h : ∀ vs H Q E, sp' vs H Q E → ∃ (a : Addr) (good : List V → Prop), H a = some (hid good a) ∧
      ∀ xs, good xs → sp vs (upd H a (.lst xs)) (fun v H' => ∃ ys, H' a = some (.lst ys) ∧ good ys ∧ Q v (upd H' a (hid good a))) E) : FnOk P w K mg base CX0 k f fd ps sp' := by
  refine ⟨len, fun A outer s H args us vs Q E hr e0 hb hv hsp => ?_⟩
  obtain ⟨a, good, ha, hq⟩ := h vs H Q E hsp
  obtain ⟨xs, hg, ok⟩ := hok_open ha e0.hok
  have dom : ∀ {b}, H b = none → (upd H a (.lst xs)) b = none := fun {b} n => by
    rw [upd_ne (fun z => by rw [z, ha] at n; cases n)]
    exact n
  have e1 : Env0 P w K mg base A outer s (upd H a (.lst xs)) := ⟨e0.frames, e0.mod, fun b o e => ⟨(e0.bs b o e).1, dom (e0.bs b o e).2⟩, e0.bsz, e0.funs, fun b hb => dom (e0.frf b hb), ok, e0.bare⟩
  refine codeAny_mono (F.run A outer s _ args us vs _ E hr e1 hb hv (hq xs hg)) fun r s' hc => ?_
  cases r with
  | error e => exact hc
  | ok fl =>
    cases fl with
    | ret u =>
      obtain ⟨v, H', os, bare, un, hok, rv, ys, hy, gy, q⟩ := hc
      refine ⟨v, _, os, bare, ?_, hok_shut hy gy hok, rv, q⟩
      have back : ∀ {b o}, H b = some o → b ≠ a → (upd H a (.lst xs)) b = some o := fun {b o} e hb => by rw [upd_ne hb]; exact e
      have notA : ∀ {b}, H b = none → b ≠ a := fun {b} n z => by rw [z, ha] at n; cases n
      refine ⟨fun b o e n h1 h2 => un.keep b o e (dom n) h1 h2, fun b o e n h1 h2 => un.slot b o e (dom n) h1 h2, fun b o e n h1 => ?_, un.there, fun b ys' e => ?_, fun b o u' e => ?_, fun b ps' e => ?_⟩
      · rw [upd_ne (notA n)]
        exact un.free b o e (dom n) h1
      · have hb : b ≠ a := fun z => by rw [z, ha] at e; cases e
        rw [upd_ne hb]
        exact un.tups b ys' (back e hb)
      · have hb : b ≠ a := fun z => by rw [z, ha] at e; cases e
        rw [upd_ne hb]
        exact un.frzs b o u' (back e hb)
      · have hb : b ≠ a := fun z => by rw [z, ha] at e; cases e
        rw [upd_ne hb]
        exact un.tbls b ps' (back e hb)
    | next => exact hc
    | brk => exact hc
    | cont => exact hc
/-- behind the body the list at a is hidden -/
theorem FnOk.shut_ {k : Nat} {f : Addr} {fd : FuncData} {ps : List Str} {sp sp' : Sp} (F : FnOk P w K mg base CX0 k f fd ps sp) (len : ∀ vs H Q E, sp' vs H Q E → vs.length = ps.length)
    (h : ∀ vs H Q E, sp' vs H Q E → sp vs H (fun v H' => ∃ (a : Addr) (good : List V → Prop) (ys : List V), H a = none ∧ H' a = some (.lst ys) ∧ good ys ∧ Q v (upd H' a (hid good a))) E) : FnOk P w K mg base CX0 k f fd ps sp' := by
  refine ⟨len, fun A outer s H args us vs Q E hr e0 hb hv hsp => ?_⟩
  refine codeAny_mono (F.run A outer s _ args us vs _ E hr e0 hb hv (h vs H Q E hsp)) fun r s' hc => ?_
  cases r with
  | error e => exact hc
  | ok fl =>
    cases fl with
    | ret u =>
      obtain ⟨v, H', os, bare, un, hok, rv, a, good, ys, hn, hy, gy, q⟩ := hc
      refine ⟨v, _, os, bare, ?_, hok_shut hy gy hok, rv, q⟩
      refine ⟨un.keep, un.slot, fun b o e n h1 => ?_, un.there, fun b ys' e => ?_, fun b o u' e => ?_, fun b ps' e => ?_⟩
      · have hb : b ≠ a := fun z => by
          have q1 := un.free b o e n h1
          rw [z, hy] at q1
          cases q1
        rw [upd_ne hb]
        exact un.free b o e n h1
      · rw [upd_ne (ne_of_none e hn)]
        exact un.tups b ys' e
      · rw [upd_ne (ne_of_none e hn)]
        exact un.frzs b o u' e
      · rw [upd_ne (ne_of_none e hn)]
        exact un.tbls b ps' e
    | next => exact hc
    | brk => exact hc
    | cont => exact hc
end
end FF
/-! Fivefault, part 2: defs by their bodies, names of the top, the draws' source. -/
namespace FF
open PySem PySem.Spec PyProof.Rows L2

/-! ### names of the top -/
section
variable {X : Cx} {x : Str} {pos : Pos}
theorem pe_gs {z : Str} (h : ∃ t, X.mg x = some (.str z t)) (hg : Gl X x := by rfl) (hd : (x == ("__debug__" : Str)) = false := by decide) : PE X (.Name x pos) (tC (.str z)) := by
  obtain ⟨t, h⟩ := h
  exact pe_glob hg h ⟨t, rfl⟩ hd
theorem pe_gT {a : Addr} (h : X.mg x = some (.ref a)) (hg : Gl X x := by rfl) (hd : (x == ("__debug__" : Str)) = false := by decide) : PE X (.Name x pos) (tC (.ref a)) := pe_glob (v := .ref a) hg h rfl hd
end
/-! ### a def by its body -/
section
variable {P : Program} {w : World} {K : PySem.W.Frag} {mg : Str → Option Value} {base : Heap}
theorem def_mk {x : Str} {st : Stmt} {f : Addr} {fd : FuncData} {dvs : List V} {kws : List (Str × V)} {N ps : List Str} {k : Nat} {sp : Sp} (F : FunD K x x (defArgs st) (defBody st) (defScope st) dvs kws f fd) (hm : mg x = some (.ref f)) (hb : Binds K fd ps [])
    (S : FnScope N ps (defScope st)) (len : ∀ vs H Q E, sp vs H Q E → vs.length = ps.length)
    (body : ∀ (cdv : Value) (A : Around) (outer : List Env) (s : Shared) (H : Hp) (vs : List V) (Q : VK) (E : XK), Room k (A.deeper (envOfC x (defScope st) s.heap.objs.size f cdv)) → sp vs H Q E →
      ∃ t, PSs (cxOf CX0 P w K mg base N x (defScope st) f cdv A outer s H E).nox (defBody st) t ∧ t { nx := fun _ H' => Q .non H', rt := Q } (start N vs) H) : Def P w K mg base x (k + 1) ps sp :=
  ⟨f, fd, FunD.ok F S len (fun cdv A outer s H vs Q E hr h => let ⟨t, a, b⟩ := body cdv A outer s H vs Q E hr h; ⟨t, PSs.nox a, b⟩), hm, F.kp, hb⟩
/-- two more ways to say it: the list at an address hidden -/
theorem Def.open_ {x : Str} {k : Nat} {ps : List Str} {sp sp' : Sp} (D : Def P w K mg base x k ps sp) (len : ∀ vs H Q E, sp' vs H Q E → vs.length = ps.length)
    (h : ∀ vs H Q E, sp' vs H Q E → ∃ (a : Addr) (good : List V → Prop), H a = some (hid good a) ∧
      ∀ xs, good xs → sp vs (upd H a (.lst xs)) (fun v H' => ∃ ys, H' a = some (.lst ys) ∧ good ys ∧ Q v (upd H' a (hid good a))) E) : Def P w K mg base x k ps sp' := by
  obtain ⟨f, fd, F, r⟩ := D.ex
  exact ⟨f, fd, FnOk.open_ F len h, r⟩
theorem Def.shut_ {x : Str} {k : Nat} {ps : List Str} {sp sp' : Sp} (D : Def P w K mg base x k ps sp) (len : ∀ vs H Q E, sp' vs H Q E → vs.length = ps.length)
    (h : ∀ vs H Q E, sp' vs H Q E → sp vs H (fun v H' => ∃ (a : Addr) (good : List V → Prop) (ys : List V), H a = none ∧ H' a = some (.lst ys) ∧ good ys ∧ Q v (upd H' a (hid good a))) E) : Def P w K mg base x k ps sp' := by
  obtain ⟨f, fd, F, r⟩ := D.ex
  exact ⟨f, fd, FnOk.shut_ F len h, r⟩
end
/-! ### list of a text -/
end FF
/-! Fivefault, part 3: data that is well formed; in, not in; measures of values. -/
namespace FF
open PySem PySem.Spec PyProof.Rows L2

/-! ### data that is well formed: texts are short, nested at most 60 deep -/
mutual
def nice : PyData → Bool
  | .none => true
  | .bool _ => true
  | .int _ => true
  | .str x => decide (x.length ≤ 20000) && PyData.strOk x
  | .list xs => decide (xs.length ≤ 20000) && niceAll xs
  | .tuple xs => decide (xs.length ≤ 20000) && niceAll xs
  | .dict _ => false
def niceAll : List PyData → Bool
  | [] => true
  | x :: xs => nice x && niceAll xs
end
mutual
theorem nice_lay : ∀ d : PyData, nice d = true → d.canLay0 = true
  | .none, _ => rfl
  | .bool _, _ => rfl
  | .int _, _ => rfl
  | .str x, h => by
    simp only [nice, Bool.and_eq_true] at h
    simp only [PyData.canLay0]
    exact h.2
  | .list xs, h => by
    simp only [nice, Bool.and_eq_true] at h
    simp only [PyData.canLay0]
    exact niceAll_lay xs h.2
  | .tuple xs, h => by
    simp only [nice, Bool.and_eq_true] at h
    simp only [PyData.canLay0]
    exact niceAll_lay xs h.2
  | .dict _, h => by simp [nice] at h
theorem niceAll_lay : ∀ ds : List PyData, niceAll ds = true → PyData.canLayAll0 ds = true
  | [], _ => rfl
  | x :: xs, h => by
    simp only [niceAll, Bool.and_eq_true] at h
    simp only [PyData.canLayAll0, nice_lay x h.1, niceAll_lay xs h.2, Bool.and_self]
end
theorem niceAll_mem : ∀ {ds : List PyData} {d : PyData}, niceAll ds = true → d ∈ ds → nice d = true
  | x :: xs, d, h, m => by
    simp only [niceAll, Bool.and_eq_true] at h
    rcases List.mem_cons.mp m with e | m
    · rw [e]; exact h.1
    · exact niceAll_mem h.2 m
theorem niceAll_of : ∀ {ds : List PyData}, (∀ d ∈ ds, nice d = true) → niceAll ds = true
  | [], _ => rfl
  | x :: xs, h => by
    simp only [niceAll, Bool.and_eq_true]
    exact ⟨h x (List.mem_cons_self ..), niceAll_of fun d m => h d (List.mem_cons_of_mem _ m)⟩
theorem depthAll_of : ∀ {ds : List PyData} {n : Nat}, (∀ d ∈ ds, d.depth ≤ n) → PyData.depthAll ds ≤ n
  | [], _, _ => by rw [PyData.depthAll]; omega
  | x :: xs, n, h => by
    rw [PyData.depthAll]
    have h1 := h x (List.mem_cons_self ..)
    have h2 := depthAll_of fun d m => h d (List.mem_cons_of_mem x m)
    omega
/-- nested at most n deep, with short texts -/
structure Nice (n : Nat) (d : PyData) : Prop where
  ok : nice d = true
  dp : d.depth ≤ n
theorem Nice.shaped {n : Nat} {d : PyData} (h : Nice n d) (hn : n ≤ 64 := by decide) : SeqAt.shaped d = true := by
  have h1 := nice_lay d h.ok
  have h2 : d.depth ≤ 64 := Nat.le_trans h.dp hn
  show (d.canLay0 && decide (d.depth ≤ 64)) = true
  rw [h1, decide_eq_true h2] <;> rfl
theorem Nice.mono {m n : Nat} {d : PyData} (h : Nice m d) (hm : m ≤ n) : Nice n d := ⟨h.ok, Nat.le_trans h.dp hm⟩
theorem Nice.tuple {n : Nat} {ds : List PyData} (hl : ds.length ≤ 20000) (h : ∀ d ∈ ds, Nice n d) : Nice (n + 1) (.tuple ds) := by
  refine ⟨by simp only [nice, Bool.and_eq_true, decide_eq_true_eq]; exact ⟨hl, niceAll_of fun d m => (h d m).ok⟩, ?_⟩
  simp only [PyData.depth]
  have := depthAll_of (n := n) fun d m => (h d m).dp
  omega
theorem Nice.list {n : Nat} {ds : List PyData} (hl : ds.length ≤ 20000) (h : ∀ d ∈ ds, Nice n d) : Nice (n + 1) (.list ds) := by
  refine ⟨by simp only [nice, Bool.and_eq_true, decide_eq_true_eq]; exact ⟨hl, niceAll_of fun d m => (h d m).ok⟩, ?_⟩
  simp only [PyData.depth]
  have := depthAll_of (n := n) fun d m => (h d m).dp
  omega
theorem nice_ti {ds : List PyData} {d : PyData} (h : nice (.tuple ds) = true) (m : d ∈ ds) : nice d = true := by
  simp only [nice, Bool.and_eq_true, decide_eq_true_eq] at h
  exact niceAll_mem h.2 m
theorem le_line {n : Nat} (h : n ≤ 20000) : n ≤ sizeLine := Nat.le_trans h (by decide)
theorem lt_line {n : Nat} (h : n ≤ 20000) : n < sizeLine := Nat.lt_of_le_of_lt h (by decide)

/-! ### x in a written tuple or list, for any data -/
/-! ### letters and measures -/
end FF
/-! Fivefault, part 4: hidden lists read and stored; calls with keywords; tests. -/
namespace FF
open PySem PySem.Spec PyProof.Rows L2

section
variable {X : Cx} {pins : List (Addr × Obj)} {σ : L2.St} {H : Hp} {s : Shared} {a : Addr} {good : List V → Prop}
end
/-! ### calls with keywords -/
section
variable {K : PySem.W.Frag} {x qual : Str} {params : Arguments} {body : List Stmt} {scope : Scope} {kws : List (Str × V)} {f : Addr} {fd : FuncData} {ps : List Str}
end
section
variable {X : Cx} {CX : CXT} {k n : Nat} {f : Addr} {fd : FuncData} {ps ks : List Str} {sp : Sp} {E : XK} {x : Str} {p pos : Pos} {kws : List Keyword} {tk : TA} {g : List Value → List Value → List Value} {gV : List V → List V → List V}
end

/-! ### tests -/
theorem if_int {a b : Int} {A B : Prop} (h1 : a = b → A) (h2 : a ≠ b → B) : if decide (V.int a = V.int b) = true then A else B := by
  by_cases h : a = b
  · rw [decide_eq_true (congrArg V.int h)]
    exact iteT (h1 h)
  · rw [decide_eq_false (fun z => h (V.int.inj z))]
    exact iteF (h2 h)
theorem if_dec {p : Prop} [Decidable p] {A B : Prop} (h1 : p → A) (h2 : ¬ p → B) : if decide p = true then A else B := by
  by_cases h : p
  · rw [decide_eq_true h]
    exact iteT (h1 h)
  · rw [decide_eq_false h]
    exact iteF (h2 h)
theorem if_b {b : Bool} {A B : Prop} (h1 : b = true → A) (h2 : b = false → B) : if b = true then A else B := by
  cases b
  · exact iteF (h2 rfl)
  · exact iteT (h1 rfl)
theorem if_nb {b : Bool} {A B : Prop} (h1 : b = false → A) (h2 : b = true → B) : if (!b) = true then A else B := by
  cases b
  · exact iteT (h1 rfl)
  · exact iteF (h2 rfl)
theorem at0 {α : Type} {x : α} {xs : List α} : atI (x :: xs) 0 = some x := atI_nat (j := 0) rfl
end FF
/-! Fivefault, part 5: tuples never change; comprehensions that map; slices. -/
namespace FF
open PySem PySem.Spec PyProof.Rows L2

/-! ### tuples stay -/
def SameT (H H' : Hp) : Prop := ∀ b xs, H b = some (.tup xs) → H' b = some (.tup xs)
theorem SameT.refl (H : Hp) : SameT H H := fun _ _ h => h
theorem SameT.trans {H H1 H2 : Hp} (a : SameT H H1) (b : SameT H1 H2) : SameT H H2 := fun c o h => b c o (a c o h)
theorem Same.T {H H' : Hp} (e : Same H H') : SameT H H' := fun b xs h => e b _ h
theorem SameT.upd {H H' : Hp} {p : Addr} {o : HO} (e : SameT H H') (h : ∀ xs, H' p ≠ some (.tup xs)) : SameT H (upd H' p o) := fun b xs q => by
  have := e b xs q
  rw [upd_ne (fun z => h xs (by rw [← z]; exact this))]
  exact this
theorem SameT.updL {H H' : Hp} {p : Addr} {o : HO} {ys : List V} (e : SameT H H') (h : H' p = some (.lst ys)) : SameT H (L2.upd H' p o) := e.upd fun xs z => by rw [h] at z; cases z
def SqU (K : PySem.W.Frag) (H : Hp) (a : Addr) (xs : List V) : Prop :=
  H a = some (.tup xs) ∨ ∃ (o : Obj) (its : Array Value) (n : Nat), K.lookup a = some o ∧ o.cls = .type "tuple" ∧ o.data = .seq its n ∧ its.size ≤ sizeLine ∧ Vals xs its.toList
theorem SqU.sqT {K : PySem.W.Frag} {H : Hp} {a : Addr} {xs : List V} (h : SqU K H a xs) : SqT K H a xs := by
  rcases h with h | h
  · exact .inl (.inl h)
  · exact .inr h
theorem SqU.up {K : PySem.W.Frag} {H H' : Hp} {a : Addr} {xs : List V} (e : SameT H H') (h : SqU K H a xs) : SqU K H' a xs := by
  rcases h with h | h
  · exact .inl (e _ _ h)
  · exact .inr h
mutual
/-- data of tuples, texts and the like: no lists -/
inductive Tp (K : PySem.W.Frag) (H : Hp) : V → PyData → Prop
  | non : Tp K H .non .none
  | bl (b : Bool) : Tp K H (.bl b) (.bool b)
  | int (i : Int) : Tp K H (.int i) (.int i)
  | str (x : Str) : Tp K H (.str x) (.str x)
  | tup {a : Addr} {xs : List V} {ds : List PyData} : SqU K H a xs → TpAll K H xs ds → Tp K H (.ref a) (.tuple ds)
inductive TpAll (K : PySem.W.Frag) (H : Hp) : List V → List PyData → Prop
  | nil : TpAll K H [] []
  | cons {v : V} {vs : List V} {d : PyData} {ds : List PyData} : Tp K H v d → TpAll K H vs ds → TpAll K H (v :: vs) (d :: ds)
end
section
variable {K : PySem.W.Frag} {H H' : Hp}
mutual
theorem Tp.dp : ∀ {v : V} {d : PyData}, Tp K H v d → Dp K H v d
  | _, _, .non => .non
  | _, _, .bl b => .bl b
  | _, _, .int i => .int i
  | _, _, .str x => .str x
  | _, _, .tup h a => .tup h.sqT a.dp
theorem TpAll.dp : ∀ {vs : List V} {ds : List PyData}, TpAll K H vs ds → DpAll K H vs ds
  | _, _, .nil => .nil
  | _, _, .cons h a => .cons h.dp a.dp
end
mutual
theorem Tp.up (e : SameT H H') : ∀ {v : V} {d : PyData}, Tp K H v d → Tp K H' v d
  | _, _, .non => .non
  | _, _, .bl b => .bl b
  | _, _, .int i => .int i
  | _, _, .str x => .str x
  | _, _, .tup h a => .tup (h.up e) (a.up e)
theorem TpAll.up (e : SameT H H') : ∀ {vs : List V} {ds : List PyData}, TpAll K H vs ds → TpAll K H' vs ds
  | _, _, .nil => .nil
  | _, _, .cons h a => .cons (h.up e) (a.up e)
end
theorem TpAll.len : ∀ {vs : List V} {ds : List PyData}, TpAll K H vs ds → vs.length = ds.length
  | _, _, .nil => rfl
  | _, _, .cons _ t => congrArg Nat.succ (TpAll.len t)
theorem TpAll.get : ∀ {vs : List V} {ds : List PyData} {i : Nat} {v : V}, TpAll K H vs ds → vs[i]? = some v → ∃ d, ds[i]? = some d ∧ Tp K H v d
  | _, _, 0, _, .cons h _, e => by cases e; exact ⟨_, rfl, h⟩
  | _, _, i + 1, _, .cons _ t, e => TpAll.get (i := i) t e
end

/-! ### slices t[1:] -/
/-! ### [e for x in xs] -/
section
variable {K : PySem.W.Frag} {a : Addr} {xs : List V} {te : TE} {vs : List Nat} {σ : L2.St} {H1 : Hp} {D : Addr} {Qd : Hp → Prop} {j : Nat}
/-- what a step of the loop over the list gives -/
theorem lc_turn {i : Nat} {H : Hp} {x : V} {R : Nat → V → Hp → Prop} (mono : ∀ i y H H', SameT H H' → R i y H → R i y H') (hD : H1 D = none)
    (p : Same H1 H ∧ ∃ ys, H D = some (.lst ys) ∧ ys.length = i ∧ ∀ m y, ys[m]? = some y → R m y H) (hi : i < sizeLine)
    (st : ∀ Q' : VK, (∀ y H3, Same H H3 → R i y H3 → Q' y H3) → te ((wipe σ vs).set j (some x)) H Q') :
    te ((wipe σ vs).set j (some x)) H fun y H4 => ∃ acc, H4 D = some (.lst acc) ∧ acc.length < sizeLine ∧ (Same H1 (upd H4 D (.lst (acc ++ [y]))) ∧ ∃ ys, (upd H4 D (.lst (acc ++ [y]))) D = some (.lst ys) ∧ ys.length = i + 1 ∧ ∀ m y', ys[m]? = some y' → R m y' (upd H4 D (.lst (acc ++ [y])))) := by
  obtain ⟨e1, ys, h2, h3, h4⟩ := p
  refine st _ fun y H3 e3 r => ?_
  have hd := e3 _ _ h2
  refine ⟨ys, hd, by omega, fun b o q => ?_, ys ++ [y], upd_same, by simp [h3], fun m y' q => ?_⟩
  · rw [upd_ne (ne_of_none q hD)]
    exact e3 _ _ (e1 _ _ q)
  · have eT : SameT H3 (upd H3 D (.lst (ys ++ [y]))) := (SameT.refl H3).updL hd
    by_cases hm : m < ys.length
    · rw [List.getElem?_append_left hm] at q
      exact mono _ _ _ _ ((Same.T e3).trans eT) (h4 m y' q)
    · have : m = ys.length := by
        have := (List.getElem?_eq_some_iff.mp q).1
        simp at this
        omega
      subst this
      rw [List.getElem?_append_right (Nat.le_refl _), Nat.sub_self] at q
      cases q
      rw [h3]
      exact mono _ _ _ _ eT r
theorem lc_mapT (R : Nat → V → Hp → Prop) (mono : ∀ i y H H', SameT H H' → R i y H → R i y H') (hD : H1 D = none) (hs : SqT K H1 a xs) (hz : xs.length ≤ sizeLine)
    (hw : ∀ x, wipe ((wipe σ vs).set j (some x)) vs = wipe σ vs)
    (step : ∀ i x H2, xs[i]? = some x → Same H1 H2 → ∀ Q' : VK, (∀ y H3, Same H2 H3 → R i y H3 → Q' y H3) → te ((wipe σ vs).set j (some x)) H2 Q')
    (done : ∀ H2 ys, Same H1 H2 → H2 D = some (.lst ys) → ys.length = xs.length → (∀ (i : Nat) (y : V), ys[i]? = some y → R i y H2) → Qd H2) :
    ∃ W : Nat → Nat → Hp → Prop, (∃ m, W 0 m (upd H1 D (.lst []))) ∧ ∀ i m H, W i m H →
      ((Itt K a).stop i H ∧ Qd H) ∨ ((Itt K a).go i H ∧ ∃ Nx : Hp → Prop, (∀ H', Nx H' → ∃ m', m' < m ∧ W (i + 1) m' H') ∧ ∀ x H', (Itt K a).yld i H x H' → gName j x (wipe σ vs) H' fun σ2 H2 => wipe σ2 vs = wipe σ vs ∧ tYes σ2 H2 fun b H3 =>
        if b = true then te σ2 H3 fun y H4 => ∃ acc, H4 D = some (.lst acc) ∧ acc.length < sizeLine ∧ Nx (upd H4 D (.lst (acc ++ [y]))) else Nx H3) :=
  lc_tup (fun i H => Same H1 H ∧ ∃ ys, H D = some (.lst ys) ∧ ys.length = i ∧ ∀ m y, ys[m]? = some y → R m y H)
    ⟨same_new hD _, [], upd_same, rfl, fun m y q => by simp at q⟩ (fun i H _ p => up_t p.1 hs)
    (fun i x H hx p => ⟨hw x, lc_turn mono hD p (Nat.lt_of_lt_of_le (List.getElem?_eq_some_iff.mp hx).1 hz) (step i x H hx p.1)⟩)
    fun H ⟨e, ys, h1, h2, h3⟩ => done H ys e h1 h2 h3
theorem lc_mapL (R : Nat → V → Hp → Prop) (mono : ∀ i y H H', SameT H H' → R i y H → R i y H') (hD : H1 D = none) (hs : SqL K H1 a xs) (hz : xs.length ≤ sizeLine)
    (hw : ∀ x, wipe ((wipe σ vs).set j (some x)) vs = wipe σ vs)
    (step : ∀ i x H2, xs[i]? = some x → Same H1 H2 → ∀ Q' : VK, (∀ y H3, Same H2 H3 → R i y H3 → Q' y H3) → te ((wipe σ vs).set j (some x)) H2 Q')
    (done : ∀ H2 ys, Same H1 H2 → H2 D = some (.lst ys) → ys.length = xs.length → (∀ (i : Nat) (y : V), ys[i]? = some y → R i y H2) → Qd H2) :
    ∃ W : Nat → Nat → Hp → Prop, (∃ m, W 0 m (upd H1 D (.lst []))) ∧ ∀ i m H, W i m H →
      ((Itl K a).stop i H ∧ Qd H) ∨ ((Itl K a).go i H ∧ ∃ Nx : Hp → Prop, (∀ H', Nx H' → ∃ m', m' < m ∧ W (i + 1) m' H') ∧ ∀ x H', (Itl K a).yld i H x H' → gName j x (wipe σ vs) H' fun σ2 H2 => wipe σ2 vs = wipe σ vs ∧ tYes σ2 H2 fun b H3 =>
        if b = true then te σ2 H3 fun y H4 => ∃ acc, H4 D = some (.lst acc) ∧ acc.length < sizeLine ∧ Nx (upd H4 D (.lst (acc ++ [y]))) else Nx H3) :=
  lc_list (fun i H => Same H1 H ∧ ∃ ys, H D = some (.lst ys) ∧ ys.length = i ∧ ∀ m y, ys[m]? = some y → R m y H)
    ⟨same_new hD _, [], upd_same, rfl, fun m y q => by simp at q⟩ (fun i H _ p => up_l p.1 hs)
    (fun i x H hx p => ⟨hw x, lc_turn mono hD p (Nat.lt_of_lt_of_le (List.getElem?_eq_some_iff.mp hx).1 hz) (step i x H hx p.1)⟩)
    fun H ⟨e, ys, h1, h2, h3⟩ => done H ys e h1 h2 h3
theorem lc_mapR {n : Nat} {lo : Int} (R : Nat → V → Hp → Prop) (mono : ∀ i y H H', SameT H H' → R i y H → R i y H') (hD : H1 D = none) (hz : n ≤ sizeLine)
    (hw : ∀ x, wipe ((wipe σ vs).set j (some x)) vs = wipe σ vs)
    (step : ∀ i H2, i < n → Same H1 H2 → ∀ Q' : VK, (∀ y H3, Same H2 H3 → R i y H3 → Q' y H3) → te ((wipe σ vs).set j (some (.int (lo + i)))) H2 Q')
    (done : ∀ H2 ys, Same H1 H2 → H2 D = some (.lst ys) → ys.length = n → (∀ (i : Nat) (y : V), ys[i]? = some y → R i y H2) → Qd H2) :
    ∃ W : Nat → Nat → Hp → Prop, (∃ m, W 0 m (upd H1 D (.lst []))) ∧ ∀ i m H, W i m H →
      ((Itr lo n).stop i H ∧ Qd H) ∨ ((Itr lo n).go i H ∧ ∃ Nx : Hp → Prop, (∀ H', Nx H' → ∃ m', m' < m ∧ W (i + 1) m' H') ∧ ∀ x H', (Itr lo n).yld i H x H' → gName j x (wipe σ vs) H' fun σ2 H2 => wipe σ2 vs = wipe σ vs ∧ tYes σ2 H2 fun b H3 =>
        if b = true then te σ2 H3 fun y H4 => ∃ acc, H4 D = some (.lst acc) ∧ acc.length < sizeLine ∧ Nx (upd H4 D (.lst (acc ++ [y]))) else Nx H3) :=
  lc_range (fun i H => Same H1 H ∧ ∃ ys, H D = some (.lst ys) ∧ ys.length = i ∧ ∀ m y, ys[m]? = some y → R m y H)
    ⟨same_new hD _, [], upd_same, rfl, fun m y q => by simp at q⟩
    (fun i H hx p => ⟨hw _, lc_turn mono hD p (Nat.lt_of_lt_of_le hx hz) (step i H hx p.1)⟩)
    fun H ⟨e, ys, h1, h2, h3⟩ => done H ys e h1 h2 h3
/-- the lists' items told by a function of the place -/
theorem eq_map_of {α : Type} {ys : List V} {ds : List α} {f : α → V} (hl : ys.length = ds.length) (h : ∀ (i : Nat) (y : V), ys[i]? = some y → ∃ d, ds[i]? = some d ∧ y = f d) : ys = ds.map f := by
  refine List.ext_getElem? fun i => ?_
  rw [List.getElem?_map]
  cases e : ys[i]? with
  | none =>
    have : ds.length ≤ i := by rw [← hl]; exact List.getElem?_eq_none_iff.mp e
    rw [List.getElem?_eq_none_iff.mpr this] <;> rfl
  | some y =>
    obtain ⟨d, h1, h2⟩ := h i y e
    rw [h1, h2] <;> rfl
end
end FF
/-! Fivefault, part 6: comprehensions over zip. -/
namespace FF
open PySem PySem.Spec PyProof.Rows L2
section
variable {K : PySem.W.Frag} {S : Hp → Addr → List V → Prop} {a b : Addr} {xs ys : List V} {te : TE} {vs : List Nat} {σ : L2.St} {H1 : Hp} {D : Addr} {Qd : Hp → Prop} {j k : Nat}
end
end FF
/-! Fivefault, part 7: what an expression over data gives (displays of constants and names). -/
namespace FF
open PySem PySem.Spec PyProof.Rows L2
section
variable {K : PySem.W.Frag} {σ : L2.St} {H : Hp}
end
end FF
/-! Fivefault, part 8: the rules that name the written part, with K said outright (for comprehensions' blocks). -/
namespace FF
open PySem PySem.Spec PyProof.Rows L2
section
variable (K : PySem.W.Frag) {X : Cx}
theorem ix_listK (h : X.K = K := by rfl) : IxR X (rIxL K) := by subst h; exact ix_list
theorem ix_tupK (h : X.K = K := by rfl) : IxR X (rIxT K) := by subst h; exact ix_tup
theorem call_lenK (h : X.K = K := by rfl) : CallR X (.builtin "len") (fun xs H Q => ∃ x n, xs = [x] ∧ LenV K x H n ∧ Q (.int n) H) := by subst h; exact call_len
theorem call_isK {T : String} {f : PyData → Bool} (hk : ∀ d, kitB (tyN d) T = some (f d)) (h : X.K = K := by rfl) : CallR X (.builtin "isinstance") (rIsD K T f) := by subst h; exact call_isD hk
theorem op_neK (hu : X.A.units + 64 < cLine) (h : X.K = K := by rfl) : OpR X (compareOp .NotEq) (rNeD K) := by subst h; exact op_neD hu
theorem op_in_seqK (h : X.K = K := by rfl) : OpR X (compareOp .In) (rIn K false) := by subst h; exact op_in_seq
theorem op_notIn_seqK (h : X.K = K := by rfl) : OpR X (compareOp .NotIn) (rIn K true) := by subst h; exact op_notIn_seq
theorem sl_listK (h : X.K = K := by rfl) : SlR X (rSlL K) := by subst h; exact sl_list
theorem call_list_ofK (h : X.K = K := by rfl) : CallR X (.type "list") (fun xs H Q => ∃ p ys, xs = [.ref p] ∧ (SqL K H p ys ∨ SqT K H p ys) ∧ ∀ l, H l = none → Q (.ref l) (upd H l (.lst ys))) := by subst h; exact call_list_of
theorem cr_allK (hc : X.calm = true) (h : X.K = K := by rfl) : CallR X (.builtin "all") (rAll K) := by subst h; exact cr_all hc
theorem pg_tupK {es : List Expr} {k : Nat} {t : TGs} {n : Nat} {pos : Pos} (hc : X.calm = true) (h : PGs X es t) (hk : X.K = K := by rfl)
    (hn : (assignEach es X.env).length = n := by rfl) (hst : (assignEach es X.env).findIdx? (·.1) = none := by rfl) : PG X (.Tuple es k pos) (gTup K n t) := by subst hk; exact pg_tup hc h hn hst
theorem pi_listK {tg l : Expr} {tl : TE} (hl : PE X l tl) (h : X.K = K := by rfl) : PI X tg l (iList K tl) := by subst h; exact pi_list hl
theorem pi_tupK {tg l : Expr} {tl : TE} (hl : PE X l tl) (h : X.K = K := by rfl) : PI X tg l (iTup K tl) := by subst h; exact pi_tup hl
theorem pi_enumK {e : Expr} {ta : TA} {p pos tpos : Pos} {elts : List Expr} {kk : Nat} (hg : Gl X "enumerate") (hm : X.mg "enumerate" = none) (ha : PA X [e] ta) (h : X.K = K := by rfl) (hs : starEach [e] X.env = [(false, eval e X.env)] := by rfl) :
    PI X (.Tuple elts kk tpos) (.Call (.Name "enumerate" p) [e] [] pos) (iEnum K ta) := by subst h; exact pi_enum hg hm ha hs
theorem pe_bmK {T name id : String} {r : V → List V → Hp → VK → Prop} {o e : Expr} {es : List Expr} {to : TE} {t : TA} {apos cpos : Pos} (pa : PlainAttrs T) (slot : Slot T name id) (hty : typeOf (.builtin id) = pure (.type "method_descriptor")) (hm : MtR X id r) (ho : PE X o to) (ha : PA X (e :: es) t) (h : X.K = K := by rfl)
    (hbase : attributeBase o name X.env (eval o X.env) = eval o X.env := by rfl)
    (hfew : ((backTo cpos (starEach (e :: es) X.env)).all (fun x => !x.1) && (backToKw cpos (keywordEach [] X.env)).all (fun x => x.1.isSome)
      && decide ((e :: es).length + ([] : List Keyword).length + (if ([] : List Keyword).isEmpty then 0 else 1) < 30)) = true := by rfl)
    (hline : (apos.endLine == cpos.line) = true := by rfl) (hs : starEach (e :: es) X.env = (false, eval e X.env) :: starEach es X.env := by rfl) (hplain : (backTo cpos (starEach es X.env)).any (·.1) = false := by rfl) :
    PE X (.Call (.Attribute o name apos) (e :: es) [] cpos) (tBM K T r to t) := by subst h; exact pe_bm pa slot hty hm ho ha hbase hfew hline hs hplain
end
end FF
namespace FF
open L2
end FF
namespace FF
open PySem PySem.Spec PyProof.Rows L2
theorem fn_mk {P : Program} {w : World} {K : PySem.W.Frag} {mg : Str → Option Value} {base : Heap} {x : Str} {st : Stmt} {f : Addr} {fd : FuncData} {dvs : List V} {kws : List (Str × V)} {N ps : List Str} {k : Nat} {sp : Sp} (F : FunD K x x (defArgs st) (defBody st) (defScope st) dvs kws f fd)
    (S : FnScope N ps (defScope st)) (len : ∀ vs H Q E, sp vs H Q E → vs.length = ps.length)
    (body : ∀ (cdv : Value) (A : Around) (outer : List Env) (s : Shared) (H : Hp) (vs : List V) (Q : VK) (E : XK), Room k (A.deeper (envOfC x (defScope st) s.heap.objs.size f cdv)) → sp vs H Q E →
      ∃ t, PSs (cxOf CX0 P w K mg base N x (defScope st) f cdv A outer s H E).nox (defBody st) t ∧ t { nx := fun _ H' => Q .non H', rt := Q } (start N vs) H) : FnOk P w K mg base CX0 (k + 1) f fd ps sp :=
  FunD.ok F S len fun cdv A outer s H vs Q E hr h => let ⟨t, a, b⟩ := body cdv A outer s H vs Q E hr h; ⟨t, PSs.nox a, b⟩
end FF
namespace FF
open PySem PySem.Spec PyProof.Rows L2
end FF
namespace FF
open PySem PySem.Spec PyProof.Rows L2
end FF
/-! Fivefault, part 9: exceptions with own __init__s that call the base's; clauses with names; f(lambda: ..). -/
namespace FF
open PySem PySem.Spec PyProof.Rows L2
/-! ### C.m(self, ..), m a def of the class C -/
section
variable {X : Cx} {CX : CXT} {k : Nat} {C g : Addr} {mc : Value} {fd : FuncData} {ps : List Str} {sp : Sp} {E : XK} {x m : Str} {p1 p2 pos : Pos} {e : Expr} {es : List Expr} {t : TA}
theorem pe_clsfn {pl : Sem Bool} (hg : Gl X x) (hm : X.mg x = some (.ref C)) (r : ClX.CRead X.K C mc) (c : ClX.CVal X.K C mc m (.ref g) (.ref g)) (F : FnOk X.prog X.w X.K X.mg X.base CX k g fd ps sp) (hr : Room k X.A) (hk : PySem.W.keepIn X.K (.ref g) = true) (hb : Binds X.K fd ps []) (hx : Passes CX X E)
    (ha : PA X (e :: es) t) (hd : (x == ("__debug__" : Str)) = false := by decide)
    (hc : eval (.Call (.Attribute (.Name x p1) m p2) (e :: es) [] pos) X.env = (do
      let ov ← eval (.Name x p1) X.env
      standAt p2.atName
      let (f, first) ← holding [ov] (getMethod ov m pl)
      callWith pos f first (backTo pos (starEach (e :: es) X.env)) (backToKw pos (keywordEach [] X.env))) := by rfl)
    (he : starEach (e :: es) X.env = (false, eval e X.env) :: starEach es X.env := by rfl) (hpl : (backTo pos (starEach es X.env)).any (·.1) = false := by rfl) :
    PE X (.Call (.Attribute (.Name x p1) m p2) (e :: es) [] pos) (tCall sp [] E t) := by
  refine ⟨fun pins s σ H Q I h => ?_⟩
  refine PySem.W.methodCall_KW (pl := pl) (ld_glob I hg hm ?_ hd) hc
  refine PySem.W.method_cls I.kIn r.ga (ClX.getcval_ok I r c fun s' I' => ?_)
  refine PySem.W.callWith_K (h₀ := X.base) I.ok.mod.kin hk (thn (ha.run pos pins s' σ H _ I' h) fun us s1 ⟨vs, H1, I1, r1, q⟩ => ⟨I1.kIn, ?_⟩) he hpl
  exact run_fn F hr hb .nil hx I1 r1 q
end
/-! ### C(): an own exception without arguments -/
section
variable {X : Cx} {p pos : Pos}
theorem pmk_oex0 {CX : CXT} {x : Str} {C fI : Addr} {k : Nat} {fd : FuncData} {ps : List Str} {sp : Sp} (T : OexC X.K C) (iC : PySem.W.findIn X.K (.ref C) "__init__" = some (some (.ref fI))) (tI : PySem.W.typeIn X.K (.ref fI) = some (.type "function"))
    (F1 : FnOk X.prog X.w X.K X.mg X.base CX k fI fd ps sp) (hr : Room (k + 1) X.A) (hb : Binds X.K fd ps []) (hx : Passes CX X (fun _ _ _ => False)) (hg : Gl X x) (hm : X.mg x = some (.ref C)) (hdb : (x == ("__debug__" : Str)) = false := by decide) :
    PMk X (.Call (.Name x p) [] [] pos) (tMkO C sp [] tNil) := by
  intro pins s σ H Q I h
  obtain ⟨nm, q, N, bs, bm, sn, sub, ab, col, dd, k0, k1, k2, k3, k5, hC, hbm⟩ := T.cls
  refine wpAny_Call_Name_kw (ld_glob I hg hm ?_ hdb)
  refine PySem.W.callWith_K0 (first := []) I.kIn T.kC ?_
  obtain ⟨hz, q1⟩ := h
  show wpAny _ _ (call (.ref C) []) _ _ _
  obtain ⟨hp, g, dr, tk, os⟩ := s
  have hsz : hp.objs.size ≤ hp.objs.size + 1 := Nat.le_succ _
  have hn : H (hp.objs.size + 1) = none := I.hok.fresh hsz
  have hq := q1 (hp.objs.size + 1) hn
  have kk : ∀ b o, hp.get? b = some o → ((hp.push (PySem.W.kdv_tup [])).push (PySem.HandSPX.excO C hp.objs.size)).get? b = some o := fun b o e => Heap.get?_push_of_some _ (Heap.get?_push_of_some _ e)
  have hget : ((hp.push (PySem.W.kdv_tup [])).push (PySem.HandSPX.excO C hp.objs.size)).get? (hp.objs.size + 1) = some (PySem.HandSPX.excO C hp.objs.size) := by heap_get
  have I2 : Inv X pins σ (upd H (hp.objs.size + 1) (exo (hp.objs.size + 1) C none)) ⟨(hp.push (PySem.W.kdv_tup [])).push (PySem.HandSPX.excO C hp.objs.size), g, dr, tk, os⟩ :=
    I.laid (t' := tk) (a := hp.objs.size + 1) (o := exo (hp.objs.size + 1) C none) (h' := (hp.push (PySem.W.kdv_tup [])).push (PySem.HandSPX.excO C hp.objs.size)) kk hsz (exo_ok hget)
  have r2 : Vals [V.ref (hp.objs.size + 1)] [Value.ref (hp.objs.size + 1)] := .cons rfl .nil
  have hl : ([Value.ref (hp.objs.size + 1)] ++ ([] : List Value)).length = ps.length := by
    have e := F1.len _ _ _ _ hq
    show 1 = ps.length
    exact e
  refine wpAny_call (PySem.HandSPX.call_own F.excBase_ValueError (fun Y => PySem.HandSPX.refsVE_contains Y bm hbm) (I.kIn _ _ hC) (PySem.W.looks_findIn I.kIn iC) (fun self => PySem.W.bind_fn I.kIn self tI) (Nat.zero_le _)
    (codeAny_mono (F1.run _ X.stack _ _ ⟨[Value.ref (hp.objs.size + 1)], []⟩ [Value.ref (hp.objs.size + 1)] _ _ (fun _ _ _ => False) (hr.make C [] []) (I2.env0.make C [] []) (hb _ [Value.ref (hp.objs.size + 1)] I2.kIn hl) r2 hq) fun r s' hq' => ?_))
  cases r with
  | error er => exact hx pins σ _ _ er s' I2 hq'
  | ok fl =>
    cases fl with
    | ret u =>
      obtain ⟨v, H2, os2, bare2, un2, hok2, rv, ev, d, fs, ea, ed, hd1, q2⟩ := hq'
      subst ev
      obtain ⟨h2, g2, d2, t2, os'⟩ := s'
      exact ⟨rv, mk_end (raises_own T.exC T.tyC) I hsz kk un2 hok2 os2 bare2 ea ed hd1 q2⟩
    | next => exact False.elim hq'
    | brk => exact False.elim hq'
    | cont => exact False.elim hq'
end
/-! ### try .. except A as e: .. except B as e: .. -/
abbrev asEnds (i : Nat) (D : Ends) : Ends := { nx := fun σ' H' => D.nx (σ'.set i none) H', rt := D.rt, bk := fun σ' H' => D.bk (σ'.set i none) H', ct := fun σ' H' => D.ct (σ'.set i none) H' }
inductive HdsA (X : Cx) (n : Str) : List ExceptHandler → List (Value × (Addr → Value → Option Addr → TS)) → Prop
  | nil : HdsA X n [] []
  | cons {x : Str} {c : Value} {ts : Addr → Value → Option Addr → TS} {b₀ : Stmt} {suite : List Stmt} {np pos' : Pos} {hds : List ExceptHandler} {l : List (Value × (Addr → Value → Option Addr → TS))} (hc : Names X x c)
      (hsu : ∀ (a : Addr) (oe : Obj) (cls : Value) (d : Option Addr) (pn : List (Addr × Obj)), Zc cls d oe → (∃ vs, oe.data = .fields vs) → PSs (X.suite a ((a, oe) :: pn)) (b₀ :: suite) (ts a cls d)) (r : HdsA X n hds l) :
      HdsA X n (.ExceptHandler (some (.Name x np)) (some n) (b₀ :: suite) pos' :: hds) ((c, ts) :: l)
section
variable {X : Cx} {n : Str} {i : Nat} {body : List Stmt} {h₀ : ExceptHandler} {hds : List ExceptHandler} {l : List (Value × (Addr → Value → Option Addr → TS))} {pos : Pos} {tb : WX → TS} {Wout : WX}
end
end FF
/-! Fivefault, part 10: own exceptions told of, defs that raise, f(lambda: ..) caught by clauses. -/
namespace FF
open PySem PySem.Spec PyProof.Rows L2
/-! ### what the written part says of an own class of exceptions, by a Bool -/
def oexB (K : PySem.W.Frag) (C : Addr) : Bool := match K.lookup C with
  | some ⟨.type "type", _, .cls cd, sl⟩ => (match cd.mro, sl.toList with
    | .ref C' :: bm, [_, _, _, _, some (.builtin n), _] => C' == C && n == "ValueError.__new__" && !cd.hasDel && cd.hasDict && PySem.HandSPX.refsVE bm
    | _, _ => false)
  | _ => false
theorem oexB_ok {K : PySem.W.Frag} {C : Addr} (q : oexB K C = true) : ∃ nm q N bs bm sn sub ab col dd k0 k1 k2 k3 k5, K.lookup C = some (excClassObj nm q C N bs bm true sn sub ab col dd k0 k1 k2 k3 k5 "ValueError.__new__") ∧ PySem.HandSPX.refsVE bm = true := by
  unfold oexB at q
  split at q
  · rename_i dd cd sl ho
    split at q
    · rename_i C' bm k0 k1 k2 k3 n k5 hm hs
      simp only [Bool.and_eq_true, beq_iff_eq, Bool.not_eq_true'] at q
      obtain ⟨⟨⟨⟨rfl, rfl⟩, hdel⟩, hdict⟩, ht⟩ := q
      obtain ⟨nm, bs, mro, ns, qn, hd, sn, sub, ab, col, del⟩ := cd
      dsimp only at hm hdel hdict
      subst hm hdel hdict
      have hsl : sl = #[k0, k1, k2, k3, some (.builtin "ValueError.__new__"), k5] := by
        obtain ⟨l⟩ := sl
        simp only at hs
        rw [hs]
      subst hsl
      exact ⟨nm, qn, ns, bs, bm, sn, sub, ab, col, dd, k0, k1, k2, k3, k5, ho, ht⟩
    · cases q
  · cases q
/-- an own class C of exceptions: raised, caught, its code read -/
structure OwnC (K : PySem.W.Frag) (C : Addr) : Prop where
  o : OexC K C
  xf : XfC K C
  noc : PySem.W.findIn K (.ref C) "code" = some none
def ownCB (K : PySem.W.Frag) (C : Addr) : Bool := oexB K C && (He.eqO (PySem.W.findIn K (.ref C) "__setattr__") (some (some (.builtin "object.__setattr__"))) && (decide (PySem.W.subIn K (.ref C) (.type "BaseException") = some true) && (decide (PySem.W.typeIn K (.ref C) = some (.type "type")) &&
  (PySem.W.keepIn K (.ref C) && (xfB K C && He.eqO (PySem.W.findIn K (.ref C) "code") (some none))))))
theorem ownCB_ok {K : PySem.W.Frag} {C : Addr} (h : ownCB K C = true) : OwnC K C := by
  obtain ⟨h1, h⟩ := He.ba h
  obtain ⟨h2, h⟩ := He.ba h
  obtain ⟨h3, h⟩ := He.ba h
  obtain ⟨h4, h⟩ := He.ba h
  obtain ⟨h5, h⟩ := He.ba h
  obtain ⟨h6, h7⟩ := He.ba h
  exact ⟨⟨oexB_ok h1, He.eqO_ok h2, of_decide_eq_true h3, of_decide_eq_true h4, h5⟩, xfB_ok h6, He.eqO_ok h7⟩
/-- the class x: an own class whose own __init__ is a def; caught as y -/
structure OwnX (K : PySem.W.Frag) (x y : Str) : Prop where
  c : OwnC K (He.ga K x)
  ini : PySem.W.findIn K (.ref (He.ga K x)) "__init__" = some (some (.ref (He.ma K (He.ga K x) "__init__")))
  tyI : PySem.W.typeIn K (.ref (He.ma K (He.ga K x) "__init__")) = some (.type "function")
  exm : PySem.W.exmOne K (.ref (He.ga K x)) (.ref (He.ga K y)) = some true
def ownXB (K : PySem.W.Frag) (x y : Str) : Bool := ownCB K (He.ga K x) && (He.eqO (PySem.W.findIn K (.ref (He.ga K x)) "__init__") (some (some (.ref (He.ma K (He.ga K x) "__init__")))) && (decide (PySem.W.typeIn K (.ref (He.ma K (He.ga K x) "__init__")) = some (.type "function")) &&
  decide (PySem.W.exmOne K (.ref (He.ga K x)) (.ref (He.ga K y)) = some true)))
theorem ownXB_ok {K : PySem.W.Frag} {x y : Str} (h : ownXB K x y = true) : OwnX K x y := by
  obtain ⟨h1, h⟩ := He.ba h
  obtain ⟨h2, h⟩ := He.ba h
  obtain ⟨h3, h4⟩ := He.ba h
  exact ⟨ownCB_ok h1, He.eqO_ok h2, of_decide_eq_true h3, of_decide_eq_true h4⟩
/-- x.__init__ read from the class x; ValueError.__init__ -/
structure FeC (K : PySem.W.Frag) (x : Str) : Prop where
  rd : ClX.CRead K (He.ga K x) (.type "type")
  at_ : PySem.W.findCls K (.ref (He.ga K x)) (.type "type") "__init__" = some (.val (.ref (He.ma K (He.ga K x) "__init__")))
  kp : PySem.W.keepIn K (.ref (He.ma K (He.ga K x) "__init__")) = true
  ve : PySem.W.findCls K (.type "ValueError") (.type "type") "__init__" = some (.val (.builtin "ValueError.__init__"))
def fcl (o : Option PySem.W.CFound) (v : Value) : Bool := match o with
  | some (.val u) => decide (u = v)
  | _ => false
theorem fcl_ok {o : Option PySem.W.CFound} {v : Value} (h : fcl o v = true) : o = some (.val v) := by
  cases o with
  | none => cases h
  | some f =>
    cases f with
    | val u => rw [of_decide_eq_true (show decide (u = v) = true from h)]
    | _ => cases h
def feCB (K : PySem.W.Frag) (x : Str) : Bool := PySem.W.readsIn K (He.ga K x) (.type "type") && (He.eqO (PySem.W.specialIn K (.ref (He.ga K x)) "__getattribute__") (some (some (.builtin "type.__getattribute__"))) && (fcl (PySem.W.findCls K (.ref (He.ga K x)) (.type "type") "__init__") (.ref (He.ma K (He.ga K x) "__init__")) &&
  (PySem.W.keepIn K (.ref (He.ma K (He.ga K x) "__init__")) && fcl (PySem.W.findCls K (.type "ValueError") (.type "type") "__init__") (.builtin "ValueError.__init__"))))
theorem feCB_ok {K : PySem.W.Frag} {x : Str} (h : feCB K x = true) : FeC K x := by
  obtain ⟨h1, h⟩ := He.ba h
  obtain ⟨h2, h⟩ := He.ba h
  obtain ⟨h3, h⟩ := He.ba h
  obtain ⟨h4, h5⟩ := He.ba h
  exact ⟨⟨h1, He.eqO_ok h2⟩, fcl_ok h3, h4, fcl_ok h5⟩
/-! ### the __init__s -/
def spFE (K : PySem.W.Frag) : Sp := fun vs H Q _ => ∃ (a C : Addr) (z : V), vs = [.ref a, z] ∧ OexC K C ∧ PySem.W.findIn K (.ref C) "code" = some none ∧ H a = some (exo a C none) ∧
  ∀ dx, H dx = none → dx ≠ a → Q .non (upd (upd H dx (exd dx [("code", z)])) a (exo a C (some dx)))
def spIni (K : PySem.W.Frag) (z : Str) : Sp := fun vs H Q _ => ∃ (a C : Addr), vs = [.ref a] ∧ OexC K C ∧ PySem.W.findIn K (.ref C) "code" = some none ∧ H a = some (exo a C none) ∧
  ∀ dx, H dx = none → dx ≠ a → Q .non (upd (upd H dx (exd dx [("code", .str z)])) a (exo a C (some dx)))
/-- an exception in the air: its dict d, its code z -/
def Thr (z : Str) (d : Option Addr) (H : Hp) : Prop := ∃ (dd : Addr) (fs : List (Str × V)), d = some dd ∧ H dd = some (.xd fs) ∧ fs.lookup ("code" : Str) = some (V.str z)
/-- the class x raised: x() makes an exception with the code z -/
structure RaiseD (P : Program) (w : World) (K : PySem.W.Frag) (mg : Str → Option Value) (base : Heap) (x y : Str) (k : Nat) (z : Str) : Prop where
  own : OwnX K x y
  hm : mg x = some (.ref (He.ga K x))
  ini : ∃ fd, FnOk P w K mg base CX0 k (He.ma K (He.ga K x) "__init__") fd ["self"] (spIni K z) ∧ Binds K fd ["self"] []
def tOwn (K : PySem.W.Frag) (x z : Str) : L2.St → Hp → XK → Prop := fun _ H Q => ∀ d H', Same H H' → Thr z d H' → Q (.ref (He.ga K x)) d H'
theorem pmk_imp {X : Cx} {e : Expr} {t t' : L2.St → Hp → XK → Prop} (h : PMk X e t) (i : ∀ σ H Q, t' σ H Q → t σ H Q) : PMk X e t' := fun pins s σ H Q I q => h pins s σ H Q I (i _ _ _ q)
theorem pmk_raise {X : Cx} {x y z : Str} {k j : Nat} {p pos : Pos} (D : RaiseD X.prog X.w X.K X.mg X.base x y k z) (hr : Room j X.A) (hkj : k + 1 ≤ j) (hg : Gl X x := by rfl) (hdb : (x == ("__debug__" : Str)) = false := by decide) : PMk X (.Call (.Name x p) [] [] pos) (tOwn X.K x z) := by
  obtain ⟨fd, F, hb⟩ := D.ini
  refine pmk_imp (pmk_oex0 D.own.c.o D.own.ini D.own.tyI F (hr.mono hkj) hb pass0 hg D.hm hdb) fun σ H Q q => ?_
  refine ⟨by simp [sizeLine], fun a ha => ⟨a, He.ga X.K x, rfl, D.own.c.o, D.own.c.noc, upd_same, fun dx hdx hne => ⟨rfl, dx, [("code", .str z)], upd_same, ?_, ?_, ?_⟩⟩⟩
  · rw [upd_ne hne, upd_same]
  · rwa [upd_ne hne] at hdx
  · have hdx2 : H dx = none := by rwa [upd_ne hne] at hdx
    refine q _ _ (fun b u hb => ?_) ⟨dx, _, rfl, upd_same, rfl⟩
    have b1 : b ≠ dx := ne_of_none hb hdx2
    have b2 : b ≠ a := ne_of_none hb ha
    rw [upd_ne b1, del_ne b2, upd_ne b2, upd_ne b1, upd_ne b2]
    exact hb
/-! ### defs that may raise -/
structure DefX (P : Program) (w : World) (K : PySem.W.Frag) (mg : Str → Option Value) (base : Heap) (x : Str) (k : Nat) (ps : List Str) (sp : Sp) : Prop where
  ex : ∃ (f : Addr) (fd : FuncData), FnOk P w K mg base (L2.CX P w) k f fd ps sp ∧ mg x = some (.ref f) ∧ PySem.W.keepIn K (.ref f) = true ∧ Binds K fd ps []
theorem DefX.mono {P : Program} {w : World} {K : PySem.W.Frag} {mg : Str → Option Value} {base : Heap} {x : Str} {j k : Nat} {ps : List Str} {sp : Sp} (D : DefX P w K mg base x j ps sp) (h : j ≤ k) : DefX P w K mg base x k ps sp := by
  obtain ⟨f, fd, F, r⟩ := D.ex
  exact ⟨f, fd, F.mono h, r⟩
theorem passN {X : Cx} : Passes (L2.CX X.prog X.w) X (fun _ _ _ => False) := fun _ _ _ _ _ _ _ h => by
  obtain ⟨_, _, _, _, _, _, _, _, _, _, _, _, z⟩ := h
  exact z.elim
/-! ### _law_call -/
end FF
/-! Fivefault, part 11: f(lambda: ..), the promise of an exception told of the slots at the call. -/
namespace FF
open PySem PySem.Spec PyProof.Rows L2 LamX
section
variable {X : Cx} {pins : List (Addr × Obj)} {σ : L2.St} {H HZ : Hp} {s s1 : Shared}
end
/-! ### heaps in which all but the tables stay -/
end FF
/-! Fivefault, part 12: defs with *v alone. -/
namespace FF
open PySem PySem.Spec PyProof.Rows L2 StX
structure DefS (P : Program) (w : World) (K : PySem.W.Frag) (mg : Str → Option Value) (base : Heap) (x : Str) (k : Nat) (sp : Sp) : Prop where
  ex : ∃ f : Addr, FnR P w K mg base (L2.CX P w) k f sp ∧ mg x = some (.ref f) ∧ PySem.W.keepIn K (.ref f) = true
section
variable {X : Cx} {W : WX} {E : XK} {x : Str} {k j : Nat} {sp : Sp} {e : Expr} {es : List Expr} {p pos : Pos} {t : TA}
end
end FF
/-! Fivefault, part 13: a list that stands aside during a call. -/
namespace FF
open PySem PySem.Spec PyProof.Rows L2
section
variable {P : Program} {w : World} {K : PySem.W.Frag} {mg : Str → Option Value} {base : Heap}
end
/-- all but the object at a stays -/
def SameB (a : Addr) (H H' : Hp) : Prop := ∀ b u, b ≠ a → H b = some u → H' b = some u
end FF
/-! Fivefault, part 14: the Hook, with the interpreter's own statics in sight. -/
namespace FF
open PySem PySem.Spec PyProof.Rows L2
theorem saysY_of {fa : List He.Fa} {fn : List He.DefD} {tf : List He.Defn} {ex : PySem.W.Frag → Bool} {w : World} {h : Heap} {l : List Addr} (e : ((He.obsT fa fn [] (He.frT h.get? l), ex (He.frT h.get? l) && He.tabsB h.get? tf (He.frT h.get? l)) : He.AlX) = He.valX fn [] w) : He.SaysX fa fn [] tf ex w h (He.frT h.get? l) := by
  have e1 : He.obsT fa fn [] (He.frT h.get? l) = He.valT fn [] w := congrArg (fun z : He.AlX => z.1) e
  have e2 : (ex (He.frT h.get? l) && He.tabsB h.get? tf (He.frT h.get? l)) = true := congrArg (fun z : He.AlX => z.2) e
  obtain ⟨h1, h2⟩ := He.ba e2
  have key := fun p hp => He.ba (List.all_eq_true.mp h2 p hp)
  have tab : ∀ p ∈ tf, ∃ o, h.get? (He.cT (He.frT h.get? l) p).2 = some o ∧ He.emptyTab o = true := fun p hp => by
    have h4 := (key p hp).2
    cases q : h.get? (He.cT (He.frT h.get? l) p).2 with
    | none =>
      rw [q] at h4
      cases h4
    | some o =>
      rw [q] at h4
      exact ⟨o, rfl, h4⟩
  exact ⟨e1, h1, fun p hp => (key p hp).1, fun p hp => let ⟨_, q, z⟩ := tab p hp; He.frT_none q z, fun p hp => by
    obtain ⟨_, q, z⟩ := tab p hp
    rw [q, He.emptyTab_eq z]⟩
end FF
/-! Fivefault, part 15: comprehensions with a test, over a text; dicts made of pairs. -/
namespace FF
open PySem PySem.Spec PyProof.Rows L2
section
variable {K : PySem.W.Frag} {a D : Addr} {xs : List V} {tt : TT} {te : TE} {vs : List Nat} {j : Nat} {σ : L2.St} {H1 : Hp} {Qd : Hp → Prop}
theorem same_at {H H1 : Hp} {D : Addr} {o : HO} (hD : H1 D = none) (e : Same H1 H) : Same H1 (upd H D o) := fun b u hb => by
  rw [upd_ne (ne_of_none hb hD)]
  exact e _ _ hb
end
/-! ### dicts made of pairs -/
end FF
/-! Fivefault, part 16: keywords gathered in a dict (def f(a, .., **d), called with keywords). -/
namespace FF
open PySem PySem.Spec PyProof.Rows L2
section
variable {prog : Program} {w : World} {A : Around} {E : Value → Shared → Prop} {d : Addr}
end
end FF
/-! Fivefault, part 17: defs with **d, called with keywords. -/
namespace FF
open PySem PySem.Spec PyProof.Rows L2 StX
def FnKw (P : Program) (w : World) (K : PySem.W.Frag) (mg : Str → Option Value) (base : Heap) (CX : CXT) (k : Nat) (f : Addr) (n : Nat) (ks : List Str) (sp : Sp) : Prop :=
  ∀ (A : Around) (outer : List Env) (s : Shared) (H : Hp) (us ws : List Value) (vs zs : List V) (Q : VK) (E : XK), Room k A → Env0 P w K mg base A outer s H → Vals vs us → Vals zs ws → vs.length = n → zs.length = ks.length → sp (vs ++ zs) H Q E →
    codeAny (model P w) A (.call (.ref f) ⟨us, ks.zip ws⟩) (CR CX outer P w H s Q E) s
structure DefK (P : Program) (w : World) (K : PySem.W.Frag) (mg : Str → Option Value) (base : Heap) (x : Str) (k n : Nat) (ks : List Str) (sp : Sp) : Prop where
  ex : ∃ f : Addr, FnKw P w K mg base (L2.CX P w) k f n ks sp ∧ mg x = some (.ref f) ∧ PySem.W.keepIn K (.ref f) = true
end FF
/-! Fivefault, part 18: own exceptions with one field. -/
namespace FF
open PySem PySem.Spec PyProof.Rows L2
/-- C.__init__(self, y): the code z, the field f -/
def spIni1 (K : PySem.W.Frag) (z f : Str) : Sp := fun vs H Q _ => ∃ (a C : Addr) (y : V), vs = [.ref a, y] ∧ OexC K C ∧ PySem.W.findIn K (.ref C) "code" = some none ∧ PySem.W.findIn K (.ref C) f = some none ∧ H a = some (exo a C none) ∧
  ∀ dx, H dx = none → dx ≠ a → Q .non (upd (upd (upd H dx (exd dx [("code", .str z)])) a (exo a C (some dx))) dx (exd dx [(f, y), ("code", .str z)]))
structure RaiseD1 (P : Program) (w : World) (K : PySem.W.Frag) (mg : Str → Option Value) (base : Heap) (x y : Str) (k : Nat) (z f : Str) : Prop where
  own : OwnX K x y
  nof : PySem.W.findIn K (.ref (He.ga K x)) f = some none
  hm : mg x = some (.ref (He.ga K x))
  ini : ∃ fd, FnOk P w K mg base CX0 k (He.ma K (He.ga K x) "__init__") fd ["self", f] (spIni1 K z f) ∧ Binds K fd ["self", f] []
def tOwn1 (K : PySem.W.Frag) (x z f : Str) (ta : TA) : L2.St → Hp → XK → Prop := fun σ H Q => ta σ H fun vs H1 => ∃ y, vs = [y] ∧ ∀ dd H', Same H1 H' → H' dd = some (.xd [(f, y), ("code", .str z)]) → Q (.ref (He.ga K x)) (some dd) H'
theorem pmk_raise1 {X : Cx} {x y z f : Str} {k j : Nat} {e : Expr} {p pos : Pos} {ta : TA} (D : RaiseD1 X.prog X.w X.K X.mg X.base x y k z f) (hr : Room j X.A) (hkj : k + 1 ≤ j) (ha : PA X [e] ta) (hg : Gl X x := by rfl) (hdb : (x == ("__debug__" : Str)) = false := by decide)
    (he : starEach [e] X.env = (false, eval e X.env) :: starEach [] X.env := by rfl) (hpl : (backTo pos (starEach [] X.env)).any (·.1) = false := by rfl) (mono : ∀ σ H (Q Q' : List V → Hp → Prop), (∀ vs H1, Q vs H1 → Q' vs H1) → ta σ H Q → ta σ H Q') :
    PMk X (.Call (.Name x p) [e] [] pos) (tOwn1 X.K x z f ta) := by
  obtain ⟨fd, F, hb⟩ := D.ini
  refine pmk_imp (pmk_oex D.own.c.o D.own.ini D.own.tyI F (hr.mono hkj) hb .nil pass0 hg D.hm ha hdb he hpl) fun σ H Q q => ?_
  refine mono σ H _ _ (fun vs H1 ⟨y, ev, q⟩ => ?_) q
  subst ev
  refine ⟨by simp, fun a ha => ⟨a, He.ga X.K x, y, rfl, D.own.c.o, D.own.c.noc, D.nof, upd_same, fun dx hdx hne => ⟨rfl, dx, [(f, y), ("code", .str z)], ?_, upd_same, ?_, ?_⟩⟩⟩
  · rw [upd_ne (Ne.symm hne), upd_same]
  · rwa [upd_ne hne] at hdx
  · have hdx2 : H1 dx = none := by rwa [upd_ne hne] at hdx
    refine q dx _ (fun b u hb => ?_) upd_same
    have b1 : b ≠ dx := ne_of_none hb hdx2
    have b2 : b ≠ a := ne_of_none hb ha
    rw [upd_ne b1, del_ne b2, upd_ne b1, upd_ne b2, upd_ne b1, upd_ne b2]
    exact hb
end FF
/-! Fivefault, part 19: a, *b = t. -/
namespace FF
open PySem PySem.Spec PyProof.Rows L2
end FF
/-! Fivefault, part 20: methods of own classes, some of which raise; instances whose fields change. -/
namespace FF
open PySem PySem.Spec PyProof.Rows L2
structure MethX (P : Program) (w : World) (K : PySem.W.Frag) (mg : Str → Option Value) (base : Heap) (C m : Str) (k : Nat) (ps : List Str) (sp : Sp) : Prop where
  ex : ∃ fd, FnOk P w K mg base (L2.CX P w) k (He.ma K (He.ga K C) m) fd ps sp ∧ Binds K fd ps []
  cl : Cls K (He.ga K C)
  me : Meth K (He.ga K C) m (He.ma K (He.ga K C) m)
structure MethD (P : Program) (w : World) (K : PySem.W.Frag) (mg : Str → Option Value) (base : Heap) (C m : Str) (k : Nat) (ps : List Str) (sp : Sp) : Prop where
  ex : ∃ fd, FnOk P w K mg base CX0 k (He.ma K (He.ga K C) m) fd ps sp ∧ Binds K fd ps []
  cl : Cls K (He.ga K C)
  me : Meth K (He.ga K C) m (He.ma K (He.ga K C) m)
section
variable {X : Cx} {W : WX} {E : XK} {C m : Str} {k j : Nat} {ps : List Str} {sp : Sp} {o e : Expr} {es : List Expr} {apos pos : Pos} {to : TE} {t : TA} {pl : Sem Bool}
theorem pe_methx (D : MethX X.prog X.w X.K X.mg X.base C m k ps sp) (tk : Takes X W) (hW : ∀ cls d σ' H', E cls d H' → W cls d σ' H') (hr : Room j X.A) (hkj : k ≤ j) (ho : PE X o to) (ha : PA X (e :: es) t)
    (hst : starEach (e :: es) X.env = (false, eval e X.env) :: starEach es X.env := by rfl) (hpl : (backTo pos (starEach es X.env)).any (·.1) = false := by rfl)
    (ht : eval (.Call (.Attribute o m apos) (e :: es) [] pos) X.env = (do
      let ov ← eval o X.env
      standAt apos.atName
      let (f, first) ← holding [ov] (getMethod ov m pl)
      callWith pos f first (backTo pos (starEach (e :: es) X.env)) (backToKw pos (keywordEach [] X.env))) := by rfl) :
    PE X (.Call (.Attribute o m apos) (e :: es) [] pos) (tMeth (He.ga X.K C) m sp [] E to t) := by
  obtain ⟨fd, F, hb⟩ := D.ex
  exact pe_meth ho D.cl D.me F (hr.mono hkj) hb .nil (passes_call tk hW) ha hst hpl ht
theorem pe_methd (D : MethD X.prog X.w X.K X.mg X.base C m k ps sp) (hr : Room j X.A) (hkj : k ≤ j) (ho : PE X o to) (ha : PA X (e :: es) t)
    (hst : starEach (e :: es) X.env = (false, eval e X.env) :: starEach es X.env := by rfl) (hpl : (backTo pos (starEach es X.env)).any (·.1) = false := by rfl)
    (ht : eval (.Call (.Attribute o m apos) (e :: es) [] pos) X.env = (do
      let ov ← eval o X.env
      standAt apos.atName
      let (f, first) ← holding [ov] (getMethod ov m pl)
      callWith pos f first (backTo pos (starEach (e :: es) X.env)) (backToKw pos (keywordEach [] X.env))) := by rfl) :
    PE X (.Call (.Attribute o m apos) (e :: es) [] pos) (tMeth (He.ga X.K C) m sp [] E0 to t) := by
  obtain ⟨fd, F, hb⟩ := D.ex
  exact pe_meth ho D.cl D.me F (hr.mono hkj) hb .nil pass0 ha hst hpl ht
theorem pe_methd0 (D : MethD X.prog X.w X.K X.mg X.base C m k ps sp) (hr : Room j X.A) (hkj : k ≤ j) (ho : PE X o to)
    (ht : eval (.Call (.Attribute o m apos) [] [] pos) X.env = (do
      let ov ← eval o X.env
      standAt apos.atName
      let (f, first) ← holding [ov] (getMethod ov m pl)
      callWith pos f first (backTo pos (starEach [] X.env)) (backToKw pos (keywordEach [] X.env))) := by rfl) :
    PE X (.Call (.Attribute o m apos) [] [] pos) (tMeth (He.ga X.K C) m sp [] E0 to tNil) := by
  obtain ⟨fd, F, hb⟩ := D.ex
  exact pe_meth0 ho D.cl D.me F (hr.mono hkj) hb .nil pass0 ht
end
/-- C(..): the class C with an own __init__ that raises nothing -/
structure MakeD (P : Program) (w : World) (K : PySem.W.Frag) (mg : Str → Option Value) (base : Heap) (C : Str) (k : Nat) (ps : List Str) (sp : Sp) : Prop where
  ex : ∃ fd, FnOk P w K mg base CX0 k (He.ma K (He.ga K C) "__init__") fd ps sp ∧ Binds K fd ps []
  mkr : Mk K (He.ga K C) (He.ma K (He.ga K C) "__init__")
  hm : mg C = some (.ref (He.ga K C))
section
variable {P : Program} {w : World} {K : PySem.W.Frag} {mg : Str → Option Value} {base : Heap}
theorem methx_mk {C m qual : Str} {st : Stmt} {fd : FuncData} {dvs : List V} {kws : List (Str × V)} {N ps : List Str} {k : Nat} {sp : Sp} (F : FunD K m qual (defArgs st) (defBody st) (defScope st) dvs kws (He.ma K (He.ga K C) m) fd) (hb : Binds K fd ps [])
    (cl : Cls K (He.ga K C)) (me : Meth K (He.ga K C) m (He.ma K (He.ga K C) m)) (S : FnScope N ps (defScope st)) (len : ∀ vs H Q E, sp vs H Q E → vs.length = ps.length)
    (body : ∀ (cdv : Value) (A : Around) (outer : List Env) (s : Shared) (H : Hp) (vs : List V) (Q : VK) (E : XK), Room k (A.deeper (envOfC qual (defScope st) s.heap.objs.size (He.ma K (He.ga K C) m) cdv)) → sp vs H Q E →
      (Takes (cxOf (L2.CX P w) P w K mg base N qual (defScope st) (He.ma K (He.ga K C) m) cdv A outer s H E) fun cls d _ H => E cls d H) →
      ∃ t, PSs (cxOf (L2.CX P w) P w K mg base N qual (defScope st) (He.ma K (He.ga K C) m) cdv A outer s H E) (defBody st) t ∧ t { nx := fun _ H' => Q .non H', rt := Q } (start N vs) H) : MethX P w K mg base C m (k + 1) ps sp :=
  ⟨⟨fd, FunD.ok F S len (fun cdv A outer s H vs Q E hr h => body cdv A outer s H vs Q E hr h (takes_of rfl rfl rfl rfl)), hb⟩, cl, me⟩
theorem fnm_mk {C m qual : Str} {st : Stmt} {fd : FuncData} {dvs : List V} {kws : List (Str × V)} {N ps : List Str} {k : Nat} {sp : Sp} (F : FunD K m qual (defArgs st) (defBody st) (defScope st) dvs kws (He.ma K (He.ga K C) m) fd)
    (S : FnScope N ps (defScope st)) (len : ∀ vs H Q E, sp vs H Q E → vs.length = ps.length)
    (body : ∀ (cdv : Value) (A : Around) (outer : List Env) (s : Shared) (H : Hp) (vs : List V) (Q : VK) (E : XK), Room k (A.deeper (envOfC qual (defScope st) s.heap.objs.size (He.ma K (He.ga K C) m) cdv)) → sp vs H Q E →
      ∃ t, PSs (cxOf CX0 P w K mg base N qual (defScope st) (He.ma K (He.ga K C) m) cdv A outer s H E).nox (defBody st) t ∧ t { nx := fun _ H' => Q .non H', rt := Q } (start N vs) H) : FnOk P w K mg base CX0 (k + 1) (He.ma K (He.ga K C) m) fd ps sp :=
  FunD.ok F S len fun cdv A outer s H vs Q E hr h => let ⟨t, a, b⟩ := body cdv A outer s H vs Q E hr h; ⟨t, PSs.nox a, b⟩
theorem methd_mk {C m qual : Str} {st : Stmt} {fd : FuncData} {dvs : List V} {kws : List (Str × V)} {N ps : List Str} {k : Nat} {sp : Sp} (F : FunD K m qual (defArgs st) (defBody st) (defScope st) dvs kws (He.ma K (He.ga K C) m) fd) (hb : Binds K fd ps [])
    (cl : Cls K (He.ga K C)) (me : Meth K (He.ga K C) m (He.ma K (He.ga K C) m)) (S : FnScope N ps (defScope st)) (len : ∀ vs H Q E, sp vs H Q E → vs.length = ps.length)
    (body : ∀ (cdv : Value) (A : Around) (outer : List Env) (s : Shared) (H : Hp) (vs : List V) (Q : VK) (E : XK), Room k (A.deeper (envOfC qual (defScope st) s.heap.objs.size (He.ma K (He.ga K C) m) cdv)) → sp vs H Q E →
      ∃ t, PSs (cxOf CX0 P w K mg base N qual (defScope st) (He.ma K (He.ga K C) m) cdv A outer s H E).nox (defBody st) t ∧ t { nx := fun _ H' => Q .non H', rt := Q } (start N vs) H) : MethD P w K mg base C m (k + 1) ps sp :=
  ⟨⟨fd, fnm_mk F S len body, hb⟩, cl, me⟩
theorem MethX.mono {C m : Str} {j k : Nat} {ps : List Str} {sp : Sp} (D : MethX P w K mg base C m j ps sp) (h : j ≤ k) : MethX P w K mg base C m k ps sp := by
  obtain ⟨fd, F, r⟩ := D.ex
  exact ⟨⟨fd, F.mono h, r⟩, D.cl, D.me⟩
theorem MethD.mono {C m : Str} {j k : Nat} {ps : List Str} {sp : Sp} (D : MethD P w K mg base C m j ps sp) (h : j ≤ k) : MethD P w K mg base C m k ps sp := by
  obtain ⟨fd, F, r⟩ := D.ex
  exact ⟨⟨fd, F.mono h, r⟩, D.cl, D.me⟩
end
/-! ### all but one object stays -/
theorem SameB.tr {a : Addr} {H H1 H2 : Hp} (x : SameB a H H1) (y : SameB a H1 H2) : SameB a H H2 := fun b u n h => y b u n (x b u n h)
theorem sb_of {a : Addr} {H H1 : Hp} (x : Same H H1) : SameB a H H1 := fun b u _ h => x b u h
theorem sb_upd {a : Addr} {H : Hp} {o : HO} : SameB a H (upd H a o) := fun b u n h => by rw [upd_ne n]; exact h
end FF
/-! Fivefault, part 21: {k: v for a in xs for b in ys}. -/
namespace FF
open PySem PySem.Spec PyProof.Rows L2
section
variable {prog : Program} {w : World} {A : Around} {R : Result → Shared → Prop} {s : Shared} {ek ev ga ia gb ib : Expr} {cs ds : List Expr} {scope : Scope} {pos : Pos} {it : Value} {D : Addr} {env : Env}
end
/-- in every block of the comprehension -/
abbrev InBlk (X : Cx) (scope : Scope) (p : Cx → Prop) : Prop := ∀ (s : Shared) (H : Hp) (C : Addr) (cl : List (Str × Addr)) (fp : List Addr), p (X.blk s H scope (compEnvC scope cl C X.env) fp)
end FF
/-! Fivefault, part 22: sorted(d), a dict with any number of text keys. -/
namespace FF
open PySem PySem.Spec PyProof.Rows L2
end FF
/-! Fivefault, part 23: enumerate over a tuple; what is a list or a tuple, walked. -/
namespace FF
open PySem PySem.Spec PyProof.Rows L2
open Sem (wp)
section
variable {prog : Program} {w : World} {A : Around} {E : Value → Shared → Prop} {s : Shared}
end
/-- e, a list or a tuple, walked -/
def iSeq (K : PySem.W.Frag) (tl : TE) : TI := fun σ H R => tl σ H fun v H1 => ∃ a xs, v = .ref a ∧ ((SqL K H1 a xs ∧ R (Itl K a) H1) ∨ (SqT K H1 a xs ∧ R (Itt K a) H1))
theorem pi_seqK (K : PySem.W.Frag) {X : Cx} {tg l : Expr} {tl : TE} (hl : PE X l tl) (hK : X.K = K := by rfl) : PI X tg l (iSeq K tl) := by
  subst hK
  refine ⟨fun pins s σ H R I h => ?_⟩
  refine thn (hl.run pins s σ H _ I h) fun v s1 ⟨x, H1, I1, r1, a, xs, e, q⟩ => ?_
  subst e
  cases r1
  have foot : ∀ b ∈ [s1.heap.objs.size], FpOk X pins H1 b := fun b hb => by
    rw [show b = s1.heap.objs.size by simpa using hb]
    exact I1.fpOk (Nat.le_refl _) (I1.hok.fresh (Nat.le_refl _))
  rcases q with ⟨hq, q⟩ | ⟨hq, q⟩
  · obtain ⟨its, rv, p, hz⟩ := I1.list hq
    exact wpAny_pyIter_list p.isList ⟨s1.heap.objs.size, _, _, _, H1, rfl, I1.kept (t' := s1.toks) fun b o e => Heap.get?_push_of_some _ e, turn_list a _, ⟨_, Heap.get?_push_size _ rfl, rfl, rfl⟩, foot, q⟩
  · obtain ⟨its, rv, p, hz⟩ := I1.tuple hq
    exact wpAny_pyIter_tuple (show s1.heap.IsTuple a its.toArray from p) ⟨s1.heap.objs.size, _, _, _, H1, rfl, I1.kept (t' := s1.toks) fun b o e => Heap.get?_push_of_some _ e, turn_tuple a _, ⟨_, Heap.get?_push_size _ rfl, rfl, rfl⟩, foot, q⟩
end FF
/-! Fivefault, part 24: several except clauses, with and without names. -/
namespace FF
open PySem PySem.Spec PyProof.Rows L2
/-- the readings of a clause with a name (slot i) -/
abbrev nmd (i : Nat) (ts : Addr → Value → Option Addr → TS) : Addr → Value → Option Addr → TS := fun a cls d D σ H => ts a cls d (asEnds i D) (σ.set i (some (.ref a))) H
inductive HdsB (X : Cx) (n : Str) (i : Nat) : List ExceptHandler → List (Value × (Addr → Value → Option Addr → TS)) → Prop
  | nil : HdsB X n i [] []
  | cons {x : Str} {c : Value} {ts : Addr → Value → Option Addr → TS} {b₀ : Stmt} {suite : List Stmt} {np pos' : Pos} {hds : List ExceptHandler} {l : List (Value × (Addr → Value → Option Addr → TS))} (hc : Names X x c)
      (hsu : ∀ (a : Addr) (oe : Obj) (cls : Value) (d : Option Addr) (pn : List (Addr × Obj)), Zc cls d oe → (∃ vs, oe.data = .fields vs) → PSs (X.suite a ((a, oe) :: pn)) (b₀ :: suite) (ts a cls d)) (r : HdsB X n i hds l) :
      HdsB X n i (.ExceptHandler (some (.Name x np)) (some n) (b₀ :: suite) pos' :: hds) ((c, nmd i ts) :: l)
  | cons0 {x : Str} {c : Value} {ts : Addr → Value → Option Addr → TS} {b₀ : Stmt} {suite : List Stmt} {np pos' : Pos} {hds : List ExceptHandler} {l : List (Value × (Addr → Value → Option Addr → TS))} (hc : Names X x c)
      (hsu : ∀ (a : Addr) (oe : Obj) (cls : Value) (d : Option Addr) (pn : List (Addr × Obj)), Zc cls d oe → (∃ vs, oe.data = .fields vs) → PSs (X.suite a ((a, oe) :: pn)) (b₀ :: suite) (ts a cls d)) (r : HdsB X n i hds l) :
      HdsB X n i (.ExceptHandler (some (.Name x np)) none (b₀ :: suite) pos' :: hds) ((c, ts) :: l)
section
variable {X : Cx} {n : Str} {i : Nat} {body : List Stmt} {h₀ : ExceptHandler} {hds : List ExceptHandler} {l : List (Value × (Addr → Value → Option Addr → TS))} {pos : Pos} {tb : WX → TS} {Wout : WX}
end
end FF
/-! Fivefault, part 25: walks over what is a list or a tuple; over the signs of a text. -/
namespace FF
open PySem PySem.Spec PyProof.Rows L2
section
variable {K : PySem.W.Frag} {a : Addr} {xs : List V} {H : Hp}
theorem walkL_same (h : SqL K H a xs) : Walk (Itl K a) xs.length (Same H) (YAt xs) :=
  ⟨fun i H' hi e => ⟨xs, xs[i], up_l e h, by simp [hi]⟩, fun H' e => ⟨xs, up_l e h, Nat.le_refl _⟩, fun i H' x H2 _ e y => ⟨y.1, y.2 xs (up_l e h)⟩⟩
theorem walkT_same (h : SqT K H a xs) : Walk (Itt K a) xs.length (Same H) (YAt xs) :=
  ⟨fun i H' hi e => ⟨xs, xs[i], up_t e h, by simp [hi]⟩, fun H' e => ⟨xs, up_t e h, Nat.le_refl _⟩, fun i H' x H2 _ e y => ⟨y.1, y.2 xs (up_t e h)⟩⟩
abbrev YEn (xs : List V) : Nat → Hp → V → Hp → Prop := YPair (fun i => some (.int (i : Nat))) fun i => xs[i]?
theorem walkE_same (h : SqL K H a xs) : Walk (Ite K a) xs.length (Same H) (YEn xs) :=
  ⟨fun i H' hi e => ⟨xs, xs[i], up_l e h, by simp [hi]⟩, fun H' e => ⟨xs, up_l e h, Nat.le_refl _⟩, fun i H' v H2 _ e ⟨t, x, e1, n, e2, y⟩ => ⟨t, _, x, e1, n, e2, rfl, y xs (up_l e h)⟩⟩
end
/-- [e for x in z]: the i-th item told by the i-th sign -/
theorem lc_strI {te : TE} {vs : List Nat} {j D : Nat} {σ : L2.St} {H1 : Hp} {Qd : Hp → Prop} {z : Str} (f : Nat → V) (hD : H1 D = none) (hz : z.length ≤ sizeLine) (hw : ∀ v, wipe ((wipe σ vs).set j (some v)) vs = wipe σ vs)
    (step : ∀ c H2, c ∈ z.cps.toList → ∀ Q' : VK, (∀ H3, Same H2 H3 → Q' (f c) H3) → te ((wipe σ vs).set j (some (.str ⟨#[c]⟩))) H2 Q')
    (done : ∀ H2, Same H1 H2 → H2 D = some (.lst (z.cps.toList.map f)) → Qd H2) :
    ∃ W : Nat → Nat → Hp → Prop, (∃ m, W 0 m (upd H1 D (.lst []))) ∧ ∀ i m H, W i m H →
      ((Its z).stop i H ∧ Qd H) ∨ ((Its z).go i H ∧ ∃ Nx : Hp → Prop, (∀ H', Nx H' → ∃ m', m' < m ∧ W (i + 1) m' H') ∧ ∀ v H', (Its z).yld i H v H' → gName j v (wipe σ vs) H' fun σ2 H2 => wipe σ2 vs = wipe σ vs ∧ tYes σ2 H2 fun b H3 =>
        if b = true then te σ2 H3 fun y H4 => ∃ acc, H4 D = some (.lst acc) ∧ acc.length < sizeLine ∧ Nx (upd H4 D (.lst (acc ++ [y]))) else Nx H3) := by
  refine ⟨fun i m H => m = z.cps.size - i ∧ i ≤ z.cps.size ∧ Same H1 H ∧ H D = some (.lst ((z.cps.toList.take i).map f)), ⟨_, rfl, Nat.zero_le _, same_new hD _, upd_same⟩, ?_⟩
  rintro i m H ⟨rfl, hi, e, h1⟩
  by_cases hlt : i < z.cps.size
  · refine .inr ⟨hlt, fun H' => i + 1 ≤ z.cps.size ∧ Same H1 H' ∧ H' D = some (.lst ((z.cps.toList.take (i + 1)).map f)), fun H' p' => ⟨z.cps.size - (i + 1), by omega, rfl, p'⟩, fun v H' y => ?_⟩
    obtain ⟨rfl, c, hc, rfl⟩ := y
    refine ⟨hw _, ?_⟩
    show te _ _ _
    have hc2 : z.cps.toList[i]? = some c := by rw [Array.getElem?_toList]; exact hc
    refine step c _ (List.mem_of_getElem? hc2) _ fun H3 e3 => ⟨_, e3 _ _ h1, ?_, hlt, same_at hD (e.trans e3), ?_⟩
    · rw [List.length_map, List.length_take, Array.length_toList]
      exact Nat.lt_of_lt_of_le (by omega) (show z.cps.size ≤ sizeLine from hz)
    · have : z.cps.toList.take (i + 1) = z.cps.toList.take i ++ [c] := by
        rw [List.take_add_one, hc2] <;> rfl
      rw [this, List.map_append, upd_same] <;> rfl
  · have : i = z.cps.size := by omega
    subst this
    rw [show z.cps.size = z.cps.toList.length from rfl, List.take_length] at h1
    exact .inl ⟨Nat.le_refl _, done H e h1⟩
/-- an if by what its test is -/
theorem if_bb {p b : Bool} {A B : Prop} (e : p = b) (h1 : b = true → A) (h2 : b = false → B) : if p = true then A else B := by
  subst e
  exact if_b h1 h2
end FF
/-! Fivefault, part 26: fors and comprehensions over what is a list or a tuple. -/
namespace FF
open PySem PySem.Spec PyProof.Rows L2
section
variable {K : PySem.W.Frag} {a : Addr} {xs : List V} {g : TG} {tb : TS} {D : Ends} {σ : L2.St} {H : Hp}
abbrev ForR (J : It) (g : TG) (tb : TS) (D : Ends) (σ : L2.St) (H : Hp) : Prop := ∃ W : Nat → Nat → L2.St → Hp → Prop, (∃ m, W 0 m σ H) ∧ ∀ i m σ H, W i m σ H →
      (J.stop i H ∧ D.nx σ H) ∨ (J.go i H ∧ ∃ N : L2.St → Hp → Prop, (∀ σ' H', N σ' H' → ∃ m', m' < m ∧ W (i + 1) m' σ' H') ∧ ∀ x H', J.yld i H x H' → g x σ H' fun σ2 H2 => tb { D with nx := N, ct := N, bk := D.nx } σ2 H2)
theorem for_seqS {H0 : Hp} (h : SqL K H0 a xs ∨ SqT K H0 a xs) (e0 : Same H0 H) (Pv : Nat → L2.St → Hp → Prop) (h0 : Pv 0 σ H) (hG : ∀ i σ H', i ≤ xs.length → Pv i σ H' → Same H0 H')
    (hs : ∀ i x σ H1, xs[i]? = some x → Pv i σ H1 → g x σ H1 fun σ2 H2 => tb { D with nx := Pv (i + 1), ct := Pv (i + 1), bk := D.nx } σ2 H2) (hd : ∀ σ H, Pv xs.length σ H → D.nx σ H) :
    ∃ a' xs', V.ref a = .ref a' ∧ ((SqL K H a' xs' ∧ ForR (Itl K a') g tb D σ H) ∨ (SqT K H a' xs' ∧ ForR (Itt K a') g tb D σ H)) := by
  have key : ∀ J, Walk J xs.length (Same H0) (YAt xs) → ForR J g tb D σ H := fun J wk => for_it wk Pv h0 hG (fun i x σ H1 H2 hi hp ⟨e1, e2⟩ => by
    subst e1
    exact hs i x σ _ e2 hp) hd
  exact ⟨a, xs, rfl, h.imp (fun h => ⟨up_l e0 h, key _ (walkL_same h)⟩) fun h => ⟨up_t e0 h, key _ (walkT_same h)⟩⟩
end
section
variable {K : PySem.W.Frag} {a : Addr} {xs : List V} {g : TG} {te : TE} {vs : List Nat} {σ : L2.St} {H1 : Hp} {Q : Addr → Hp → Prop}
abbrev LcR (J : It) (g : TG) (tt : TT) (te : TE) (vs : List Nat) (σ : L2.St) (H1 : Hp) (D : Addr) (Qd : Hp → Prop) : Prop := ∃ W : Nat → Nat → Hp → Prop, (∃ m, W 0 m (upd H1 D (.lst []))) ∧ ∀ i m H, W i m H →
      (J.stop i H ∧ Qd H) ∨ (J.go i H ∧ ∃ Nx : Hp → Prop, (∀ H', Nx H' → ∃ m', m' < m ∧ W (i + 1) m' H') ∧ ∀ x H', J.yld i H x H' → g x (wipe σ vs) H' fun σ2 H2 => wipe σ2 vs = wipe σ vs ∧ tt σ2 H2 fun b H3 =>
        if b = true then te σ2 H3 fun y H4 => ∃ acc, H4 D = some (.lst acc) ∧ acc.length < sizeLine ∧ Nx (upd H4 D (.lst (acc ++ [y]))) else Nx H3)
end
end FF
/-! Fivefault, part 27: [x for x in xs if test], the test told by x. -/
namespace FF
open PySem PySem.Spec PyProof.Rows L2
end FF
/-! Fivefault, part 28: [x for l in ls for x in l] over a tuple of lists or tuples; defs with *v called where no exception comes. -/
namespace FF
open PySem PySem.Spec PyProof.Rows L2 StX
section
variable {X : Cx} {x : Str} {k j : Nat} {sp : Sp} {e : Expr} {es : List Expr} {p pos : Pos} {t : TA}
end
section
variable {K : PySem.W.Frag} {a : Addr} {xs : List V} {uss : List (List V)} {vs vs1 : List Nat} {jo ji : Nat} {σ : L2.St} {H1 : Hp} {Q : Addr → Hp → Prop}
end
end FF
/-! Fivefault, part 29: is, where the left side is None or a bool. -/
namespace FF
open PySem PySem.Spec PyProof.Rows L2
end FF
/-! Fivefault, part 30: a, *b = xs (a list at the right); {**d, k: v}. -/
namespace FF
open PySem PySem.Spec PyProof.Rows L2
theorem lst_tail {prog : Program} {w : World} {A : Around} (hh : A.handled = none) (I ax : Addr) (hne : ax ≠ I) (x : Value) (items : List Value) :
    Walks prog w A I [I, ax] [I] items.length (fun i v => items[i]? = some v) (fun i h => h.IsListIter I ax (i + 1) ∧ h.IsList ax (x :: items).toArray) :=
  let W := Walks.list (prog := prog) (w := w) hh I ax hne (x :: items).toArray
  { sub := W.sub
    frame := fun i h h' st hk => W.frame (i + 1) h h' st hk
    item := fun i s Q E hi st hQ => W.item (i + 1) s Q E (by simpa using hi) st fun v h' tk hP st' hk => hQ v h' tk (by simpa using hP) st' hk
    done := fun s Q E st hQ => W.done s Q E (by simpa using st) hQ
    self := fun i s Q E st hQ => W.self (i + 1) s Q E st hQ }
theorem unpack_starL {prog : Program} {w : World} {A : Around} {E : Value → Shared → Prop} {s : Shared} {t : Addr} {x : Value} {items : List Value} {Q : List Value → Shared → Prop} (hh : A.handled = none) (ht : s.heap.IsList t (x :: items).toArray) (hz : items.length ≤ sizeLine)
    (hQ : ∀ (h' : Heap) (tk : Nat), (∀ b o, s.heap.get? b = some o → h'.get? b = some o) → Q [x, .ref h'.objs.size] { s with heap := h'.push { cls := .type "list", data := .seq items.toArray }, toks := tk }) :
    wpAny (model prog w) A (unpackItems (.ref t) 2 (some 1)) Q E s := by
  have hlt : t ≠ s.heap.objs.size := by obtain ⟨o, ho, _⟩ := ht; exact Nat.ne_of_lt (Heap.lt_size ho)
  unfold unpackItems
  refine wpAny_bind ?_
  unfold notIterableAtAll
  refine wpAny_bind (wpAny_specialOf ht.typeIs slot_list_iter.lookup ?_)
  refine wpAny_pure ?_
  simp only [Bool.false_eq_true, if_false]
  refine wpAny_bind (wpAny_holding (wpAny_pyIter_list ht ?_))
  refine wpAny_bind (wpAny_holding (PySem.W.kun_draw hlt 1 0 _ _ ⟨_, Heap.get?_push_size _ rfl, rfl, rfl⟩ (ht.push _) (by simp) fun h₁ hit₁ hs₁ => ?_))
  have e1 : List.take 1 (List.drop 0 (x :: items).toArray.toList) = [x] := by simp
  rw [e1, if_neg (by simp)]
  have ht₁ : h₁.IsList t (x :: items).toArray := (ht.push _).extBut hs₁.extBut hlt
  have k1 : ∀ b o, s.heap.get? b = some o → h₁.get? b = some o := fun b o e => hs₁.extBut b o (Nat.ne_of_lt (Heap.lt_size e)) (Heap.get?_push_of_some _ e)
  have hin : s.heap.objs.size < h₁.objs.size := by
    obtain ⟨o, ho, _⟩ := hit₁
    exact Heap.lt_size ho
  have htn : t < h₁.objs.size := by
    obtain ⟨o, ho, _⟩ := ht₁
    exact Heap.lt_size ho
  refine wpAny_bind (wpAny_holding (wpAny_collect_iter (T := "list_iterator") (.inr (.inr (.inl rfl))) (Walks.toS (lst_tail (A := A.in1) hh s.heap.objs.size t hlt x items)) (fun i s st => st.1.typeIs) ⟨hit₁, ht₁⟩ (fun b hb => ?_) (by simp) (fun s' acc mv it => ?_) hz))
  · simp only [List.mem_cons, List.not_mem_nil, or_false] at hb
    rcases hb with rfl | rfl
    · exact hin
    · exact htn
  have ea : acc.toList = items := by
    apply List.ext_getElem?
    intro j
    rw [Array.getElem?_toList]
    cases h : acc[j]? with
    | some v => exact (it.2 j v h).symm
    | none =>
      have := Array.getElem?_eq_none_iff.mp h
      rw [it.1] at this
      exact (List.getElem?_eq_none this).symm
  rw [ea, if_neg (by omega)]
  have em : List.take (items.length - (2 - 1 - 1)) items = items := by simp
  have ed : List.drop (items.length - (2 - 1 - 1)) items = [] := by simp
  rw [em, ed]
  obtain ⟨h2, g2, d2, t2, o2⟩ := s'
  obtain ⟨mh, mg, md, mo, mt⟩ := mv
  have mg : g2 = s.gens := mg
  have md : d2 = s.drawn := md
  have mo : o2 = s.os := mo
  subst mg md mo
  refine wpAny_bind (wpAny_newList (wpAny_pure (hQ h2 t2 fun b o e => mh b o (fun hm => ?_) (k1 b o e))) hz)
  rw [List.mem_singleton.mp hm] at e
  exact Nat.lt_irrefl _ (Heap.lt_size e)
/-- a, *b = xs, xs a list -/
theorem pg_star2L {X : Cx} {e1 e2 : Expr} {p3 pos : Pos} {k : Nat} {t : TGs} (hc : X.calm = true) (h : PGs X [e1, e2] t) (hm : (assignEach [e1, .Starred e2 p3] X.env).map (·.2) = (assignEach [e1, e2] X.env).map (·.2) := by rfl)
    (hn : (assignEach [e1, .Starred e2 p3] X.env).length = 2 := by rfl) (hst : (assignEach [e1, .Starred e2 p3] X.env).findIdx? (·.1) = some 1 := by rfl) :
    PG X (.Tuple [e1, .Starred e2 p3] k pos) (fun v σ H Q => ∃ a x0 xs, v = .ref a ∧ SqL X.K H a (x0 :: xs) ∧ ∀ p, H p = none → t [x0, .ref p] σ (upd H p (.lst xs)) Q) := by
  refine ⟨fun pins s σ H v u Q I r hw => ?_⟩
  obtain ⟨a, x0, xs, rfl, hq, hw⟩ := hw
  cases r
  obtain ⟨its, rv, pl, hz⟩ := I.list hq
  cases rv with
  | @cons _ u0 _ us r0 rs =>
  have hl : us.length ≤ sizeLine := by
    have := rs.length
    rw [List.length_cons] at hz
    omega
  rw [PyProof.Rows.assign_Tuple]
  refine wpAny_bind (wpAny_standAt ?_)
  unfold unpack
  rw [hn, hst, hm]
  refine wpAny_bind (wpAny_holding (unpack_starL (I.ok.hd hc) pl.isList hl fun h' tk kp => ?_))
  have I1 : Inv X pins σ H { s with heap := h', toks := tk } := I.kept kp
  have hf : H h'.objs.size = none := I1.hok.fresh (Nat.le_refl _)
  have I2 : Inv X pins σ (upd H h'.objs.size (.lst xs)) { s with heap := h'.push { cls := .type "list", data := .seq us.toArray }, toks := tk } :=
    I1.laid (t' := tk) (fun b u e => Heap.get?_push_of_some _ e) (Nat.le_refl _) ⟨by rw [rs.length]; exact hl, us, 0, rs, Heap.get?_push_size _ rfl⟩
  exact h.run pins _ σ _ [x0, .ref h'.objs.size] [u0, .ref h'.objs.size] Q I2 (.cons r0 (.cons rfl .nil)) (hw _ hf)
section
variable {prog : Program} {w : World} {K : Type} [DecidableEq K] {knd : KeyKind prog w K} {A : Around} {E : Value → Shared → Prop} {s : Shared}
end
end FF
/-! Fivefault, part 31: more comprehensions: a test told with the heap; a choice of any target; items that are new objects. -/
namespace FF
open PySem PySem.Spec PyProof.Rows L2
section
variable {K : PySem.W.Frag} {a : Addr} {xs : List V} {g : TG} {tt : TT} {te : TE} {vs : List Nat} {σ : L2.St} {H1 : Hp} {Q : Addr → Hp → Prop}
end
section
variable {K : PySem.W.Frag} {a : Addr} {xs : List V} {te : TE} {vs : List Nat} {σ : L2.St} {H1 : Hp} {D : Addr} {Qd : Hp → Prop} {j : Nat}
end
end FF
/-! Fivefault, part 32: x[i] of a text or a tuple; C() of an own class. -/
namespace FF
open PySem PySem.Spec PyProof.Rows L2
/-- o.m(e, ..), within a comprehension too -/
theorem pe_methdK {X : Cx} (K : PySem.W.Frag) {C m : Str} {k j : Nat} {ps : List Str} {sp : Sp} {o e : Expr} {es : List Expr} {apos pos : Pos} {to : TE} {t : TA} {pl : Sem Bool} (D : MethD X.prog X.w X.K X.mg X.base C m k ps sp) (hr : Room j X.A) (hkj : k ≤ j) (ho : PE X o to) (ha : PA X (e :: es) t) (hK : X.K = K := by rfl)
    (hst : starEach (e :: es) X.env = (false, eval e X.env) :: starEach es X.env := by rfl) (hpl : (backTo pos (starEach es X.env)).any (·.1) = false := by rfl)
    (ht : eval (.Call (.Attribute o m apos) (e :: es) [] pos) X.env = (do
      let ov ← eval o X.env
      standAt apos.atName
      let (f, first) ← holding [ov] (getMethod ov m pl)
      callWith pos f first (backTo pos (starEach (e :: es) X.env)) (backToKw pos (keywordEach [] X.env))) := by rfl) :
    PE X (.Call (.Attribute o m apos) (e :: es) [] pos) (tMeth (He.ga K C) m sp [] E0 to t) := by
  subst hK
  exact pe_methd D hr hkj ho ha hst hpl ht
end FF
/-! Fivefault, part 33: a text times an int. -/
namespace FF
open PySem PySem.Spec PyProof.Rows L2
end FF
/-! Fivefault, part 34: int(t, 2). -/
namespace FF
open PySem PySem.Spec PyProof.Rows L2
namespace Bn
open PySem.NumText PySem.Calls L2.Hx
def IsBin (c : Nat) : Prop := c = 48 ∨ c = 49
def binNum (l : List Nat) : Nat := l.foldl (fun a c => a * 2 + hv c) 0
theorem bin_hex {c : Nat} (h : IsBin c) : IsHex c := by
  unfold IsBin at h
  unfold IsHex
  omega
theorem bv_lt {c : Nat} (h : IsBin c) : hv c < 2 := by
  rcases h with rfl | rfl
  · decide
  · decide
theorem step_bin {ds : Array Nat} {b : Bool} {c : Nat} (h : IsBin c) : PySem.NumText.step 2 (ds, b) c = some (ds.push (hv c), true) := by
  have hr := hex_rng (bin_hex h)
  unfold PySem.NumText.step
  rw [if_neg (by rw [beq_iff_eq]; exact hr.2.2), digit_hex (bin_hex h)]
  exact if_pos (bv_lt h)
theorem foldl_bin : ∀ (cs : List Nat) (ds : Array Nat), (∀ c ∈ cs, IsBin c) → cs.foldlM (PySem.NumText.step 2) (ds, true) = some (cs.foldl (fun acc c => acc.push (hv c)) ds, true)
  | [], _, _ => rfl
  | c :: cs, ds, h => by
    rw [List.foldlM_cons, step_bin (h c (List.mem_cons_self ..))]
    show cs.foldlM (PySem.NumText.step 2) (ds.push (hv c), true) = _
    exact foldl_bin cs (ds.push (hv c)) fun d hd => h d (List.mem_cons_of_mem _ hd)
theorem digits_bin {cs : List Nat} (h : ∀ c ∈ cs, IsBin c) (hne : cs ≠ []) : digits? 2 cs = some (cs.foldl (fun acc c => acc.push (hv c)) #[]) := by
  cases cs with
  | nil => exact absurd rfl hne
  | cons c cs =>
    unfold digits?
    rw [List.foldlM_cons, step_bin (h c (List.mem_cons_self ..))]
    show (cs.foldlM (PySem.NumText.step 2) ((#[] : Array Nat).push (hv c), true)).bind _ = _
    rw [foldl_bin cs _ fun d hd => h d (List.mem_cons_of_mem _ hd)]
    rfl
theorem push_bin : ∀ (cs : List Nat) (ds : Array Nat), (cs.foldl (fun acc c => acc.push (hv c)) ds).foldl (fun acc d => acc * 2 + d) 0 = cs.foldl (fun a c => a * 2 + hv c) (ds.foldl (fun acc d => acc * 2 + d) 0)
  | [], _ => rfl
  | c :: cs, ds => by
    rw [List.foldl_cons, push_bin cs (ds.push (hv c)), List.foldl_cons]
    congr 1
    simp
theorem based_bin {cs : List Nat} (h : ∀ c ∈ cs, IsBin c) : based 2 cs = (2, false, cs) := by
  match cs, h with
  | [], _ => rfl
  | [a], h => rcases h a (List.mem_singleton.mpr rfl) with rfl | rfl <;> rfl
  | a :: c :: r, h =>
    have hc := h c (List.mem_cons_of_mem _ (List.mem_cons_self ..))
    rcases h a (List.mem_cons_self ..) with rfl | rfl <;> rcases hc with rfl | rfl <;> rfl
theorem read_bin {cs : List Nat} (h : ∀ c ∈ cs, IsBin c) (hne : cs ≠ []) : (int_private% "readNumeral") 0 2 cs = (int_private% "Numeral.value") ((binNum cs : Nat) : Int) := by
  have hx : ∀ c ∈ cs, IsHex c := fun c hc => bin_hex (h c hc)
  have hr : ∀ c ∈ cs.reverse, IsHex c := fun c hc => hx c (List.mem_reverse.mp hc)
  refine (readNumeral_eq 0 2 cs).trans ?_
  rw [dropB hx, signH hx]
  show judge 0 false (based 2 cs).1 (based 2 cs).2.1 (digits? (based 2 cs).1 (((based 2 cs).2.2.reverse.dropWhile blank).reverse)) = _
  rw [based_bin h]
  show judge 0 false 2 false (digits? 2 ((cs.reverse.dropWhile blank).reverse)) = _
  rw [dropB hr, List.reverse_reverse, digits_bin h hne]
  show (int_private% "Numeral.value") (((cs.foldl (fun acc c => acc.push (hv c)) (#[] : Array Nat)).foldl (fun acc d => acc * 2 + d) 0 : Nat) : Int) = _
  have z : (#[] : Array Nat).foldl (fun acc d => acc * 2 + d) 0 = 0 := by first | rfl | simp
  rw [push_bin, z] <;> rfl
set_option maxHeartbeats 4000000 in
theorem gives_bin {x : PySem.Str} {u t : Tok} (hl : x.length ≤ 640) (h : ∀ c ∈ x.cps.toList, IsBin c) (hne : x.cps.toList ≠ []) :
    Gives (Builtin.«int.__new__» ⟨[.type "int", .str x u, .int 2 t], []⟩) (.int ((binNum x.cps.toList : Nat) : Int)) :=
  .of_wp fun M A E s Q hQ => by
    obtain ⟨hp, g, d, tk, os⟩ := s
    have f1 := F.conv_sub_int
    have f2 := F.madeHere_int
    have f6 : typeOf (.str x u) = pure (.type "str") := rfl
    obtain ⟨e1, e2⟩ := seen_hex fun c hc => bin_hex (h c hc)
    have hs : (numSeenOf x).length ≤ 640 := by
      rw [e2, Array.length_toList]
      exact hl
    have hr : (int_private% "readNumeral") 0 2 (numSeenOf x) = (int_private% "Numeral.value") ((binNum x.cps.toList : Nat) : Int) := by
      rw [e2]
      exact read_bin h hne
    have ha : ((numSeenOf x).length == (numTextOf x).length) = true := by
      rw [e1, e2]
      exact beq_self_eq_true _
    have hk := Hid.mk (And.intro hs (And.intro hr ha))
    clear hs hr ha e1 e2 hl hne h
    repeat (any_goals (first
      | assumption
      | ((with_reducible show wpAny _ _ ((int_private% "intFromText") _ _ _) _ _ _); refine wp_textB hk.out.1 hk.out.2.1 hk.out.2.2 ?_)
      | wp_step))
    all_goals first | exact ⟨_, rfl, hQ⟩ | skip
theorem call_bin {prog : Program} {w : World} {A : Around} {E : Value → Shared → Prop} {s : Shared} {Q : Value → Shared → Prop} {x : PySem.Str} {u t : Tok} (hl : x.length ≤ 640) (h : ∀ c ∈ x.cps.toList, IsBin c) (hne : x.cps.toList ≠ [])
    (hQ : Q (.int ((binNum x.cps.toList : Nat) : Int) s.toks) { s with toks := s.toks + 1 }) : wpAny (model prog w) A (call (.type "int") [.str x u, .int 2 t]) Q E s :=
  callType_new F.called_int F.newNe_int (typeCall_int_2 _ _) (newCall_int_2 _ _) (fun obj => F.initArgs_range_2 obj _ _) F.entry_int_new (gives_bin hl h hne).meets (show (Made.int ((binNum x.cps.toList : Nat) : Int)).post _ s from ⟨rfl, hQ⟩)
end Bn
/-- int(t, 2) -/
def rIntBin : List V → Hp → VK → Prop := fun xs H Q => ∃ z : Str, xs = [.str z, .int 2] ∧ z.cps.toList ≠ [] ∧ z.length ≤ 640 ∧ (∀ c ∈ z.cps.toList, Bn.IsBin c) ∧ Q (.int ((Bn.binNum z.cps.toList : Nat) : Int)) H
theorem call_int_bin {X : Cx} : CallR X (.type "int") rIntBin := by
  intro pins s σ H xs us Q I r h
  obtain ⟨z, rfl, hne, hl, hx, q⟩ := h
  obtain ⟨u, w', rfl, r1, r2⟩ := vals2 r
  obtain ⟨t1, rfl⟩ := r1
  obtain ⟨t2, rfl⟩ := r2
  exact Bn.call_bin hl hx hne ⟨.int ((Bn.binNum z.cps.toList : Nat) : Int), H, I.tok _, ⟨_, rfl⟩, q⟩
end FF
/-! Fivefault, part 35: t[::-1]. -/
namespace FF
open PySem PySem.Spec PyProof.Rows L2
theorem rev_range (n : Nat) : Builtin.Str.strSliceIndices none none (-1) n = (List.range n).reverse := by
  show sliceRange ((n : Int) - 1) (-1) (-1) = _
  unfold sliceRange
  have e : (if (-1 : Int) > 0 then (if (n : Int) - 1 < -1 then (-1 - ((n : Int) - 1) + (-1) - 1) / (-1) else 0) else (if (n : Int) - 1 > -1 then ((n : Int) - 1 - (-1) - (-1) - 1) / (-(-1)) else 0)) = (n : Int) := by
    rw [if_neg (by decide)]
    by_cases h : (n : Int) - 1 > -1
    · rw [if_pos h, show (-(-1) : Int) = 1 from rfl, Int.ediv_one]
      omega
    · rw [if_neg h]
      omega
  show (List.range (if (-1 : Int) > 0 then _ else _ : Int).toNat).map _ = _
  rw [e, Int.toNat_natCast]
  refine List.ext_getElem (by simp) fun i h1 h2 => ?_
  simp only [List.length_map, List.length_range] at h1
  rw [List.getElem_map, List.getElem_range, List.getElem_reverse, List.getElem_range, List.length_range]
  omega
theorem rev_pick (l : List Nat) : ((List.range l.length).reverse).filterMap (fun i => l[i]?) = l.reverse := by
  rw [List.filterMap_reverse]
  congr 1
  induction l with
  | nil => rfl
  | cons c r ih =>
    rw [List.length_cons, List.range_succ_eq_map, List.filterMap_cons_some (by rfl), List.filterMap_map]
    congr 1
def tRevS (te : TE) (ts : TO) : TE := fun σ H Q => te σ H fun x H1 => ts σ H1 fun o H2 => ∃ z : Str, x = .str z ∧ o = some (-1) ∧ z.length ≤ sizeLine ∧ Q (.str ⟨z.cps.toList.reverse.toArray⟩) H2
theorem pe_revS {X : Cx} {e st : Expr} {te : TE} {ts : TO} {p2 pos : Pos} (he : PE X e te) (hs : PO X (some st) ts) : PE X (.Subscript e (.Slice none none (some st) p2) pos) (tRevS te ts) := by
  refine ⟨fun pins s σ H Q I h => ?_⟩
  refine Subscript_ (thn (he.run pins s σ H _ I h) fun v s1 ⟨x, H1, I1, r1, q1⟩ => ?_)
  refine wpAny_Slice ?_
  rw [evalPart_none]
  refine wpAny_pure ?_
  refine wpAny_pure ?_
  refine thn (hs.run pins s1 σ H1 _ I1 q1) fun vs s2 ⟨o, H2, I2, po, z, hz, ho, hl, q2⟩ => ?_
  subst hz ho
  obtain ⟨t, rfl⟩ := r1
  cases po with
  | int i u =>
  have I4 : Inv X pins σ H2 { s2 with heap := s2.heap.push { cls := .type "slice", data := .fields #[.none, .none, .int (-1) u] } } := I2.kept (t' := s2.toks) fun b ob q => Heap.get?_push_of_some _ q
  have hn : Heap.IsSlice (s2.heap.push { cls := .type "slice", data := .fields #[.none, .none, .int (-1) u] }) s2.heap.objs.size none none (some (-1, u)) := Heap.IsSliceOf.new ..
  have hg : wpAny (model X.prog X.w) X.A (getItem (.str z t) (.ref s2.heap.objs.size)) (EP X pins σ Q) X.xe { s2 with heap := s2.heap.push { cls := .type "slice", data := .fields #[.none, .none, .int (-1) u] } } := by
    refine wpAny_getItem_str_slice (l := none) (u := none) (st := some (-1, u)) hn rfl ?_
    show Made.post (if ((-1 : Int) == 1 && (Builtin.Str.strSliceIndices none none (-1) z.length).length == z.length) = true then Made.val (.str z t)
      else Made.str ⟨((Builtin.Str.strSliceIndices none none (-1) z.length).filterMap (z.cps[·]?)).toArray⟩) _ _
    rw [show ((-1 : Int) == 1) = false from rfl, Bool.false_and, if_neg Bool.false_ne_true, rev_range]
    have e : ((List.range z.length).reverse).filterMap (z.cps[·]?) = z.cps.toList.reverse := by
      have := rev_pick z.cps.toList
      rw [show z.cps.toList.length = z.length from rfl] at this
      rw [← this]
      congr 1
      funext i
      exact (Array.getElem?_toList).symm
    rw [e]
    refine ⟨?_, .str _, H2, I4.tok _, ⟨_, rfl⟩, q2⟩
    show z.cps.toList.reverse.toArray.size ≤ _
    rw [List.size_toArray, List.length_reverse]
    exact hl
  show wpAny (model X.prog X.w) X.A (subscriptTail e (.Slice none none (some st) p2) (.str z t) (.ref s2.heap.objs.size)) (EP X pins σ Q) X.xe _
  exact tail_any (ops := [.ref s2.heap.objs.size, .str z t]) (typeIs_str _ _ _) F.slot_str_getitem.lookup hg (by with_unfolding_all rfl)
end FF
/-! Fivefault, part 36: C(..) where __init__ may raise; {k: v for .. in enumerate(xs)}. -/
namespace FF
open PySem PySem.Spec PyProof.Rows L2
/-- C(..): the class C with an own __init__ that may raise -/
structure MakeX (P : Program) (w : World) (K : PySem.W.Frag) (mg : Str → Option Value) (base : Heap) (C : Str) (k : Nat) (ps : List Str) (sp : Sp) : Prop where
  ex : ∃ fd, FnOk P w K mg base (L2.CX P w) k (He.ma K (He.ga K C) "__init__") fd ps sp ∧ Binds K fd ps []
  mkr : Mk K (He.ga K C) (He.ma K (He.ga K C) "__init__")
  hm : mg C = some (.ref (He.ga K C))
theorem pe_mkx {X : Cx} {W : WX} {E : XK} {C : Str} {k j : Nat} {ps : List Str} {sp : Sp} {e : Expr} {es : List Expr} {p pos : Pos} {t : TA} (D : MakeX X.prog X.w X.K X.mg X.base C k ps sp) (tk : Takes X W) (hW : ∀ cls d σ' H', E cls d H' → W cls d σ' H') (hr : Room j X.A) (hkj : k + 1 ≤ j) (ha : PA X (e :: es) t)
    (hg : Gl X C := by rfl) (hdb : (C == ("__debug__" : Str)) = false := by decide) (he : starEach (e :: es) X.env = (false, eval e X.env) :: starEach es X.env := by rfl) (hpl : (backTo pos (starEach es X.env)).any (·.1) = false := by rfl) :
    PE X (.Call (.Name C p) (e :: es) [] pos) (tMake (He.ga X.K C) sp [] E t) := by
  obtain ⟨fd, F, hb⟩ := D.ex
  exact pe_make D.mkr F (hr.mono hkj) hg D.hm hb .nil (passes_call tk hW) ha hdb he hpl
/-- where none comes -/
theorem pe_mkxN {X : Cx} {C : Str} {k j : Nat} {ps : List Str} {sp : Sp} {e : Expr} {es : List Expr} {p pos : Pos} {t : TA} (D : MakeX X.prog X.w X.K X.mg X.base C k ps sp) (hr : Room j X.A) (hkj : k + 1 ≤ j) (ha : PA X (e :: es) t)
    (hg : Gl X C := by rfl) (hdb : (C == ("__debug__" : Str)) = false := by decide) (he : starEach (e :: es) X.env = (false, eval e X.env) :: starEach es X.env := by rfl) (hpl : (backTo pos (starEach es X.env)).any (·.1) = false := by rfl) :
    PE X (.Call (.Name C p) (e :: es) [] pos) (tMake (He.ga X.K C) sp [] (fun _ _ _ => False) t) := by
  obtain ⟨fd, F, hb⟩ := D.ex
  exact pe_make D.mkr F (hr.mono hkj) hg D.hm hb .nil passN ha hdb he hpl
section
variable {J : It} {n : Nat} {G : Hp → Prop} {Y : Nat → Hp → V → Hp → Prop}
theorem dc_it (w : Walk J n G Y) {g : TG} {tt : TT} {tk tv : TE} {vs : List Nat} {σ : L2.St} {H1 : Hp} {D : Addr} {Qd : Hp → Prop} (Pv : Nat → Hp → Prop) (h0 : Pv 0 (upd H1 D (.dK []))) (hG : ∀ i H, i ≤ n → Pv i H → G H)
    (hs : ∀ i x H H', i < n → Pv i H → Y i H x H' → g x (wipe σ vs) H' fun σ2 H2 => wipe σ2 vs = wipe σ vs ∧ tt σ2 H2 fun b H3 =>
      if b = true then tk σ2 H3 fun y H4 => tv σ2 H4 fun z H5 => ∃ kvs k, y = kV k ∧ H5 D = some (.dK kvs) ∧ kvs.length < sizeLine ∧ Pv (i + 1) (upd H5 D (.dK (putK kvs k z))) else Pv (i + 1) H3) (hd : ∀ H, Pv n H → Qd H) :
    ∃ W : Nat → Nat → Hp → Prop, (∃ m, W 0 m (upd H1 D (.dK []))) ∧ ∀ i m H, W i m H →
      (J.stop i H ∧ Qd H) ∨ (J.go i H ∧ ∃ Nx : Hp → Prop, (∀ H', Nx H' → ∃ m', m' < m ∧ W (i + 1) m' H') ∧ ∀ x H', J.yld i H x H' → g x (wipe σ vs) H' fun σ2 H2 => wipe σ2 vs = wipe σ vs ∧ tt σ2 H2 fun b H3 =>
        if b = true then tk σ2 H3 fun y H4 => tv σ2 H4 fun z H5 => ∃ kvs k, y = kV k ∧ H5 D = some (.dK kvs) ∧ kvs.length < sizeLine ∧ Nx (upd H5 D (.dK (putK kvs k z))) else Nx H3) := by
  refine ⟨fun i m H => m = n - i ∧ i ≤ n ∧ Pv i H, ⟨n, by simp, Nat.zero_le _, h0⟩, ?_⟩
  rintro i m H ⟨rfl, hi, p⟩
  have q := hG i H hi p
  by_cases hlt : i < n
  · exact .inr ⟨w.goes i H hlt q, Pv (i + 1), fun H' p' => ⟨n - (i + 1), by omega, rfl, hlt, p'⟩, fun x H' y => hs i x H H' hlt p (w.yields i H x H' hlt q y)⟩
  · have e : i = n := by omega
    subst e
    exact .inl ⟨w.stops H q, hd H p⟩
end
end FF
/-! Fivefault, part 37: len(x), x of an own class with __len__. -/
namespace FF
open PySem PySem.Spec PyProof.Rows L2
theorem special_own {prog : Program} {w : World} {K : PySem.W.Frag} {A : Around} {E : Value → Shared → Prop} {s : Shared} {a C f : Addr} {ox : Obj} {od : Option Obj} {name : Str} {Q : Option Value → Shared → Prop} (X : K.In s.heap) (I : PySem.W.InstAt s.heap a ox C od) (hf : PySem.W.findIn K (.ref C) name = some (some (.ref f)))
    (hb : PySem.W.isFn K (.ref f) = true) (hc : wpAny (model prog w) A (call (.ref f) [.ref a]) (fun v s' => Q (some v) s') E s) : wpAny (model prog w) A (callSpecial? (.ref a) name []) Q E s := by
  unfold callSpecial? specialOf
  refine wpAny_bind (wpAny_bind (I.type.here ((PySem.W.looks_findIn X hf).here ?_)))
  refine wpAny_holding ?_
  refine wpAny_bind ((PySem.W.bind_fn X _ (beq_iff_eq.mp hb)).here ?_)
  exact wpAny_bind (wpAny_mono hc (fun v s' h => wpAny_pure h) fun _ _ z => z)
/-- len(x) by an own __len__ -/
def rLenO (C : Addr) (sp : Sp) (E : XK) : List V → Hp → VK → Prop := fun xs H Q => ∃ a dx fs, xs = [.ref a] ∧ H a = some (.ins C dx fs) ∧ sp [.ref a] H (fun v H' => ∃ k : Nat, v = .int k ∧ k < 1000000000 ∧ Q (.int k) H') E
theorem call_lenO {X : Cx} {CX : CXT} {n : Nat} {C f : Addr} {fd : FuncData} {ps : List Str} {sp : Sp} {E : XK} (me : Meth X.K C "__len__" f) (F : FnOk X.prog X.w X.K X.mg X.base CX n f fd ps sp) (hb : Binds X.K fd ps []) (hx : Passes CX X E) (hr : Room (n + 1) X.A) : CallR X (.builtin "len") (rLenO C sp E) := by
  intro pins s σ H xs us Q I rv h
  obtain ⟨a, dx, fs, rfl, ha, hsp⟩ := h
  obtain ⟨u, rfl, ru⟩ := rv.one
  cases ru
  have sb : Sub X n X.A.in1 := Sub.in1 (⟨hr, rfl⟩ : Sub X (n + 1) X.A)
  obtain ⟨mA, J, _⟩ := ins_get I.hok ha
  obtain ⟨od, J, _⟩ := J.look
  refine PySem.Calls.call_function_entry PySem.kind_len PySem.plain_len PySem.entry_len (PySem.args_len1 _) ?_
  unfold Builtin.«len»
  refine wpAny_bind (m := oneArg "len" _) (wpAny_pure ?_)
  refine wpAny_bind (m := callSpecial? (.ref a) (Str.ofString "__len__")) (special_own I.kIn J me.at_ me.fn ?_)
  have e0 : Env0 X.prog X.w X.K X.mg X.base X.A.in1 X.stack s H := by
    have e := I.env0
    exact ⟨by rw [sb.fr]; exact e.frames, e.mod, e.bs, e.bsz, e.funs, e.frf, e.hok, e.bare⟩
  have hl := F.len _ _ _ _ hsp
  have r2 : Vals [V.ref a] [Value.ref a] := .cons rfl .nil
  refine wpAny_call (codeAny_mono (F.run X.A.in1 X.stack s H ⟨[.ref a], []⟩ [.ref a] [.ref a] _ E sb.room e0 (by
    have := hb s [.ref a] I.kIn (by simpa using hl)
    simpa using this) r2 hsp) fun r s' hq => ?_)
  cases r with
  | error e => exact hx pins σ H s e s' I hq
  | ok fl =>
    cases fl with
    | ret u =>
      obtain ⟨v, H', I', rv', k, rfl, hk, q⟩ := I.after hq
      obtain ⟨t, rfl⟩ := rv'
      refine wpAny_bind (wpAny_holding (wpAny_pure ?_))
      refine wpAny_bind (wpAny_letGo ?_)
      show wpAny _ _ (if ((k : Nat) : Int) < 0 then _ else _) _ _ _
      rw [if_neg (by omega)]
      show wpAny _ _ (if ((k : Nat) : Int) ≥ 2 ^ 63 then _ else _) _ _ _
      rw [if_neg (by omega)]
      exact wpAny_bind (wpAny_mkInt (wpAny_pure ⟨_, rfl, .int k, H', I'.tok _, ⟨_, rfl⟩, q⟩))
    | next => exact False.elim hq
    | brk => exact False.elim hq
    | cont => exact False.elim hq
theorem call_lenD {X : Cx} {C : Str} {k j : Nat} {sp : Sp} (D : MethD X.prog X.w X.K X.mg X.base C "__len__" k ["self"] sp) (hr : Room j X.A) (hkj : k + 1 ≤ j) : CallR X (.builtin "len") (rLenO (He.ga X.K C) sp E0) := by
  obtain ⟨fd, F, hb⟩ := D.ex
  exact call_lenO D.me F hb pass0 (hr.mono hkj)
end FF
/-! Fivefault, part 38: a text times any int, told exactly. -/
namespace FF
open PySem PySem.Spec PyProof.Rows L2
def repS (z : Str) (n : Nat) : Str := ⟨(List.replicate n z.cps.toList).flatten.toArray⟩
theorem fold_list {α : Type} (a : Array α) : ∀ (n : Nat) (b : Array α), ((List.replicate n a).foldl (· ++ ·) b).toList = b.toList ++ (List.replicate n a.toList).flatten
  | 0, b => by simp
  | n + 1, b => by
    rw [List.replicate_succ, List.foldl_cons, fold_list a n, Array.toList_append, List.replicate_succ, List.flatten_cons, List.append_assoc]
theorem repS_len (z : Str) (n : Nat) : (repS z n).length = n * z.length := by
  show (List.replicate n z.cps.toList).flatten.toArray.size = _
  rw [List.size_toArray, List.length_flatten, List.map_replicate, List.sum_replicate_nat]
  rfl
theorem op_rep_strX {X : Cx} : OpR X (binaryOp .Mult) (fun x y H Q => ∃ z k, x = .str z ∧ y = .int k ∧ -2147483648 ≤ k ∧ k < 2147483648 ∧ z.length * k.toNat ≤ 100000 ∧ Q (.str (repS z k.toNat)) H) := by
  intro pins s σ H x y v u Q I rx ry h
  obtain ⟨z, k, rfl, rfl, h2, hk, hl, q⟩ := h
  obtain ⟨t, rfl⟩ := rx
  obtain ⟨t', rfl⟩ := ry
  refine PySem.P.mul_str (by rw [decide_eq_false (by omega), decide_eq_false (by omega)] <;> rfl) (fun e1 _ => ?_) (fun _ _ => ?_) ?_
  · have hm : (z.length : Int) * k ≤ 2 ^ 63 - 1 := by
      have e : ((z.length * k.toNat : Nat) : Int) = (z.length : Int) * k := by
        rw [Int.natCast_mul, Int.toNat_of_nonneg (by omega)]
      rw [← e]
      have : (z.length * k.toNat : Nat) ≤ 100000 := hl
      omega
    have := (Int.le_ediv_iff_mul_le (show 0 < k by omega)).mpr hm
    omega
  · show decide (z.length * k.toNat > sizeLine) = false
    exact decide_eq_false (Nat.not_lt.mpr (Nat.le_trans hl (by decide)))
  · by_cases e1 : k < 1
    · rw [if_pos e1]
      have e0 : repS z k.toNat = Str.empty := by
        rw [show k.toNat = 0 by omega]
        rfl
      rw [e0] at q
      exact ⟨by decide, .str _, H, I.tok _, ⟨_, rfl⟩, q⟩
    · rw [if_neg e1]
      by_cases e2 : (k == 1 || z.length == 0) = true
      · rw [if_pos e2]
        have e0 : repS z k.toNat = z := by
          have e3 : (List.replicate k.toNat z.cps.toList).flatten = z.cps.toList := by
            rcases (Bool.or_eq_true _ _).mp e2 with h | h
            · rw [eq_of_beq h]
              show z.cps.toList ++ [] = _
              rw [List.append_nil]
            · have hz : z.cps.toList = [] := List.eq_nil_of_length_eq_zero (eq_of_beq h)
              rw [hz]
              simp
          show (⟨(List.replicate k.toNat z.cps.toList).flatten.toArray⟩ : Str) = z
          rw [e3]
        rw [e0] at q
        exact ⟨.str z, H, I, ⟨t, rfl⟩, q⟩
      · rw [if_neg e2]
        have e0 : (⟨(List.replicate k.toNat z.cps).foldl (· ++ ·) #[]⟩ : Str) = repS z k.toNat := by
          have := fold_list z.cps k.toNat #[]
          have e4 : (List.replicate k.toNat z.cps).foldl (· ++ ·) #[] = (List.replicate k.toNat z.cps.toList).flatten.toArray := by
            rw [← this.trans (List.nil_append _)]
          rw [e4] <;> rfl
        rw [e0]
        refine ⟨?_, .str _, H, I.tok _, ⟨_, rfl⟩, q⟩
        rw [repS_len, Nat.mul_comm]
        exact Nat.le_trans hl (by decide)
end FF
/-! Fivefault, part 39: t.join(..) within a comprehension. -/
namespace FF
open PySem PySem.Spec PyProof.Rows L2
theorem pe_joinK {X : Cx} {o e : Expr} {to te : TE} {apos pos : Pos} (K : PySem.W.Frag) (ho : PE X o to) (he : PE X e te) (hs : starEach [e] X.env = [(false, eval e X.env)] := by rfl) (hbase : attributeBase o "join" X.env (eval o X.env) = eval o X.env := by rfl) (hline : (apos.endLine == pos.line) = true := by rfl) (hK : X.K = K := by rfl) :
    PE X (.Call (.Attribute o "join" apos) [e] [] pos) (tM1 (fun x xs H Q => ∃ a p, ∃ ys : List Str, x = .str a ∧ xs = [.ref p] ∧ (SqL K H p (ys.map V.str) ∨ SqT K H p (ys.map V.str)) ∧
      (ys.map (·.length)).sum + ys.length * a.length ≤ 16777216 ∧ Q (.str (Txt.join a ys)) H) to te) := by
  subst hK
  exact pe_join ho he hs hbase hline
end FF
/-! Fivefault, part 40: C(..) where __init__ may raise, within a lambda. -/
namespace FF
open PySem PySem.Spec PyProof.Rows L2
theorem pe_mkxK {X : Cx} (K : PySem.W.Frag) {W : WX} {E : XK} {C : Str} {k j : Nat} {ps : List Str} {sp : Sp} {e : Expr} {es : List Expr} {p pos : Pos} {t : TA} (D : MakeX X.prog X.w X.K X.mg X.base C k ps sp) (tk : Takes X W) (hW : ∀ cls d σ' H', E cls d H' → W cls d σ' H') (hr : Room j X.A) (hkj : k + 1 ≤ j) (ha : PA X (e :: es) t)
    (hK : X.K = K := by rfl) (hg : Gl X C := by rfl) (hdb : (C == ("__debug__" : Str)) = false := by decide) (he : starEach (e :: es) X.env = (false, eval e X.env) :: starEach es X.env := by rfl) (hpl : (backTo pos (starEach es X.env)).any (·.1) = false := by rfl) :
    PE X (.Call (.Name C p) (e :: es) [] pos) (tMake (He.ga K C) sp [] E t) := by
  subst hK
  exact pe_mkx D tk hW hr hkj ha hg hdb he hpl
end FF
/-! Fivefault, part 41: methods of own classes with *v; methods that raise, within a lambda. -/
namespace FF
open PySem PySem.Spec PyProof.Rows L2 StX
/-- C.m(self, *v) -/
structure MethS (P : Program) (w : World) (K : PySem.W.Frag) (mg : Str → Option Value) (base : Heap) (C m : Str) (k : Nat) (sp : Sp) : Prop where
  ex : FnR P w K mg base (L2.CX P w) k (He.ma K (He.ga K C) m) sp
  cl : Cls K (He.ga K C)
  me : Meth K (He.ga K C) m (He.ma K (He.ga K C) m)
section
variable {X : Cx} {W : WX} {E : XK} {C m : Str} {k j : Nat} {ps : List Str} {sp : Sp} {o e : Expr} {es : List Expr} {apos pos : Pos} {to : TE} {t : TA} {pl : Sem Bool}
/-- where none comes -/
theorem pe_methxN (D : MethX X.prog X.w X.K X.mg X.base C m k ps sp) (hr : Room j X.A) (hkj : k ≤ j) (ho : PE X o to) (ha : PA X (e :: es) t)
    (hst : starEach (e :: es) X.env = (false, eval e X.env) :: starEach es X.env := by rfl) (hpl : (backTo pos (starEach es X.env)).any (·.1) = false := by rfl)
    (ht : eval (.Call (.Attribute o m apos) (e :: es) [] pos) X.env = (do
      let ov ← eval o X.env
      standAt apos.atName
      let (f, first) ← holding [ov] (getMethod ov m pl)
      callWith pos f first (backTo pos (starEach (e :: es) X.env)) (backToKw pos (keywordEach [] X.env))) := by rfl) :
    PE X (.Call (.Attribute o m apos) (e :: es) [] pos) (tMeth (He.ga X.K C) m sp [] (fun _ _ _ => False) to t) := by
  obtain ⟨fd, F, hb⟩ := D.ex
  exact pe_meth ho D.cl D.me F (hr.mono hkj) hb .nil passN ha hst hpl ht
/-- o.m(e, ..), m with *v -/
def tMethS (C : Addr) (m : Str) (sp : Sp) (E : XK) (ta : TE) (t : TA) : TE := fun σ H Q => ta σ H fun x H1 => ∃ a dx fs, x = .ref a ∧ H1 a = some (.ins C dx fs) ∧ fs.lookup m = none ∧
  t σ H1 fun vs H2 => sp (x :: vs) H2 Q E
theorem pe_meths (D : MethS X.prog X.w X.K X.mg X.base C m k sp) (hx : Passes (L2.CX X.prog X.w) X E) (hr : Room j X.A) (hkj : k ≤ j) (ho : PE X o to) (ha : PA X (e :: es) t)
    (hst : starEach (e :: es) X.env = (false, eval e X.env) :: starEach es X.env := by rfl) (hpl : (backTo pos (starEach es X.env)).any (·.1) = false := by rfl)
    (ht : eval (.Call (.Attribute o m apos) (e :: es) [] pos) X.env = (do
      let ov ← eval o X.env
      standAt apos.atName
      let (f, first) ← holding [ov] (getMethod ov m pl)
      callWith pos f first (backTo pos (starEach (e :: es) X.env)) (backToKw pos (keywordEach [] X.env))) := by rfl) :
    PE X (.Call (.Attribute o m apos) (e :: es) [] pos) (tMethS (He.ga X.K C) m sp E to t) := by
  refine ⟨fun pins s σ H Q I h => ?_⟩
  refine PySem.W.methodCall_KW (pl := pl) (thn (ho.run pins s σ H _ I h) fun u s1 ⟨x, H1, I1, rx, a, dx, fs, ex, ea, l, q⟩ => ?_) ht
  subst ex
  obtain rfl : u = Value.ref a := rx
  refine getmeth_ok I1 ea D.cl D.me l ?_
  refine PySem.W.callWith_K (first := [.ref a]) (h₀ := X.base) I.ok.mod.kin D.me.kp (thn (ha.run pos pins s1 σ H1 _ I1 q) fun us s2 ⟨vs, H2, I2, r, q2⟩ => ⟨I2.kIn, ?_⟩) hst hpl
  exact wpAny_call (run_fnR (us := .ref a :: us) (vs := .ref a :: vs) D.ex (hr.mono hkj) hx I2 (.cons rfl r) q2)
end
theorem bind_star1 {B : List Value → Sem (List (Str × Value))} {ps pv : Str} (h0 : ∀ x, B [x] = (newTuple [] >>= fun t => pure [(ps, x), (pv, t)])) (h1 : ∀ x r rs, B (x :: r :: rs) = (newTuple (r :: rs) >>= fun t => pure [(ps, x), (pv, t)])) :
    ∀ us rest : List Value, us.length = [ps].length → B (us ++ rest) = (newTuple rest >>= fun t => pure ([ps].zip us ++ [(pv, t)]))
  | [x], [], _ => h0 x
  | [x], r :: rs, _ => h1 x r rs
theorem meths_mk {P : Program} {w : World} {K : PySem.W.Frag} {mg : Str → Option Value} {base : Heap} {C m qual p0 pv : Str} {st : Stmt} {fd : FuncData} {N : List Str} {k : Nat} {sp : Sp} (F : FunD K m qual (defArgs st) (defBody st) (defScope st) [] [] (He.ma K (He.ga K C) m) fd)
    (cl : Cls K (He.ga K C)) (me : Meth K (He.ga K C) m (He.ma K (He.ga K C) m)) (S : FnScope N [p0, pv] (defScope st))
    (h0 : ∀ (kV doc pm : Value) (an : Option Addr) (cdv ct x : Value), bindArgs (PySem.W.fnOf m qual (defArgs st) (defBody st) (defScope st) .none kV doc pm an cdv ct) ⟨[x], []⟩ = (newTuple [] >>= fun t => pure [(p0, x), (pv, t)]))
    (h1 : ∀ (kV doc pm : Value) (an : Option Addr) (cdv ct x : Value) (r : Value) (rs : List Value), bindArgs (PySem.W.fnOf m qual (defArgs st) (defBody st) (defScope st) .none kV doc pm an cdv ct) ⟨x :: r :: rs, []⟩ = (newTuple (r :: rs) >>= fun t => pure [(p0, x), (pv, t)]))
    (body : ∀ (cdv : Value) (A : Around) (outer : List Env) (s : Shared) (H : Hp) (vs : List V) (Q : VK) (E : XK), Room k (A.deeper (envOfC qual (defScope st) s.heap.objs.size (He.ma K (He.ga K C) m) cdv)) → sp vs H Q E →
      (Takes (cxOf (L2.CX P w) P w K mg base N qual (defScope st) (He.ma K (He.ga K C) m) cdv A outer s H E) fun cls d _ H => E cls d H) →
      ∃ t, PSs (cxOf (L2.CX P w) P w K mg base N qual (defScope st) (He.ma K (He.ga K C) m) cdv A outer s H E) (defBody st) t ∧ t { nx := fun _ H' => Q .non H', rt := Q } (start N vs) H) :
    MethS P w K mg base C m (k + 1) (fun vs H Q E => ∃ x rest, vs = x :: rest ∧ rest.length ≤ sizeLine ∧ ∀ p, H p = none → sp [x, V.ref p] (upd H p (.tup rest)) Q E) := by
  obtain ⟨oc, od, dV, kV, doc, pm, an, cdv, ct, osl, rfl, lk, hcd, hD, _⟩ := F.ex
  obtain rfl : dV = .none := by
    rcases hD with ⟨_, e⟩ | ⟨e, _⟩
    · exact e
    · exact absurd rfl e
  refine ⟨FnR.imp (fn_star (ps := [p0]) (sp := sp) lk hcd S cxUp (bind_star1 (B := fun us => bindArgs (PySem.W.fnOf m qual (defArgs st) (defBody st) (defScope st) .none kV doc pm an cdv ct) ⟨us, []⟩) (h0 _ _ _ _ _ _) (h1 _ _ _ _ _ _))
    fun A outer s H vs Q E hr h => body cdv A outer s H vs Q E hr h (takes_of rfl rfl rfl rfl)) fun vs H Q E ⟨x, rest, e, hz, h⟩ => ⟨[x], rest, e, rfl, hz, h⟩, cl, me⟩
end FF
/-! Fivefault, part 42: the Hook with the defs that stand in records (properties, classmethods, staticmethods). -/
namespace FF
open PySem PySem.Spec PyProof.Rows L2
/-- the def in the record of the class's attribute -/
def gAd (K : PySem.W.Frag) (kind : String) (C m : Str) : Addr := match PySem.W.recIn K (He.ma K (He.ga K C) m) kind with
  | some (.ref g :: _) => g
  | _ => 0
/-- .. its setter -/
def sAd (K : PySem.W.Frag) (C m : Str) : Addr := match PySem.W.recIn K (He.ma K (He.ga K C) m) "property" with
  | some (_ :: .ref g :: _) => g
  | _ => 0
structure GetD where
  kind : String
  cls : Str
  attr : Str
  d : He.DefD
def GetD.ad (K : PySem.W.Frag) (g : GetD) : Addr := if g.kind = "setter" then sAd K g.cls g.attr else gAd K g.kind g.cls g.attr
def fnWa (K : PySem.W.Frag) (a : Addr) : He.FnW := match K.lookup a with
  | some ⟨_, _, .func fd, _⟩ => some (fd.name, fd.qualname, fd.params, fd.body, fd.scope, fd.globals, fd.closure, fd.builtins)
  | _ => none
def GetD.ok (K : PySem.W.Frag) (g : GetD) : Bool := PySem.W.keepIn K (.ref (g.ad K)) && (match K.lookup (g.ad K) with
  | some ⟨_, _, .func fd, _⟩ => PySem.W.codeIn K fd.code g.d.qual && (He.dflB K fd.defaults (g.d.dvs K) && He.kwdB K fd.kwdefaults (g.d.kws K))
  | _ => false)
theorem GetD.funD {K : PySem.W.Frag} {g : GetD} (e : fnWa K (g.ad K) = g.d.val) (c : g.ok K = true) : ∃ fd, FunD K g.d.name g.d.qual g.d.params g.d.body g.d.scope (g.d.dvs K) (g.d.kws K) (g.ad K) fd := by
  obtain ⟨kp, c2⟩ := He.ba c
  unfold fnWa at e
  cases q : K.lookup (g.ad K) with
  | none =>
    rw [q] at c2
    cases c2
  | some o =>
    obtain ⟨oc, od, dt, osl⟩ := o
    rw [q] at c2 e
    cases dt with
    | func fd =>
      obtain ⟨n1, n2, n3, n4, n5, n6, n7, n8, n9, n10, n11, n12, n13, n14, n15⟩ := fd
      have e2 : (some (n1, n2, n3, n4, n5, n6, n7, n15) : He.FnW) = some (g.d.name, g.d.qual, g.d.params, .stmts g.d.body, g.d.scope, mainGlobals, [], builtinsNs) := e
      simp only [Option.some.injEq, Prod.mk.injEq] at e2
      obtain ⟨h1, h2, h3, h4, h5, h6, h7, h8⟩ := e2
      subst h1 h2 h3 h4 h5 h6 h7 h8
      have c3 : (PySem.W.codeIn K n13 g.d.qual && (He.dflB K n8 (g.d.dvs K) && He.kwdB K n9 (g.d.kws K))) = true := c2
      obtain ⟨k1, k2⟩ := He.ba c3
      obtain ⟨k3, k4⟩ := He.ba k2
      exact ⟨_, ⟨oc, od, n8, n9, n10, n11, n12, n13, n14, osl, rfl, q, k1, He.dflB_ok k3, He.kwdB_ok k4⟩, kp⟩
    | _ => cases c2
/-! ### the Hook -/
abbrev AlZ : Type := He.AlX × (Bool × List He.FnW)
structure SaysZ (fa : List He.Fa) (fn : List He.DefD) (fp : List GetD) (tf : List He.Defn) (ex : PySem.W.Frag → Bool) (w : World) (h : Heap) (K : PySem.W.Frag) : Prop where
  x : He.SaysX fa fn [] tf ex w h K
  b : (fp.all fun g => g.ok K) = true
  v : fp.map (fun g => fnWa K (g.ad K)) = fp.map fun g => g.d.val
theorem SaysZ.get {fa : List He.Fa} {fn : List He.DefD} {fp : List GetD} {tf : List He.Defn} {ex : PySem.W.Frag → Bool} {w : World} {h : Heap} {K : PySem.W.Frag} (c : SaysZ fa fn fp tf ex w h K) (i : Nat) {g : GetD} (hg : fp[i]? = some g := by rfl) :
    ∃ fd, FunD K g.d.name g.d.qual g.d.params g.d.body g.d.scope (g.d.dvs K) (g.d.kws K) (g.ad K) fd := by
  have e2 : (fp.map fun g => fnWa K (g.ad K))[i]? = (fp.map fun g => g.d.val)[i]? := by rw [c.v]
  rw [List.getElem?_map, List.getElem?_map, hg] at e2
  exact GetD.funD (Option.some.inj e2) (List.all_eq_true.mp c.b g (List.mem_of_getElem? hg))
def valZ (fn : List He.DefD) (fp : List GetD) (w : World) : AlZ := (He.valX fn [] w, (true, fp.map fun g => g.d.val))
/-! ### a property -/
def isBlt (o : Option (Option Value)) (id : String) : Bool := match o with
  | some (some (.builtin x)) => decide (x = id)
  | _ => false
theorem isBlt_ok {o : Option (Option Value)} {id : String} (h : isBlt o id = true) : o = some (some (.builtin id)) := by
  unfold isBlt at h
  split at h
  · rw [of_decide_eq_true h]
  · cases h
/-- e.f, a property of the class C, whose getter is the def at level k -/
structure PropD (P : Program) (w : World) (K : PySem.W.Frag) (mg : Str → Option Value) (base : Heap) (C f : Str) (k : Nat) (sp : Sp) : Prop where
  ex : ∃ fd, FnOk P w K mg base CX0 k (gAd K "property" C f) fd ["self"] sp ∧ Binds K fd ["self"] []
  cl : Cls K (He.ga K C)
  pr : PropOf K (He.ga K C) f (He.ma K (He.ga K C) f) (gAd K "property" C f)
end FF
/-! Fivefault, part 43: o.m(k = v, ..). -/
namespace FF
open PySem PySem.Spec PyProof.Rows L2
end FF
/-! Fivefault, part 44: more comprehensions over a list and a range: items that are new objects; those told exactly. -/
namespace FF
open PySem PySem.Spec PyProof.Rows L2
section
variable {K : PySem.W.Frag} {a : Addr} {xs : List V} {tt : TT} {te : TE} {vs : List Nat} {σ : L2.St} {H1 : Hp} {D : Addr} {Qd : Hp → Prop} {j : Nat}
/-- [e for x in xs], xs a list of what f tells of α: the answers by g -/
theorem lc_mapX {α : Type} {f : α → V} {l : List α} (g : α → V) (hD : H1 D = none) (hs : SqL K H1 a (l.map f)) (hz : l.length ≤ 20000)
    (hw : ∀ x, wipe ((wipe σ vs).set j (some x)) vs = wipe σ vs)
    (step : ∀ x H2, x ∈ l → Same H1 H2 → ∀ Q' : VK, (∀ H3, Same H2 H3 → Q' (g x) H3) → te ((wipe σ vs).set j (some (f x))) H2 Q')
    (done : ∀ H2, Same H1 H2 → H2 D = some (.lst (l.map g)) → Qd H2) :
    ∃ W : Nat → Nat → Hp → Prop, (∃ m, W 0 m (upd H1 D (.lst []))) ∧ ∀ i m H, W i m H →
      ((Itl K a).stop i H ∧ Qd H) ∨ ((Itl K a).go i H ∧ ∃ Nx : Hp → Prop, (∀ H', Nx H' → ∃ m', m' < m ∧ W (i + 1) m' H') ∧ ∀ x H', (Itl K a).yld i H x H' → gName j x (wipe σ vs) H' fun σ2 H2 => wipe σ2 vs = wipe σ vs ∧ tYes σ2 H2 fun b H3 =>
        if b = true then te σ2 H3 fun y H4 => ∃ acc, H4 D = some (.lst acc) ∧ acc.length < sizeLine ∧ Nx (upd H4 D (.lst (acc ++ [y]))) else Nx H3) := by
  refine lc_mapL (R := fun i y _ => ∃ x, l[i]? = some x ∧ y = g x) (fun _ _ _ _ _ h => h) hD hs (le_line (by rw [List.length_map]; exact hz)) hw (fun i x H2 hx e Q' k => ?_) (fun H2 ys e h1 h2 h3 => ?_)
  · rw [List.getElem?_map] at hx
    obtain ⟨y, hy, rfl⟩ := Option.map_eq_some_iff.mp hx
    exact step y H2 (List.mem_of_getElem? hy) e Q' fun H3 e3 => k _ H3 e3 ⟨y, hy, rfl⟩
  · refine done H2 e ?_
    rw [h1]
    congr 2
    exact eq_map_of (by rw [h2, List.length_map]) h3
/-- [e for k in range(n)]: the answers by g -/
theorem lc_mapN {n : Nat} {lo : Int} (g : Nat → V) (hD : H1 D = none) (hz : n ≤ 20000)
    (hw : ∀ x, wipe ((wipe σ vs).set j (some x)) vs = wipe σ vs)
    (step : ∀ i H2, i < n → Same H1 H2 → ∀ Q' : VK, (∀ H3, Same H2 H3 → Q' (g i) H3) → te ((wipe σ vs).set j (some (.int (lo + i)))) H2 Q')
    (done : ∀ H2, Same H1 H2 → H2 D = some (.lst ((List.range n).map g)) → Qd H2) :
    ∃ W : Nat → Nat → Hp → Prop, (∃ m, W 0 m (upd H1 D (.lst []))) ∧ ∀ i m H, W i m H →
      ((Itr lo n).stop i H ∧ Qd H) ∨ ((Itr lo n).go i H ∧ ∃ Nx : Hp → Prop, (∀ H', Nx H' → ∃ m', m' < m ∧ W (i + 1) m' H') ∧ ∀ x H', (Itr lo n).yld i H x H' → gName j x (wipe σ vs) H' fun σ2 H2 => wipe σ2 vs = wipe σ vs ∧ tYes σ2 H2 fun b H3 =>
        if b = true then te σ2 H3 fun y H4 => ∃ acc, H4 D = some (.lst acc) ∧ acc.length < sizeLine ∧ Nx (upd H4 D (.lst (acc ++ [y]))) else Nx H3) := by
  refine lc_mapR (R := fun i y _ => y = g i) (fun _ _ _ _ _ h => h) hD (le_line hz) hw (fun i H2 hi e Q' k => step i H2 hi e Q' fun H3 e3 => k _ H3 e3 rfl) (fun H2 ys e h1 h2 h3 => ?_)
  refine done H2 e ?_
  rw [h1]
  congr 2
  refine eq_map_of (by rw [h2, List.length_range]) fun i y h => ?_
  have hi := (List.getElem?_eq_some_iff.mp h).1
  exact ⟨i, List.getElem?_range (by omega), h3 i y h⟩
/-- [x for x in xs if test] over what f tells of α -/
theorem lc_filtX {α : Type} {f : α → V} {l : List α} (p : α → Bool) (inj : ∀ x y, f x = f y → x = y) (hD : H1 D = none) (hs : SqL K H1 a (l.map f)) (hz : l.length ≤ 20000)
    (hw : ∀ x, wipe ((wipe σ vs).set j (some x)) vs = wipe σ vs)
    (test : ∀ x H2, x ∈ l → Same H1 H2 → ∀ Qb : Bool → Hp → Prop, (∀ H3, Same H2 H3 → Qb (p x) H3) → tt ((wipe σ vs).set j (some (f x))) H2 Qb)
    (elt : ∀ x H2 (Q' : VK), Q' x H2 → te ((wipe σ vs).set j (some x)) H2 Q')
    (done : ∀ H2, Same H1 H2 → H2 D = some (.lst ((l.filter p).map f)) → Qd H2) :
    ∃ W : Nat → Nat → Hp → Prop, (∃ m, W 0 m (upd H1 D (.lst []))) ∧ ∀ i m H, W i m H →
      ((Itl K a).stop i H ∧ Qd H) ∨ ((Itl K a).go i H ∧ ∃ Nx : Hp → Prop, (∀ H', Nx H' → ∃ m', m' < m ∧ W (i + 1) m' H') ∧ ∀ x H', (Itl K a).yld i H x H' → gName j x (wipe σ vs) H' fun σ2 H2 => wipe σ2 vs = wipe σ vs ∧ tt σ2 H2 fun b H3 =>
        if b = true then te σ2 H3 fun y H4 => ∃ acc, H4 D = some (.lst acc) ∧ acc.length < sizeLine ∧ Nx (upd H4 D (.lst (acc ++ [y]))) else Nx H3) :=
  lc_list (fun i H => Same H1 H ∧ H D = some (.lst (((l.take i).filter p).map f)))
    ⟨same_new hD _, upd_same⟩ (fun i H _ p => up_l p.1 hs)
    (fun i x H hx ⟨e, h1⟩ => ⟨hw x, by
      rw [List.getElem?_map] at hx
      obtain ⟨y, hy, rfl⟩ := Option.map_eq_some_iff.mp hx
      have hi := (List.getElem?_eq_some_iff.mp hy).1
      refine test y H (List.mem_of_getElem? hy) e _ fun H3 e3 => ?_
      have take1 : l.take (i + 1) = l.take i ++ [y] := by
        rw [List.take_add_one, hy] <;> rfl
      cases hb : p y with
      | false =>
        refine iteF ⟨e.trans e3, ?_⟩
        rw [take1, List.filter_append, List.filter_cons_of_neg (by rw [hb]; decide), List.filter_nil, List.append_nil]
        exact e3 _ _ h1
      | true =>
        refine iteT (elt _ H3 _ ⟨_, e3 _ _ h1, ?_, same_at hD (e.trans e3), ?_⟩)
        · rw [List.length_map]
          refine Nat.lt_of_le_of_lt (List.length_filter_le _ _) ?_
          rw [List.length_take]
          exact Nat.lt_of_le_of_lt (Nat.min_le_right _ _) (lt_line hz)
        · rw [take1, List.filter_append, List.filter_cons_of_pos hb, List.filter_nil, List.map_append, upd_same]
          rfl⟩)
    fun H ⟨e, h1⟩ => done H e (by rw [List.length_map, List.take_length] at h1; exact h1)
end
end FF
/-! Fivefault, part 45: staticmethods called by their class. -/
namespace FF
open PySem PySem.Spec PyProof.Rows L2
def statB (K : PySem.W.Frag) (C m : Str) : Bool := (match PySem.W.findCls K (.ref (He.ga K C)) (.type "type") m with
    | some (.get (.builtin g) (.ref p) .none (.ref D)) => decide (g = "staticmethod.__get__") && (decide (p = He.ma K (He.ga K C) m) && decide (D = He.ga K C))
    | _ => false) && (match PySem.W.recIn K (He.ma K (He.ga K C) m) "staticmethod" with
    | some (.ref _ :: _) => true
    | _ => false)
def readB (K : PySem.W.Frag) (C : Str) : Bool := PySem.W.readsIn K (He.ga K C) (.type "type") && isBlt (PySem.W.specialIn K (.ref (He.ga K C)) "__getattribute__") "type.__getattribute__"
theorem readB_ok {K : PySem.W.Frag} {C : Str} (h : readB K C = true) : ClX.CRead K (He.ga K C) (.type "type") := by
  obtain ⟨h1, h2⟩ := He.ba h
  exact ⟨h1, isBlt_ok h2⟩
/-- what of the text a staticmethod has -/
structure StatOf (K : PySem.W.Frag) (C : Addr) (m : Str) (p g : Addr) : Prop where
  at_ : PySem.W.findCls K (.ref C) (.type "type") m = some (.get (.builtin "staticmethod.__get__") (.ref p) .none (.ref C))
  rc : ∃ rest, PySem.W.recIn K p "staticmethod" = some (.ref g :: rest)
theorem statB_ok {K : PySem.W.Frag} {C m : Str} (h : statB K C m = true) : StatOf K (He.ga K C) m (He.ma K (He.ga K C) m) (gAd K "staticmethod" C m) := by
  obtain ⟨h1, h2⟩ := He.ba h
  refine ⟨?_, ?_⟩
  · clear h2
    split at h1
    · rename_i g p D e
      obtain ⟨k1, k⟩ := He.ba h1
      obtain ⟨k2, k3⟩ := He.ba k
      rw [e, of_decide_eq_true k1, of_decide_eq_true k2, of_decide_eq_true k3]
    · cases h1
  · unfold gAd
    split at h2
    · rename_i g rest e
      rw [e]
      exact ⟨rest, rfl⟩
    · cases h2
/-- C.m(..), m a staticmethod of C -/
structure StatX (P : Program) (w : World) (K : PySem.W.Frag) (mg : Str → Option Value) (base : Heap) (C m : Str) (k : Nat) (ps : List Str) (sp : Sp) : Prop where
  ex : ∃ fd, FnOk P w K mg base (L2.CX P w) k (gAd K "staticmethod" C m) fd ps sp ∧ Binds K fd ps []
  kp : PySem.W.keepIn K (.ref (gAd K "staticmethod" C m)) = true
  rd : ClX.CRead K (He.ga K C) (.type "type")
  st : StatOf K (He.ga K C) m (He.ma K (He.ga K C) m) (gAd K "staticmethod" C m)
  hm : mg C = some (.ref (He.ga K C))
theorem getstat_ok {X : Cx} {C p g : Addr} {m : Str} {pins : List (Addr × Obj)} {σ : L2.St} {H : Hp} {s : Shared} {A : Around} {E : Value → Shared → Prop} {pl : Sem Bool} {Q : Value × List Value → Shared → Prop} (I : Inv X pins σ H s) (r : ClX.CRead X.K C (.type "type")) (k : StatOf X.K C m p g)
    (h : ∀ s', Inv X pins σ H s' → Q (.ref g, []) s') : wpAny (model X.prog X.w) A (getMethod (.ref C) m pl) Q E s := by
  obtain ⟨rest, hp⟩ := k.rc
  refine PySem.W.method_cls I.kIn r.ga (PySem.W.cls_bind I.kIn r.rd k.at_ (wpAny_call (PySem.W.sm_get (s := { s with toks := s.toks + 1 }) I.kIn hp (PySem.W.handed_on rfl ?_))))
  exact h _ (I.tok _)
section
variable {X : Cx} {W : WX} {E : XK} {C m : Str} {k j : Nat} {ps : List Str} {sp : Sp} {e : Expr} {es : List Expr} {p1 p2 pos : Pos} {t : TA} {pl : Sem Bool}
theorem pe_stat_ (D : StatX X.prog X.w X.K X.mg X.base C m k ps sp) (hx : Passes (L2.CX X.prog X.w) X E) (hr : Room j X.A) (hkj : k ≤ j) (ha : PA X (e :: es) t)
    (hg : Gl X C) (hd : (C == ("__debug__" : Str)) = false)
    (hc : eval (.Call (.Attribute (.Name C p1) m p2) (e :: es) [] pos) X.env = (do
      let ov ← eval (.Name C p1) X.env
      standAt p2.atName
      let (f, first) ← holding [ov] (getMethod ov m pl)
      callWith pos f first (backTo pos (starEach (e :: es) X.env)) (backToKw pos (keywordEach [] X.env))))
    (he : starEach (e :: es) X.env = (false, eval e X.env) :: starEach es X.env) (hpl : (backTo pos (starEach es X.env)).any (·.1) = false) :
    PE X (.Call (.Attribute (.Name C p1) m p2) (e :: es) [] pos) (tCall sp [] E t) := by
  obtain ⟨fd, F, hb⟩ := D.ex
  refine ⟨fun pins s σ H Q I h => ?_⟩
  refine PySem.W.methodCall_KW (pl := pl) (ld_glob I hg D.hm ?_ hd) hc
  refine getstat_ok I D.rd D.st fun s' I' => ?_
  refine PySem.W.callWith_K (h₀ := X.base) I.ok.mod.kin D.kp (thn (ha.run pos pins s' σ H _ I' h) fun us s1 ⟨vs, H1, I1, r1, q⟩ => ⟨I1.kIn, ?_⟩) he hpl
  exact run_fn F (hr.mono hkj) hb .nil hx I1 r1 q
theorem pe_statN (D : StatX X.prog X.w X.K X.mg X.base C m k ps sp) (hr : Room j X.A) (hkj : k ≤ j) (ha : PA X (e :: es) t)
    (hg : Gl X C := by rfl) (hd : (C == ("__debug__" : Str)) = false := by decide)
    (hc : eval (.Call (.Attribute (.Name C p1) m p2) (e :: es) [] pos) X.env = (do
      let ov ← eval (.Name C p1) X.env
      standAt p2.atName
      let (f, first) ← holding [ov] (getMethod ov m pl)
      callWith pos f first (backTo pos (starEach (e :: es) X.env)) (backToKw pos (keywordEach [] X.env))) := by rfl)
    (he : starEach (e :: es) X.env = (false, eval e X.env) :: starEach es X.env := by rfl) (hpl : (backTo pos (starEach es X.env)).any (·.1) = false := by rfl) :
    PE X (.Call (.Attribute (.Name C p1) m p2) (e :: es) [] pos) (tCall sp [] (fun _ _ _ => False) t) := pe_stat_ D passN hr hkj ha hg hd hc he hpl
end
theorem statx_mk {P : Program} {w : World} {K : PySem.W.Frag} {mg : Str → Option Value} {base : Heap} {C m qual : Str} {st : Stmt} {fd : FuncData} {dvs : List V} {kws : List (Str × V)} {N ps : List Str} {k : Nat} {sp : Sp} (F : FunD K m qual (defArgs st) (defBody st) (defScope st) dvs kws (gAd K "staticmethod" C m) fd) (hb : Binds K fd ps [])
    (rd : ClX.CRead K (He.ga K C) (.type "type")) (so : StatOf K (He.ga K C) m (He.ma K (He.ga K C) m) (gAd K "staticmethod" C m)) (hm : mg C = some (.ref (He.ga K C))) (S : FnScope N ps (defScope st)) (len : ∀ vs H Q E, sp vs H Q E → vs.length = ps.length)
    (body : ∀ (cdv : Value) (A : Around) (outer : List Env) (s : Shared) (H : Hp) (vs : List V) (Q : VK) (E : XK), Room k (A.deeper (envOfC qual (defScope st) s.heap.objs.size (gAd K "staticmethod" C m) cdv)) → sp vs H Q E →
      (Takes (cxOf (L2.CX P w) P w K mg base N qual (defScope st) (gAd K "staticmethod" C m) cdv A outer s H E) fun cls d _ H => E cls d H) →
      ∃ t, PSs (cxOf (L2.CX P w) P w K mg base N qual (defScope st) (gAd K "staticmethod" C m) cdv A outer s H E) (defBody st) t ∧ t { nx := fun _ H' => Q .non H', rt := Q } (start N vs) H) : StatX P w K mg base C m (k + 1) ps sp :=
  ⟨⟨fd, FunD.ok F S len (fun cdv A outer s H vs Q E hr h => body cdv A outer s H vs Q E hr h (takes_of rfl rfl rfl rfl)), hb⟩, F.kp, rd, so, hm⟩
end FF
/-! Fivefault, part 46: {x for x in xs if ..} for any kind of keys; set(t), len of a set of ints. -/
namespace FF
open PySem PySem.Spec PyProof.Rows L2
abbrev emptySet (w : World) : Obj := { cls := .type "set", dict := none, data := .set #[] 0 (.fresh 0 0 (!w.params.followText "set-order")) }
/-- a kind of sets: how one stands in the heap, what is added -/
structure SFam (P : Program) (w : World) where
  κ : Type
  eq : κ → κ → Bool
  ob : Addr → (κ → Bool) → Nat → HO
  val : κ → V
  fresh : ∀ (H : Hp) (h : Heap), ObjOk P w H (h.push (emptySet w)) h.objs.size (ob h.objs.size (fun _ => false) 0)
  add : ∀ (X : Cx) (pins : List (Addr × Obj)) (σ : L2.St) (H : Hp) (s : Shared) (D : Addr) (S : κ → Bool) (n : Nat) (y : κ) (u : Value) (Q : Value → Shared → Prop) (E : Value → Shared → Prop), X.prog = P → X.w = w → Inv X pins σ H s → H D = some (ob D S n) → n + 1 < scanBound → RelV (val y) u →
    (∀ s', Inv X pins σ (upd H D (ob D (fun j => S j || eq j y) (if S y = true then n else n + 1))) s' → Q .none s') → wpAny (model X.prog X.w) X.A (call (.builtin "set.add") [.ref D, u]) Q E s
def SFam.put {P : Program} {w : World} (F : SFam P w) (S : F.κ → Bool) (y : F.κ) : F.κ → Bool := fun j => S j || F.eq j y
def tScF {P : Program} {w : World} (F : SFam P w) (wi : TI) (g : TG) (tt : TT) (te : TE) (vs : List Nat) : TE := fun σ H Q => wi σ H fun J H1 => ∀ D, H1 D = none → ∃ W : Nat → Nat → Hp → Prop, (∃ m, W 0 m (upd H1 D (F.ob D (fun _ => false) 0))) ∧ ∀ i m H, W i m H →
  (J.stop i H ∧ Q (.ref D) H) ∨ (J.go i H ∧ ∃ Nx : Hp → Prop, (∀ H', Nx H' → ∃ m', m' < m ∧ W (i + 1) m' H') ∧ ∀ x H', J.yld i H x H' → g x (wipe σ vs) H' fun σ2 H2 => wipe σ2 vs = wipe σ vs ∧ tt σ2 H2 fun b H3 =>
    if b = true then te σ2 H3 fun y H4 => ∃ (k : F.κ) (S : F.κ → Bool) (n : Nat), y = F.val k ∧ H4 D = some (F.ob D S n) ∧ n + 1 < scanBound ∧ Nx (upd H4 D (F.ob D (F.put S k) (if S k = true then n else n + 1))) else Nx H3)
theorem pe_scF {X : Cx} (F : SFam X.prog X.w) {el ga ia : Expr} {cs : List Expr} {scope : Scope} {own : List (Str × Nat)} {pos : Pos} {wi : TI} {g : TG} {tt : TT} {te : TE} (calm : X.calm = true) (nd : X.N.Nodup) (pia : PI X ga ia wi) (ok : BlkOk X.N X.env.scope scope own)
    (pga : InBlk X scope fun Y => PG Y ga g) (pta : InBlk X scope fun Y => PTs Y cs tt) (pel : InBlk X scope fun Y => PE Y el te) (fa : ∀ x, foldedSetIterable ia X.env x = pure x := by intro _; rfl) : PE X (.SetComp el [⟨ga, ia, cs, 0⟩] scope pos) (tScF F wi g tt te (own.map (·.2))) := by
  refine ⟨fun pins s σ H Q I h => ?_⟩
  rw [PpSet.eval_SetComp]
  have cells : ∀ y ∈ scope.names, y.2 = .free → ∃ c, X.env.cells.lookup y.1 = some c := fun y hy e => (ok.free y hy e).elim (fun k => I.ok.has _ (.inl k)) fun k => I.ok.has _ (.inr k)
  refine wpAny_comprehension_free rfl fa (closure_ok cells) ok.kind (fun y hy e => by rw [ok.uniq y hy, e]) (thn (pia.run pins s σ H _ I h) fun xv sa hx => thn hx fun itv sb hb => ?_)
  obtain ⟨it, fp, tn, J, H2, rfl, I2, T, t2, f2, q⟩ := hb
  refine PpSet.newSet_ok (newEnv_comp ?_)
  generalize hD : sb.heap.objs.size = D
  have freeD : H2 D = none := I2.hok.fresh (Nat.le_of_eq hD)
  obtain ⟨W, ⟨m0, w0⟩, turn⟩ := q D freeD
  generalize hs3 : ({ sb with heap := sb.heap.push (emptySet X.w) } : Shared) = s3
  have heap3 : s3.heap = sb.heap.push (emptySet X.w) := by rw [← hs3]
  generalize hO : F.ob D (fun _ => false) 0 = O at w0
  have I3 : Inv X pins σ (upd H2 D O) s3 := by
    rw [← hs3, ← hO]
    exact I2.laid (t' := sb.toks) (fun b o e => Heap.get?_push_of_some _ e) (Nat.le_of_eq hD) (by rw [← hD]; exact F.fresh _ _)
  have below : ∀ b ∈ fp, b < sb.heap.objs.size := fun b hb => let ⟨o, e, _⟩ := T.obj _ _ t2 b hb; Heap.lt_size e
  have f3 : ∀ b ∈ fp, FpOk X pins (upd H2 D O) b ∧ b < s3.heap.objs.size := fun b hb => by
    refine ⟨⟨?_, (f2 b hb).2⟩, by rw [heap3, Heap.size_push]; exact Nat.lt_succ_of_lt (below b hb)⟩
    rw [upd_ne (by rw [← hD]; exact Nat.ne_of_lt (below b hb))]
    exact (f2 b hb).1
  have t3 : tn 0 s3.heap := T.keep _ _ _ t2 fun b _ o e => by rw [heap3]; exact Heap.get?_push_of_some _ e
  have I4 := block_start I3 ok nd f3
  have off3 : ∀ b ∈ fp, (upd H2 D O) b = none := fun b hb => (f3 b hb).1.1
  show codeAny _ _ (.compStart (.SetComp el [⟨ga, ia, cs, 0⟩] scope pos) 0 (.ref it) (.ref D) (compEnvC scope (cellsFrom (s3.heap.objs.size + 1) scope.names (cloFrom X.env.cells scope.names [])) s3.heap.objs.size X.env)) (compPost (model X.prog X.w) X.A X.xe none (EP X pins σ Q) (.ref D) s3.heap.objs.size) { s3 with heap := pushCells (s3.heap.push { cls := .type "dict", data := .dict #[] }) scope.names }
  generalize hcl : cellsFrom (s3.heap.objs.size + 1) scope.names (cloFrom X.env.cells scope.names []) = cl at I4 ⊢
  have rga := pga s3 (upd H2 D O) s3.heap.objs.size cl fp
  have rta := pta s3 (upd H2 D O) s3.heap.objs.size cl fp
  have rel := pel s3 (upd H2 D O) s3.heap.objs.size cl fp
  generalize hce : compEnvC scope cl s3.heap.objs.size X.env = ce at I4 rga rta rel ⊢
  have loc : ce.locals = s3.heap.objs.size := by subst hce; rfl
  generalize hH3 : upd H2 D O = H3 at I3 I4 rga rta rel w0 off3 f3
  generalize hs4 : ({ s3 with heap := pushCells (s3.heap.push { cls := .type "dict", data := .dict #[] }) scope.names } : Shared) = s4 at I4 ⊢
  have t4 : tn 0 s4.heap := T.keep _ _ _ t3 fun b _ o e => by rw [← hs4]; exact pushCells_keeps _ _ _ _ (Heap.get?_push_of_some _ e)
  let B := X.blk s3 H3 scope ce fp
  have foot : ∀ {σ' : L2.St} {H' : Hp} {s' : Shared}, Inv B [] σ' H' s' → (∀ b ∈ fp, H' b = none) → ∀ b ∈ fp, FpOk B [] H' b := fun {σ' H' s'} I' hn b hb =>
    ⟨hn b hb, (I'.ok.exf b hb).1, I'.ok.exfs b hb, .inl hb, fun x c e => (I'.ok.exf b hb).2 x c e, fun p hp => absurd (show p ∈ ([] : List (Addr × Obj)) ++ [] from hp) (by simp)⟩
  let Sj : Nat → Shared → Prop := fun n s' => ∃ i H', Inv B [] (wipe σ (own.map (·.2))) H' s' ∧ tn i s'.heap ∧ (∀ b ∈ fp, H' b = none) ∧ W i n H'
  have loop := PpSet.compLoopS_any (prog := X.prog) (w := X.w) (A := X.A) (env := ce) (it := .ref it) (acc := .ref D) (elt := el) (target := ga) (iter := ia) (ifs := cs) (scope := scope) (pos := pos) (R := compPost (model X.prog X.w) X.A X.xe none (EP X pins σ Q) (.ref D) s3.heap.objs.size) Sj (fun n s5 hs5 => ?_) m0 (show Sj m0 s4 from ⟨0, H3, I4, t4, off3, w0⟩)
  · exact PpSet.codeAny_compStart_set loop (T.self X.A 0 _ _ _ t4 loop)
  obtain ⟨i, H5, I5, t5, n5, w5⟩ := hs5
  rcases turn i n H5 w5 with ⟨stop, qq⟩ | ⟨go, Nx, hNx, step⟩
  · refine thnF (T.done B rfl rfl rfl calm i [] s5 _ H5 (fun _ _ => False) I5 (foot I5 n5) t5 stop) fun r s6 ⟨hr, I6⟩ => ?_
    subst hr
    have I7 : Inv X pins σ H5 s6 := I3.call' (ch := fp) I6.os I6.base I6.hok I6.bare fun b hb => ⟨(f3 b hb).1.2.2.2.1, (f3 b hb).1.2.1, (f3 b hb).1.2.2.2.2.1, (f3 b hb).1.2.2.2.2.2⟩
    have freeC : H5 s3.heap.objs.size = none := loc ▸ (show H5 ce.locals = none from I6.free)
    obtain ⟨m, hn, _⟩ := I6.loc
    have hn : s6.heap.Ns s3.heap.objs.size m := loc ▸ (show s6.heap.Ns ce.locals m from hn)
    obtain ⟨k0, k1, k2, k3, k4, k5⟩ := I3.fpOk (Nat.le_refl _) freeC
    exact ⟨m, hn, fun h'' same => ⟨.ref D, H5, I7.turned (t' := s6.toks) (fun b o hb e => (same.2 b hb).trans e) k0 k1 k3 k4 k5, rfl, qq⟩⟩
  refine thnF (T.item B rfl rfl rfl calm i [] s5 _ H5 (fun _ _ => False) I5 (foot I5 n5) t5 go) fun r s6 ⟨u, hr, h6⟩ => ?_
  subst hr
  refine thnF h6 fun _ s7 ⟨x, H7, I7, r7, y7, t7, n7⟩ => ?_
  refine thnF (rga.run _ s7 _ H7 x u _ (I7.pinned (foot I7 n7) (T.obj _ _ t7)) r7 (step x H7 y7)) fun _ s8 ⟨σ8, H8, I8, hw8, q8⟩ => ?_
  refine thnF (rta.run _ s8 σ8 H8 _ I8 q8) fun b s9 ⟨H9, I9, q9⟩ => ?_
  have turnEnd : ∀ {s' : Shared} {H' : Hp}, Inv B ([] ++ pinsAt fp s7.heap) σ8 H' s' → Nx H' → ∃ m, m < n ∧ Sj m s' := fun {s' H'} I' nx => by
    obtain ⟨m', hm, w'⟩ := hNx H' nx
    have stays : ∀ b ∈ fp, ∀ o, s7.heap.get? b = some o → s'.heap.get? b = some o ∧ H' b = none := fun b hb o e =>
      let z := I'.pin (b, o) (List.mem_append_right _ (List.mem_append_right _ (mem_pinsAt hb e)))
      ⟨z.1, z.2.1⟩
    exact ⟨m', hm, i + 1, H', (I'.unpinned (pins := [])).weak (by rw [← hw8, wipe_length]) (fun j v e => by rw [← hw8] at e; exact (wipe_some e).1), T.keep _ _ _ t7 fun b hb o e => (stays b hb o e).1, fun b hb => let ⟨o, e, _⟩ := T.obj _ _ t7 b hb; (stays b hb o e).2, w'⟩
  cases b with
  | false => exact turnEnd I9 (by simpa using q9)
  | true =>
  simp only [if_true] at q9 ⊢
  refine thnF (rel.run _ s9 σ8 H9 _ I9 q9) fun z s10 ⟨yv, H10, I10, r10, k0, S0, n0, ey, hD10, hz10, nx⟩ => ?_
  subst ey
  exact F.add B _ σ8 H10 s10 D S0 n0 k0 z _ _ rfl rfl I10 hD10 hz10 r10 fun s11 I11 => turnEnd I11 nx
/-! ### sets of ints -/
def intF (P : Program) (w : World) : SFam P w where
  κ := Int
  eq := fun a b => decide (a = b)
  ob := SetO w
  val := V.int
  fresh := fun H h => setO_new (setR_fresh w)
  add := by
    intro X pins σ H s D S n y u Q E hp hw I hD room hu k
    subst hp hw
    obtain ⟨tk, rfl⟩ := hu
    have R := setO_get I hD
    refine setR_add R room fun h' sb new => ?_
    have he : ∃ u, h'.get? D = some u := by
      have ⟨o, _, _, _, ho, _⟩ := new
      exact ⟨o, ho⟩
    exact k _ (I.write (e := D) (t' := s.toks + 1) (by rw [hD]; trivial) (.inl rfl) (fun b u hb hu => (sb.2 b hb).trans hu) he (setO_new new))
/-- len(s), s a set of ints -/
def rLenSetO (w : World) : List V → Hp → VK → Prop := fun xs H Q => ∃ (a : Addr) (S : Int → Bool) (n : Nat), xs = [.ref a] ∧ H a = some (SetO w a S n) ∧ n < 1000 ∧ Q (.int (n : Nat)) H
theorem cr_lenSetO {X : Cx} : CallR X (.builtin "len") (rLenSetO X.w) := by
  intro pins s σ H xs us Q I r h
  obtain ⟨a, S, n, rfl, ha, hn, q⟩ := h
  obtain ⟨u, rfl, r1⟩ := r.one
  cases r1
  obtain ⟨o, es, ep, t, ho, hex, hd, g, nd, hm, hb, hf, he, hr, hl⟩ := setO_get I ha
  exact call_len_set ho hex hd hf (by rw [he]; omega) ⟨.int (n : Nat), H, I.tok _, ⟨_, by rw [he]⟩, q⟩
def rSetI (K : PySem.W.Frag) (w : World) : List V → Hp → VK → Prop := fun xs H Q => ∃ (p : Addr) (ns : List Int), xs = [.ref p] ∧ SqT K H p (ns.map V.int) ∧ ns.length ≤ 1000 ∧ ∀ D S n, H D = none → (∀ k, S k = decide (k ∈ ns)) → (∃ ks : List Int, ks.Nodup ∧ (∀ k, k ∈ ks ↔ k ∈ ns) ∧ ks.length = n) → Q (.ref D) (upd H D (SetO w D S n))
theorem cr_setI {X : Cx} (hc : X.calm = true) : CallR X (.type "set") (rSetI X.K X.w) := by
  intro pins s σ H xs us Q I r h
  obtain ⟨p, ns, rfl, hq, hl, q⟩ := h
  obtain ⟨u, rfl, r1⟩ := r.one
  cases r1
  obtain ⟨its, rv, pt, hz⟩ := I.tuple hq
  refine call_set_tupI ns (I.ok.hd hc) (show s.heap.IsTuple p its.toArray from pt) (ints_of_vals rv) (by unfold scanBound; omega) fun h' tk c R1 hcn k => ?_
  have hn : H s.heap.objs.size = none := I.hok.fresh (Nat.le_refl _)
  refine ⟨.ref _, upd H s.heap.objs.size (SetO X.w s.heap.objs.size (fun j => decide (j ∈ ns)) c), I.laid (t' := tk) k (Nat.le_refl _) (setO_new R1), rfl, q _ _ _ hn (fun _ => rfl) ?_⟩
  obtain ⟨o, es, ep, t, ho, hex, hdt, g, nd, hm2, hb, hf, hs, hr, hl2⟩ := R1
  exact ⟨es.toList.map keyOf, nd, fun j => by rw [← hm2 j, decide_eq_true_eq], by rw [List.length_map, Array.length_toList, hs]⟩
end FF
/-! Fivefault, part 47: methods called in a comprehension's block, where no exception comes (K named). -/
namespace FF
open PySem PySem.Spec PyProof.Rows L2
section
variable {X : Cx} {C m : Str} {k j : Nat} {ps : List Str} {sp : Sp} {o e : Expr} {es : List Expr} {apos pos : Pos} {to : TE} {t : TA} {pl : Sem Bool}
theorem pe_methxNK (K : PySem.W.Frag) (D : MethX X.prog X.w X.K X.mg X.base C m k ps sp) (hr : Room j X.A) (hkj : k ≤ j) (ho : PE X o to) (ha : PA X (e :: es) t) (hK : X.K = K := by rfl)
    (hst : starEach (e :: es) X.env = (false, eval e X.env) :: starEach es X.env := by rfl) (hpl : (backTo pos (starEach es X.env)).any (·.1) = false := by rfl)
    (ht : eval (.Call (.Attribute o m apos) (e :: es) [] pos) X.env = (do
      let ov ← eval o X.env
      standAt apos.atName
      let (f, first) ← holding [ov] (getMethod ov m pl)
      callWith pos f first (backTo pos (starEach (e :: es) X.env)) (backToKw pos (keywordEach [] X.env))) := by rfl) :
    PE X (.Call (.Attribute o m apos) (e :: es) [] pos) (tMeth (He.ga K C) m sp [] (fun _ _ _ => False) to t) := by
  subst hK
  exact pe_methxN D hr hkj ho ha hst hpl ht
theorem pe_methsNK (K : PySem.W.Frag) (D : MethS X.prog X.w X.K X.mg X.base C m k sp) (hr : Room j X.A) (hkj : k ≤ j) (ho : PE X o to) (ha : PA X (e :: es) t) (hK : X.K = K := by rfl)
    (hst : starEach (e :: es) X.env = (false, eval e X.env) :: starEach es X.env := by rfl) (hpl : (backTo pos (starEach es X.env)).any (·.1) = false := by rfl)
    (ht : eval (.Call (.Attribute o m apos) (e :: es) [] pos) X.env = (do
      let ov ← eval o X.env
      standAt apos.atName
      let (f, first) ← holding [ov] (getMethod ov m pl)
      callWith pos f first (backTo pos (starEach (e :: es) X.env)) (backToKw pos (keywordEach [] X.env))) := by rfl) :
    PE X (.Call (.Attribute o m apos) (e :: es) [] pos) (tMethS (He.ga K C) m sp (fun _ _ _ => False) to t) := by
  subst hK
  exact pe_meths D passN hr hkj ho ha hst hpl ht
end
theorem g2_mono {K : PySem.W.Frag} {i j : Nat} {σ : L2.St} : ∀ (x : V) (H2 : Hp) (A B : L2.St → Hp → Prop), (∀ σ H, A σ H → B σ H) → gTup K 2 (gCons (gName i) (gCons (gName j) gNil)) x σ H2 A → gTup K 2 (gCons (gName i) (gCons (gName j) gNil)) x σ H2 B := by
  rintro x H2 A B f ⟨a, xs, e, h, l, v1, r1, e1, v2, r2, e2, e4, q⟩
  exact ⟨a, xs, e, h, l, v1, r1, e1, v2, r2, e2, e4, f _ _ q⟩
/-! a comprehension over a list, any target -/
theorem lc_mapG {K : PySem.W.Frag} {a : Addr} {xs : List V} {g : TG} {te : TE} {vs : List Nat} {σ : L2.St} {H1 : Hp} {Q : Addr → Hp → Prop} (R : Nat → V → Hp → Prop) (mono : ∀ i y H H', SameT H H' → R i y H → R i y H') (h : SqL K H1 a xs) (hz : xs.length ≤ sizeLine)
    (step : ∀ i x H2, xs[i]? = some x → Same H1 H2 → ∀ Q' : VK, (∀ y H3, Same H2 H3 → R i y H3 → Q' y H3) → g x (wipe σ vs) H2 fun σ2 H3 => wipe σ2 vs = wipe σ vs ∧ te σ2 H3 Q')
    (gm : ∀ x H2 (A B : L2.St → Hp → Prop), (∀ σ H, A σ H → B σ H) → g x (wipe σ vs) H2 A → g x (wipe σ vs) H2 B)
    (done : ∀ H2 D ys, Same H1 H2 → H1 D = none → H2 D = some (.lst ys) → ys.length = xs.length → (∀ (i : Nat) (y : V), ys[i]? = some y → R i y H2) → Q D H2) : ∀ D, H1 D = none → LcR (Itl K a) g tYes te vs σ H1 D (Q D) :=
  have wk : Walk (Itl K a) xs.length (Same H1) (YAt xs) := walkL_same h
  fun D hD =>
    lc_it wk (fun i H => Same H1 H ∧ ∃ ys, H D = some (.lst ys) ∧ ys.length = i ∧ ∀ m y, ys[m]? = some y → R m y H) ⟨same_new hD _, [], upd_same, rfl, fun m y q => by simp at q⟩ (fun i H _ p => p.1)
      (fun i x H H' hi ⟨e, ys, h2, h3, h4⟩ ⟨e1, e2⟩ => by
        subst e1
        refine gm _ _ _ _ (fun σ2 H3 q => ⟨q.1, by unfold tYes; dsimp only; rw [if_pos rfl]; exact q.2⟩) (step i x _ e2 e _ fun y H3 e3 r => ?_)
        have hd := e3 _ _ h2
        have eT : SameT H3 (upd H3 D (.lst (ys ++ [y]))) := (SameT.refl H3).updL hd
        refine ⟨ys, hd, by omega, fun b o q => ?_, ys ++ [y], upd_same, by simp [h3], fun m y' q => ?_⟩
        · rw [upd_ne (ne_of_none q hD)]
          exact e3 _ _ (e _ _ q)
        · by_cases hm : m < ys.length
          · rw [List.getElem?_append_left hm] at q
            exact mono _ _ _ _ ((Same.T e3).trans eT) (h4 m y' q)
          · have : m = ys.length := by
              have := (List.getElem?_eq_some_iff.mp q).1
              simp at this
              omega
            subst this
            rw [List.getElem?_append_right (Nat.le_refl _), Nat.sub_self] at q
            cases q
            rw [h3]
            exact mono _ _ _ _ eT r)
      fun H ⟨e, ys, h1, h2, h3⟩ => done H D ys e hD h1 h2 h3
end FF
/-! Fivefault, part 48: classmethods; cls(..) with cls a local name; a class's constants. -/
namespace FF
open PySem PySem.Spec PyProof.Rows L2
def clsB (K : PySem.W.Frag) (C m : Str) : Bool := (match PySem.W.findCls K (.ref (He.ga K C)) (.type "type") m with
    | some (.get (.builtin g) (.ref p) .none (.ref D)) => decide (g = "classmethod.__get__") && (decide (p = He.ma K (He.ga K C) m) && decide (D = He.ga K C))
    | _ => false) && ((match PySem.W.recIn K (He.ma K (He.ga K C) m) "classmethod" with
    | some (.ref _ :: _) => true
    | _ => false) && PySem.W.fnIn K (gAd K "classmethod" C m))
theorem clsB_ok {K : PySem.W.Frag} {C m : Str} (h : clsB K C m = true) : ClX.CMet K (He.ga K C) (.type "type") m (He.ma K (He.ga K C) m) (gAd K "classmethod" C m) := by
  obtain ⟨h1, h2⟩ := He.ba h
  obtain ⟨h2, h3⟩ := He.ba h2
  refine ⟨?_, ?_, h3⟩
  · clear h2 h3
    split at h1
    · rename_i g p D e
      obtain ⟨k1, k⟩ := He.ba h1
      obtain ⟨k2, k3⟩ := He.ba k
      rw [e, of_decide_eq_true k1, of_decide_eq_true k2, of_decide_eq_true k3]
    · cases h1
  · unfold gAd
    split at h2
    · rename_i g rest e
      rw [e]
      exact ⟨rest, rfl⟩
    · cases h2
def cvalB (K : PySem.W.Frag) (C f : Str) (n : Int) : Bool := match PySem.W.findCls K (.ref (He.ga K C)) (.type "type") f with
  | some (.val (.int m _)) => decide (m = n)
  | _ => false
theorem cvalB_ok {K : PySem.W.Frag} {C f : Str} {n : Int} (h : cvalB K C f n = true) : ∃ u, ClX.CVal K (He.ga K C) (.type "type") f (.int n) u := by
  unfold cvalB at h
  split at h
  · rename_i m t e
    exact ⟨_, e, t, by rw [of_decide_eq_true h]⟩
  · cases h
/-- C.m(..), m a classmethod of C -/
structure ClsX (P : Program) (w : World) (K : PySem.W.Frag) (mg : Str → Option Value) (base : Heap) (C m : Str) (k : Nat) (sp : Sp) : Prop where
  ex : FnR P w K mg base (L2.CX P w) k (gAd K "classmethod" C m) sp
  rd : ClX.CRead K (He.ga K C) (.type "type")
  cm : ClX.CMet K (He.ga K C) (.type "type") m (He.ma K (He.ga K C) m) (gAd K "classmethod" C m)
/-- reading of C.m(..) -/
def tClsX (C : Addr) (sp : Sp) (E : XK) (t : TA) : TE := fun σ H Q => t σ H fun vs H2 => sp (.ref C :: vs) H2 Q E
section
variable {X : Cx} {W : WX} {E : XK} {C m : Str} {k j : Nat} {ps : List Str} {sp : Sp} {e : Expr} {es : List Expr} {p1 p2 pos : Pos} {t : TA} {pl : Sem Bool}
theorem pe_cls_ (D : ClsX X.prog X.w X.K X.mg X.base C m k sp) (hm : X.mg C = some (.ref (He.ga X.K C))) (hx : Passes (L2.CX X.prog X.w) X E) (hr : Room j X.A) (hkj : k ≤ j) (ha : PA X (e :: es) t)
    (hg : Gl X C) (hd : (C == ("__debug__" : Str)) = false)
    (he : starEach (e :: es) X.env = (false, eval e X.env) :: starEach es X.env) (hpl : (backTo pos (starEach es X.env)).any (·.1) = false)
    (hc : eval (.Call (.Attribute (.Name C p1) m p2) (e :: es) [] pos) X.env = (do
      let ov ← eval (.Name C p1) X.env
      standAt p2.atName
      let (f, first) ← holding [ov] (getMethod ov m pl)
      callWith pos f first (backTo pos (starEach (e :: es) X.env)) (backToKw pos (keywordEach [] X.env)))) :
    PE X (.Call (.Attribute (.Name C p1) m p2) (e :: es) [] pos) (tClsX (He.ga X.K C) sp E t) := by
  have hn : PE X (.Name C p1) (tC (.ref (He.ga X.K C))) := pe_gT hm hg hd
  refine ⟨fun pins s σ H Q I h => ?_⟩
  exact (ClX.pe_cmeth hn D.rd D.cm D.ex (hr.mono hkj) hx ha he hpl hc).run pins s σ H Q I ⟨rfl, h⟩
theorem pe_clsN (D : ClsX X.prog X.w X.K X.mg X.base C m k sp) (hm : X.mg C = some (.ref (He.ga X.K C))) (hr : Room j X.A) (hkj : k ≤ j) (ha : PA X (e :: es) t)
    (hg : Gl X C := by rfl) (hd : (C == ("__debug__" : Str)) = false := by decide)
    (he : starEach (e :: es) X.env = (false, eval e X.env) :: starEach es X.env := by rfl) (hpl : (backTo pos (starEach es X.env)).any (·.1) = false := by rfl)
    (hc : eval (.Call (.Attribute (.Name C p1) m p2) (e :: es) [] pos) X.env = (do
      let ov ← eval (.Name C p1) X.env
      standAt p2.atName
      let (f, first) ← holding [ov] (getMethod ov m pl)
      callWith pos f first (backTo pos (starEach (e :: es) X.env)) (backToKw pos (keywordEach [] X.env))) := by rfl) :
    PE X (.Call (.Attribute (.Name C p1) m p2) (e :: es) [] pos) (tClsX (He.ga X.K C) sp (fun _ _ _ => False) t) := pe_cls_ D hm passN hr hkj ha hg hd he hpl hc
end
/-- cls(..), cls a local name that holds the class -/
def tMkL (C : Addr) (sp : Sp) (E : XK) (tv : TE) (t : TA) : TE := fun σ H Q => tv σ H fun v H1 => v = .ref C ∧ tMake C sp [] E t σ H1 Q
theorem pe_mkL {X : Cx} {W : WX} {E : XK} {C x : Str} {k j : Nat} {ps : List Str} {sp : Sp} {e : Expr} {es : List Expr} {p pos : Pos} {t : TA} {tv : TE} (D : MakeX X.prog X.w X.K X.mg X.base C k ps sp) (tk : Takes X W) (hW : ∀ cls d σ' H', E cls d H' → W cls d σ' H') (hr : Room j X.A) (hkj : k + 1 ≤ j) (hv : PE X (.Name x p) tv) (ha : PA X (e :: es) t)
    (he : starEach (e :: es) X.env = (false, eval e X.env) :: starEach es X.env := by rfl) (hpl : (backTo pos (starEach es X.env)).any (·.1) = false := by rfl) :
    PE X (.Call (.Name x p) (e :: es) [] pos) (tMkL (He.ga X.K C) sp E tv t) := by
  obtain ⟨fd, F, hb⟩ := D.ex
  refine ⟨fun pins s σ H Q I h => ?_⟩
  refine wpAny_Call_Name_kw (thn (hv.run pins s σ H _ I h) fun u s1 ⟨v, H1, I1, r1, ev, q1⟩ => ?_)
  subst ev
  obtain rfl : u = Value.ref (He.ga X.K C) := r1
  refine PySem.W.callWith_K (h₀ := X.base) I1.ok.mod.kin D.mkr.kp (thn (ha.run pos pins s1 σ H1 _ I1 q1) fun us s2 ⟨vs, H2, I2, r, q⟩ => ⟨I2.kIn, ?_⟩) he hpl
  exact run_make D.mkr F (hr.mono hkj) hb .nil (passes_call tk hW) I2 r q
end FF
/-! Fivefault, part 49: repr(x) by an own __repr__; x == y by an own __eq__; isinstance(x, C). -/
namespace FF
open PySem PySem.Spec PyProof.Rows L2
/-! ### isinstance(x, C), C a class of the text -/
structure InsX (K : PySem.W.Frag) (C : Addr) : Prop where
  cl : Cls K C
  ha : PySem.W.findIn K (.ref C) "__class__" = some (some (.builtin "object.__class__"))
  hn : PySem.W.specialIn K (.builtin "object.__class__") "__get__" = some (some (.builtin "getset_descriptor.__get__"))
  htk : PySem.W.takesIn K (.builtin "object.__class__") = some true
  hm : PySem.W.mroIn K C (.type "object") = some true
  me : PySem.W.kitOne K (.ref C) (.ref C) = some true
  nl : PySem.W.kitOne K (.type "list") (.ref C) = some false
  sl : PySem.W.subIn K (.type "list") (.ref C) = some false
theorem InsX.ty {K : PySem.W.Frag} {C a dx : Addr} {H : Hp} {fs : List (Str × V)} (c : InsX K C) (h : H a = some (.ins C dx fs)) : TyX K H (.ref a) (.ref C) := .base (TyOf.ins h c.cl c.ha c.hn c.htk c.hm)
/-! ### == by an own __eq__ -/
/-! ### C.m(k = v, ..), m a classmethod -/
theorem clsx_of {P : Program} {w : World} {K : PySem.W.Frag} {mg : Str → Option Value} {base : Heap} {C m : Str} {fd : FuncData} {ps : List Str} {k : Nat} {sp : Sp} (F : FnOk P w K mg base (L2.CX P w) k (gAd K "classmethod" C m) fd ps sp) (hb : Binds K fd ps [])
    (rd : ClX.CRead K (He.ga K C) (.type "type")) (cm : ClX.CMet K (He.ga K C) (.type "type") m (He.ma K (He.ga K C) m) (gAd K "classmethod" C m)) : ClsX P w K mg base C m k sp := by
  refine ⟨FnR.imp (F.raw hb .nil) fun vs H Q E h => ?_, rd, cm⟩
  rw [List.append_nil]
  exact h
end FF
/-! Fivefault, part 50: sets of texts: {x for x in xs if ..}, set(list of texts), sorted(set of texts). -/
namespace FF
open PySem PySem.Spec PyProof.Rows L2
def keyT (e : Int × Value) : Str := match e.2 with
  | .str z _ => z
  | _ => Str.empty
def GoodT (w : World) (e : Int × Value) : Prop := ∃ z tk, e.2 = Value.str z tk ∧ e.1 = hashStr w z
/-- a set of texts stands at a: its members S, n of them; its table can be walked -/
def SetT (w : World) (h : Heap) (a : Addr) (S : Str → Bool) (n : Nat) : Prop :=
  ∃ o es ep t, h.get? a = some o ∧ o.ExactSet ∧ o.data = .set es ep t ∧ ((∀ e ∈ es.toList, GoodT w e) ∧ (es.toList.map keyT).Nodup ∧ ∀ k, S k = true ↔ k ∈ es.toList.map keyT) ∧
    es.size < scanBound ∧ t.fits es.size = true ∧ es.size = n ∧ Ris t.place.toList ∧ (w.params.followText "set-order" = true ∨ t.led = true)
section
variable {P : Program} {w : World} {h h' : Heap} {a : Addr} {S : Str → Bool} {n : Nat}
theorem SetT.at (R : SetT w h a S n) (k : ∀ o, h.get? a = some o → h'.get? a = some o) : SetT w h' a S n := by
  obtain ⟨o, es, ep, t, ho, r⟩ := R
  exact ⟨o, es, ep, t, k o ho, r⟩
theorem SetT.congr {S' : Str → Bool} (R : SetT w h a S n) (e : ∀ k, S' k = S k) : SetT w h a S' n := (funext e : S' = S) ▸ R
end
section
variable {P : Program} {w : World} {A : Around} {E : Value → Shared → Prop} {s : Shared} {a : Addr} {S : Str → Bool} {n : Nat}
end
end FF
/-! Fivefault, part 51: sets of texts over the layer. -/
namespace FF
open PySem PySem.Spec PyProof.Rows L2
end FF
/-! Fivefault, part 52: set(xs), xs a list of texts. -/
namespace FF
open PySem PySem.Spec PyProof.Rows L2
section
variable {P : Program} {w : World} {A : Around} {E : Value → Shared → Prop} {s : Shared}
end
end FF
/-! Fivefault, part 53: yield from xs, xs a list; max(xs, default = n). -/
namespace FF
open PySem PySem.Spec PyProof.Rows L2
section
variable {prog : Program} {w : World} {A : Around} {E : Value → Shared → Prop} {s : Shared}
end
/-! ### max(xs, default = n), xs a list of ints -/
end FF
/-! Fivefault, part 54: {x for x in xs if ..} over a list, texts. -/
namespace FF
open PySem PySem.Spec PyProof.Rows L2
end FF
/-! Fivefault, part 55: {e for a in xs for b in ys}. -/
namespace FF
open PySem PySem.Spec PyProof.Rows L2
section
variable {prog : Program} {w : World} {A : Around} {R : Result → Shared → Prop} {s : Shared} {el ga ia gb ib : Expr} {cs ds : List Expr} {scope : Scope} {pos : Pos} {it : Value} {D : Addr} {env : Env}
end
end FF
/-! Fivefault, part 56: {z for x in xs for z in f(x)} over lists, texts. -/
namespace FF
open PySem PySem.Spec PyProof.Rows L2
end FF
/-! Fivefault, part 57: x != y by an own __eq__ (no own __ne__). -/
namespace FF
open PySem PySem.Spec PyProof.Rows L2
section
variable {M : Model} {prog : Program} {w : World} {A : Around} {E : Value → Shared → Prop} {s : Shared} {K : PySem.W.Frag} {x y C f : Addr} {ox : Obj} {od : Option Obj}
end
end FF
/-! Fivefault, part 58: comprehensions over the keys of a dict, and with two fors, told by the place. -/
namespace FF
open PySem PySem.Spec PyProof.Rows L2
section
variable {K : PySem.W.Frag} {D d : Addr} {o : Obj} {kvs : List (Key × V)} {te : TE} {vs : List Nat} {j : Nat} {σ : L2.St} {H1 : Hp} {Qd : Hp → Prop}
end
section
variable {K : PySem.W.Frag} {D : Addr} {J : It} {n n1 : Nat} {Po P1 : Nat → V → Prop} {wi1 : TI} {te : TE} {vs vs1 : List Nat} {jo ji : Nat} {σ : L2.St} {H1 : Hp} {Qd : Hp → Prop}
theorem lc2_map (R : Nat → V → Hp → Prop) (mono : ∀ i y H H', SameT H H' → R i y H → R i y H') (wo : Walk J n (Same H1) (fun i H x H' => H' = H ∧ Po i x)) (hD : H1 D = none) (hz : n * n1 ≤ sizeLine)
    (hw : ∀ x, wipe ((wipe σ vs).set jo (some x)) vs = wipe σ vs)
    (hw1 : ∀ x y, wipe ((wipe ((wipe σ vs).set jo (some x)) vs1).set ji (some y)) vs1 = wipe ((wipe σ vs).set jo (some x)) vs1)
    (inner : ∀ i x H2 (G : It → Hp → Prop), i < n → Po i x → Same H1 H2 → (∀ J1 H4, Same H2 H4 → Walk J1 n1 (Same H1) (fun j H y H' => H' = H ∧ P1 j y) → G J1 H4) → wi1 ((wipe σ vs).set jo (some x)) H2 G)
    (step : ∀ i x j y H2, i < n → Po i x → j < n1 → P1 j y → Same H1 H2 → ∀ Q' : VK, (∀ z H3, Same H2 H3 → R (i * n1 + j) z H3 → Q' z H3) → te ((wipe ((wipe σ vs).set jo (some x)) vs1).set ji (some y)) H2 Q')
    (done : ∀ H2 ys, Same H1 H2 → H2 D = some (.lst ys) → ys.length = n * n1 → (∀ (i : Nat) (y : V), ys[i]? = some y → R i y H2) → Qd H2) :
    ∃ W : Nat → Nat → Hp → Prop, (∃ m, W 0 m (upd H1 D (.lst []))) ∧ ∀ i m H, W i m H →
      (J.stop i H ∧ Qd H) ∨ (J.go i H ∧ ∃ Nx : Hp → Prop, (∀ H', Nx H' → ∃ m', m' < m ∧ W (i + 1) m' H') ∧ ∀ x H', J.yld i H x H' → gName jo x (wipe σ vs) H' fun σ2 H2 => wipe σ2 vs = wipe σ vs ∧ tYes σ2 H2 fun b H3 =>
        if b = true then wi1 σ2 H3 fun J1 H4 => ∃ W1 : Nat → Nat → Hp → Prop, (∃ m, W1 0 m H4) ∧ ∀ j k H, W1 j k H →
          (J1.stop j H ∧ Nx H) ∨ (J1.go j H ∧ ∃ Nx1 : Hp → Prop, (∀ H', Nx1 H' → ∃ k', k' < k ∧ W1 (j + 1) k' H') ∧ ∀ x H', J1.yld j H x H' → gName ji x (wipe σ2 vs1) H' fun σ3 H5 => wipe σ3 vs1 = wipe σ2 vs1 ∧ tYes σ3 H5 fun b H6 =>
            if b = true then te σ3 H6 fun y H7 => ∃ acc, H7 D = some (.lst acc) ∧ acc.length < sizeLine ∧ Nx1 (upd H7 D (.lst (acc ++ [y]))) else Nx1 H6)
        else Nx H3) := by
  let Pv : Nat → Hp → Prop := fun i H => Same H1 H ∧ ∃ ys, H D = some (.lst ys) ∧ ys.length = i ∧ ∀ m y, ys[m]? = some y → R m y H
  refine ⟨fun i m H => m = n - i ∧ i ≤ n ∧ Pv (i * n1) H, ⟨n, rfl, Nat.zero_le _, same_new hD _, [], upd_same, by simp, fun m y q => by simp at q⟩, ?_⟩
  rintro i m H ⟨rfl, hi, pv⟩
  by_cases hlt : i < n
  · refine .inr ⟨wo.goes i H hlt pv.1, fun H' => i + 1 ≤ n ∧ Pv ((i + 1) * n1) H', fun H' p => ⟨n - (i + 1), by omega, rfl, p⟩, fun x H' y => ?_⟩
    obtain ⟨rfl, hx⟩ := wo.yields i H x H' hlt pv.1 y
    refine ⟨hw _, ?_⟩
    unfold tYes
    dsimp only
    rw [if_pos rfl]
    refine inner i x _ _ hlt hx pv.1 fun J1 H4 e4 wi => ?_
    have pv4 : Pv (i * n1 + 0) H4 := by
      obtain ⟨e, ys, h1, h2, h3⟩ := pv
      exact ⟨e.trans e4, ys, e4 _ _ h1, h2, fun m y q => mono _ _ _ _ (Same.T e4) (h3 m y q)⟩
    refine ⟨fun j k H => k = n1 - j ∧ j ≤ n1 ∧ Pv (i * n1 + j) H, ⟨_, rfl, Nat.zero_le _, pv4⟩, ?_⟩
    rintro j k H ⟨rfl, hj, pj⟩
    by_cases hjt : j < n1
    · refine .inr ⟨wi.goes j H hjt pj.1, fun H' => j + 1 ≤ n1 ∧ Pv (i * n1 + (j + 1)) H', fun H' p => ⟨n1 - (j + 1), by omega, rfl, p⟩, fun w H' y => ?_⟩
      obtain ⟨rfl, hy⟩ := wi.yields j H w H' hjt pj.1 y
      refine ⟨hw1 _ _, ?_⟩
      try unfold tYes
      try dsimp only
      rw [if_pos rfl]
      obtain ⟨e, ys, h1, h2, h3⟩ := pj
      have hb : i * n1 + j < n * n1 := by
        have : (i + 1) * n1 ≤ n * n1 := Nat.mul_le_mul_right _ hlt
        rw [Nat.succ_mul] at this
        omega
      refine step i x j w _ hlt hx hjt hy e _ fun z H6 e6 r => ?_
      have hd := e6 _ _ h1
      refine ⟨ys, hd, Nat.lt_of_lt_of_le (by omega) hz, hjt, ?_⟩
      · refine ⟨same_at hD (e.trans e6), ys ++ [z], upd_same, by simp [h2]; omega, fun m y' q => ?_⟩
        have eT : SameT H6 (upd H6 D (.lst (ys ++ [z]))) := (SameT.refl H6).updL hd
        by_cases hm : m < ys.length
        · rw [List.getElem?_append_left hm] at q
          exact mono _ _ _ _ eT (mono _ _ _ _ (Same.T e6) (h3 m y' q))
        · rw [List.getElem?_append_right (by omega)] at q
          have hm0 : m - ys.length = 0 := by
            have := (List.getElem?_eq_some_iff.mp q).1
            simpa using this
          rw [hm0] at q
          cases q
          rw [show m = i * n1 + j by omega]
          exact mono _ _ _ _ eT r
    · obtain rfl : j = n1 := by omega
      refine .inl ⟨wi.stops H pj.1, hlt, ?_⟩
      rw [Nat.succ_mul]
      exact pj
  · obtain rfl : i = n := by omega
    obtain ⟨e, ys, h1, h2, h3⟩ := pv
    exact .inl ⟨wo.stops H e, done H ys e h1 h2 h3⟩
end
theorem pe_fldK {X : Cx} (K : PySem.W.Frag) {e : Expr} {f : Str} {pos : Pos} {ta : TE} (he : PE X e ta) (hb : attributeBase e f X.env (eval e X.env) = eval e X.env) (hK : X.K = K := by rfl) : PE X (.Attribute e f pos) (tFld K ta f) := by
  subst hK
  exact pe_fld he hb
end FF
/-! Fivefault, part 59: dicts whose keys are texts, whole numbers and nested tuples of such: what stands in the model's heap. -/
namespace FF
open PySem PySem.Spec PyProof.Rows L2
open Sem (wp)
mutual
def nkD : PyData → NestedKey
  | .none => .none
  | .bool b => .num (if b = true then 1 else 0)
  | .int i => .num i
  | .str x => .text x
  | .tuple ds => .tup (nkDs ds)
  | .list _ => .none
  | .dict _ => .none
def nkDs : List PyData → List NestedKey
  | [] => []
  | d :: ds => nkD d :: nkDs ds
end
mutual
/-- data that may be a key: no bools, lists, dicts -/
def keyB : PyData → Bool
  | .none => true
  | .bool _ => false
  | .int _ => true
  | .str _ => true
  | .tuple ds => keyBs ds
  | .list _ => false
  | .dict _ => false
def keyBs : List PyData → Bool
  | [] => true
  | d :: ds => keyB d && keyBs ds
end
/-- a row as it is stored: the key, the key's value, the value -/
abbrev NRow := NestedKey × Value × Value
def entN (w : World) (x : NRow) : DictEntry := ⟨x.1.hash w, x.2.1, x.2.2⟩
section
variable {prog : Program} {w : World} {A : Around} {E : Value → Shared → Prop} {s : Shared} {es : Array DictEntry} {xs : List NRow} {k : NestedKey} {key : Value}
/-- what stands behind the places that were looked at: nothing found, or the one -/
def Seen (xs : List NRow) (k : NestedKey) (pre : List Nat) (hit : Option Nat) : Prop :=
  (hit = none ∧ ∀ i ∈ pre, ∀ x, xs[i]? = some x → x.1 ≠ k) ∨ ∃ j x, hit = some j ∧ j ∈ pre ∧ xs[j]? = some x ∧ x.1 = k
theorem Seen.no {pre : List Nat} {hit : Option Nat} (h : Seen xs k pre hit) {i : Nat} {x : NRow} (hi : xs[i]? = some x) (e : x.1 ≠ k) : Seen xs k (pre ++ [i]) hit := by
  rcases h with ⟨h1, h2⟩ | ⟨j, y, h1, h2, h3⟩
  · refine .inl ⟨h1, fun m hm y hy => ?_⟩
    rcases List.mem_append.mp hm with hm | hm
    · exact h2 m hm y hy
    · rw [List.mem_singleton.mp hm, hi] at hy
      cases hy
      exact e
  · exact .inr ⟨j, y, h1, List.mem_append_left _ h2, h3⟩
end
end FF
/-! Fivefault, part 60: dicts whose keys are nested tuples: read and written. -/
namespace FF
open PySem PySem.Spec PyProof.Rows L2
open Sem (wp)
/-- at d stands the dict of these rows -/
def DictN (w : World) (h : Heap) (d : Addr) (xs : List NRow) : Prop := ∃ (o : Obj) (es : Array DictEntry) (ep : Nat), h.get? d = some o ∧ o.ExactDict ∧ o.data = .dict es ep ∧ es.toList = xs.map (entN w)
theorem DictN.ty {w : World} {s : Shared} {d : Addr} {xs : List NRow} (h : DictN w s.heap d xs) : s.TypeIs (.ref d) "dict" := let ⟨o, _, _, h1, h2, _⟩ := h; ⟨o, h1, h2.1⟩
theorem DictN.new {w : World} (h : Heap) : DictN w (h.push { cls := .type "dict", data := .dict #[] }) h.objs.size [] := ⟨_, #[], 0, Heap.get?_push_size _ rfl, ⟨rfl, rfl, rfl⟩, rfl, rfl⟩
section
variable {prog : Program} {w : World} {A : Around} {E : Value → Shared → Prop} {s : Shared} {xs : List NRow} {k : NestedKey} {key v : Value} {d : Addr}
end

/-! ### in the abstract heap -/
abbrev KRow := V × PyData × V
def kdR (r : KRow) (x : NRow) : Prop := r.2.1 = r.2.1 ∧ x.1 = nkD r.2.1 ∧ RelV r.1 x.2.1 ∧ RelV r.2.2 x.2.2
/-- the dict at a, its rows (key, what the key is, value) in the order of insertion -/
def kdO (w : World) (a : Addr) (rows : List KRow) : HO := .ext fun h => rows.length ≤ sizeLine ∧ (a == sysModules) = false ∧ ∃ xs : List NRow, Paired kdR rows xs ∧ DictN w h a xs
def KeyOk (K : PySem.W.Frag) (H : Hp) (y : V) (d : PyData) : Prop := Tp K H y d ∧ keyB d = true ∧ (nkD d).depth ≤ 8
structure KD (K : PySem.W.Frag) (w : World) (H : Hp) (a : Addr) (rows : List KRow) : Prop where
  obj : Rd H a (kdO w a rows)
  keys : ∀ r ∈ rows, KeyOk K H r.1 r.2.1
  nod : (rows.map fun r => nkD r.2.1).Nodup
def kGet (kvs : List (PyData × V)) (d : PyData) : Option V := (kvs.find? fun r => decide (nkD r.1 = nkD d)).map (·.2)
def kPut (rows : List KRow) (y : V) (d : PyData) (v : V) : List KRow := if (kGet (rows.map Prod.snd) d).isSome = true then rows.map (fun r => if nkD r.2.1 = nkD d then (r.1, r.2.1, v) else r) else rows ++ [(y, d, v)]
theorem KeyOk.up {K : PySem.W.Frag} {H H' : Hp} {y : V} {d : PyData} (h : KeyOk K H y d) (e : SameT H H') : KeyOk K H' y d := ⟨h.1.up e, h.2⟩
theorem KD.up {K : PySem.W.Frag} {w : World} {H H' : Hp} {a : Addr} {rows : List KRow} (h : KD K w H a rows) (e : Same H H') : KD K w H' a rows := ⟨same_rd e h.obj, fun r hr => (h.keys r hr).up (Same.T e), h.nod⟩
theorem kPut_keys (rows : List KRow) (y : V) (d : PyData) (v : V) : (kPut rows y d v).map (fun r => (r.1, r.2.1)) = if (kGet (rows.map Prod.snd) d).isSome = true then rows.map (fun r => (r.1, r.2.1)) else rows.map (fun r => (r.1, r.2.1)) ++ [(y, d)] := by
  unfold kPut
  split
  · rw [List.map_map]
    refine List.map_congr_left fun r _ => ?_
    dsimp only [Function.comp]
    split <;> rfl
  · rw [List.map_append] <;> rfl
theorem kGet_none_iff {kvs : List (PyData × V)} {d : PyData} : kGet kvs d = none ↔ ∀ r ∈ kvs, nkD r.1 ≠ nkD d := by
  unfold kGet
  rw [Option.map_eq_none_iff, List.find?_eq_none]
  refine forall_congr' fun r => forall_congr' fun _ => ?_
  rw [decide_eq_true_eq]
theorem KD.put_keys {K : PySem.W.Frag} {w : World} {H H' : Hp} {a : Addr} {rows : List KRow} {y v : V} {d : PyData} (h : KD K w H a rows) (hk : KeyOk K H y d) (e : SameT H H') : (∀ r ∈ kPut rows y d v, KeyOk K H' r.1 r.2.1) ∧ ((kPut rows y d v).map fun r => nkD r.2.1).Nodup := by
  have kk := kPut_keys rows y d v
  constructor
  · intro r hr
    have hm : (r.1, r.2.1) ∈ (kPut rows y d v).map fun r => (r.1, r.2.1) := List.mem_map_of_mem (f := fun r : KRow => (r.1, r.2.1)) hr
    rw [kk] at hm
    have old : (r.1, r.2.1) ∈ rows.map (fun r => (r.1, r.2.1)) → KeyOk K H' r.1 r.2.1 := fun hm => by
      obtain ⟨r', hr', er⟩ := List.mem_map.mp hm
      have e1 : r'.1 = r.1 := congrArg (fun p : V × PyData => p.1) er
      have e2 : r'.2.1 = r.2.1 := congrArg (fun p : V × PyData => p.2) er
      rw [← e1, ← e2]
      exact (h.keys r' hr').up e
    split at hm
    · exact old hm
    · rcases List.mem_append.mp hm with hm | hm
      · exact old hm
      · rw [List.mem_singleton] at hm
        have h1 : r.1 = y := congrArg Prod.fst hm
        have h2 : r.2.1 = d := congrArg Prod.snd hm
        rw [h1, h2]
        exact hk.up e
  · have e1 : (kPut rows y d v).map (fun r => nkD r.2.1) = ((kPut rows y d v).map fun r => (r.1, r.2.1)).map fun p => nkD p.2 := by rw [List.map_map] <;> rfl
    have e2 : rows.map (fun r => nkD r.2.1) = (rows.map fun r => (r.1, r.2.1)).map fun p => nkD p.2 := by rw [List.map_map] <;> rfl
    have nod := h.nod
    rw [e2] at nod
    rw [e1, kk]
    split
    · exact nod
    · next hs =>
      rw [List.map_append, List.nodup_append]
      refine ⟨nod, by simp, fun x hx z hz => ?_⟩
      have hz : z = nkD d := by simpa using hz
      subst hz
      rw [← e2] at hx
      obtain ⟨r, hr, rfl⟩ := List.mem_map.mp hx
      have hg : kGet (rows.map Prod.snd) d = none := by
        cases q : kGet (rows.map Prod.snd) d with
        | none => rfl
        | some _ => rw [q] at hs; exact absurd rfl hs
      exact kGet_none_iff.mp hg r.2 (List.mem_map_of_mem hr)
section
variable {X : Cx} {pins : List (Addr × Obj)} {σ : L2.St} {H : Hp} {s : Shared}
variable {a : Addr} {rows : List KRow} {y v : V} {d : PyData} {u r : Value} {A : Around} {E : Value → Shared → Prop}
theorem KD.put (D : KD X.K X.w H a rows) (hw : H a = some (kdO X.w a rows)) (hk : KeyOk X.K H y d) : KD X.K X.w (upd H a (kdO X.w a (kPut rows y d v))) a (kPut rows y d v) := by
  have e : SameT H (upd H a (kdO X.w a (kPut rows y d v))) := (SameT.refl H).upd fun xs z => by rw [hw] at z; cases z
  obtain ⟨h1, h2⟩ := D.put_keys (v := v) hk e
  exact ⟨.inl upd_same, h1, h2⟩
end
theorem KD.new {K : PySem.W.Frag} {w : World} {H : Hp} {p : Addr} : KD K w (upd H p (kdO w p [])) p [] := ⟨.inl upd_same, (fun r hr => nomatch hr), List.nodup_nil⟩
end FF
/-! Fivefault, part 61: rules for dicts whose keys are nested tuples; the dict comprehension. -/
namespace FF
open PySem PySem.Spec PyProof.Rows L2
section
variable {X : Cx} {pins : List (Addr × Obj)} {σ : L2.St} {H : Hp} {s : Shared} {o i e value : Expr} {pos pos' : Pos} {td ty tv : TE} {a : Addr} {rows : List KRow}
end
section
variable {prog : Program} {w : World} {A : Around} {R : Result → Shared → Prop} {s : Shared} {ek ev ga ia : Expr} {cs : List Expr} {scope : Scope} {pos : Pos} {it : Value} {D : Addr} {env : Env}
end
end FF
/-! Fivefault, part 62: walks over lists while other things change (the guard is the list itself). -/
namespace FF
open PySem PySem.Spec PyProof.Rows L2
section
variable {K : PySem.W.Frag} {a : Addr} {xs : List V} {g : TG} {tb : TS} {D : Ends} {σ : L2.St} {H : Hp}
end
end FF
/-! Comprehensions with a test that the items' data decide. -/
namespace FF
open PySem PySem.Spec PyProof.Rows L2
section
variable {K : PySem.W.Frag} {a D : Addr} {xs : List V} {ds : List PyData} {g : TG} {tt : TT} {te : TE} {vs : List Nat} {j : Nat} {σ : L2.St} {H1 : Hp} {Qd : Hp → Prop}
end
end FF
/-! Fivefault, part 63: sorted over pairs of whole numbers. -/
namespace FF
open PySem PySem.Spec PyProof.Rows L2
end FF
/-! Fivefault, part 64: dict(list of pairs) whose keys are nested tuples. -/
namespace FF
open PySem PySem.Spec PyProof.Rows L2
open Sem (wp)
section
variable {prog : Program} {w : World} {A : Around} {E : Value → Shared → Prop}
end
section
variable {X : Cx}
end
end FF
/-! Fivefault, part 65: for target in d, keys nested (the dict is locked). -/
namespace FF
open PySem PySem.Spec PyProof.Rows L2
open Sem (wp)
section
variable {X : Cx} {pins : List (Addr × Obj)} {σ : L2.St} {H : Hp} {s : Shared} {d : Addr} {o : Obj} {rows : List KRow}
end
section
variable {P : Program} {w : World} {K : PySem.W.Frag} {tg : Expr} {d : Addr} {o : Obj} {es : Array DictEntry} {ep : Nat}
end
section
variable {w : World} {d : Addr} {o : Obj} {rows : List KRow} {g : TG} {tb : TS} {D : Ends} {σ : L2.St} {H : Hp}
end
section
variable {prog : Program} {w : World} {A : Around} {E : Value → Shared → Prop} {s : Shared}
end
end FF
/-! Fivefault, part 66: xs[::-1], xs a list. -/
namespace FF
open PySem PySem.Spec PyProof.Rows L2
end FF
/-! Fivefault, part 67: a comprehension's list known as a list while its items are told. -/
namespace FF
open PySem PySem.Spec PyProof.Rows L2
section
variable {K : PySem.W.Frag} {a D : Addr} {xs : List V} {te : TE} {vs : List Nat} {j : Nat} {σ : L2.St} {H1 : Hp} {Qd : Hp → Prop}
end
end FF
/-! Fivefault, part 68: a generator's body with for and if, run into a list or up to its first item. -/
namespace FF
open PySem PySem.Spec PyProof.Rows L2 GenW
/-- who runs the generator -/
inductive Md
  | ls (S : Addr)
  | fs
def Md.pins (M : Md) (ys : List V) (P : List (Addr × Obj)) : Prop := match M with
  | .ls S => ∃ (acc : Array Value) (c : Nat), Vals ys acc.toList ∧ P = [(S, lstObj acc c)]
  | .fs => ys = [] ∧ P = []
/-- the first item -/
def FstY (X : Cx) (Yd : V → Hp → Prop) : Protocol := fun _ _ v s _ => ∃ x ip σ H, RelV x v ∧ Inv X ip σ H s ∧ Yd x H
def Md.proto (X : Cx) (Yd : V → Hp → Prop) : Md → Protocol
  | .ls S => GY X S
  | .fs => FstY X Yd
def MI (X : Cx) (M : Md) (ip : List (Addr × Obj)) (ys : List V) (σ : L2.St) (H : Hp) (s : Shared) : Prop := ∃ P, M.pins ys P ∧ Inv X (P ++ ip) σ H s
structure MC (X : Cx) (M : Md) (ip : List (Addr × Obj)) (A : Around) (c : Code) (fs : List Frame) (gd : Bool → Bool) : Prop where
  own : ∀ S, M = .ls S → (∀ p ∈ X.pn, p.1 ≠ S) ∧ (∀ p ∈ ip, p.1 ≠ S) ∧ Apart X S
  around : A.over c fs = X.A
  split : splitAtGen fs = none
  guard : fs.any Frame.guarded = false
  gd : gd false = false
/-- what is wanted behind a statement; yd: of the first item, if it alone is wanted -/
structure GE where
  nx : List V → L2.St → Hp → Prop
  rt : List V → VK
  bk : List V → L2.St → Hp → Prop := fun _ _ _ => False
  ct : List V → L2.St → Hp → Prop := fun _ _ _ => False
  yd : V → Hp → Prop := fun _ _ => True
abbrev TM := GE → List V → L2.St → Hp → Prop
def GE.at (D : GE) (ys : List V) : Ends := { nx := D.nx ys, rt := D.rt ys, bk := D.bk ys, ct := D.ct ys }
def MSP (X : Cx) (M : Md) (ip : List (Addr × Obj)) (D : GE) (ys : List V) (f : Flow) (s : Shared) : Prop :=
  match f with
  | .next => ∃ σ H, MI X M ip ys σ H s ∧ D.nx ys σ H
  | .brk => ∃ σ H, MI X M ip ys σ H s ∧ D.bk ys σ H
  | .cont => ∃ σ H, MI X M ip ys σ H s ∧ D.ct ys σ H
  | .ret u => ∃ v σ H, MI X M ip ys σ H s ∧ RelV v u ∧ D.rt ys v H
structure MK (X : Cx) (M : Md) (ip : List (Addr × Obj)) (A : Around) (R : GenEnd) (c : Code) (fs : List Frame) (K : Flow → Sem PySem.Fin) (J : Value → Sem PySem.Fin) (D : GE) : Prop where
  ok : ∀ (n : Nat) (ys : List V) (s₀ s : Shared) (f : Flow), n + ys.length = sizeLine → MSP X M ip D ys f s → Seg (model X.prog X.w) A R (M.proto X D.yd) n s₀ c (K f) fs s
  exc : ∀ (n : Nat) (s₀ : Shared) (e : Value) (s : Shared), X.xe e s → Seg (model X.prog X.w) A R (M.proto X D.yd) n s₀ c (J e) fs s
structure MS (X : Cx) (st : Stmt) (t : TM) : Prop where
  run : ∀ (M : Md) (A : Around) (ip : List (Addr × Obj)) (R : GenEnd) (n : Nat) (ys : List V) (s₀ : Shared) (c : Code) (fs : List Frame) (K : Flow → Sem PySem.Fin) (J : Value → Sem PySem.Fin) (gd : Bool → Bool) (lv : List Value → List Value) (s : Shared) (σ : L2.St) (H : Hp) (D : GE),
    MC X M ip A c fs gd → n + ys.length = sizeLine → MK X M ip A R c fs K J D → MI X M ip ys σ H s → t D ys σ H →
    Seg (model X.prog X.w) A R (M.proto X D.yd) n s₀ c ((exec st X.env).wrap K J gd lv) fs s
structure MSs (X : Cx) (sts : List Stmt) (t : TM) : Prop where
  run : ∀ (M : Md) (A : Around) (ip : List (Addr × Obj)) (R : GenEnd) (n : Nat) (ys : List V) (s₀ : Shared) (c : Code) (fs : List Frame) (K : Flow → Sem PySem.Fin) (J : Value → Sem PySem.Fin) (gd : Bool → Bool) (lv : List Value → List Value) (s : Shared) (σ : L2.St) (H : Hp) (D : GE),
    MC X M ip A c fs gd → n + ys.length = sizeLine → MK X M ip A R c fs K J D → MI X M ip ys σ H s → t D ys σ H →
    Seg (model X.prog X.w) A R (M.proto X D.yd) n s₀ c ((execs sts X.env).wrap K J gd lv) fs s
section
variable {X : Cx} {st : Stmt} {rest : List Stmt}
/-! ### yield -/
/-! ### if -/
/-! ### for -/
/-- what for does behind a turn -/
def turnEnd (tg : Expr) (it : Value) (body : List Stmt) (env : Env) (f : Flow) : Sem PySem.Fin := match f with
  | .next | .cont => again (.forLoop tg it body [] env)
  | .brk => pure (.done .next)
  | .ret u => pure (.done (.ret u))
end
end FF
/-! Fivefault, part 69: list(g(..)) and the first item of g(..), g a generator def with for and if. -/
namespace FF
open PySem PySem.Spec PyProof.Rows L2 GenW
/-- the promise of a generator def of which the first item alone is taken: what is wanted at the end, of the first item, of an exception -/
abbrev SpF := List V → Hp → (Hp → Prop) → (V → Hp → Prop) → XK → Prop
def FEnd (P : Program) (w : World) (outer : List Env) (H : Hp) (s : Shared) (a : Addr) (g : Nat) (Qe : Hp → Prop) (E : XK) : GenEnd := fun _ _ r s1 =>
  ((r = .ok (.ret .none) ∨ r = .ok .next) ∧ ∃ H', s1.os = s.os ∧ AllBare s1.gens ∧ Un (frs outer) [] H H' s.heap s1.heap ∧ HOk P w H' s1.heap ∧ Qe H') ∨
  ∃ e, r = .error e ∧ (CX P w outer H s E e s1 ∧ s1.heap.IsGen a g)
def FItem (P : Program) (w : World) (outer : List Env) (H : Hp) (s : Shared) (Yd : V → Hp → Prop) : Protocol := fun _ _ v s1 _ =>
  ∃ x H', RelV x v ∧ s1.os = s.os ∧ AllBare s1.gens ∧ Un (frs outer) [] H H' s.heap s1.heap ∧ HOk P w H' s1.heap ∧ Yd x H'
def FMade (P : Program) (w : World) (k : Nat) (outer : List Env) (H : Hp) (s : Shared) (Qe : Hp → Prop) (Yd : V → Hp → Prop) (E : XK) (u : Value) (s' : Shared) : Prop :=
  ∃ (a : Addr) (g : Nat) (c : Code), u = .ref a ∧ s'.heap.IsGen a g ∧ s'.gens[g]? = some (.fresh c) ∧ s'.os = s.os ∧ AllBare s'.gens ∧ s'.heap.NoLimit ∧ (∀ b o, s.heap.get? b = some o → s'.heap.get? b = some o) ∧
    ∀ (A : Around) (s2 : Shared), Room k A → A.frames = some outer → (∀ b o, s'.heap.get? b = some o → s2.heap.get? b = some o) → s2.os = s.os → AllBare s2.gens →
      Seg (model P w) A (FEnd P w outer H s a g Qe E) (FItem P w outer H s Yd) sizeLine s2 c ((model P w).den c) [] s2
structure GFst (P : Program) (w : World) (K : PySem.W.Frag) (mg : Str → Option Value) (base : Heap) (k : Nat) (f : Addr) (fd : FuncData) (ps : List Str) (sp : SpF) : Prop where
  len : ∀ vs H Qe Yd E, sp vs H Qe Yd E → vs.length = ps.length
  run : ∀ (A : Around) (outer : List Env) (s : Shared) (H : Hp) (args : Args) (us : List Value) (vs : List V) (Qe : Hp → Prop) (Yd : V → Hp → Prop) (E : XK), Room k A → Env0 P w K mg base A outer s H → BindsTo s fd args (ps.zip us) → Vals vs us → sp vs H Qe Yd E →
    codeAny (model P w) A (.call (.ref f) args) (fun r s' => match r with
      | .ok (.ret u) => FMade P w k outer H s Qe Yd E u s'
      | _ => False) s
/-! ### the first item taken -/
structure PFst (X : Cx) (k : Nat) (e : Expr) (tg : L2.St → Hp → (Hp → Prop) → (V → Hp → Prop) → Prop) (E : XK) : Prop where
  run : ∀ (pins : List (Addr × Obj)) (s : Shared) (σ : L2.St) (H : Hp) (Qe : Hp → Prop) (Yd : V → Hp → Prop), Inv X pins σ H s → tg σ H Qe Yd → wpAny (model X.prog X.w) X.A (eval e X.env)
    (fun u s' => ∃ H1 sc, Inv X pins σ H1 sc ∧ FMade X.prog X.w k X.stack H1 sc Qe Yd E u s') X.xe s
end FF
/-! Fivefault, part 70: for x in g(..): return .. (the first item alone is taken). -/
namespace FF
open PySem PySem.Spec PyProof.Rows L2 GenW
end FF
/-! Fivefault, part 71: for inside a generator's body, by a walk. -/
namespace FF
open PySem PySem.Spec PyProof.Rows L2 GenW
/-- a generator def, of which the first item alone is taken -/
structure DefF (P : Program) (w : World) (K : PySem.W.Frag) (mg : Str → Option Value) (base : Heap) (x : Str) (k : Nat) (ps : List Str) (sp : SpF) : Prop where
  ex : ∃ (f : Addr) (fd : FuncData), GFst P w K mg base k f fd ps sp ∧ mg x = some (.ref f) ∧ PySem.W.keepIn K (.ref f) = true ∧ Binds K fd ps []
end FF
/-! Fivefault, part 72: exceptions that are no StopIteration. -/
namespace FF
open PySem PySem.Spec PyProof.Rows L2 GenW
end FF
/-! Fivefault, part 73: match: literals, names, alternatives, sequences over a tuple. -/
namespace FF
open PySem PySem.Spec PyProof.Rows L2
abbrev TP := V → L2.St → Hp → (Option (List V) → Hp → Prop) → Prop
abbrev TPs := List V → L2.St → Hp → (Option (List V) → Hp → Prop) → Prop
/-- what a pattern's match leaves: nothing bound, or the values of its names -/
def MP (X : Cx) (pins : List (Addr × Obj)) (σ : L2.St) (ns : List Str) (Q : Option (List V) → Hp → Prop) (r : Option (List (Str × Value))) (s' : Shared) : Prop := match r with
  | none => ∃ H', Inv X pins σ H' s' ∧ Q none H'
  | some bs => ∃ vs H', Inv X pins σ H' s' ∧ bs.map (·.1) = ns ∧ Vals vs (bs.map (·.2)) ∧ Q (some vs) H'
structure PPat (X : Cx) (p : Pattern) (ns : List Str) (t : TP) : Prop where
  run : ∀ (pins : List (Addr × Obj)) (s : Shared) (σ : L2.St) (H : Hp) (v : V) (u : Value) (Q : Option (List V) → Hp → Prop), Inv X pins σ H s → RelV v u → t v σ H Q →
    wpAny (model X.prog X.w) X.A (matchPattern p X.env u) (MP X pins σ ns Q) X.xe s
structure PPats (X : Cx) (ps : List Pattern) (ns : List Str) (t : TPs) : Prop where
  run : ∀ (pins : List (Addr × Obj)) (s : Shared) (σ : L2.St) (H : Hp) (vs : List V) (us : List Value) (Q : Option (List V) → Hp → Prop), Inv X pins σ H s → Vals vs us → t vs σ H Q →
    wpAny (model X.prog X.w) X.A (matchEach ps X.env us) (MP X pins σ ns Q) X.xe s
section
variable {X : Cx} {pos : Pos}
/-- names and their slots -/
inductive Bnd (X : Cx) : List Str → List Nat → Prop
  | nil : Bnd X [] []
  | cons {x : Str} {i : Nat} {ns : List Str} {is : List Nat} : X.N[i]? = some x → Loc X.env.scope x → (X.fn x = true ∨ X.env.scope.names.lookup x = some .local) → Bnd X ns is → Bnd X (x :: ns) (i :: is)
/-- the cases -/
structure PMs (X : Cx) (cs : List MatchCase) (t : V → TS) : Prop where
  run : ∀ (pins : List (Addr × Obj)) (s : Shared) (σ : L2.St) (H : Hp) (v : V) (u : Value) (first : Bool) (D : Ends), Inv X pins σ H s → RelV v u → t v D σ H → wpAny (model X.prog X.w) X.A (matchCases cs X.env u first) (SP X pins D) X.xe s
end
end FF
/-! Fivefault, part 74: an item of a list or a tuple. -/
namespace FF
open PySem PySem.Spec PyProof.Rows L2
end FF
/-! Fivefault, part 75: {e for .. in xs if ..} over a list or a tuple, texts. -/
namespace FF
open PySem PySem.Spec PyProof.Rows L2
end FF
/-! Fivefault, part 76: a law's def at its only call, from outside, where no repr is under way; repr of data. -/
namespace FF
open PySem PySem.Spec PyProof.Rows L2
/-- what a function does at the call from outside -/
structure FnTop (P : Program) (w : World) (K : PySem.W.Frag) (mg : Str → Option Value) (base : Heap) (CX : CXT) (f : Addr) (fd : FuncData) (ps : List Str) (sp : Sp) : Prop where
  run : ∀ (s : Shared) (H : Hp) (args : Args) (us : List Value) (vs : List V) (Q : VK) (E : XK), Env0 P w K mg base callerA [] s H → BindsTo s fd args (ps.zip us) → Vals vs us → sp vs H Q E →
    codeAny (model P w) callerA (.call (.ref f) args) (CR CX [] P w H s Q E) s
end FF
/-! Fivefault, part 77: sorted(d), d a dict with whole numbers as keys. -/
namespace FF
open PySem PySem.Spec PyProof.Rows L2
end FF
/-! Fivefault, part 78: sorted(xs), whole numbers, any number of them. -/
namespace FF
open PySem PySem.Spec PyProof.Rows L2
end FF
/-! Fivefault, part 79: isinstance of dicts, too; != of dicts and of lists of different lengths; [e for x in z], z a text, told by the place. -/
namespace FF
open PySem PySem.Spec PyProof.Rows L2
section
variable {te : TE} {vs : List Nat} {j D : Nat} {σ : L2.St} {H1 : Hp} {Qd : Hp → Prop}
end
end FF
/-! Fivefault, part 80: g(e, .., k = v), g a generator def; a def by two promises. -/
namespace FF
open PySem PySem.Spec PyProof.Rows L2
section
variable {X : Cx} {k n : Nat} {f : Addr} {fd : FuncData} {ps ks : List Str} {sp : SpG} {E : XK} {x : Str} {p pos : Pos} {e : Expr} {es : List Expr} {t : TA} {kws : List Keyword} {tk : TA} {g : List Value → List Value → List Value} {gV : List V → List V → List V}
end
end FF
/-! Fivefault, part 81: the Hook that walks the heap with a set of bits (less memory). -/
namespace FF
open PySem PySem.Spec PyProof.Rows L2
/-- the addresses of a list that are not in the set m yet (ahead of acc), and the set with them -/
def freshA : List Addr → Nat → List Addr → List Addr × Nat
  | [], m, acc => (acc, m)
  | a :: as, m, acc => match Nat.beq (Nat.land (Nat.shiftRight m a) 1) 1 with
    | true => freshA as m acc
    | false => freshA as (Nat.lor m (Nat.shiftLeft 1 a)) (a :: acc)
def refsA (g : Addr → Option Obj) (as : List Addr) : List Addr := as.flatMap fun a => match g a with
  | some o => He.refsD o
  | none => []
/-- what is reached in n rounds; f: the last round's, m: the set of all so far -/
def reachA (g : Addr → Option Obj) : Nat → List Addr × Nat → List Addr
  | 0, p => p.1
  | n + 1, p => p.1 ++ reachA g n (freshA (refsA g p.1) p.2 [])
def asB (g : Addr → Option Obj) (n : Nat) : List Addr := reachA g n ([mainGlobals, PySem.cStatics], Nat.lor (Nat.shiftLeft 1 mainGlobals) (Nat.shiftLeft 1 PySem.cStatics))
def obsW (n : Nat) (fa : List He.Fa) (fn : List He.DefD) (fp : List GetD) (tf : List He.Defn) (ex : PySem.W.Frag → Bool) (g : Addr → Option Obj) : AlZ :=
  (fun K => ((He.obsT fa fn [] K, ex K && He.tabsB g tf K), (fp.all fun q => q.ok K, fp.map fun q => fnWa K (q.ad K)))) (He.frT g (asB g n))
theorem saysW_of {n : Nat} {fa : List He.Fa} {fn : List He.DefD} {fp : List GetD} {tf : List He.Defn} {ex : PySem.W.Frag → Bool} {w : World} {h : Heap} (e : obsW n fa fn fp tf ex h.get? = valZ fn fp w) : SaysZ fa fn fp tf ex w h (He.frT h.get? (asB h.get? n)) := by
  have e1 : ((He.obsT fa fn [] (He.frT h.get? (asB h.get? n)), ex (He.frT h.get? (asB h.get? n)) && He.tabsB h.get? tf (He.frT h.get? (asB h.get? n))) : He.AlX) = He.valX fn [] w := congrArg (fun z : AlZ => z.1) e
  exact ⟨saysY_of e1, congrArg (fun z : AlZ => z.2.1) e, congrArg (fun z : AlZ => z.2.2) e⟩
def hookW (n : Nat) (fa : List He.Fa) (fn : List He.DefD) (fp : List GetD) (tf : List He.Defn) (ex : PySem.W.Frag → Bool) : PySem.W.Hook where
  α := AlZ
  obs := fun s => obsW n fa fn fp tf ex s.heap.get?
  val := fun w => valZ fn fp w
  says := fun w h => ∃ K : PySem.W.Frag, K.In h ∧ SaysZ fa fn fp tf ex w h K
  of := fun _ _ e => ⟨_, He.frT_in, saysW_of e⟩
  keeps := fun _ _ _ ⟨K, hK, c⟩ k => ⟨K, PySem.W.Frag.In.keeps hK k, ⟨⟨c.x.t, c.x.more, c.x.hd, c.x.out, fun p hp => k _ _ (c.x.empty p hp)⟩, c.b, c.v⟩⟩
theorem obsW_eq {n : Nat} {fa : List He.Fa} {fn : List He.DefD} {fp : List GetD} {tf : List He.Defn} {ex : PySem.W.Frag → Bool} {g : Addr → Option Obj} {s : Shared} (h : ∀ a, g a = s.heap.get? a) : obsW n fa fn fp tf ex g = (hookW n fa fn fp tf ex).obs s := by
  have e : g = s.heap.get? := funext h
  rw [e] <;> rfl
end FF
namespace FF
open PySem PySem.Spec PyProof.Rows L2
def top (i : Nat) : Stmt := PySem.Challenge.pw_fivefault_k73_whole_large_boards_spread.main.body.getD i (.Pass ⟨0, 0, 0, 0⟩)
def clsSt (s : Stmt) (i : Nat) : Stmt := match s with
  | .ClassDef _ _ _ b .. => b.getD i (.Pass ⟨0, 0, 0, 0⟩)
  | _ => .Pass ⟨0, 0, 0, 0⟩
abbrev s_wall : Stmt := top 0
abbrev s_ladder_at : Stmt := top 3
theorem sc_ladder_at : FnScope ["board", "one", "other", "last", "lows", "ups", "low", "high"] ["board", "one", "other", "last"] (defScope s_ladder_at) := ⟨rfl, rfl, rfl, by decide +kernel, rfl, by decide +kernel, by decide +kernel⟩
abbrev s_fan_at : Stmt := top 4
theorem sc_fan_at : FnScope ["board", "one", "other", "last", "lows", "ups", "least", "greatest", "sides", "place"] ["board", "one", "other", "last"] (defScope s_fan_at) := ⟨rfl, rfl, rfl, by decide +kernel, rfl, by decide +kernel, by decide +kernel⟩
abbrev s_find_fault : Stmt := top 5
theorem sc_find_fault : FnScope ["board", "every", "one", "last", "place", "other", "found"] ["board"] (defScope s_find_fault) := ⟨rfl, rfl, rfl, by decide +kernel, rfl, by decide +kernel, by decide +kernel⟩
abbrev s_are_places : Stmt := top 6
theorem sc_are_places : FnScope ["board", "places", "place"] ["board", "places"] (defScope s_are_places) := ⟨rfl, rfl, rfl, by decide +kernel, rfl, by decide +kernel, by decide +kernel⟩
abbrev s_is_fault : Stmt := top 7
theorem sc_is_fault : FnScope ["board", "fault", "kind", "places", "least", "one", "other", "last", "greatest", "pairs", "x", "y"] ["board", "fault"] (defScope s_is_fault) := ⟨rfl, rfl, rfl, by decide +kernel, rfl, by decide +kernel, by decide +kernel⟩
abbrev s_is_letter : Stmt := top 22
abbrev s_measured : Stmt := top 23
abbrev s_is_term : Stmt := top 24
abbrev s_is_long_term : Stmt := top 25
abbrev s_need_long_term : Stmt := top 26
abbrev s_parts_of : Stmt := top 27
abbrev s_walked : Stmt := top 28
abbrev s_letters_in : Stmt := top 29
abbrev s_turned_rows : Stmt := top 32
theorem sc_turned_rows : FnScope ["rows", "row", "at"] ["rows"] (defScope s_turned_rows) := ⟨rfl, rfl, rfl, by decide +kernel, rfl, by decide +kernel, by decide +kernel⟩
abbrev s_mask_of : Stmt := top 33
theorem sc_mask_of : FnScope ["text"] ["text"] (defScope s_mask_of) := ⟨rfl, rfl, rfl, by decide +kernel, rfl, by decide +kernel, by decide +kernel⟩
abbrev s_is_square : Stmt := top 34
theorem sc_is_square : FnScope ["rows", "limit", "sign", "row"] ["rows", "limit"] (defScope s_is_square) := ⟨rfl, rfl, rfl, by decide +kernel, rfl, by decide +kernel, by decide +kernel⟩
abbrev s_is_order : Stmt := top 35
theorem sc_is_order : FnScope ["masks", "place", "mask", "other", "smaller"] ["masks"] (defScope s_is_order) := ⟨rfl, rfl, rfl, by decide +kernel, rfl, by decide +kernel, by decide +kernel⟩
abbrev s_meeting_places : Stmt := top 36
theorem sc_meeting_places : FnScope ["masks", "place_of", "place", "mask", "found", "row", "other"] ["masks"] (defScope s_meeting_places) := ⟨rfl, rfl, rfl, by decide +kernel, rfl, by decide +kernel, by decide +kernel⟩
abbrev s_gathered : Stmt := top 37
theorem sc_gathered : FnScope ["table", "places", "first", "rest", "place"] ["table", "places"] (defScope s_gathered) := ⟨rfl, rfl, rfl, by decide +kernel, rfl, by decide +kernel, by decide +kernel⟩
abbrev s_law_source : Stmt := top 40
theorem sc_law_source : FnScope ["_law_script"] ["_law_script"] (defScope s_law_source) := ⟨rfl, rfl, rfl, by decide +kernel, rfl, by decide +kernel, by decide +kernel⟩
abbrev s_law_take : Stmt := top 41
theorem sc_law_take : FnScope ["_law_source_here", "_law_many", "_law_cell", "_law_digit", "_law_mixed_here"] ["_law_source_here", "_law_many"] (defScope s_law_take) := ⟨rfl, rfl, rfl, by decide +kernel, rfl, by decide +kernel, by decide +kernel⟩
abbrev s_law_pick : Stmt := top 42
theorem sc_law_pick : FnScope ["_law_source_here", "_law_row"] ["_law_source_here", "_law_row"] (defScope s_law_pick) := ⟨rfl, rfl, rfl, by decide +kernel, rfl, by decide +kernel, by decide +kernel⟩
abbrev s_law_mixed : Stmt := top 43
theorem sc_law_mixed : FnScope ["_law_source_here", "_law_row", "_law_found", "_law_one"] ["_law_source_here", "_law_row"] (defScope s_law_mixed) := ⟨rfl, rfl, rfl, by decide +kernel, rfl, by decide +kernel, by decide +kernel⟩
abbrev s_law_index : Stmt := top 44
theorem sc_law_index : FnScope ["_law_one", "_law_at"] ["_law_one", "_law_at"] (defScope s_law_index) := ⟨rfl, rfl, rfl, by decide +kernel, rfl, by decide +kernel, by decide +kernel⟩
abbrev s_law_rows : Stmt := top 45
theorem sc_law_rows : FnScope ["_law_masks", "_law_other", "_law_one"] ["_law_masks"] (defScope s_law_rows) := ⟨rfl, rfl, rfl, by decide +kernel, rfl, by decide +kernel, by decide +kernel⟩
abbrev s_law_low : Stmt := top 46
theorem sc_law_low : FnScope ["_law_rows_here", "_law_x", "_law_y", "_law_some", "_law_z", "_law_w"] ["_law_rows_here", "_law_x", "_law_y"] (defScope s_law_low) := ⟨rfl, rfl, rfl, by decide +kernel, rfl, by decide +kernel, by decide +kernel⟩
abbrev s_law_up : Stmt := top 47
theorem sc_law_up : FnScope ["_law_rows_here", "_law_x", "_law_y", "_law_some", "_law_z", "_law_w"] ["_law_rows_here", "_law_x", "_law_y"] (defScope s_law_up) := ⟨rfl, rfl, rfl, by decide +kernel, rfl, by decide +kernel, by decide +kernel⟩
abbrev s_law_summed : Stmt := top 48
theorem sc_law_summed : FnScope ["_law_low_here", "_law_rows_here", "_law_high", "_law_many", "_law_found", "_law_k", "_law_row"] ["_law_low_here", "_law_rows_here", "_law_high"] (defScope s_law_summed) := ⟨rfl, rfl, rfl, by decide +kernel, rfl, by decide +kernel, by decide +kernel⟩
abbrev s_law_fault_walked : Stmt := top 49
theorem sc_law_fault_walked : FnScope ["_law_rows_here", "_law_fault", "_law_kind", "_law_five", "_law_x", "_law_least", "_law_y", "_law_z", "_law_greatest", "_law_pairs", "_law_p", "_law_q"] ["_law_rows_here", "_law_fault", "_law_kind"] (defScope s_law_fault_walked) := ⟨rfl, rfl, rfl, by decide +kernel, rfl, by decide +kernel, by decide +kernel⟩
abbrev s_law : Stmt := top 50
theorem sc_law : FnScope ["_law_script", "_law_source_here", "_law_way", "_law_inner", "_law_many", "_law_low_here", "_law_rows_here", "_law_found", "_law_fault", "_law_late", "_law_row", "_law_x", "_law_wide"] ["_law_script"] (defScope s_law) := ⟨rfl, rfl, rfl, by decide +kernel, rfl, by decide +kernel, by decide +kernel⟩
abbrev s_Board___init__ : Stmt := clsSt (top 38) 1
theorem sc_Board___init__ : FnScope ["self", "rows", "above", "row", "below"] ["self", "rows"] (defScope s_Board___init__) := ⟨rfl, rfl, rfl, by decide +kernel, rfl, by decide +kernel, by decide +kernel⟩
abbrev s_Board_chain : Stmt := clsSt (top 38) 2
theorem sc_Board_chain : FnScope ["cls", "size", "place"] ["cls", "size"] (defScope s_Board_chain) := ⟨rfl, rfl, rfl, by decide +kernel, rfl, by decide +kernel, by decide +kernel⟩
abbrev s_Board_fan : Stmt := clsSt (top 38) 4
theorem sc_Board_fan : FnScope ["size", "sides", "at"] ["size"] (defScope s_Board_fan) := ⟨rfl, rfl, rfl, by decide +kernel, rfl, by decide +kernel, by decide +kernel⟩
abbrev s_Board_rows : Stmt := clsSt (top 38) 7
theorem sc_Board_rows : FnScope ["self"] ["self"] (defScope s_Board_rows) := ⟨rfl, rfl, rfl, by decide +kernel, rfl, by decide +kernel, by decide +kernel⟩
abbrev s_Board_is_place : Stmt := clsSt (top 38) 8
theorem sc_Board_is_place : FnScope ["self", "value"] ["self", "value"] (defScope s_Board_is_place) := ⟨rfl, rfl, rfl, by decide +kernel, rfl, by decide +kernel, by decide +kernel⟩
abbrev s_Board_need_places : Stmt := clsSt (top 38) 9
theorem sc_Board_need_places : FnScope ["self", "places", "place"] ["self", "places"] (defScope s_Board_need_places) := ⟨rfl, rfl, rfl, by decide +kernel, rfl, by decide +kernel, by decide +kernel⟩
abbrev s_Board_is_below : Stmt := clsSt (top 38) 10
theorem sc_Board_is_below : FnScope ["self", "one", "other"] ["self", "one", "other"] (defScope s_Board_is_below) := ⟨rfl, rfl, rfl, by decide +kernel, rfl, by decide +kernel, by decide +kernel⟩
abbrev s_Board_low : Stmt := clsSt (top 38) 11
theorem sc_Board_low : FnScope ["self", "places"] ["self", "places"] (defScope s_Board_low) := ⟨rfl, rfl, rfl, by decide +kernel, rfl, by decide +kernel, by decide +kernel⟩
abbrev s_Board_up : Stmt := clsSt (top 38) 12
theorem sc_Board_up : FnScope ["self", "places"] ["self", "places"] (defScope s_Board_up) := ⟨rfl, rfl, rfl, by decide +kernel, rfl, by decide +kernel, by decide +kernel⟩
abbrev s_Board_spreads : Stmt := clsSt (top 38) 20
theorem sc_Board_spreads : FnScope ["self", "every", "one", "other", "last", "whole"] ["self"] (defScope s_Board_spreads) := ⟨rfl, rfl, rfl, by decide +kernel, rfl, by decide +kernel, by decide +kernel⟩
abbrev s_Board_turned : Stmt := clsSt (top 38) 21
theorem sc_Board_turned : FnScope ["self"] ["self"] (defScope s_Board_turned) := ⟨rfl, rfl, rfl, by decide +kernel, rfl, by decide +kernel, by decide +kernel⟩
abbrev s_Board_product : Stmt := clsSt (top 38) 22
theorem sc_Board_product : FnScope ["self", "other", "pairs", "one", "two", "x", "y"] ["self", "other"] (defScope s_Board_product) := ⟨rfl, rfl, rfl, by decide +kernel, rfl, by decide +kernel, by decide +kernel⟩
abbrev s_Board___len__ : Stmt := clsSt (top 38) 24
theorem sc_Board___len__ : FnScope ["self"] ["self"] (defScope s_Board___len__) := ⟨rfl, rfl, rfl, by decide +kernel, rfl, by decide +kernel, by decide +kernel⟩
abbrev s_FaultError_init : Stmt := clsSt (top 9) 0
theorem sc_FaultError_init : FnScope ["self", "code"] ["self", "code"] (defScope s_FaultError_init) := ⟨rfl, rfl, rfl, by decide +kernel, rfl, by decide +kernel, by decide +kernel⟩
abbrev s_InvalidBoard_init : Stmt := clsSt (top 11) 0
theorem sc_InvalidBoard_init : FnScope ["self"] ["self"] (defScope s_InvalidBoard_init) := ⟨rfl, rfl, rfl, by decide +kernel, rfl, by decide +kernel, by decide +kernel⟩
abbrev s_InvalidPlace_init : Stmt := clsSt (top 12) 0
theorem sc_InvalidPlace_init : FnScope ["self", "place"] ["self", "place"] (defScope s_InvalidPlace_init) := ⟨rfl, rfl, rfl, by decide +kernel, rfl, by decide +kernel, by decide +kernel⟩
abbrev s_TooManyPlaces_init : Stmt := clsSt (top 14) 0
theorem sc_TooManyPlaces_init : FnScope ["self", "limit"] ["self", "limit"] (defScope s_TooManyPlaces_init) := ⟨rfl, rfl, rfl, by decide +kernel, rfl, by decide +kernel, by decide +kernel⟩
structure Top (K : PySem.W.Frag) (mg : Str → Option Value) : Prop where
  b_ValueError : mg "ValueError" = none
  b_all : mg "all" = none
  b_bool : mg "bool" = none
  b_classmethod : mg "classmethod" = none
  b_enumerate : mg "enumerate" = none
  b_int : mg "int" = none
  b_isinstance : mg "isinstance" = none
  b_len : mg "len" = none
  b_list : mg "list" = none
  b_property : mg "property" = none
  b_range : mg "range" = none
  b_set : mg "set" = none
  b_sorted : mg "sorted" = none
  b_staticmethod : mg "staticmethod" = none
  b_str : mg "str" = none
  b_sum : mg "sum" = none
  b_tuple : mg "tuple" = none
  g_SHAPES : mg "SHAPES" = some (.ref (He.ga K "SHAPES"))
  t_SHAPES : ∀ H, SqT K H (He.ga K "SHAPES") [.str "ladder", .str "fan"]
  g_LETTERS : ∃ t, mg "LETTERS" = some (.str "abcdefgh" t)
  g_OPERATORS : mg "OPERATORS" = some (.ref (He.ga K "OPERATORS"))
  t_OPERATORS : ∀ H, SqT K H (He.ga K "OPERATORS") [.str "&", .str "|"]
  g_MAX_DEPTH : ∃ t, mg "MAX_DEPTH" = some (.int 5 t)
  g_MAX_SIZE : ∃ t, mg "MAX_SIZE" = some (.int 24 t)
  g_LONG_DEPTH : ∃ t, mg "LONG_DEPTH" = some (.int 9 t)
  g_LONG_SIZE : ∃ t, mg "LONG_SIZE" = some (.int 600 t)
  g_DIGITS : ∃ t, mg "DIGITS" = some (.str "01" t)
  c_FaultError : mg "FaultError" = some (.ref (He.ga K "FaultError"))
  c_InvalidTerm : mg "InvalidTerm" = some (.ref (He.ga K "InvalidTerm"))
  c_InvalidBoard : mg "InvalidBoard" = some (.ref (He.ga K "InvalidBoard"))
  c_InvalidPlace : mg "InvalidPlace" = some (.ref (He.ga K "InvalidPlace"))
  c_InvalidReading : mg "InvalidReading" = some (.ref (He.ga K "InvalidReading"))
  c_TooManyPlaces : mg "TooManyPlaces" = some (.ref (He.ga K "TooManyPlaces"))
  c_Board : mg "Board" = some (.ref (He.ga K "Board"))
  x_InvalidBoard : OwnX K "InvalidBoard" "FaultError"
  x_InvalidPlace : OwnX K "InvalidPlace" "FaultError"
  x_TooManyPlaces : OwnX K "TooManyPlaces" "FaultError"
  n_Board_lines : PySem.W.findIn K (.ref (He.ga K "Board")) "lines" = some none
  n_Board_lows : PySem.W.findIn K (.ref (He.ga K "Board")) "lows" = some none
  n_Board_ups : PySem.W.findIn K (.ref (He.ga K "Board")) "ups" = some none
  n_Board_least : PySem.W.findIn K (.ref (He.ga K "Board")) "least" = some none
  n_Board_greatest : PySem.W.findIn K (.ref (He.ga K "Board")) "greatest" = some none
  n_InvalidPlace_place : PySem.W.findIn K (.ref (He.ga K "InvalidPlace")) "place" = some none
  n_TooManyPlaces_limit : PySem.W.findIn K (.ref (He.ga K "TooManyPlaces")) "limit" = some none
  k_Board : Cls K (He.ga K "Board")
  mk_Board : Mk K (He.ga K "Board") (He.ma K (He.ga K "Board") "__init__")
  r_Board : ClX.CRead K (He.ga K "Board") (.type "type")
  m_Board_chain : ClX.CMet K (He.ga K "Board") (.type "type") "chain" (He.ma K (He.ga K "Board") "chain") (gAd K "classmethod" "Board" "chain")
  s_Board_fan : StatOf K (He.ga K "Board") "fan" (He.ma K (He.ga K "Board") "fan") (gAd K "staticmethod" "Board" "fan")
  m_Board_rows : Meth K (He.ga K "Board") "rows" (He.ma K (He.ga K "Board") "rows")
  m_Board_is_place : Meth K (He.ga K "Board") "is_place" (He.ma K (He.ga K "Board") "is_place")
  m_Board_need_places : Meth K (He.ga K "Board") "need_places" (He.ma K (He.ga K "Board") "need_places")
  m_Board_is_below : Meth K (He.ga K "Board") "is_below" (He.ma K (He.ga K "Board") "is_below")
  m_Board_low : Meth K (He.ga K "Board") "low" (He.ma K (He.ga K "Board") "low")
  m_Board_up : Meth K (He.ga K "Board") "up" (He.ma K (He.ga K "Board") "up")
  m_Board_spreads : Meth K (He.ga K "Board") "spreads" (He.ma K (He.ga K "Board") "spreads")
  m_Board_turned : Meth K (He.ga K "Board") "turned" (He.ma K (He.ga K "Board") "turned")
  m_Board_product : Meth K (He.ga K "Board") "product" (He.ma K (He.ga K "Board") "product")
  m_Board___len__ : Meth K (He.ga K "Board") "__len__" (He.ma K (He.ga K "Board") "__len__")
  v_Board_MAX_PLACES : ∃ u, ClX.CVal K (He.ga K "Board") (.type "type") "MAX_PLACES" (.int 60) u
  fe : FeC K "FaultError"
end FF

namespace FF
open PySem PySem.Spec PyProof.Rows L2
def d_wall : He.DefD := ⟨("_wall", none), "_wall", "_wall", defArgs s_wall, defBody s_wall, defScope s_wall, [], []⟩
def d_ladder_at : He.DefD := ⟨("ladder_at", none), "ladder_at", "ladder_at", defArgs s_ladder_at, defBody s_ladder_at, defScope s_ladder_at, [], []⟩
def d_fan_at : He.DefD := ⟨("fan_at", none), "fan_at", "fan_at", defArgs s_fan_at, defBody s_fan_at, defScope s_fan_at, [], []⟩
def d_find_fault : He.DefD := ⟨("find_fault", none), "find_fault", "find_fault", defArgs s_find_fault, defBody s_find_fault, defScope s_find_fault, [], []⟩
def d_are_places : He.DefD := ⟨("are_places", none), "are_places", "are_places", defArgs s_are_places, defBody s_are_places, defScope s_are_places, [], []⟩
def d_is_fault : He.DefD := ⟨("is_fault", none), "is_fault", "is_fault", defArgs s_is_fault, defBody s_is_fault, defScope s_is_fault, [], []⟩
def d_is_letter : He.DefD := ⟨("is_letter", none), "is_letter", "is_letter", defArgs s_is_letter, defBody s_is_letter, defScope s_is_letter, [], []⟩
def d_measured : He.DefD := ⟨("measured", none), "measured", "measured", defArgs s_measured, defBody s_measured, defScope s_measured, [], []⟩
def d_is_term : He.DefD := ⟨("is_term", none), "is_term", "is_term", defArgs s_is_term, defBody s_is_term, defScope s_is_term, [], [("max_depth", .int 5), ("max_size", .int 24)]⟩
def d_is_long_term : He.DefD := ⟨("is_long_term", none), "is_long_term", "is_long_term", defArgs s_is_long_term, defBody s_is_long_term, defScope s_is_long_term, [], []⟩
def d_need_long_term : He.DefD := ⟨("need_long_term", none), "need_long_term", "need_long_term", defArgs s_need_long_term, defBody s_need_long_term, defScope s_need_long_term, [], []⟩
def d_parts_of : He.DefD := ⟨("parts_of", none), "parts_of", "parts_of", defArgs s_parts_of, defBody s_parts_of, defScope s_parts_of, [], []⟩
def d_walked : He.DefD := ⟨("walked", none), "walked", "walked", defArgs s_walked, defBody s_walked, defScope s_walked, [], []⟩
def d_letters_in : He.DefD := ⟨("letters_in", none), "letters_in", "letters_in", defArgs s_letters_in, defBody s_letters_in, defScope s_letters_in, [], []⟩
def d_turned_rows : He.DefD := ⟨("turned_rows", none), "turned_rows", "turned_rows", defArgs s_turned_rows, defBody s_turned_rows, defScope s_turned_rows, [], []⟩
def d_mask_of : He.DefD := ⟨("mask_of", none), "mask_of", "mask_of", defArgs s_mask_of, defBody s_mask_of, defScope s_mask_of, [], []⟩
def d_is_square : He.DefD := ⟨("is_square", none), "is_square", "is_square", defArgs s_is_square, defBody s_is_square, defScope s_is_square, [], []⟩
def d_is_order : He.DefD := ⟨("is_order", none), "is_order", "is_order", defArgs s_is_order, defBody s_is_order, defScope s_is_order, [], []⟩
def d_meeting_places : He.DefD := ⟨("meeting_places", none), "meeting_places", "meeting_places", defArgs s_meeting_places, defBody s_meeting_places, defScope s_meeting_places, [], []⟩
def d_gathered : He.DefD := ⟨("gathered", none), "gathered", "gathered", defArgs s_gathered, defBody s_gathered, defScope s_gathered, [], []⟩
def d_law_source : He.DefD := ⟨("_law_source", none), "_law_source", "_law_source", defArgs s_law_source, defBody s_law_source, defScope s_law_source, [], []⟩
def d_law_take : He.DefD := ⟨("_law_take", none), "_law_take", "_law_take", defArgs s_law_take, defBody s_law_take, defScope s_law_take, [], []⟩
def d_law_pick : He.DefD := ⟨("_law_pick", none), "_law_pick", "_law_pick", defArgs s_law_pick, defBody s_law_pick, defScope s_law_pick, [], []⟩
def d_law_mixed : He.DefD := ⟨("_law_mixed", none), "_law_mixed", "_law_mixed", defArgs s_law_mixed, defBody s_law_mixed, defScope s_law_mixed, [], []⟩
def d_law_index : He.DefD := ⟨("_law_index", none), "_law_index", "_law_index", defArgs s_law_index, defBody s_law_index, defScope s_law_index, [], []⟩
def d_law_rows : He.DefD := ⟨("_law_rows", none), "_law_rows", "_law_rows", defArgs s_law_rows, defBody s_law_rows, defScope s_law_rows, [], []⟩
def d_law_low : He.DefD := ⟨("_law_low", none), "_law_low", "_law_low", defArgs s_law_low, defBody s_law_low, defScope s_law_low, [], []⟩
def d_law_up : He.DefD := ⟨("_law_up", none), "_law_up", "_law_up", defArgs s_law_up, defBody s_law_up, defScope s_law_up, [], []⟩
def d_law_summed : He.DefD := ⟨("_law_summed", none), "_law_summed", "_law_summed", defArgs s_law_summed, defBody s_law_summed, defScope s_law_summed, [], []⟩
def d_law_fault_walked : He.DefD := ⟨("_law_fault_walked", none), "_law_fault_walked", "_law_fault_walked", defArgs s_law_fault_walked, defBody s_law_fault_walked, defScope s_law_fault_walked, [], []⟩
def d_law : He.DefD := ⟨("law", none), "law", "law", defArgs s_law, defBody s_law, defScope s_law, [], []⟩
def d_FaultError_init : He.DefD := ⟨("FaultError", some "__init__"), "__init__", "FaultError.__init__", defArgs s_FaultError_init, defBody s_FaultError_init, defScope s_FaultError_init, [], []⟩
def d_InvalidBoard_init : He.DefD := ⟨("InvalidBoard", some "__init__"), "__init__", "InvalidBoard.__init__", defArgs s_InvalidBoard_init, defBody s_InvalidBoard_init, defScope s_InvalidBoard_init, [], []⟩
def d_InvalidPlace_init : He.DefD := ⟨("InvalidPlace", some "__init__"), "__init__", "InvalidPlace.__init__", defArgs s_InvalidPlace_init, defBody s_InvalidPlace_init, defScope s_InvalidPlace_init, [], []⟩
def d_TooManyPlaces_init : He.DefD := ⟨("TooManyPlaces", some "__init__"), "__init__", "TooManyPlaces.__init__", defArgs s_TooManyPlaces_init, defBody s_TooManyPlaces_init, defScope s_TooManyPlaces_init, [], []⟩
def d_Board___init__ : He.DefD := ⟨("Board", some "__init__"), "__init__", "Board.__init__", defArgs s_Board___init__, defBody s_Board___init__, defScope s_Board___init__, [], []⟩
def d_Board_rows : He.DefD := ⟨("Board", some "rows"), "rows", "Board.rows", defArgs s_Board_rows, defBody s_Board_rows, defScope s_Board_rows, [], []⟩
def d_Board_is_place : He.DefD := ⟨("Board", some "is_place"), "is_place", "Board.is_place", defArgs s_Board_is_place, defBody s_Board_is_place, defScope s_Board_is_place, [], []⟩
def d_Board_need_places : He.DefD := ⟨("Board", some "need_places"), "need_places", "Board.need_places", defArgs s_Board_need_places, defBody s_Board_need_places, defScope s_Board_need_places, [], []⟩
def d_Board_is_below : He.DefD := ⟨("Board", some "is_below"), "is_below", "Board.is_below", defArgs s_Board_is_below, defBody s_Board_is_below, defScope s_Board_is_below, [], []⟩
def d_Board_low : He.DefD := ⟨("Board", some "low"), "low", "Board.low", defArgs s_Board_low, defBody s_Board_low, defScope s_Board_low, [], []⟩
def d_Board_up : He.DefD := ⟨("Board", some "up"), "up", "Board.up", defArgs s_Board_up, defBody s_Board_up, defScope s_Board_up, [], []⟩
def d_Board_spreads : He.DefD := ⟨("Board", some "spreads"), "spreads", "Board.spreads", defArgs s_Board_spreads, defBody s_Board_spreads, defScope s_Board_spreads, [], []⟩
def d_Board_turned : He.DefD := ⟨("Board", some "turned"), "turned", "Board.turned", defArgs s_Board_turned, defBody s_Board_turned, defScope s_Board_turned, [], []⟩
def d_Board_product : He.DefD := ⟨("Board", some "product"), "product", "Board.product", defArgs s_Board_product, defBody s_Board_product, defScope s_Board_product, [], []⟩
def d_Board___len__ : He.DefD := ⟨("Board", some "__len__"), "__len__", "Board.__len__", defArgs s_Board___len__, defBody s_Board___len__, defScope s_Board___len__, [], []⟩
def g_Board_chain : GetD := ⟨"classmethod", "Board", "chain", ⟨("Board", some "chain"), "chain", "Board.chain", defArgs s_Board_chain, defBody s_Board_chain, defScope s_Board_chain, [], []⟩⟩
def g_Board_fan : GetD := ⟨"staticmethod", "Board", "fan", ⟨("Board", some "fan"), "fan", "Board.fan", defArgs s_Board_fan, defBody s_Board_fan, defScope s_Board_fan, [], []⟩⟩
def fp : List GetD := [g_Board_chain, g_Board_fan]
def fn : List He.DefD := [d_wall, d_ladder_at, d_fan_at, d_find_fault, d_are_places, d_is_fault, d_is_letter, d_measured, d_is_term, d_is_long_term, d_need_long_term, d_parts_of, d_walked, d_letters_in, d_turned_rows, d_mask_of, d_is_square, d_is_order, d_meeting_places, d_gathered, d_law_source, d_law_take, d_law_pick, d_law_mixed, d_law_index, d_law_rows, d_law_low, d_law_up, d_law_summed, d_law_fault_walked, d_law, d_FaultError_init, d_InvalidBoard_init, d_InvalidPlace_init, d_TooManyPlaces_init, d_Board___init__, d_Board_rows, d_Board_is_place, d_Board_need_places, d_Board_is_below, d_Board_low, d_Board_up, d_Board_spreads, d_Board_turned, d_Board_product, d_Board___len__]
def fa : List He.Fa := [.free "ValueError", .free "all", .free "bool", .free "classmethod", .free "enumerate", .free "int", .free "isinstance", .free "len", .free "list", .free "property", .free "range", .free "set", .free "sorted", .free "staticmethod", .free "str", .free "sum", .free "tuple", .glo "SHAPES", .str "LETTERS" "abcdefgh", .glo "OPERATORS", .int "MAX_DEPTH" 5, .int "MAX_SIZE" 24, .int "LONG_DEPTH" 9, .int "LONG_SIZE" 600, .str "DIGITS" "01", .glo "FaultError", .glo "InvalidTerm", .glo "InvalidBoard", .glo "InvalidPlace", .glo "InvalidReading", .glo "TooManyPlaces", .glo "Board", .noat "Board" "lines", .noat "Board" "lows", .noat "Board" "ups", .noat "Board" "least", .noat "Board" "greatest", .noat "InvalidPlace" "place", .noat "TooManyPlaces" "limit", .cls "Board", .mkr "Board", .meth "Board" "rows", .meth "Board" "is_place", .meth "Board" "need_places", .meth "Board" "is_below", .meth "Board" "low", .meth "Board" "up", .meth "Board" "spreads", .meth "Board" "turned", .meth "Board" "product", .meth "Board" "__len__", .glo "_wall", .glo "ladder_at", .glo "fan_at", .glo "find_fault", .glo "are_places", .glo "is_fault", .glo "is_letter", .glo "measured", .glo "is_term", .glo "is_long_term", .glo "need_long_term", .glo "parts_of", .glo "walked", .glo "letters_in", .glo "turned_rows", .glo "mask_of", .glo "is_square", .glo "is_order", .glo "meeting_places", .glo "gathered", .glo "_law_source", .glo "_law_take", .glo "_law_pick", .glo "_law_mixed", .glo "_law_index", .glo "_law_rows", .glo "_law_low", .glo "_law_up", .glo "_law_summed", .glo "_law_fault_walked", .glo "law"]
def ex (K : PySem.W.Frag) : Bool := He.tupB K "SHAPES" [.str "ladder", .str "fan"] && He.tupB K "OPERATORS" [.str "&", .str "|"] && ownXB K "InvalidBoard" "FaultError" && ownXB K "InvalidPlace" "FaultError" && ownXB K "TooManyPlaces" "FaultError" && readB K "Board" && clsB K "Board" "chain" && statB K "Board" "fan" && cvalB K "Board" "MAX_PLACES" 60 && feCB K "FaultError"
theorem top_of {K : PySem.W.Frag} {h : Heap} {mg : Str → Option Value} (X : K.In h) (G : h.Ns mainGlobals mg) (c : He.SaysD fa fn K) (e : ex K = true) : Top K mg where
  b_ValueError := He.free_ok X G (c.fact 0 (f := .free "ValueError") rfl)
  b_all := He.free_ok X G (c.fact 1 (f := .free "all") rfl)
  b_bool := He.free_ok X G (c.fact 2 (f := .free "bool") rfl)
  b_classmethod := He.free_ok X G (c.fact 3 (f := .free "classmethod") rfl)
  b_enumerate := He.free_ok X G (c.fact 4 (f := .free "enumerate") rfl)
  b_int := He.free_ok X G (c.fact 5 (f := .free "int") rfl)
  b_isinstance := He.free_ok X G (c.fact 6 (f := .free "isinstance") rfl)
  b_len := He.free_ok X G (c.fact 7 (f := .free "len") rfl)
  b_list := He.free_ok X G (c.fact 8 (f := .free "list") rfl)
  b_property := He.free_ok X G (c.fact 9 (f := .free "property") rfl)
  b_range := He.free_ok X G (c.fact 10 (f := .free "range") rfl)
  b_set := He.free_ok X G (c.fact 11 (f := .free "set") rfl)
  b_sorted := He.free_ok X G (c.fact 12 (f := .free "sorted") rfl)
  b_staticmethod := He.free_ok X G (c.fact 13 (f := .free "staticmethod") rfl)
  b_str := He.free_ok X G (c.fact 14 (f := .free "str") rfl)
  b_sum := He.free_ok X G (c.fact 15 (f := .free "sum") rfl)
  b_tuple := He.free_ok X G (c.fact 16 (f := .free "tuple") rfl)
  g_SHAPES := He.glo_ok X G (c.fact 17 (f := .glo "SHAPES") rfl)
  t_SHAPES := fun H => He.tupB_ok (vs := [.str "ladder", .str "fan"]) (by simp only [ex, Bool.and_eq_true] at e; simp only [e]) H
  g_LETTERS := He.str_ok X G (c.fact 18 (f := .str "LETTERS" "abcdefgh") rfl)
  g_OPERATORS := He.glo_ok X G (c.fact 19 (f := .glo "OPERATORS") rfl)
  t_OPERATORS := fun H => He.tupB_ok (vs := [.str "&", .str "|"]) (by simp only [ex, Bool.and_eq_true] at e; simp only [e]) H
  g_MAX_DEPTH := He.int_ok X G (c.fact 20 (f := .int "MAX_DEPTH" 5) rfl)
  g_MAX_SIZE := He.int_ok X G (c.fact 21 (f := .int "MAX_SIZE" 24) rfl)
  g_LONG_DEPTH := He.int_ok X G (c.fact 22 (f := .int "LONG_DEPTH" 9) rfl)
  g_LONG_SIZE := He.int_ok X G (c.fact 23 (f := .int "LONG_SIZE" 600) rfl)
  g_DIGITS := He.str_ok X G (c.fact 24 (f := .str "DIGITS" "01") rfl)
  c_FaultError := He.glo_ok X G (c.fact 25 (f := .glo "FaultError") rfl)
  c_InvalidTerm := He.glo_ok X G (c.fact 26 (f := .glo "InvalidTerm") rfl)
  c_InvalidBoard := He.glo_ok X G (c.fact 27 (f := .glo "InvalidBoard") rfl)
  c_InvalidPlace := He.glo_ok X G (c.fact 28 (f := .glo "InvalidPlace") rfl)
  c_InvalidReading := He.glo_ok X G (c.fact 29 (f := .glo "InvalidReading") rfl)
  c_TooManyPlaces := He.glo_ok X G (c.fact 30 (f := .glo "TooManyPlaces") rfl)
  c_Board := He.glo_ok X G (c.fact 31 (f := .glo "Board") rfl)
  x_InvalidBoard := ownXB_ok (by simp only [ex, Bool.and_eq_true] at e; simp only [e])
  x_InvalidPlace := ownXB_ok (by simp only [ex, Bool.and_eq_true] at e; simp only [e])
  x_TooManyPlaces := ownXB_ok (by simp only [ex, Bool.and_eq_true] at e; simp only [e])
  n_Board_lines := He.noat_ok (c.fact 32 (f := .noat "Board" "lines") rfl)
  n_Board_lows := He.noat_ok (c.fact 33 (f := .noat "Board" "lows") rfl)
  n_Board_ups := He.noat_ok (c.fact 34 (f := .noat "Board" "ups") rfl)
  n_Board_least := He.noat_ok (c.fact 35 (f := .noat "Board" "least") rfl)
  n_Board_greatest := He.noat_ok (c.fact 36 (f := .noat "Board" "greatest") rfl)
  n_InvalidPlace_place := He.noat_ok (c.fact 37 (f := .noat "InvalidPlace" "place") rfl)
  n_TooManyPlaces_limit := He.noat_ok (c.fact 38 (f := .noat "TooManyPlaces" "limit") rfl)
  k_Board := He.cls_ok (c.fact 39 (f := .cls "Board") rfl)
  mk_Board := He.mkr_ok (c.fact 40 (f := .mkr "Board") rfl)
  r_Board := readB_ok (by simp only [ex, Bool.and_eq_true] at e; simp only [e])
  m_Board_chain := clsB_ok (by simp only [ex, Bool.and_eq_true] at e; simp only [e])
  s_Board_fan := statB_ok (by simp only [ex, Bool.and_eq_true] at e; simp only [e])
  m_Board_rows := He.meth_ok (c.fact 41 (f := .meth "Board" "rows") rfl)
  m_Board_is_place := He.meth_ok (c.fact 42 (f := .meth "Board" "is_place") rfl)
  m_Board_need_places := He.meth_ok (c.fact 43 (f := .meth "Board" "need_places") rfl)
  m_Board_is_below := He.meth_ok (c.fact 44 (f := .meth "Board" "is_below") rfl)
  m_Board_low := He.meth_ok (c.fact 45 (f := .meth "Board" "low") rfl)
  m_Board_up := He.meth_ok (c.fact 46 (f := .meth "Board" "up") rfl)
  m_Board_spreads := He.meth_ok (c.fact 47 (f := .meth "Board" "spreads") rfl)
  m_Board_turned := He.meth_ok (c.fact 48 (f := .meth "Board" "turned") rfl)
  m_Board_product := He.meth_ok (c.fact 49 (f := .meth "Board" "product") rfl)
  m_Board___len__ := He.meth_ok (c.fact 50 (f := .meth "Board" "__len__") rfl)
  v_Board_MAX_PLACES := cvalB_ok (by simp only [ex, Bool.and_eq_true] at e; simp only [e])
  fe := feCB_ok (by simp only [ex, Bool.and_eq_true] at e; simp only [e])
def loose : List PySem.Str := [("_wall" : PySem.Str), ("SHAPES" : PySem.Str), ("ladder_at" : PySem.Str), ("fan_at" : PySem.Str), ("find_fault" : PySem.Str), ("are_places" : PySem.Str), ("is_fault" : PySem.Str), ("FaultError" : PySem.Str), ("InvalidTerm" : PySem.Str), ("InvalidBoard" : PySem.Str), ("InvalidPlace" : PySem.Str), ("InvalidReading" : PySem.Str), ("TooManyPlaces" : PySem.Str), ("LETTERS" : PySem.Str), ("OPERATORS" : PySem.Str), ("MAX_DEPTH" : PySem.Str), ("MAX_SIZE" : PySem.Str), ("LONG_DEPTH" : PySem.Str), ("LONG_SIZE" : PySem.Str), ("is_letter" : PySem.Str), ("measured" : PySem.Str), ("is_term" : PySem.Str), ("is_long_term" : PySem.Str), ("need_long_term" : PySem.Str), ("parts_of" : PySem.Str), ("walked" : PySem.Str), ("letters_in" : PySem.Str), ("DIGITS" : PySem.Str), ("turned_rows" : PySem.Str), ("mask_of" : PySem.Str), ("is_square" : PySem.Str), ("is_order" : PySem.Str), ("meeting_places" : PySem.Str), ("gathered" : PySem.Str), ("Board" : PySem.Str), ("_law_source" : PySem.Str), ("_law_take" : PySem.Str), ("_law_pick" : PySem.Str), ("_law_mixed" : PySem.Str), ("_law_index" : PySem.Str), ("_law_rows" : PySem.Str), ("_law_low" : PySem.Str), ("_law_up" : PySem.Str), ("_law_summed" : PySem.Str), ("_law_fault_walked" : PySem.Str)]
abbrev R : PySem.W.OpenRow := PySem.W.OpenLaw.row PySem.Challenge.rw_fivefault_k73_whole_large_boards_spread
abbrev hk : PySem.W.Hook := hookW 5 fa fn fp [] ex
def ob (s : PySem.W.SharedT) : AlZ := obsW 5 fa fn fp [] ex (HandSHeadRun.getT s)
theorem ob_eq (s : PySem.W.SharedT) : ob s = hk.obs s.abs := obsW_eq (HandSHeadRun.getT_eq s)
theorem run (w : World) : HandSHeadRun.RunEq R (PySem.W.view R.prog [50]) hk ob 20000 loose w := by
  intro os
  kernel_rfl
end FF
namespace FF
open PySem PySem.Spec PyProof.Rows L2
/-! ### the draws' source -/
def srcGood (c : Addr) (xs : List V) : Prop := ∃ pos big seed cnt : Int, xs = [.ref c, .int pos, .int big, .int seed, .int cnt] ∧ 0 ≤ pos ∧ 0 ≤ seed ∧ seed < 2147483629
/-- at s stands a source of draws -/
def Src (H : Hp) (s : Addr) : Prop := ∃ (c : Addr) (ns : List Int), H s = some (hid (srcGood c) s) ∧ H c = some (.lst (ns.map V.int))
theorem Src.up {H H' : Hp} {s : Addr} (e : Same H H') (h : Src H s) : Src H' s := by
  obtain ⟨c, ns, h1, h2⟩ := h
  exact ⟨c, ns, e _ _ h1, e _ _ h2⟩
def spTakeL : Sp := fun vs H Q _ => ∃ (s c : Addr) (many : Int) (xs : List V) (ns : List Int), vs = [.ref s, .int many] ∧ 0 < many ∧ many < 1073741824 ∧ H s = some (.lst xs) ∧ srcGood c xs ∧ H c = some (.lst (ns.map V.int)) ∧ c ≠ s ∧
  ∀ n ys, 0 ≤ n → n < many → srcGood c ys → Q (.int n) (upd H s (.lst ys))
/-- a draw: some number below many; nothing is seen to change -/
def spTake : Sp := fun vs H Q _ => ∃ (s : Addr) (many : Int), vs = [.ref s, .int many] ∧ 0 < many ∧ many < 1073741824 ∧ Src H s ∧ ∀ n, 0 ≤ n → n < many → Q (.int n) H
section
variable {P : Program} {w : World} {K : PySem.W.Frag} {mg : Str → Option Value} {base : Heap}
theorem ok_take {f : Addr} {fd : FuncData} (F : FunD K "_law_take" "_law_take" (defArgs s_law_take) (defBody s_law_take) (defScope s_law_take) [] [] f fd) (hm : mg "_law_take" = some (.ref f)) (T : Top K mg) : Def P w K mg base "_law_take" 1 ["_law_source_here", "_law_many"] spTakeL := by
  refine def_mk F hm (F.bindsN fun _ _ _ _ _ _ us hl => match us, hl with | [_, _], _ => rfl) sc_law_take (fun vs H Q E h => ?_) (fun cdv A outer s H vs Q E hr h => ?_)
  · obtain ⟨s, c, many, xs, ns, rfl, _⟩ := h
    rfl
  obtain ⟨s, c, many, xs, ns, rfl, m0, m1, hs, ⟨pos, big, seed, cnt, rfl, p0, s0, s1⟩, hc, ncs, q⟩ := h
  refine ⟨_, (C8.pss_cut (ps_if (PW.pt (pw_and (pt_cmpR op_eq (pe_ix (ix_listK K) (pv 0) pe_int (fun _ _ => rfl)) pe_int (nomark _)) (pw_and1 (pt_cmpR op_lt (pe_ix (ix_listK K) (pv 0) pe_int (fun _ _ => rfl)) (pe_callB (call_lenK K) (by rfl) T.b_len (by decide +kernel) (pa_cons (pe_ix (ix_listK K) (pv 0) pe_int (fun _ _ => rfl)) pa_nil)) (nomark _)))))
  (pss_cons (ps_set (i := 2) sc_law_take.nd rfl (Or.inl rfl) (pe_ix (ix_listK K) (pe_ix (ix_listK K) (pv 0) pe_int (fun _ _ => rfl)) (pe_ix (ix_listK K) (pv 0) pe_int (fun _ _ => rfl)) (fun _ _ => rfl)))
  (pss_cons (ps_asg (pe_op op_add (pe_ix (ix_listK K) (pv 0) pe_int (fun _ _ => rfl)) pe_int) (pg_sub (pv 0) pe_int set_list))
  (pss_one (ps_if (pt_cmpR op_ge (pv 2) (pe_op op_pow pe_int pe_int) (nomark _))
  (pss_one (ps_asg (pv 2) (pg_sub (pv 0) pe_int set_list)))
  (pss_one (ps_asg (pe_op op_mod (pe_callTy call_int1 (by rfl) T.b_int (by decide +kernel) (pa_cons (pe_op op_add (pe_op op_add (pe_op op_mul (pe_ix (ix_listK K) (pv 0) pe_int (fun _ _ => rfl)) pe_int) (pe_op op_mul (pe_op op_mod (pe_callTy call_int1 (by rfl) T.b_int (by decide +kernel) (pa_cons (pv 2) pa_nil)) pe_int) pe_int)) pe_int) pa_nil)) pe_int) (pg_sub (pv 0) pe_int set_list)))))))
  pss_nil)
  (pss_cons (ps_if (pt_cmpR op_gt (pe_ix (ix_listK K) (pv 0) pe_int (fun _ _ => rfl)) pe_int (nomark _))
  (pss_cons (ps_set (i := 3) sc_law_take.nd rfl (Or.inl rfl) (pe_op op_mod (pe_callTy call_int1 (by rfl) T.b_int (by decide +kernel) (pa_cons (pe_ix (ix_listK K) (pv 0) pe_int (fun _ _ => rfl)) pa_nil)) (pv 1)))
  (pss_cons (ps_asg (pe_op op_fdiv (pe_ix (ix_listK K) (pv 0) pe_int (fun _ _ => rfl)) (pv 1)) (pg_sub (pv 0) pe_int set_list))
  (pss_one (ps_ret (pv 3)))))
  pss_nil)
  (pss_cons (ps_asg (pe_op op_add (pe_ix (ix_listK K) (pv 0) pe_int (fun _ _ => rfl)) pe_int) (pg_sub (pv 0) pe_int set_list))
  (pss_cons (ps_set (i := 4) sc_law_take.nd rfl (Or.inl rfl) (pe_op op_add (pe_op op_mod (pe_callTy call_int1 (by rfl) T.b_int (by decide +kernel) (pa_cons (pe_op op_mul (pe_ix (ix_listK K) (pv 0) pe_int (fun _ _ => rfl)) (pe_ix (ix_listK K) (pv 0) pe_int (fun _ _ => rfl))) pa_nil)) pe_int) (pe_op op_mul pe_int (pe_ix (ix_listK K) (pv 0) pe_int (fun _ _ => rfl)))))
  (pss_cons (ps_asg (pe_op op_mod (pe_callTy call_int1 (by rfl) T.b_int (by decide +kernel) (pa_cons (pe_op op_add (pe_op op_add (pe_op op_mul (pv 4) pe_int) (pe_ix (ix_listK K) (pv 0) pe_int (fun _ _ => rfl))) pe_int) pa_nil)) pe_int) (pg_sub (pv 0) pe_int set_list))
  (pss_one (ps_ret (pe_op op_mod (pe_callTy call_int1 (by rfl) T.b_int (by decide +kernel) (pa_cons (pe_op op_add (pe_op op_fdiv (pe_ix (ix_listK K) (pv 0) pe_int (fun _ _ => rfl)) pe_int) (pe_op op_mul (pe_op op_mod (pe_callTy call_int1 (by rfl) T.b_int (by decide +kernel) (pa_cons (pe_ix (ix_listK K) (pv 0) pe_int (fun _ _ => rfl)) pa_nil)) pe_int) pe_int)) pa_nil)) (pv 1))))))))), ?_⟩
  refine ⟨fun σ' H' => ∃ (ys : List V) (oc : Option V), σ' = [some (.ref s), some (.int many), oc, none, none] ∧ H' = upd H s (.lst ys) ∧ srcGood c ys, ?_, ?_⟩
  · have skip : ∃ (ys : List V) (oc : Option V), ([some (.ref s), some (.int many), none, none, none] : L2.St) = [some (.ref s), some (.int many), oc, none, none] ∧ H = upd H s (.lst ys) ∧ srcGood c ys :=
      ⟨_, none, rfl, by
        funext b
        unfold upd
        split
        · next e => rw [e, hs]
        · rfl, pos, big, seed, cnt, rfl, p0, s0, s1⟩
    refine ⟨_, rfl, s, _, _, _, rfl, rfl, SqL.of hs, rfl, rfl, _, rfl, ?_⟩
    refine if_int (fun h1 => ?_) (fun h1 => skip)
    refine ⟨_, rfl, s, _, _, _, rfl, rfl, SqL.of hs, rfl, _, rfl, s, _, _, _, rfl, rfl, SqL.of hs, rfl, _, ns.length, rfl, .inl ⟨_, SqL.of hc, (List.length_map _).symm⟩, _, _, rfl, rfl, _, rfl, ?_⟩
    refine if_dec (fun h2 => ?_) (fun h2 => skip)
    have hp : pos.toNat < ns.length := by omega
    have hat : atI (ns.map V.int) pos = some (.int ns[pos.toNat]) := by
      have e : ((pos.toNat : Nat) : Int) = pos := by omega
      have h : atI (ns.map V.int) ((pos.toNat : Nat) : Int) = some (.int ns[pos.toNat]) := atI_nat (by rw [List.getElem?_map, List.getElem?_eq_getElem hp] <;> rfl)
      rw [e] at h
      exact h
    refine ⟨_, rfl, s, _, _, _, rfl, rfl, SqL.of hs, rfl, _, rfl, s, _, _, _, rfl, rfl, SqL.of hs, rfl, c, _, _, _, rfl, rfl, SqL.of hc, hat, ?_⟩
    refine ⟨_, rfl, s, _, _, _, rfl, rfl, SqL.of hs, rfl, _, _, rfl, rfl, _, rfl, s, _, _, 1, rfl, rfl, hs, rfl, ?_⟩
    refine ⟨_, rfl, _, _, rfl, rfl, ⟨by decide, by decide, by decide⟩, _, _, rfl, rfl, _, rfl, ?_⟩
    refine if_dec (fun h3 => ?_) (fun h3 => ?_)
    · refine ⟨_, rfl, _, rfl, s, _, _, 2, rfl, rfl, upd_same, rfl, ?_⟩
      rw [upd_upd]
      exact ⟨_, _, rfl, rfl, pos + 1, _, seed, cnt, rfl, by omega, s0, s1⟩
    · refine ⟨_, rfl, s, _, _, _, rfl, rfl, SqL.of upd_same, rfl, _, _, rfl, rfl, .inr ⟨by decide, by decide⟩, ?_⟩
      refine ⟨_, rfl, .inl ⟨_, rfl, _, _, rfl, rfl, (by show (0 : Int) < _; decide), _, _, rfl, rfl, .inr ⟨by decide, by decide⟩, _, _, rfl, rfl, _, _, rfl, rfl, .inl ⟨_, rfl, _, _, rfl, rfl, (by show (0 : Int) < _; decide), _, rfl, s, _, _, 3, rfl, rfl, upd_same, rfl, ?_⟩⟩⟩
      rw [upd_upd]
      exact ⟨_, _, rfl, rfl, pos + 1, _, _, cnt, rfl, by omega, Int.emod_nonneg _ (by decide), Int.emod_lt_of_pos _ (by decide)⟩
  · rintro _ _ ⟨_, oc, rfl, rfl, pos, big, seed, cnt, rfl, p0, s0, s1⟩
    refine ⟨_, rfl, s, _, _, _, rfl, rfl, SqL.of upd_same, rfl, _, _, rfl, rfl, _, rfl, ?_⟩
    refine if_dec (fun h1 => ?_) (fun h1 => ?_)
    · refine ⟨_, rfl, s, _, _, _, rfl, rfl, SqL.of upd_same, rfl, .inl ⟨_, rfl, _, rfl, _, _, rfl, rfl, m0, ?_⟩⟩
      refine ⟨_, rfl, s, _, _, _, rfl, rfl, SqL.of upd_same, rfl, _, rfl, _, _, rfl, rfl, ⟨m0, m1⟩, _, rfl, s, _, _, 2, rfl, rfl, upd_same, rfl, _, rfl, ?_⟩
      rw [upd_upd]
      exact q _ _ (Int.emod_nonneg _ (by omega)) (Int.emod_lt_of_pos _ m0) ⟨pos, _, seed, cnt, rfl, p0, s0, s1⟩
    · refine ⟨_, rfl, s, _, _, _, rfl, rfl, SqL.of upd_same, rfl, _, _, rfl, rfl, _, rfl, s, _, _, 4, rfl, rfl, upd_same, rfl, ?_⟩
      rw [upd_upd]
      refine ⟨_, rfl, s, _, _, _, rfl, rfl, SqL.of upd_same, rfl, _, rfl, s, _, _, _, rfl, rfl, SqL.of upd_same, rfl, _, _, rfl, rfl, .inl ⟨by omega, by omega⟩, .inl ⟨_, rfl, _, _, rfl, rfl, (by show (0 : Int) < _; decide), _, rfl, s, _, _, _, rfl, rfl, SqL.of upd_same, rfl, _, _, rfl, rfl, .inl ⟨by decide, by decide⟩, _, _, rfl, rfl, ?_⟩⟩
      refine ⟨_, rfl, _, _, rfl, rfl, .inr ⟨by decide, by decide⟩, _, rfl, s, _, _, _, rfl, rfl, SqL.of upd_same, rfl, _, _, rfl, rfl, _, _, rfl, rfl, .inl ⟨_, rfl, _, _, rfl, rfl, (by show (0 : Int) < _; decide), _, rfl, s, _, _, 3, rfl, rfl, upd_same, rfl, ?_⟩⟩
      rw [upd_upd]
      refine ⟨_, rfl, s, _, _, _, rfl, rfl, SqL.of upd_same, rfl, _, _, rfl, rfl, ⟨by decide, by decide⟩, _, rfl, s, _, _, _, rfl, rfl, SqL.of upd_same, rfl, .inl ⟨_, rfl, _, _, rfl, rfl, (by show (0 : Int) < _; decide), _, _, rfl, rfl, .inr ⟨by decide, by decide⟩, _, _, rfl, rfl, .inl ⟨_, rfl, _, rfl, _, _, rfl, rfl, m0, ?_⟩⟩⟩
      exact q _ _ (Int.emod_nonneg _ (by omega)) (Int.emod_lt_of_pos _ m0) ⟨pos, _, _, _, rfl, p0, Int.emod_nonneg _ (by decide), Int.emod_lt_of_pos _ (by decide)⟩
theorem take_hid (D : Def P w K mg base "_law_take" 1 ["_law_source_here", "_law_many"] spTakeL) : Def P w K mg base "_law_take" 1 ["_law_source_here", "_law_many"] spTake := by
  refine D.open_ (fun vs H Q E h => ?_) (fun vs H Q E h => ?_)
  · obtain ⟨s, many, rfl, _⟩ := h
    rfl
  · obtain ⟨s, many, rfl, m0, m1, ⟨c, ns, hs, hc⟩, q⟩ := h
    have ncs : c ≠ s := by
      intro e
      rw [e, hs] at hc
      cases hc
    refine ⟨s, srcGood c, hs, fun xs hg => ⟨s, c, many, xs, ns, rfl, m0, m1, upd_same, hg, by rw [upd_ne ncs]; exact hc, ncs, fun n ys n0 n1 hy => ⟨ys, upd_same, hy, ?_⟩⟩⟩
    rw [upd_upd, upd_back hs]
    exact q n n0 n1
end
end FF
namespace FF
open PySem PySem.Spec PyProof.Rows L2
theorem cutV_map {α : Type} {f : α → V} {l : List α} {lo hi : Option Int} : ∃ m : List α, cutV (l.map f) lo hi = m.map f ∧ m.length ≤ l.length := by
  refine ⟨(l.drop (HT.sIx l.length 0 lo)).take (HT.sIx l.length l.length hi - HT.sIx l.length 0 lo), ?_, ?_⟩
  · unfold cutV
    rw [List.length_map, List.map_take, List.map_drop]
  · rw [List.length_take, List.length_drop]
    omega
def spSourceL (K : PySem.W.Frag) : Sp := fun vs H Q _ => ∃ (a : Addr) (ns : List Int), vs = [.ref a] ∧ SqL K H a (ns.map V.int) ∧
  ∀ (r c : Addr) (ms : List Int) H', H r = none → Same H H' → H' r = some (.lst [.ref c, .int 0, .int 0, .int 3818, .int 0]) → H' c = some (.lst (ms.map V.int)) → r ≠ c → Q (.ref r) H'
def spSource (K : PySem.W.Frag) : Sp := fun vs H Q _ => ∃ (a : Addr) (ns : List Int), vs = [.ref a] ∧ SqL K H a (ns.map V.int) ∧ ∀ (r : Addr) H', Same H H' → Src H' r → Q (.ref r) H'
def spPick (K : PySem.W.Frag) : Sp := fun vs H Q _ => ∃ (s r : Addr) (xs : List V), vs = [.ref s, .ref r] ∧ Src H s ∧ SqL K H r xs ∧ xs ≠ [] ∧ xs.length ≤ 20000 ∧ ∀ v, v ∈ xs → Q v H
def spMixed (K : PySem.W.Frag) : Sp := fun vs H Q _ => ∃ (s r : Addr) (xs : List V), vs = [.ref s, .ref r] ∧ Src H s ∧ SqL K H r xs ∧ xs.length ≤ 20000 ∧
  ∀ (p : Addr) H' ys, H p = none → Same H H' → H' p = some (.lst ys) → ys.Perm xs → Q (.ref p) H'
section
variable {P : Program} {w : World} {K : PySem.W.Frag} {mg : Str → Option Value} {base : Heap}
theorem ok_source {f : Addr} {fd : FuncData} (F : FunD K "_law_source" "_law_source" (defArgs s_law_source) (defBody s_law_source) (defScope s_law_source) [] [] f fd) (hm : mg "_law_source" = some (.ref f)) (T : Top K mg) : Def P w K mg base "_law_source" 1 ["_law_script"] (spSource K) := by
  have D : Def P w K mg base "_law_source" 1 ["_law_script"] (spSourceL K) := by
    refine def_mk F hm (F.bindsN fun _ _ _ _ _ _ us hl => match us, hl with | [_], _ => rfl) sc_law_source (fun vs H Q E h => ?_) (fun cdv A outer s H vs Q E hr h => ?_)
    · obtain ⟨a, ns, rfl, _⟩ := h
      rfl
    obtain ⟨a, ns, rfl, hS, q⟩ := h
    refine ⟨_, (pss_one (ps_ret (pe_lst (pa_cons (pe_callTy (call_list_ofK K) (by rfl) T.b_list (by decide +kernel) (pa_cons (pe_slice (sl_listK K) (pv 0) po_none (po_some pe_int)) pa_nil)) (pa_cons pe_int (pa_cons pe_int (pa_cons pe_int (pa_cons pe_int pa_nil)))))))), ?_⟩
    refine ⟨_, rfl, 63, rfl, a, _, rfl, hS, fun p hp => ⟨p, _, rfl, .inl (SqL.of upd_same), fun l hl => ⟨(by show 5 ≤ sizeLine; decide), fun r hr0 => ?_⟩⟩⟩
    obtain ⟨ms, hms, _⟩ := cutV_map (f := V.int) (l := ns) (lo := none) (hi := some 63)
    rw [hms] at hl hr0 ⊢
    have e1 := same_new hp (.lst (ms.map V.int))
    have e2 := same_new hl (.lst (ms.map V.int))
    have e3 := same_new hr0 (.lst [.ref l, .int 0, .int 0, .int 3818, .int 0])
    have nrl : r ≠ l := fun z => by rw [z, upd_same] at hr0; cases hr0
    exact q r l ms _ ((e1.trans e2).free hr0) ((e1.trans e2).trans e3) upd_same (by rw [upd_ne nrl.symm]; exact upd_same) nrl
  refine D.shut_ (fun vs H Q E h => ?_) (fun vs H Q E h => ?_)
  · obtain ⟨a, ns, rfl, _⟩ := h
    rfl
  · obtain ⟨a, ns, rfl, hS, q⟩ := h
    refine ⟨a, ns, rfl, hS, fun r c ms H' hr0 e hr1 hc nrc => ⟨r, srcGood c, _, hr0, hr1, ⟨0, 0, 3818, 0, rfl, by omega, by omega, by omega⟩, ?_⟩⟩
    refine q r _ (fun b o h => ?_) ⟨c, ms, upd_same, by rw [upd_ne nrc.symm]; exact hc⟩
    rw [upd_ne (ne_of_none h hr0)]
    exact e _ _ h
theorem ok_pick {f : Addr} {fd : FuncData} (F : FunD K "_law_pick" "_law_pick" (defArgs s_law_pick) (defBody s_law_pick) (defScope s_law_pick) [] [] f fd) (hm : mg "_law_pick" = some (.ref f)) (T : Top K mg)
    (D_law_take : Def P w K mg base "_law_take" 1 ["_law_source_here", "_law_many"] spTake) : Def P w K mg base "_law_pick" 2 ["_law_source_here", "_law_row"] (spPick K) := by
  refine def_mk F hm (F.bindsN fun _ _ _ _ _ _ us hl => match us, hl with | [_, _], _ => rfl) sc_law_pick (fun vs H Q E h => ?_) (fun cdv A outer s H vs Q E hr h => ?_)
  · obtain ⟨s, r, xs, rfl, _⟩ := h
    rfl
  obtain ⟨s, r, xs, rfl, hs, hx, hn, hz, q⟩ := h
  have hl : 0 < xs.length := List.length_pos_iff.mpr hn
  refine ⟨_, (pss_one (ps_ret (pe_ix (ix_listK K) (pv 1) (pe_def D_law_take hr (by first | decide | omega) (pa_cons (pv 0) (pa_cons (pe_callB (call_lenK K) (by rfl) T.b_len (by decide +kernel) (pa_cons (pv 1) pa_nil)) pa_nil))) (fun _ _ => rfl)))), ?_⟩
  refine ⟨_, rfl, _, rfl, _, rfl, _, xs.length, rfl, .inl ⟨_, hx, rfl⟩, s, _, rfl, by omega, by omega, hs, fun k k0 k1 => ?_⟩
  have hk : k.toNat < xs.length := by omega
  have hat : atI xs k = some xs[k.toNat] := by
    have e : ((k.toNat : Nat) : Int) = k := by omega
    have h : atI xs ((k.toNat : Nat) : Int) = some xs[k.toNat] := atI_nat (List.getElem?_eq_getElem hk)
    rw [e] at h
    exact h
  exact ⟨r, xs, k, _, rfl, rfl, hx, hat, q _ (List.getElem_mem hk)⟩
theorem ok_mixed {f : Addr} {fd : FuncData} (F : FunD K "_law_mixed" "_law_mixed" (defArgs s_law_mixed) (defBody s_law_mixed) (defScope s_law_mixed) [] [] f fd) (hm : mg "_law_mixed" = some (.ref f)) (T : Top K mg)
    (D_law_take : Def P w K mg base "_law_take" 1 ["_law_source_here", "_law_many"] spTake) : Def P w K mg base "_law_mixed" 2 ["_law_source_here", "_law_row"] (spMixed K) := by
  refine def_mk F hm (F.bindsN fun _ _ _ _ _ _ us hl => match us, hl with | [_, _], _ => rfl) sc_law_mixed (fun vs H Q E h => ?_) (fun cdv A outer s H vs Q E hr h => ?_)
  · obtain ⟨s, r, xs, rfl, _⟩ := h
    rfl
  obtain ⟨s, r, xs, rfl, hs, hx, hz, q⟩ := h
  refine ⟨_, (pss_cons (ps_set (i := 2) sc_law_mixed.nd rfl (Or.inl rfl) (pe_lst pa_nil))
  (pss_cons (ps_for PassesOwn.never rfl (pi_listK K (pv 1)) (pg_name (i := 3) sc_law_mixed.nd rfl (Or.inl rfl) (.inl rfl))
  (pss_one (ps_expr (pe_bmK K PySem.F.plainAttrs_list PySem.F.slot_list_insert PySem.F.type_list_insert mt_insert (pv 2) (pa_cons (pe_def D_law_take hr (by first | decide | omega) (pa_cons (pv 0) (pa_cons (pe_op op_add (pe_callB (call_lenK K) (by rfl) T.b_len (by decide +kernel) (pa_cons (pv 2) pa_nil)) pe_int) pa_nil))) (pa_cons (pv 3) pa_nil))))))
  (pss_one (ps_ret (pv 2))))), ?_⟩
  refine ⟨by decide, fun p hp => ?_⟩
  have e1 := same_new hp (.lst [])
  refine ⟨_, rfl, r, rfl, ⟨_, up_l e1 hx⟩, for_list (K := K) (a := r) (xs := xs) (fun i σ H' => ∃ (ys : List V) (o : Option V), σ = [some (.ref s), some (.ref r), some (.ref p), o] ∧ Same H H' ∧ H' p = some (.lst ys) ∧ ys.Perm (xs.take i))
    ⟨[], none, rfl, e1, upd_same, by rw [List.take_zero]⟩ (fun i σ H' _ ⟨_, _, _, e, _⟩ => up_l e hx) ?_ ?_⟩
  · rintro i x σ H' hi ⟨ys, o, rfl, e, hp1, hperm⟩
    have hi2 := (List.getElem?_eq_some_iff.mp hi).1
    have hyl : ys.length = i := by
      rw [hperm.length_eq, List.length_take]
      omega
    refine ⟨_, rfl, .inl ⟨rfl, _, SqL.of hp1⟩, _, rfl, _, rfl, _, ys.length, rfl, .inl ⟨_, SqL.of hp1, rfl⟩, _, _, rfl, rfl, s, _, rfl, by omega, by omega, hs.up e, fun k k0 k1 => ?_⟩
    refine ⟨_, rfl, p, ys, k, x, rfl, rfl, hp1, lt_line (by omega), k0, by omega, ?_⟩
    refine ⟨_, _, rfl, fun b o2 h => ?_, upd_same, ?_⟩
    · rw [upd_ne (ne_of_none h hp)]
      exact e _ _ h
    · rw [List.take_succ, hi]
      have h1 : (ys.take k.toNat ++ [x] ++ ys.drop k.toNat).Perm (x :: ys) := by
        rw [List.append_assoc]
        refine List.perm_middle.trans ?_
        show (x :: (ys.take k.toNat ++ ys.drop k.toNat)).Perm _
        rw [List.take_append_drop]
      refine h1.trans ?_
      refine (List.Perm.cons x hperm).trans ?_
      exact (List.perm_append_singleton x (xs.take i)).symm
  · rintro σ H' ⟨ys, o, rfl, e, hp1, hperm⟩
    rw [List.take_length] at hperm
    exact ⟨_, rfl, q p H' ys hp e hp1 hperm⟩
end
end FF
namespace FF
open PySem PySem.Spec PyProof.Rows L2
section
variable {P : Program} {w : World} {K : PySem.W.Frag} {mg : Str → Option Value} {base : Heap}
theorem fn_fe {f : Addr} {fd : FuncData} (F : FunD K "__init__" "FaultError.__init__" (defArgs s_FaultError_init) (defBody s_FaultError_init) (defScope s_FaultError_init) [] [] f fd) (T : Top K mg) : FnOk P w K mg base CX0 1 f fd ["self", "code"] (spFE K) := by
  refine FunD.ok F sc_FaultError_init (fun vs H Q E h => ?_) (fun cdv A outer s0 H vs Q E hr h => ?_)
  · obtain ⟨a, C, z, rfl, _⟩ := h
    rfl
  obtain ⟨a, C, z, rfl, hC, hno, ha, q⟩ := h
  refine ⟨_, PSs.nox (pss_cons (ps_expr (pe_veinit (by rfl) T.b_ValueError T.fe.ve (pa_cons (pv 0) (pa_cons (pv 1) pa_nil)))) (pss_one (ps_ost (pv 0) (pv 1)))), ?_⟩
  refine ⟨_, rfl, _, rfl, a, C, [z], rfl, (show 1 ≤ 1000 by decide), hC, ha, ?_⟩
  exact ⟨_, rfl, _, rfl, a, C, rfl, hC, hno, .inl ⟨ha, fun dx hdx hne => q dx hdx hne⟩⟩
theorem fn_InvalidBoard {f : Addr} {fd fdg : FuncData} (F : FunD K "__init__" "InvalidBoard.__init__" (defArgs s_InvalidBoard_init) (defBody s_InvalidBoard_init) (defScope s_InvalidBoard_init) [] [] f fd) (T : Top K mg)
    (FE : FnOk P w K mg base CX0 1 (He.ma K (He.ga K "FaultError") "__init__") fdg ["self", "code"] (spFE K)) (hb : Binds K fdg ["self", "code"] []) : FnOk P w K mg base CX0 2 f fd ["self"] (spIni K "InvalidBoard") := by
  refine FunD.ok F sc_InvalidBoard_init (fun vs H Q E h => ?_) (fun cdv A outer s0 H vs Q E hr h => ?_)
  · obtain ⟨a, C, rfl, _⟩ := h
    rfl
  obtain ⟨a, C, rfl, hC, hno, ha, q⟩ := h
  refine ⟨_, PSs.nox (pss_one (ps_expr (pe_clsfn (by rfl) T.c_FaultError T.fe.rd ⟨T.fe.at_, rfl⟩ FE hr T.fe.kp hb pass0 (pa_cons (pv 0) (pa_cons pe_str pa_nil))))), ?_⟩
  exact ⟨_, rfl, a, C, _, rfl, hC, hno, ha, q⟩
theorem fn_InvalidPlace {f : Addr} {fd fdg : FuncData} (F : FunD K "__init__" "InvalidPlace.__init__" (defArgs s_InvalidPlace_init) (defBody s_InvalidPlace_init) (defScope s_InvalidPlace_init) [] [] f fd) (T : Top K mg)
    (FE : FnOk P w K mg base CX0 1 (He.ma K (He.ga K "FaultError") "__init__") fdg ["self", "code"] (spFE K)) (hb : Binds K fdg ["self", "code"] []) : FnOk P w K mg base CX0 2 f fd ["self", "place"] (spIni1 K "InvalidPlace" "place") := by
  refine FunD.ok F sc_InvalidPlace_init (fun vs H Q E h => ?_) (fun cdv A outer s0 H vs Q E hr h => ?_)
  · obtain ⟨a, C, y, rfl, _⟩ := h
    rfl
  obtain ⟨a, C, y, rfl, hC, hno, hnf, ha, q⟩ := h
  refine ⟨_, PSs.nox (pss_cons (ps_expr (pe_clsfn (by rfl) T.c_FaultError T.fe.rd ⟨T.fe.at_, rfl⟩ FE hr T.fe.kp hb pass0 (pa_cons (pv 0) (pa_cons pe_str pa_nil)))) (pss_one (ps_ost (pv 0) (pv 1)))), ?_⟩
  refine ⟨_, rfl, a, C, _, rfl, hC, hno, ha, fun dx hdx hne => ?_⟩
  exact ⟨_, rfl, _, rfl, a, C, rfl, hC, hnf, .inr ⟨dx, [("code", .str "InvalidPlace")], upd_same, by rw [upd_ne hne, upd_same], (show 1 ≤ 900 by decide), q dx hdx hne⟩⟩
theorem fn_TooManyPlaces {f : Addr} {fd fdg : FuncData} (F : FunD K "__init__" "TooManyPlaces.__init__" (defArgs s_TooManyPlaces_init) (defBody s_TooManyPlaces_init) (defScope s_TooManyPlaces_init) [] [] f fd) (T : Top K mg)
    (FE : FnOk P w K mg base CX0 1 (He.ma K (He.ga K "FaultError") "__init__") fdg ["self", "code"] (spFE K)) (hb : Binds K fdg ["self", "code"] []) : FnOk P w K mg base CX0 2 f fd ["self", "limit"] (spIni1 K "TooManyPlaces" "limit") := by
  refine FunD.ok F sc_TooManyPlaces_init (fun vs H Q E h => ?_) (fun cdv A outer s0 H vs Q E hr h => ?_)
  · obtain ⟨a, C, y, rfl, _⟩ := h
    rfl
  obtain ⟨a, C, y, rfl, hC, hno, hnf, ha, q⟩ := h
  refine ⟨_, PSs.nox (pss_cons (ps_expr (pe_clsfn (by rfl) T.c_FaultError T.fe.rd ⟨T.fe.at_, rfl⟩ FE hr T.fe.kp hb pass0 (pa_cons (pv 0) (pa_cons pe_str pa_nil)))) (pss_one (ps_ost (pv 0) (pv 1)))), ?_⟩
  refine ⟨_, rfl, a, C, _, rfl, hC, hno, ha, fun dx hdx hne => ?_⟩
  exact ⟨_, rfl, _, rfl, a, C, rfl, hC, hnf, .inr ⟨dx, [("code", .str "TooManyPlaces")], upd_same, by rw [upd_ne hne, upd_same], (show 1 ≤ 900 by decide), q dx hdx hne⟩⟩
end
end FF
/-! boards: what the program and the law compute of rows of digits -/
namespace FF
open PySem PySem.Spec PyProof.Rows L2
abbrev tl (z : Str) : List Nat := z.cps.toList
/-! ### masks -/
def ofBits : List Nat → Nat
  | [] => 0
  | c :: r => Hx.hv c + 2 * ofBits r
theorem binNum_app (a b : List Nat) : Bn.binNum (a ++ b) = b.foldl (fun a c => a * 2 + Hx.hv c) (Bn.binNum a) := List.foldl_append
theorem binNum_rev : ∀ l : List Nat, Bn.binNum l.reverse = ofBits l
  | [] => rfl
  | c :: r => by
    rw [List.reverse_cons, binNum_app]
    show Bn.binNum r.reverse * 2 + Hx.hv c = _
    rw [binNum_rev r]
    show _ = Hx.hv c + 2 * ofBits r
    omega
def maskN (t : Str) : Nat := ofBits (tl t)
def Bits (l : List Nat) : Prop := ∀ c ∈ l, c = 48 ∨ c = 49
theorem bits_test : ∀ {l : List Nat} (_ : Bits l) (k : Nat), (ofBits l).testBit k = (l[k]? == some 49)
  | [], _, k => by
    show (0 : Nat).testBit k = _
    rw [Nat.zero_testBit]
    simp
  | c :: r, h, k => by
    have hc := h c List.mem_cons_self
    have hr : Bits r := fun d hd => h d (List.mem_cons_of_mem _ hd)
    show (Hx.hv c + 2 * ofBits r).testBit k = _
    cases k with
    | zero =>
      rw [Nat.testBit_zero]
      rcases hc with rfl | rfl
      · rw [show Hx.hv 48 = 0 by decide]
        have : (0 + 2 * ofBits r) % 2 = 0 := by omega
        rw [this] <;> rfl
      · rw [show Hx.hv 49 = 1 by decide]
        have : (1 + 2 * ofBits r) % 2 = 1 := by omega
        rw [this] <;> rfl
    | succ k =>
      rw [Nat.testBit_succ]
      have : (Hx.hv c + 2 * ofBits r) / 2 = ofBits r := by
        rcases hc with rfl | rfl
        · rw [show Hx.hv 48 = 0 by decide]
          omega
        · rw [show Hx.hv 49 = 1 by decide]
          omega
      rw [this, bits_test hr k]
      rfl
/-! ### rows -/
def digB (r : Str) : Bool := (tl r).all fun c => c == 48 || c == 49
def sqB (rs : List Str) : Bool := (decide (1 ≤ rs.length) && decide (rs.length ≤ 60)) && rs.all fun r => decide (r.length = rs.length) && digB r
/-- row x has a 1 at place y -/
def bit (rs : List Str) (x y : Nat) : Bool := match rs[x]? with
  | some r => (tl r)[y]? == some 49
  | none => false
def colS (rs : List Str) (j : Nat) : Str := ⟨(rs.map fun r => (tl r).getD j 0).toArray⟩
def cols (rs : List Str) : List Str := (List.range rs.length).map (colS rs)
def above (rs : List Str) : List Nat := rs.map maskN
def below (rs : List Str) : List Nat := (cols rs).map maskN
structure Sq (rs : List Str) : Prop where
  pos : 1 ≤ rs.length
  le : rs.length ≤ 60
  len : ∀ r ∈ rs, r.length = rs.length
  dig : ∀ r ∈ rs, Bits (tl r)
theorem digB_iff {r : Str} : digB r = true ↔ Bits (tl r) := by
  unfold digB Bits
  rw [List.all_eq_true]
  constructor
  · intro h c hc
    have := h c hc
    rw [Bool.or_eq_true, beq_iff_eq, beq_iff_eq] at this
    exact this
  · intro h c hc
    rw [Bool.or_eq_true, beq_iff_eq, beq_iff_eq]
    exact h c hc
theorem sq_iff {rs : List Str} : sqB rs = true ↔ Sq rs := by
  unfold sqB
  rw [Bool.and_eq_true, Bool.and_eq_true, decide_eq_true_eq, decide_eq_true_eq, List.all_eq_true]
  constructor
  · rintro ⟨⟨a, b⟩, c⟩
    refine ⟨a, b, fun r hr => ?_, fun r hr => ?_⟩
    · exact of_decide_eq_true ((Bool.and_eq_true _ _).mp (c r hr)).1
    · exact digB_iff.mp ((Bool.and_eq_true _ _).mp (c r hr)).2
  · rintro ⟨a, b, c, d⟩
    exact ⟨⟨a, b⟩, fun r hr => by rw [decide_eq_true (c r hr), digB_iff.mpr (d r hr)] <;> rfl⟩
theorem above_bit {rs : List Str} (h : Sq rs) {x m : Nat} (hm : (above rs)[x]? = some m) (y : Nat) : m.testBit y = bit rs x y := by
  unfold above at hm
  rw [List.getElem?_map] at hm
  obtain ⟨r, hr, rfl⟩ := Option.map_eq_some_iff.mp hm
  unfold bit maskN
  rw [hr]
  exact bits_test (h.dig r (List.mem_of_getElem? hr)) y
theorem col_get {rs : List Str} (h : Sq rs) {x y : Nat} (hx : x < rs.length) (hy : y < rs.length) : (tl (colS rs y))[x]? = (rs[x]?).bind fun r => (tl r)[y]? := by
  show (rs.map fun r => (tl r).getD y 0)[x]? = _
  rw [List.getElem?_map, List.getElem?_eq_getElem hx]
  show some ((tl rs[x]).getD y 0) = (tl rs[x])[y]?
  have hl : y < (tl rs[x]).length := by
    have := h.len rs[x] (List.getElem_mem hx)
    show y < rs[x].length
    omega
  rw [List.getElem?_eq_getElem hl, List.getD_eq_getElem?_getD, List.getElem?_eq_getElem hl] <;> rfl
theorem col_dig {rs : List Str} (h : Sq rs) {y : Nat} (hy : y < rs.length) : Bits (tl (colS rs y)) := by
  intro c hc
  obtain ⟨r, hr, rfl⟩ := List.mem_map.mp (show c ∈ rs.map fun r => (tl r).getD y 0 from hc)
  have hl : y < (tl r).length := by
    have := h.len r hr
    show y < r.length
    omega
  rw [List.getD_eq_getElem?_getD, List.getElem?_eq_getElem hl]
  exact h.dig r hr _ (List.getElem_mem hl)
theorem below_bit {rs : List Str} (h : Sq rs) {y m : Nat} (hm : (below rs)[y]? = some m) {x : Nat} (hx : x < rs.length) : m.testBit x = bit rs x y := by
  unfold below cols at hm
  rw [List.map_map, List.getElem?_map] at hm
  obtain ⟨j, hj, rfl⟩ := Option.map_eq_some_iff.mp hm
  have hy : y < rs.length := by
    have := (List.getElem?_eq_some_iff.mp hj).1
    rwa [List.length_range] at this
  rw [List.getElem?_range hy] at hj
  cases hj
  show (ofBits (tl (colS rs y))).testBit x = _
  rw [bits_test (col_dig h hy), col_get h hx hy]
  unfold bit
  rw [List.getElem?_eq_getElem hx] <;> rfl
theorem bit_lt {rs : List Str} (h : Sq rs) {x y : Nat} (hb : bit rs x y = true) : x < rs.length ∧ y < rs.length := by
  unfold bit at hb
  cases e : rs[x]? with
  | none =>
    rw [e] at hb
    cases hb
  | some r =>
    rw [e] at hb
    have hx := (List.getElem?_eq_some_iff.mp e).1
    have h2 : (tl r)[y]? = some 49 := eq_of_beq hb
    have hy := (List.getElem?_eq_some_iff.mp h2).1
    have := h.len r (List.mem_of_getElem? e)
    refine ⟨hx, ?_⟩
    have e2 : (tl r).length = r.length := rfl
    omega
/-! ### orders, as the program asks -/
def ordStep (p m o s : Nat) : Bool := !(m.testBit o && ((s ||| m) != m || (o != p && s == m)))
def ordIn (ms : List Nat) (p m : Nat) : Bool := m.testBit p && (List.range ms.length).all fun o => ordStep p m o (ms.getD o 0)
def ordB (ms : List Nat) : Bool := (List.range ms.length).all fun p => ordIn ms p (ms.getD p 0)
structure Ord (n : Nat) (le : Nat → Nat → Bool) : Prop where
  refl : ∀ x, x < n → le x x = true
  trans : ∀ x y z, x < n → y < n → z < n → le x y = true → le y z = true → le x z = true
  anti : ∀ x y, x < n → y < n → le x y = true → le y x = true → x = y
theorem or_sub {s m : Nat} : (s ||| m) = m ↔ ∀ k, s.testBit k = true → m.testBit k = true := by
  constructor
  · intro h k hk
    rw [← h, Nat.testBit_or, hk, Bool.true_or]
  · intro h
    refine Nat.eq_of_testBit_eq fun k => ?_
    rw [Nat.testBit_or]
    cases hs : s.testBit k with
    | false => rw [Bool.false_or]
    | true => rw [h k hs, Bool.or_true]
theorem above_get {rs : List Str} {x : Nat} (hx : x < rs.length) : (above rs)[x]? = some ((above rs).getD x 0) := by
  have hl : x < (above rs).length := by unfold above; rwa [List.length_map]
  rw [List.getD_eq_getElem?_getD, List.getElem?_eq_getElem hl] <;> rfl
theorem below_len {rs : List Str} : (below rs).length = rs.length := by
  unfold below cols
  rw [List.length_map, List.length_map, List.length_range]
theorem above_len {rs : List Str} : (above rs).length = rs.length := by
  unfold above
  rw [List.length_map]
theorem below_get {rs : List Str} {x : Nat} (hx : x < rs.length) : (below rs)[x]? = some ((below rs).getD x 0) := by
  have hl : x < (below rs).length := by rwa [below_len]
  rw [List.getD_eq_getElem?_getD, List.getElem?_eq_getElem hl] <;> rfl
theorem ord_iff {rs : List Str} (h : Sq rs) : ordB (above rs) = true ↔ Ord rs.length (bit rs) := by
  have bt : ∀ x y, x < rs.length → ((above rs).getD x 0).testBit y = bit rs x y := fun x y hx => above_bit h (above_get hx) y
  have sub : ∀ x y, x < rs.length → y < rs.length → ((((above rs).getD y 0) ||| ((above rs).getD x 0)) = (above rs).getD x 0 ↔ ∀ z, bit rs y z = true → bit rs x z = true) := fun x y hx hy => by
    rw [or_sub]
    exact ⟨fun q z hz => by rw [← bt x z hx]; exact q z (by rw [bt y z hy]; exact hz), fun q z hz => by rw [bt x z hx]; exact q z (by rw [← bt y z hy]; exact hz)⟩
  unfold ordB ordIn
  rw [above_len, List.all_eq_true]
  constructor
  · intro q
    have r1 : ∀ x, x < rs.length → bit rs x x = true := fun x hx => by
      have := ((Bool.and_eq_true _ _).mp (q x (List.mem_range.mpr hx))).1
      rwa [bt x x hx] at this
    have r2 : ∀ x y, x < rs.length → y < rs.length → bit rs x y = true → (∀ z, bit rs y z = true → bit rs x z = true) ∧ (y = x ∨ (above rs).getD y 0 ≠ (above rs).getD x 0) := fun x y hx hy hb => by
      have := ((Bool.and_eq_true _ _).mp (q x (List.mem_range.mpr hx))).2
      have := List.all_eq_true.mp this y (List.mem_range.mpr hy)
      unfold ordStep at this
      rw [bt x y hx, hb, Bool.true_and] at this
      have h1 : (((above rs).getD y 0 ||| (above rs).getD x 0) != (above rs).getD x 0 || (y != x && (above rs).getD y 0 == (above rs).getD x 0)) = false := by
        cases e : (((above rs).getD y 0 ||| (above rs).getD x 0) != (above rs).getD x 0 || (y != x && (above rs).getD y 0 == (above rs).getD x 0)) with
        | false => rfl
        | true =>
          rw [e] at this
          cases this
      obtain ⟨a, b⟩ := Bool.or_eq_false_iff.mp h1
      have a2 : ((above rs).getD y 0 ||| (above rs).getD x 0) = (above rs).getD x 0 := by
        have := bne_eq_false_iff_eq.mp a
        exact this
      refine ⟨(sub x y hx hy).mp a2, ?_⟩
      by_cases e : y = x
      · exact .inl e
      · refine .inr fun z => ?_
        rw [z, beq_self_eq_true, Bool.and_true] at b
        exact e (bne_eq_false_iff_eq.mp b)
    refine ⟨r1, fun x y z hx hy hz h1 h2 => (r2 x y hx hy h1).1 z h2, fun x y hx hy h1 h2 => ?_⟩
    rcases (r2 x y hx hy h1).2 with e | e
    · exact e.symm
    · exfalso
      refine e (Nat.eq_of_testBit_eq fun z => ?_)
      rw [bt y z hy, bt x z hx]
      cases hz : bit rs y z with
      | true => rw [(r2 x y hx hy h1).1 z hz]
      | false =>
        cases hz2 : bit rs x z with
        | false => rfl
        | true =>
          have := (r2 y x hy hx h2).1 z hz2
          rw [hz] at this
          cases this
  · intro o x hx
    have hx := List.mem_range.mp hx
    rw [bt x x hx, o.refl x hx, Bool.true_and, List.all_eq_true]
    intro y hy
    have hy := List.mem_range.mp hy
    unfold ordStep
    rw [bt x y hx]
    cases hb : bit rs x y with
    | false => rfl
    | true =>
      have a : (((above rs).getD y 0 ||| (above rs).getD x 0) != (above rs).getD x 0) = false := bne_eq_false_iff_eq.mpr ((sub x y hx hy).mpr fun z hz => o.trans x y z hx hy (bit_lt h hz).2 hb hz)
      have b : (y != x && (above rs).getD y 0 == (above rs).getD x 0) = false := by
        by_cases e : y = x
        · rw [bne_eq_false_iff_eq.mpr e, Bool.false_and]
        · have : ((above rs).getD y 0 == (above rs).getD x 0) = false := beq_eq_false_iff_ne.mpr fun z => e (o.anti y x hy hx (by
            rw [← bt y x hy, z, bt x x hx]
            exact o.refl x hx) hb)
          rw [this, Bool.and_false]
      rw [a, b] <;> rfl
end FF
/-! boards: the program's meeting places, the law's bounds: the same rows are boards -/
namespace FF
open PySem PySem.Spec PyProof.Rows L2
theorem below_all {rs : List Str} (h : Sq rs) {y m : Nat} (hm : (below rs)[y]? = some m) (x : Nat) : m.testBit x = bit rs x y := by
  by_cases hx : x < rs.length
  · exact below_bit h hm hx
  · have e1 : bit rs x y = false := by
      cases e : bit rs x y with
      | false => rfl
      | true => exact absurd (bit_lt h e).1 hx
    rw [e1]
    unfold below cols at hm
    rw [List.map_map, List.getElem?_map] at hm
    obtain ⟨j, hj, rfl⟩ := Option.map_eq_some_iff.mp hm
    have hy : j < rs.length := List.mem_range.mp (List.mem_of_getElem? hj)
    show (ofBits (tl (colS rs j))).testBit x = false
    rw [bits_test (col_dig h hy)]
    have e2 : (tl (colS rs j))[x]? = none := by
      refine List.getElem?_eq_none ?_
      show (rs.map fun r => (tl r).getD j 0).length ≤ x
      rw [List.length_map]
      omega
    rw [e2] <;> rfl
/-- the last of the first i places whose mask is k -/
def lastTo (ms : List Nat) : Nat → Nat → Option Nat
  | 0, _ => none
  | i + 1, k => if ms.getD i 0 = k then some i else lastTo ms i k
theorem lastTo_some {ms : List Nat} {k : Nat} : ∀ {i z : Nat}, lastTo ms i k = some z → z < i ∧ ms.getD z 0 = k
  | i + 1, z, h => by
    unfold lastTo at h
    split at h
    · cases h
      exact ⟨Nat.lt_succ_self _, by assumption⟩
    · have := lastTo_some h
      exact ⟨by omega, this.2⟩
theorem lastTo_none {ms : List Nat} {k : Nat} : ∀ {i : Nat}, (∃ z, z < i ∧ ms.getD z 0 = k) → (lastTo ms i k).isSome = true
  | 0, ⟨z, h, _⟩ => absurd h (Nat.not_lt_zero _)
  | i + 1, ⟨z, h, e⟩ => by
    unfold lastTo
    split
    · rfl
    · rename_i hne
      refine lastTo_none ⟨z, ?_, e⟩
      have : z ≠ i := fun q => hne (q ▸ e)
      omega
def meetAt (ms : List Nat) (m : Nat) (y : Nat) : Option Nat := lastTo ms ms.length (m &&& ms.getD y 0)
def rowOk (ms : List Nat) (m : Nat) : Bool := (List.range ms.length).all fun y => (meetAt ms m y).isSome
def meetB (ms : List Nat) : Bool := (List.range ms.length).all fun x => rowOk ms (ms.getD x 0)
def rowT (ms : List Nat) (m : Nat) : List Nat := (List.range ms.length).map fun y => (meetAt ms m y).getD 0
def tabT (ms : List Nat) : List (List Nat) := ms.map (rowT ms)
/-! ### the law -/
def someL (n : Nat) (le : Nat → Nat → Bool) (x y : Nat) : List Nat := (List.range n).filter fun z => le z x && le z y
def bestL (n : Nat) (le : Nat → Nat → Bool) (x y : Nat) : List Nat := (someL n le x y).filter fun z => (someL n le x y).all fun w => le w z
def boundB (n : Nat) (le : Nat → Nat → Bool) (x y : Nat) : Bool := (bestL n le x y).length == 1
def orderL (n : Nat) (le : Nat → Nat → Bool) : Bool := (List.range n).all fun x => le x x && (List.range n).all fun y => !(le x y && !(((List.range n).filter fun z => le y z).all fun z => le x z)) && !(x != y && (le x y && le y x))
def flip2 (le : Nat → Nat → Bool) : Nat → Nat → Bool := fun x y => le y x
def boundsL (rs : List Str) : Bool := (List.range rs.length).all fun x => (List.range x).all fun y => boundB rs.length (bit rs) x y && boundB rs.length (flip2 (bit rs)) x y
def lawBoard (rs : List Str) : Bool := sqB rs && (orderL rs.length (bit rs) && boundsL rs)
def progBoard (rs : List Str) : Bool := sqB rs && (ordB (above rs) && (meetB (below rs) && meetB (above rs)))
theorem orderL_iff {n : Nat} {le : Nat → Nat → Bool} : orderL n le = true ↔ Ord n le := by
  unfold orderL
  rw [List.all_eq_true]
  constructor
  · intro q
    have r : ∀ x, x < n → le x x = true ∧ ∀ y, y < n → (le x y = true → ∀ z, z < n → le y z = true → le x z = true) ∧ (x ≠ y → ¬ (le x y = true ∧ le y x = true)) := fun x hx => by
      obtain ⟨a, b⟩ := (Bool.and_eq_true _ _).mp (q x (List.mem_range.mpr hx))
      refine ⟨a, fun y hy => ?_⟩
      obtain ⟨c, d⟩ := (Bool.and_eq_true _ _).mp (List.all_eq_true.mp b y (List.mem_range.mpr hy))
      refine ⟨fun h1 z hz h2 => ?_, fun hne ⟨h1, h2⟩ => ?_⟩
      · rw [h1, Bool.true_and, Bool.not_not] at c
        exact List.all_eq_true.mp c z (List.mem_filter.mpr ⟨List.mem_range.mpr hz, h2⟩)
      · rw [h1, h2, bne_iff_ne.mpr hne] at d
        cases d
    exact ⟨fun x hx => (r x hx).1, fun x y z hx hy hz h1 h2 => ((r x hx).2 y hy).1 h1 z hz h2, fun x y hx hy h1 h2 => Decidable.byContradiction fun hne => ((r x hx).2 y hy).2 hne ⟨h1, h2⟩⟩
  · intro o x hx
    have hx := List.mem_range.mp hx
    rw [o.refl x hx, Bool.true_and, List.all_eq_true]
    intro y hy
    have hy := List.mem_range.mp hy
    have c : (le x y && !(((List.range n).filter fun z => le y z).all fun z => le x z)) = false := by
      cases h1 : le x y with
      | false => rfl
      | true =>
        rw [Bool.true_and, Bool.not_eq_false', List.all_eq_true]
        intro z hz
        obtain ⟨a, b⟩ := List.mem_filter.mp hz
        exact o.trans x y z hx hy (List.mem_range.mp a) h1 b
    have d : (x != y && (le x y && le y x)) = false := by
      by_cases e : x = y
      · rw [bne_eq_false_iff_eq.mpr e, Bool.false_and]
      · cases h1 : le x y with
        | false => rw [Bool.false_and, Bool.and_false]
        | true =>
          cases h2 : le y x with
          | false => rw [Bool.and_false, Bool.and_false]
          | true => exact absurd (o.anti x y hx hy h1 h2) e
    rw [c, d] <;> rfl
/-- a greatest one of those below x and y -/
def Glb (n : Nat) (le : Nat → Nat → Bool) (x y : Nat) : Prop := ∃ z, z < n ∧ ∀ w, w < n → (le w z = true ↔ le w x = true ∧ le w y = true)
theorem one_of {l : List Nat} {z : Nat} (hn : l.Nodup) (hz : z ∈ l) (hu : ∀ w ∈ l, w = z) : l.length = 1 := by
  match l, hn, hz, hu with
  | [a], _, _, _ => rfl
  | a :: b :: r, hn, _, hu =>
    have h1 := hu a List.mem_cons_self
    have h2 := hu b (List.mem_cons_of_mem _ List.mem_cons_self)
    rw [h1, h2] at hn
    exact absurd List.mem_cons_self (List.nodup_cons.mp hn).1
theorem bound_iff {n : Nat} {le : Nat → Nat → Bool} (o : Ord n le) {x y : Nat} (hx : x < n) (hy : y < n) : boundB n le x y = true ↔ Glb n le x y := by
  have ms : ∀ z, z ∈ someL n le x y ↔ z < n ∧ le z x = true ∧ le z y = true := fun z => by
    unfold someL
    rw [List.mem_filter, List.mem_range, Bool.and_eq_true]
  have mb : ∀ z, z ∈ bestL n le x y ↔ (z < n ∧ le z x = true ∧ le z y = true) ∧ ∀ w, w < n → le w x = true → le w y = true → le w z = true := fun z => by
    unfold bestL
    rw [List.mem_filter, ms, List.all_eq_true]
    exact and_congr_right fun _ => ⟨fun h w a b c => h w ((ms w).mpr ⟨a, b, c⟩), fun h w hw => h w ((ms w).mp hw).1 ((ms w).mp hw).2.1 ((ms w).mp hw).2.2⟩
  unfold boundB
  rw [beq_iff_eq]
  constructor
  · intro h
    obtain ⟨z, hz⟩ := List.length_eq_one_iff.mp h
    have hm : z ∈ bestL n le x y := by rw [hz]; exact List.mem_singleton.mpr rfl
    obtain ⟨⟨a, b, c⟩, d⟩ := (mb z).mp hm
    exact ⟨z, a, fun w hw => ⟨fun q => ⟨o.trans w z x hw a hx q b, o.trans w z y hw a hy q c⟩, fun ⟨q1, q2⟩ => d w hw q1 q2⟩⟩
  · rintro ⟨z, hz, hg⟩
    obtain ⟨b, c⟩ := (hg z hz).mp (o.refl z hz)
    refine one_of (z := z) ((List.filter_sublist.trans List.filter_sublist).nodup List.nodup_range) ((mb z).mpr ⟨⟨hz, b, c⟩, fun w hw q1 q2 => (hg w hw).mpr ⟨q1, q2⟩⟩) fun w hw => ?_
    obtain ⟨⟨a, b2, c2⟩, d⟩ := (mb w).mp hw
    exact o.anti w z a hz ((hg w a).mpr ⟨b2, c2⟩) (d z hz b c)
theorem meet_iff {n : Nat} {le : Nat → Nat → Bool} {ms : List Nat} (hl : ms.length = n) (hb : ∀ x z, x < n → (ms.getD x 0).testBit z = (decide (z < n) && le z x)) : meetB ms = true ↔ ∀ x y, x < n → y < n → Glb n le x y := by
  unfold meetB rowOk meetAt
  rw [hl, List.all_eq_true]
  constructor
  · intro q x y hx hy
    have := List.all_eq_true.mp (q x (List.mem_range.mpr hx)) y (List.mem_range.mpr hy)
    obtain ⟨z, hz⟩ := Option.isSome_iff_exists.mp this
    obtain ⟨a, b⟩ := lastTo_some hz
    refine ⟨z, a, fun w hw => ?_⟩
    have h1 := congrArg (fun k => k.testBit w) b
    have h1 : (ms.getD z 0).testBit w = (ms.getD x 0 &&& ms.getD y 0).testBit w := h1
    rw [Nat.testBit_and, hb z w a, hb x w hx, hb y w hy, decide_eq_true hw, Bool.true_and, Bool.true_and, Bool.true_and] at h1
    rw [h1, Bool.and_eq_true]
  · intro q x hx
    have hx := List.mem_range.mp hx
    rw [List.all_eq_true]
    intro y hy
    have hy := List.mem_range.mp hy
    obtain ⟨z, hz, hg⟩ := q x y hx hy
    refine lastTo_none ⟨z, hz, Nat.eq_of_testBit_eq fun w => ?_⟩
    rw [Nat.testBit_and, hb z w hz, hb x w hx, hb y w hy]
    by_cases hw : w < n
    · rw [decide_eq_true hw, Bool.true_and, Bool.true_and, Bool.true_and]
      have := hg w hw
      cases e1 : le w z with
      | true =>
        obtain ⟨a, b⟩ := this.mp e1
        rw [a, b] <;> rfl
      | false =>
        cases e2 : (le w x && le w y) with
        | false => rfl
        | true =>
          rw [this.mpr ((Bool.and_eq_true _ _).mp e2)] at e1
          cases e1
    · rw [decide_eq_false hw] <;> rfl
theorem glb_symm {n : Nat} {le : Nat → Nat → Bool} {x y : Nat} (h : Glb n le x y) : Glb n le y x := by
  obtain ⟨z, hz, hg⟩ := h
  exact ⟨z, hz, fun w hw => (hg w hw).trans ⟨fun q => ⟨q.2, q.1⟩, fun q => ⟨q.2, q.1⟩⟩⟩
theorem Ord.flip {n : Nat} {le : Nat → Nat → Bool} (o : Ord n le) : Ord n (flip2 le) := ⟨o.refl, fun x y z hx hy hz h1 h2 => o.trans z y x hz hy hx h2 h1, fun x y hx hy h1 h2 => o.anti x y hx hy h2 h1⟩
theorem bounds_iff {rs : List Str} (o : Ord rs.length (bit rs)) : boundsL rs = true ↔ (∀ x y, x < rs.length → y < rs.length → Glb rs.length (bit rs) x y) ∧ ∀ x y, x < rs.length → y < rs.length → Glb rs.length (flip2 (bit rs)) x y := by
  have self : ∀ {le : Nat → Nat → Bool} {x : Nat}, x < rs.length → Glb rs.length le x x := fun {le x} hx => ⟨x, hx, fun w _ => ⟨fun q => ⟨q, q⟩, fun q => q.1⟩⟩
  unfold boundsL
  rw [List.all_eq_true]
  constructor
  · intro q
    have r : ∀ x y, x < rs.length → y < x → Glb rs.length (bit rs) x y ∧ Glb rs.length (flip2 (bit rs)) x y := fun x y hx hy => by
      obtain ⟨a, b⟩ := (Bool.and_eq_true _ _).mp (List.all_eq_true.mp (q x (List.mem_range.mpr hx)) y (List.mem_range.mpr hy))
      exact ⟨(bound_iff o hx (by omega)).mp a, (bound_iff o.flip hx (by omega)).mp b⟩
    refine ⟨fun x y hx hy => ?_, fun x y hx hy => ?_⟩
    · rcases Nat.lt_trichotomy x y with h | h | h
      · exact glb_symm (r y x hy h).1
      · subst h
        exact self hx
      · exact (r x y hx h).1
    · rcases Nat.lt_trichotomy x y with h | h | h
      · exact glb_symm (r y x hy h).2
      · subst h
        exact self hx
      · exact (r x y hx h).2
  · rintro ⟨q1, q2⟩ x hx
    have hx := List.mem_range.mp hx
    rw [List.all_eq_true]
    intro y hy
    have hy := List.mem_range.mp hy
    rw [(bound_iff o hx (by omega)).mpr (q1 x y hx (by omega)), (bound_iff o.flip hx (by omega)).mpr (q2 x y hx (by omega))] <;> rfl
theorem board_alike (rs : List Str) : progBoard rs = lawBoard rs := by
  unfold progBoard lawBoard
  cases hs : sqB rs with
  | false => rfl
  | true =>
    have h := sq_iff.mp hs
    have hA : ∀ x z, x < rs.length → ((above rs).getD x 0).testBit z = (decide (z < rs.length) && flip2 (bit rs) z x) := fun x z hx => by
      rw [above_bit h (above_get hx)]
      show bit rs x z = (decide (z < rs.length) && bit rs x z)
      cases e : bit rs x z with
      | false => rw [Bool.and_false]
      | true => rw [decide_eq_true (bit_lt h e).2] <;> rfl
    have hB : ∀ x z, x < rs.length → ((below rs).getD x 0).testBit z = (decide (z < rs.length) && bit rs z x) := fun x z hx => by
      rw [below_all h (below_get hx)]
      cases e : bit rs z x with
      | false => rw [Bool.and_false]
      | true => rw [decide_eq_true (bit_lt h e).1] <;> rfl
    have e : (ordB (above rs) && (meetB (below rs) && meetB (above rs))) = true ↔ (orderL rs.length (bit rs) && boundsL rs) = true := by
      rw [Bool.and_eq_true, Bool.and_eq_true, Bool.and_eq_true, ord_iff h, orderL_iff, meet_iff below_len hB, meet_iff above_len hA]
      exact and_congr_right fun o => (bounds_iff o).symm
    cases q : (ordB (above rs) && (meetB (below rs) && meetB (above rs))) with
    | true => rw [e.mp q]
    | false =>
      cases q2 : (orderL rs.length (bit rs) && boundsL rs) with
      | false => rfl
      | true =>
        rw [e.mpr q2] at q
        cases q
end FF
/-! boards: turned_rows, mask_of, is_square -/
namespace FF
open PySem PySem.Spec PyProof.Rows L2
def spTurned (K : PySem.W.Frag) : Sp := fun vs H Q _ => ∃ (a : Addr) (rs : List Str), vs = [.ref a] ∧ SqL K H a (rs.map V.str) ∧ Sq rs ∧ ∀ p H', Same H H' → H p = none → H' p = some (.lst ((cols rs).map V.str)) → Q (.ref p) H'
def spMask : Sp := fun vs H Q _ => ∃ z : Str, vs = [.str z] ∧ Bits (tl z) ∧ 1 ≤ z.length ∧ z.length ≤ 60 ∧ Q (.int (maskN z : Nat)) H
def spSquare (K : PySem.W.Frag) : Sp := fun vs H Q _ => ∃ (a : Addr) (rs : List Str), vs = [.ref a, .int 60] ∧ SqL K H a (rs.map V.str) ∧ rs.length ≤ 1000 ∧ (∀ r ∈ rs, r.length ≤ 10000) ∧ ∀ H', Same H H' → Q (.bl (sqB rs)) H'
theorem joinL_nil : ∀ l : List (List Nat), TL.joinL [] l = l.flatten
  | [] => rfl
  | [p] => by
    show p = [p].flatten
    rw [List.flatten_cons, List.flatten_nil, List.append_nil]
  | p :: q :: r => by
    show p ++ ([] ++ TL.joinL [] (q :: r)) = _
    rw [joinL_nil (q :: r), List.nil_append, List.flatten_cons (l := p)]
theorem join_nil (ys : List Str) : Txt.join ("" : Str) ys = ⟨((ys.map tl).flatten).toArray⟩ := by
  refine TL.ext_tl ?_
  rw [TL.join_eq, TL.tl_join]
  show TL.joinL [] (ys.map tl) = _
  rw [joinL_nil]
theorem join_one {α : Type} (f : α → Nat) (l : List α) : Txt.join ("" : Str) (l.map fun r => (⟨#[f r]⟩ : Str)) = ⟨(l.map f).toArray⟩ := by
  rw [join_nil, List.map_map]
  have e : (l.map (tl ∘ fun r => (⟨#[f r]⟩ : Str))).flatten = l.map f := by
    induction l with
    | nil => rfl
    | cons a l ih =>
      show [f a] ++ (l.map _).flatten = f a :: l.map f
      rw [ih] <;> rfl
  rw [e]
theorem sum_one {α : Type} (f : α → Nat) (l : List α) : ((l.map fun r => (⟨#[f r]⟩ : Str)).map (·.length)).sum = l.length := by
  induction l with
  | nil => rfl
  | cons a l ih =>
    show 1 + ((l.map fun r => (⟨#[f r]⟩ : Str)).map (·.length)).sum = l.length + 1
    rw [ih, Nat.add_comm]
theorem map_get {α : Type} {f : α → V} {l : List α} {i : Nat} {x : V} (h : (l.map f)[i]? = some x) : ∃ r, l[i]? = some r ∧ x = f r := by
  rw [List.getElem?_map] at h
  obtain ⟨r, hr, e⟩ := Option.map_eq_some_iff.mp h
  exact ⟨r, hr, e.symm⟩
section
variable {P : Program} {w : World} {K : PySem.W.Frag} {mg : Str → Option Value} {base : Heap}
theorem ok_turned {f : Addr} {fd : FuncData} (F : FunD K "turned_rows" "turned_rows" (defArgs s_turned_rows) (defBody s_turned_rows) (defScope s_turned_rows) [] [] f fd) (hm : mg "turned_rows" = some (.ref f)) (T : Top K mg) : Def P w K mg base "turned_rows" 1 ["rows"] (spTurned K) := by
  refine def_mk F hm (F.bindsN fun _ _ _ _ _ _ us hl => match us, hl with | [_], _ => rfl) sc_turned_rows (fun vs H Q E h => ?_) (fun cdv A outer s H vs Q E hr h => ?_)
  · obtain ⟨a, rs, rfl, _⟩ := h
    rfl
  obtain ⟨a, rs, rfl, hS, sq, q⟩ := h
  have hn := sq.le
  refine ⟨_, (pss_one (ps_ret (pe_lc (own := [("at", 2)]) rfl sc_turned_rows.nd (pi_range1 (by rfl) T.b_range (pa_cons (pe_callB (call_lenK K) (by rfl) T.b_len (by decide +kernel) (pa_cons (pv 0) pa_nil)) pa_nil)) (blkOk_by (by kernel_rfl)) (fun _ _ _ _ _ => (pg_name (i := 2) sc_turned_rows.nd rfl (Or.inr rfl) (.inl rfl))) (fun _ _ _ _ _ => pts_nil) (fun _ _ _ _ _ => (pe_joinK K pe_str (pe_lc (own := [("row", 1)]) rfl sc_turned_rows.nd (pi_listK K (pv 0)) (blkOk_by (by kernel_rfl)) (fun _ _ _ _ _ => (pg_name (i := 1) sc_turned_rows.nd rfl (Or.inl rfl) (.inr rfl))) (fun _ _ _ _ _ => pts_nil) (fun _ _ _ _ _ => (pe_ix ix_str (pv 1) (pv 2) (fun _ _ => rfl))))))))), ?_⟩
  refine ⟨_, rfl, _, rs.length, rfl, .inl ⟨_, hS, (List.length_map _).symm⟩, _, rfl, by omega, by omega, fun p hp => ?_⟩
  rw [Int.toNat_natCast]
  refine lc_mapR (j := 2) (R := fun i y _ => y = .str (colS rs i)) (fun _ _ _ _ _ h => h) hp (le_line (by omega)) (fun _ => rfl) ?_ ?_
  · intro i H2 hi e2 Q' k'
    refine ⟨⟨_, rfl⟩, _, rfl, a, rfl, ⟨_, up_l e2 hS⟩, fun D hD => ?_⟩
    refine lc_mapL (j := 1) (R := fun m y _ => ∃ r, rs[m]? = some r ∧ y = .str ⟨#[(tl r).getD i 0]⟩) (fun _ _ _ _ _ h => h) hD (up_l e2 hS) (le_line (by rw [List.length_map]; omega)) (fun _ => rfl) ?_ ?_
    · intro m x H3 hx e3 Q'' kk
      obtain ⟨r, hr, rfl⟩ := map_get hx
      have hl := sq.len r (List.mem_of_getElem? hr)
      have hil : i < (tl r).length := by
        show i < r.length
        omega
      refine ⟨_, rfl, _, rfl, r, _, (tl r).getD i 0, rfl, rfl, le_line (by omega), ?_, kk _ _ (Same.refl _) ⟨r, hr, rfl⟩⟩
      rw [Int.zero_add]
      refine atI_nat ?_
      rw [List.getD_eq_getElem?_getD, List.getElem?_eq_getElem hil] <;> rfl
    · intro H3 ys e3 hD3 hl3 hy
      have hys : ys = (rs.map fun r => (⟨#[(tl r).getD i 0]⟩ : Str)).map V.str := by
        refine eq_map_of (by rw [hl3, List.length_map, List.length_map]) fun m y h => ?_
        obtain ⟨r, hr, rfl⟩ := hy m y h
        exact ⟨_, by rw [List.getElem?_map, hr] <;> rfl, rfl⟩
      subst hys
      refine ⟨_, D, _, rfl, rfl, .inl (SqL.of hD3), ?_, k' _ _ e3 (by rw [join_one] <;> rfl)⟩
      rw [sum_one, List.length_map, show ("" : Str).length = 0 from rfl]
      omega
  · intro H2 ys e2 hp2 hl2 hy
    refine q p H2 e2 hp ?_
    rw [hp2]
    congr 2
    refine eq_map_of (by rw [hl2]; unfold cols; rw [List.length_map, List.length_range]) fun i y h => ?_
    have hi : i < rs.length := by
      have := (List.getElem?_eq_some_iff.mp h).1
      omega
    exact ⟨_, by unfold cols; rw [List.getElem?_map, List.getElem?_range hi] <;> rfl, hy i y h⟩
theorem ok_mask {f : Addr} {fd : FuncData} (F : FunD K "mask_of" "mask_of" (defArgs s_mask_of) (defBody s_mask_of) (defScope s_mask_of) [] [] f fd) (hm : mg "mask_of" = some (.ref f)) (T : Top K mg) : Def P w K mg base "mask_of" 1 ["text"] spMask := by
  refine def_mk F hm (F.bindsN fun _ _ _ _ _ _ us hl => match us, hl with | [_], _ => rfl) sc_mask_of (fun vs H Q E h => ?_) (fun cdv A outer s H vs Q E hr h => ?_)
  · obtain ⟨z, rfl, _⟩ := h
    rfl
  obtain ⟨z, rfl, hb, l1, l2, q⟩ := h
  refine ⟨_, (pss_one (ps_ret (pe_callTy call_int_bin (by rfl) T.b_int (by decide +kernel) (pa_cons (pe_revS (pv 0) (po_some (pe_un un_neg pe_int))) (pa_cons pe_int pa_nil))))), ?_⟩
  have hlen : (⟨(tl z).reverse.toArray⟩ : Str).length = z.length := by
    show (tl z).reverse.toArray.size = z.cps.size
    rw [List.size_toArray, List.length_reverse]
    rfl
  refine ⟨_, rfl, _, rfl, _, rfl, z, rfl, rfl, le_line (by omega), ⟨(tl z).reverse.toArray⟩, rfl, ?_, by omega, ?_, ?_⟩
  · show (tl z).reverse ≠ []
    intro h
    have : (tl z).length = 0 := by rw [← List.length_reverse, h] <;> rfl
    have e : (tl z).length = z.length := rfl
    omega
  · intro c hc
    exact hb c (List.mem_reverse.mp hc)
  · show Q (.int ((Bn.binNum (tl z).reverse : Nat) : Int)) H
    rw [binNum_rev]
    exact q
theorem digs01 {c : Nat} : decide (c ∈ ("01" : Str).cps.toList) = (c == 48 || c == 49) := by
  have e : ("01" : Str).cps.toList = [48, 49] := by decide +kernel
  rw [e, Bool.eq_iff_iff, decide_eq_true_eq, Bool.or_eq_true, beq_iff_eq, beq_iff_eq, List.mem_cons, List.mem_singleton]
/-- all([sign in "01" for sign in row]) -/
theorem dig_all {r : Str} {i j : Nat} {σ : L2.St} {H1 : Hp} {Q : VK} (hσ : σ[i]? = some (some (.str r))) (hj : ∀ v, ((wipe σ [j]).set j (some v))[j]? = some (some v)) (hz : r.length ≤ sizeLine) (hw : ∀ v, wipe ((wipe σ [j]).set j (some v)) [j] = wipe σ [j]) (q : ∀ H2, Same H1 H2 → Q (.bl (digB r)) H2) :
    tCB (rAll K) (tCons (tLc (iStr (tVar i)) (gName j) tYes (tOp (fun x y H Q => ∃ c z, x = V.str ⟨#[c]⟩ ∧ y = V.str z ∧ Q (V.bl (decide (c ∈ z.cps.toList))) H) (tVar j) (tC (V.str "01"))) [j]) tNil) σ H1 Q := by
  refine ⟨_, hσ, r, rfl, fun D hD => ?_⟩
  refine lc_strI (fun c => V.bl (decide (c ∈ ("01" : Str).cps.toList))) hD hz hw ?_ ?_
  · intro c H2 hc Q' k'
    exact ⟨_, hj _, c, _, rfl, rfl, k' _ (Same.refl _)⟩
  · intro H2 e2 hD2
    refine ⟨D, (tl r).map fun c => decide (c ∈ ("01" : Str).cps.toList), rfl, SqL.of ?_, ?_⟩
    · rw [hD2, List.map_map] <;> rfl
    · have := q H2 e2
      rw [List.all_map]
      unfold digB at this
      have e : ((id : Bool → Bool) ∘ fun c => decide (c ∈ ("01" : Str).cps.toList)) = fun c : Nat => (c == 48 || c == 49) := by
        funext c
        exact digs01
      rw [e]
      exact this
theorem ok_square {f : Addr} {fd : FuncData} (F : FunD K "is_square" "is_square" (defArgs s_is_square) (defBody s_is_square) (defScope s_is_square) [] [] f fd) (hm : mg "is_square" = some (.ref f)) (T : Top K mg) : Def P w K mg base "is_square" 1 ["rows", "limit"] (spSquare K) := by
  refine def_mk F hm (F.bindsN fun _ _ _ _ _ _ us hl => match us, hl with | [_, _], _ => rfl) sc_is_square (fun vs H Q E h => ?_) (fun cdv A outer s H vs Q E hr h => ?_)
  · obtain ⟨a, rs, rfl, _⟩ := h
    rfl
  obtain ⟨a, rs, rfl, hS, hl, hlr, q⟩ := h
  refine ⟨_, (pss_cons (ps_if (pt_not (pt_chain op_le op_le pe_int (pe_callB (call_lenK K) (by rfl) T.b_len (by decide +kernel) (pa_cons (pv 0) pa_nil)) (pv 1)))
  (pss_one (ps_ret pe_bl))
  pss_nil)
  (pss_one (ps_ret (pe_callB (cr_allK K rfl) (by rfl) T.b_all (by decide +kernel) (pa_cons (pe_lc (own := [("row", 3)]) rfl sc_is_square.nd (pi_listK K (pv 0)) (blkOk_by (by kernel_rfl)) (fun _ _ _ _ _ => (pg_name (i := 3) sc_is_square.nd rfl (Or.inl rfl) (.inr rfl))) (fun _ _ _ _ _ => pts_nil) (fun _ _ _ _ _ => (pe_and (pe_cmpR op_eq (pe_callB (call_lenK K) (by rfl) T.b_len (by decide +kernel) (pa_cons (pv 3) pa_nil)) (pe_callB (call_lenK K) (by rfl) T.b_len (by decide +kernel) (pa_cons (pv 0) pa_nil)) (nomark _)) (pe_one (pe_callB (cr_allK K rfl) (by rfl) T.b_all (by decide +kernel) (pa_cons (pe_lc (own := [("sign", 2)]) rfl sc_is_square.nd (pi_str (pv 3)) (blkOk_by (by kernel_rfl)) (fun _ _ _ _ _ => (pg_name (i := 2) sc_is_square.nd rfl (Or.inl rfl) (.inr rfl))) (fun _ _ _ _ _ => pts_nil) (fun _ _ _ _ _ => (pe_cmpR op_in_sign (pv 2) (pe_gs T.g_DIGITS) rfl))) pa_nil)))))) pa_nil))))), ?_⟩
  have len : ∀ {H' : Hp}, Same H H' → LenV K (.ref a) H' rs.length := fun e => .inl ⟨_, up_l e hS, (List.length_map _).symm⟩
  refine ⟨_, rfl, _, rs.length, rfl, len (Same.refl H), _, _, rfl, rfl, _, rfl, ?_⟩
  have out : (decide (1 ≤ rs.length) && decide (rs.length ≤ 60)) = false → Q (.bl false) H := fun h => by
    have := q H (Same.refl H)
    unfold sqB at this
    rw [h] at this
    exact this
  refine if_dec (fun h1 => ?_) (fun h1 => ?_)
  · refine ⟨_, rfl, _, _, rfl, rfl, ?_⟩
    refine ⟨_, rfl, ?_⟩
    refine if_bb rfl (fun h2 => ?_) (fun h2 => ?_)
    · refine out ?_
      have h3 : decide (rs.length ≤ 60) = false := by
        have := of_decide_eq_false ((Bool.not_eq_true' _).mp h2)
        exact decide_eq_false (by omega)
      rw [h3, Bool.and_false]
    have h3 : rs.length ≤ 60 := by
      have := of_decide_eq_true ((Bool.not_eq_false' (b := decide ((rs.length : Int) ≤ 60))).mp h2)
      omega
    refine ⟨_, rfl, a, rfl, ⟨_, hS⟩, fun D hD => ?_⟩
    refine lc_mapL (j := 3) (R := fun i y _ => ∃ r, rs[i]? = some r ∧ y = .bl (decide (r.length = rs.length) && digB r)) (fun _ _ _ _ _ h => h) hD hS (le_line (by rw [List.length_map]; omega)) (fun _ => rfl) ?_ ?_
    · intro i x H2 hx e2 Q' k'
      obtain ⟨r, hr, rfl⟩ := map_get hx
      have hrl := hlr r (List.mem_of_getElem? hr)
      refine ⟨_, rfl, _, r.length, rfl, ⟨le_line (by omega), rfl⟩, _, rfl, _, rs.length, rfl, len e2, rfl, _, rfl, ?_⟩
      refine if_dec (fun h4 => ?_) (fun h4 => ?_)
      · have h4 : r.length = rs.length := by
          have := V.int.inj h4
          omega
        refine dig_all (i := 3) (j := 2) rfl (fun _ => rfl) (le_line (by omega)) (fun _ => rfl) (fun H3 e3 => k' _ _ e3 ⟨r, hr, ?_⟩)
        rw [decide_eq_true h4, Bool.true_and]
      · refine k' _ _ (Same.refl _) ⟨r, hr, ?_⟩
        rw [decide_eq_false (fun h => h4 (by rw [h])), Bool.false_and]
    · intro H2 ys e2 hD2 hl2 hy
      have hys : ys = (rs.map fun r => decide (r.length = rs.length) && digB r).map V.bl := by
        refine eq_map_of (by rw [hl2, List.length_map, List.length_map]) fun i y h => ?_
        obtain ⟨r, hr, rfl⟩ := hy i y h
        exact ⟨_, by rw [List.getElem?_map, hr] <;> rfl, rfl⟩
      subst hys
      refine ⟨D, _, rfl, SqL.of hD2, ?_⟩
      have h5 := q H2 e2
      unfold sqB at h5
      rw [decide_eq_true (show 1 ≤ rs.length by omega), decide_eq_true h3, Bool.true_and, Bool.true_and] at h5
      rw [List.all_map]
      exact h5
  · refine ⟨_, rfl, out ?_⟩
    rw [decide_eq_false (show ¬ 1 ≤ rs.length by omega), Bool.false_and]
end
end FF
/-! boards: is_order, meeting_places, gathered -/
namespace FF
open PySem PySem.Spec PyProof.Rows L2
abbrev nV (m : Nat) : V := V.int (m : Nat)
def spOrder (K : PySem.W.Frag) : Sp := fun vs H Q _ => ∃ (a : Addr) (ms : List Nat), vs = [.ref a] ∧ SqL K H a (ms.map nV) ∧ ms.length ≤ 60 ∧ ∀ H', Same H H' → Q (.bl (ordB ms)) H'
theorem band_nat (a b : Nat) : Builtin.bitAnd (a : Int) (b : Int) = ((a &&& b : Nat) : Int) := by
  rw [bitAnd_pp (Int.natCast_nonneg a) (Int.natCast_nonneg b), Int.toNat_natCast, Int.toNat_natCast]
theorem bor_nat (a b : Nat) : Builtin.bitOr (a : Int) (b : Int) = ((a ||| b : Nat) : Int) := by
  rw [_root_.Bits.bitOr_pp (Int.natCast_nonneg a) (Int.natCast_nonneg b), Int.toNat_natCast, Int.toNat_natCast]
theorem shr_bit (m p : Nat) : Builtin.bitAnd ((m : Int) / 2 ^ ((p : Nat) : Int).toNat) 1 = if m.testBit p = true then 1 else 0 := by
  have e : ((m : Int) / 2 ^ ((p : Nat) : Int).toNat) = ((m / 2 ^ p : Nat) : Int) := by
    rw [Int.toNat_natCast, Int.natCast_ediv, Int.natCast_pow] <;> rfl
  have e1 : Builtin.bitAnd ((m / 2 ^ p : Nat) : Int) 1 = ((m / 2 ^ p &&& 1 : Nat) : Int) := band_nat _ 1
  rw [e, e1, Nat.and_one_is_mod, Nat.testBit_eq_decide_div_mod_eq]
  by_cases h : m / 2 ^ p % 2 = 1
  · rw [h, decide_eq_true rfl] <;> rfl
  · have h0 : m / 2 ^ p % 2 = 0 := by omega
    rw [h0] <;> rfl
theorem bit_0 (m p : Nat) : decide (V.int (Builtin.bitAnd ((m : Int) / 2 ^ ((p : Nat) : Int).toNat) 1) = V.int 0) = !m.testBit p := by
  rw [shr_bit]
  cases m.testBit p <;> rfl
theorem bit_1 (m p : Nat) : decide (V.int (Builtin.bitAnd ((m : Int) / 2 ^ ((p : Nat) : Int).toNat) 1) = V.int 1) = m.testBit p := by
  rw [shr_bit]
  cases m.testBit p <;> rfl
theorem or_ne (s m : Nat) : (!decide (V.int (Builtin.bitOr (s : Int) (m : Int)) = nV m)) = ((s ||| m) != m) := by
  rw [bor_nat]
  have e : decide (V.int ((s ||| m : Nat) : Int) = nV m) = ((s ||| m) == m) := by
    rw [Bool.eq_iff_iff, decide_eq_true_eq, beq_iff_eq]
    exact ⟨fun h => Int.ofNat.inj (V.int.inj h), fun h => by rw [h]⟩
  rw [e] <;> rfl
theorem nat_eq (s m : Nat) : decide (V.int (s : Nat) = V.int (m : Nat)) = (s == m) := by
  rw [Bool.eq_iff_iff, decide_eq_true_eq, beq_iff_eq]
  exact ⟨fun h => Int.ofNat.inj (V.int.inj h), fun h => by rw [h]⟩
theorem getD_of {α : Type} {l : List α} {i : Nat} {x d : α} (h : l[i]? = some x) : l.getD i d = x := by
  rw [List.getD_eq_getElem?_getD, h] <;> rfl
section
variable {P : Program} {w : World} {K : PySem.W.Frag} {mg : Str → Option Value} {base : Heap}
theorem ok_order {f : Addr} {fd : FuncData} (F : FunD K "is_order" "is_order" (defArgs s_is_order) (defBody s_is_order) (defScope s_is_order) [] [] f fd) (hm : mg "is_order" = some (.ref f)) (T : Top K mg) : Def P w K mg base "is_order" 1 ["masks"] (spOrder K) := by
  refine def_mk F hm (F.bindsN fun _ _ _ _ _ _ us hl => match us, hl with | [_], _ => rfl) sc_is_order (fun vs H Q E h => ?_) (fun cdv A outer s H vs Q E hr h => ?_)
  · obtain ⟨a, ms, rfl, _⟩ := h
    rfl
  obtain ⟨a, ms, rfl, hS, hn, q⟩ := h
  refine ⟨_, (pss_cons (ps_for PassesOwn.never rfl (pi_enumK K (by rfl) T.b_enumerate (pa_cons (pv 0) pa_nil)) (pg_tupK K (n := 2) rfl (pgs_cons (pg_name (i := 1) sc_is_order.nd rfl (Or.inl rfl) (.inl rfl)) (pgs_cons (pg_name (i := 2) sc_is_order.nd rfl (Or.inl rfl) (.inl rfl)) pgs_nil)))
  (pss_cons (ps_if (pt_cmpR op_eq (pe_op op_and (pe_op op_shr (pv 2) (pv 1)) pe_int) pe_int (nomark _))
  (pss_one (ps_ret pe_bl))
  pss_nil)
  (pss_one (ps_for PassesOwn.never rfl (pi_enumK K (by rfl) T.b_enumerate (pa_cons (pv 0) pa_nil)) (pg_tupK K (n := 2) rfl (pgs_cons (pg_name (i := 3) sc_is_order.nd rfl (Or.inl rfl) (.inl rfl)) (pgs_cons (pg_name (i := 4) sc_is_order.nd rfl (Or.inl rfl) (.inl rfl)) pgs_nil)))
  (pss_one (ps_if (PW.pt (pw_and (pt_cmpR op_eq (pe_op op_and (pe_op op_shr (pv 2) (pv 3)) pe_int) pe_int (nomark _)) (pw_and1 (PW.pt (pw_or (pt_cmpR op_ne (pe_op op_or (pv 4) (pv 2)) (pv 2) (nomark _)) (pw_or1 (PW.pt (pw_and (pt_cmpR op_ne (pv 3) (pv 1) (nomark _)) (pw_and1 (pt_cmpR op_eq (pv 4) (pv 2) (nomark _)))))))))))
  (pss_one (ps_ret pe_bl))
  pss_nil))))))
  (pss_one (ps_ret pe_bl))), ?_⟩
  refine ⟨_, rfl, a, _, rfl, hS, ?_⟩
  have hml : (ms.map nV).length = ms.length := List.length_map _
  have bad : ∀ {i m}, ms[i]? = some m → ordIn ms i m = false → ordB ms = false := fun {i m} hm h => by
    have hi := (List.getElem?_eq_some_iff.mp hm).1
    refine List.all_eq_false.mpr ⟨i, List.mem_range.mpr hi, ?_⟩
    rw [getD_of hm, h]
    decide
  refine for_it (walkE_same (H := H) hS) (fun i σ H' => (∃ o1 o2 o3 o4, σ = [some (.ref a), o1, o2, o3, o4]) ∧ Same H H' ∧ ∀ p, p < i → ordIn ms p (ms.getD p 0) = true)
    ⟨⟨_, _, _, _, rfl⟩, Same.refl H, fun p hp => absurd hp (Nat.not_lt_zero p)⟩ (fun i σ H' _ p => p.2.1) ?_ ?_
  · rintro i x σ H1 H2 hi ⟨⟨o1, o2, o3, o4, rfl⟩, e1, hp⟩ ⟨t, u1, u2, rfl, ht, rfl, h1, h2⟩
    cases h1
    obtain ⟨m, hm1, rfl⟩ := map_get h2
    refine ⟨t, [.int (i : Nat), nV m], rfl, SqT.of upd_same, rfl, _, [nV m], rfl, _, [], rfl, rfl, ?_⟩
    have e2 := e1.trans (same_new ht (.tup [.int (i : Nat), nV m]))
    refine ⟨_, rfl, _, rfl, _, _, rfl, rfl, by omega, _, _, rfl, rfl, rfl, _, rfl, ?_⟩
    refine if_bb (bit_0 m i) (fun hb => ?_) (fun hb => ?_)
    · have h := q _ e2
      rw [bad hm1 (by unfold ordIn; rw [(Bool.not_eq_true' _).mp hb, Bool.false_and])] at h
      exact h
    have hb : m.testBit i = true := (Bool.not_eq_false' (b := m.testBit i)).mp hb
    refine ⟨_, rfl, a, _, rfl, up_l e2 hS, ?_⟩
    refine for_it (walkE_same (H := H) hS) (fun j σ H' => (∃ o3 o4, σ = [some (.ref a), some (.int (i : Nat)), some (nV m), o3, o4]) ∧ Same H H' ∧ ∀ o, o < j → ordStep i m o (ms.getD o 0) = true)
      ⟨⟨_, _, rfl⟩, e2, fun p hp => absurd hp (Nat.not_lt_zero p)⟩ (fun j σ H' _ p => p.2.1) ?_ ?_
    · rintro j x σ H3 H4 hj ⟨⟨o3, o4, rfl⟩, e3, hq⟩ ⟨t', u1, u2, rfl, ht', rfl, k1, k2⟩
      cases k1
      obtain ⟨sm, hs1, rfl⟩ := map_get k2
      refine ⟨t', [.int (j : Nat), nV sm], rfl, SqT.of upd_same, rfl, _, [nV sm], rfl, _, [], rfl, rfl, ?_⟩
      have e4 := e3.trans (same_new ht' (.tup [.int (j : Nat), nV sm]))
      have bad2 : ordStep i m j sm = false → Q (.bl false) (upd H3 t' (.tup [.int (j : Nat), nV sm])) := fun h => by
        have h5 := q _ e4
        rw [bad hm1 (by
          unfold ordIn
          refine Bool.and_eq_false_imp.mpr fun _ => List.all_eq_false.mpr ⟨j, List.mem_range.mpr (List.getElem?_eq_some_iff.mp hs1).1, ?_⟩
          rw [getD_of hs1, h]
          decide)] at h5
        exact h5
      have good : ordStep i m j sm = true → (∃ o3 o4, ([some (.ref a), some (.int (i : Nat)), some (nV m), some (.int (j : Nat)), some (nV sm)] : L2.St) = [some (.ref a), some (.int (i : Nat)), some (nV m), o3, o4]) ∧ Same H (upd H3 t' (.tup [.int (j : Nat), nV sm])) ∧ ∀ o, o < j + 1 → ordStep i m o (ms.getD o 0) = true := fun h => by
        refine ⟨⟨_, _, rfl⟩, e4, fun o ho => ?_⟩
        by_cases z : o = j
        · rw [z, getD_of hs1]
          exact h
        · exact hq o (by omega)
      refine ⟨_, rfl, _, rfl, _, _, rfl, rfl, by omega, _, _, rfl, rfl, rfl, _, rfl, ?_⟩
      refine if_bb (bit_1 m j) (fun b1 => ?_) (fun b1 => good (by unfold ordStep; rw [b1]; rfl))
      refine ⟨_, rfl, _, rfl, _, _, rfl, rfl, _, rfl, rfl, _, rfl, ?_⟩
      refine if_bb (or_ne sm m) (fun b2 => bad2 (by unfold ordStep; rw [b1, b2]; rfl)) (fun b2 => ?_)
      refine ⟨_, rfl, _, rfl, rfl, _, rfl, ?_⟩
      refine if_bb (congrArg Bool.not (nat_eq j i)) (fun b3 => ?_) (fun b3 => ?_)
      · refine ⟨_, rfl, _, rfl, rfl, _, rfl, ?_⟩
        refine if_bb (nat_eq sm m) (fun b4 => bad2 ?_) (fun b4 => good ?_)
        · unfold ordStep
          rw [b1, b2, show (j != i) = true from b3, b4] <;> rfl
        · unfold ordStep
          rw [b1, b2, b4, Bool.and_false] <;> rfl
      · refine good ?_
        unfold ordStep
        rw [b1, b2, show (j != i) = false from b3] <;> rfl
    · rintro σ H3 ⟨⟨o3, o4, rfl⟩, e3, hq⟩
      refine ⟨⟨_, _, _, _, rfl⟩, e3, fun p hpp => ?_⟩
      by_cases z : p = i
      · rw [z, getD_of hm1]
        unfold ordIn
        rw [hb, Bool.true_and]
        exact List.all_eq_true.mpr fun o ho => hq o (by rw [hml]; exact List.mem_range.mp ho)
      · exact hp p (by omega)
  · rintro σ H1 ⟨⟨o1, o2, o3, o4, rfl⟩, e1, hp⟩
    have : ordB ms = true := List.all_eq_true.mpr fun p hpp => hp p (by rw [hml]; exact List.mem_range.mp hpp)
    have h := q H1 e1
    rw [this] at h
    exact h
end
end FF
/-! boards: meeting_places, gathered -/
namespace FF
open PySem PySem.Spec PyProof.Rows L2
/-- at p stands a table -/
def TabAt (H : Hp) (p : Addr) (tab : List (List Nat)) : Prop := ∃ ts : List Addr, H p = some (.lst (ts.map V.ref)) ∧ ts.length = tab.length ∧ ∀ (i : Nat) (t : Addr) (r : List Nat), ts[i]? = some t → tab[i]? = some r → H t = some (.lst (r.map nV))
theorem TabAt.up {H H' : Hp} {p : Addr} {tab : List (List Nat)} (e : Same H H') (h : TabAt H p tab) : TabAt H' p tab := by
  obtain ⟨ts, h1, h2, h3⟩ := h
  exact ⟨ts, e _ _ h1, h2, fun i t r a b => e _ _ (h3 i t r a b)⟩
def spMeet (K : PySem.W.Frag) : Sp := fun vs H Q _ => ∃ (a : Addr) (ms : List Nat), vs = [.ref a] ∧ SqL K H a (ms.map nV) ∧ ms.length ≤ 60 ∧ (∀ p H', Same H H' → meetB ms = true → TabAt H' p (tabT ms) → Q (.ref p) H') ∧ ∀ H', Same H H' → meetB ms = false → Q .non H'
def spGathered (K : PySem.W.Frag) : Sp := fun vs H Q _ => ∃ (a b : Addr) (tab : List (List Nat)) (x : Nat) (xs : List Nat), vs = [.ref a, .ref b] ∧ TabAt H a tab ∧ SqL K H b ((x :: xs).map nV) ∧ xs.length ≤ 10000 ∧ x < tab.length ∧ (∀ y ∈ xs, y < tab.length) ∧ (∀ r ∈ tab, r.length = tab.length) ∧ (∀ r ∈ tab, ∀ z ∈ r, z < tab.length) ∧
  ∀ H', Same H H' → Q (nV (xs.foldl (fun f y => (tab.getD f []).getD y 0) x)) H'
def oV : Option Nat → V
  | none => .non
  | some n => nV n
def rowV (ms : List Nat) (m : Nat) : List V := (List.range ms.length).map fun y => oV (meetAt ms m y)
theorem inV_row (ms : List Nat) (m : Nat) : inV .non (rowV ms m) = !rowOk ms m := by
  unfold inV rowV rowOk
  rw [List.any_map, List.not_all_eq_any_not]
  congr 1
  funext y
  show eqV (oV (meetAt ms m y)) .non = _
  cases meetAt ms m y <;> rfl
theorem flat_row (ms : List Nat) (m : Nat) : (rowV ms m).all flatV = true := by
  unfold rowV
  rw [List.all_map, List.all_eq_true]
  intro y _
  show flatV (oV (meetAt ms m y)) = true
  cases meetAt ms m y <;> rfl
theorem row_ok {ms : List Nat} {m : Nat} (h : rowOk ms m = true) : rowV ms m = (rowT ms m).map nV := by
  unfold rowV rowT
  rw [List.map_map]
  refine List.map_congr_left fun y hy => ?_
  have := List.all_eq_true.mp h y hy
  obtain ⟨z, hz⟩ := Option.isSome_iff_exists.mp this
  show oV (meetAt ms m y) = nV ((meetAt ms m y).getD 0)
  rw [hz] <;> rfl
theorem inl_nat {k m : Nat} : ((Sum.inl (k : Int) : Key) = .inl (m : Int)) ↔ k = m := ⟨fun h => Int.ofNat.inj (Sum.inl.inj h), fun h => by rw [h]⟩
section
variable {P : Program} {w : World} {K : PySem.W.Frag} {mg : Str → Option Value} {base : Heap}
theorem ok_meet {f : Addr} {fd : FuncData} (F : FunD K "meeting_places" "meeting_places" (defArgs s_meeting_places) (defBody s_meeting_places) (defScope s_meeting_places) [] [] f fd) (hm : mg "meeting_places" = some (.ref f)) (T : Top K mg) : Def P w K mg base "meeting_places" 1 ["masks"] (spMeet K) := by
  refine def_mk F hm (F.bindsN fun _ _ _ _ _ _ us hl => match us, hl with | [_], _ => rfl) sc_meeting_places (fun vs H Q E h => ?_) (fun cdv A outer s H vs Q E hr h => ?_)
  · obtain ⟨a, ms, rfl, _⟩ := h
    rfl
  obtain ⟨a, ms, rfl, hS, hn, q, qn⟩ := h
  refine ⟨_, (pss_cons (ps_set (i := 1) sc_meeting_places.nd rfl (Or.inr rfl) (pe_dc (own := [("place", 2), ("mask", 3)]) rfl sc_meeting_places.nd (pi_enumK K (by rfl) T.b_enumerate (pa_cons (pv 0) pa_nil)) (blkOk_by (by kernel_rfl)) (fun _ _ _ _ _ => (pg_tupK K (n := 2) rfl (pgs_cons (pg_name (i := 2) sc_meeting_places.nd rfl (Or.inl rfl) (.inr rfl)) (pgs_cons (pg_name (i := 3) sc_meeting_places.nd rfl (Or.inl rfl) (.inr rfl)) pgs_nil)))) (fun _ _ _ _ _ => pts_nil) (fun _ _ _ _ _ => (pv 3)) (fun _ _ _ _ _ => (pv 2))))
  (pss_cons (ps_set (i := 4) sc_meeting_places.nd rfl (Or.inl rfl) (pe_lst pa_nil))
  (pss_cons (ps_for PassesOwn.never rfl (pi_listK K (pv 0)) (pg_name (i := 3) sc_meeting_places.nd rfl (Or.inr rfl) (.inl rfl))
  (pss_cons (ps_setLc (i := 5) (own := [("other", 6)]) rfl sc_meeting_places.nd rfl rfl (sw_true rfl rfl rfl (by kernel_rfl)) (pi_listK K (pv 0)) (blkOk_by (by kernel_rfl)) (fun _ _ _ _ _ => (pg_name (i := 6) sc_meeting_places.nd rfl (Or.inl rfl) (.inr rfl))) (fun _ _ _ _ _ => pts_nil) (fun _ _ _ _ _ => (pe_dget1 (hu_of hr) (pv 1) (pe_op op_and (pv 3) (pv 6)) ⟨rfl, rfl, rfl, rfl⟩)))
  (pss_cons (ps_if (pt_cmpR (op_in_seqK K) pe_non (pv 5) (by rfl))
  (pss_one (ps_ret pe_non))
  pss_nil)
  (pss_one (ps_expr (pe_bmK K PySem.F.plainAttrs_list PySem.F.slot_list_append PySem.F.type_list_append mt_append (pv 4) (pa_cons (pv 5) pa_nil)))))))
  (pss_one (ps_ret (pv 4)))))), ?_⟩
  refine ⟨_, rfl, a, _, rfl, hS, fun D hD => ?_⟩
  refine dc_it (walkE_same (H := H) hS) (fun i H' => Same H H' ∧ ∃ kvs, H' D = some (.dK kvs) ∧ kvs.length ≤ i ∧ ∀ k : Nat, valV kvs (.inl (k : Int)) = (lastTo ms i k).map nV)
    ⟨same_new hD _, [], upd_same, Nat.le_refl _, fun k => rfl⟩ (fun i H' _ p => p.1) ?_ ?_
  · rintro i x H2 H3 hi ⟨e, kvs, h1, h2, h3⟩ ⟨t, u1, u2, rfl, ht, rfl, k1, k2⟩
    cases k1
    obtain ⟨m, hm1, rfl⟩ := map_get k2
    have tD : D ≠ t := fun z => by rw [← z, h1] at ht; cases ht
    have hil := (List.getElem?_eq_some_iff.mp hm1).1
    refine ⟨t, [.int (i : Nat), nV m], rfl, SqT.of upd_same, rfl, _, [nV m], rfl, _, [], rfl, rfl, rfl, ?_⟩
    unfold tYes
    dsimp only
    rw [if_pos rfl]
    refine ⟨_, rfl, _, rfl, kvs, .inl (m : Int), rfl, by rw [upd_ne tD]; exact h1, lt_line (by omega), ?_⟩
    refine ⟨same_at hD (e.trans (same_new ht _)), _, upd_same, ?_, fun k => ?_⟩
    · have := length_putK kvs (.inl (m : Int)) (V.int (i : Nat))
      omega
    · rw [valV_put]
      show _ = ((if ms.getD i 0 = k then some i else lastTo ms i k) : Option Nat).map nV
      rw [getD_of hm1]
      by_cases z : k = m
      · rw [if_pos (inl_nat.mpr z), if_pos z.symm] <;> rfl
      · rw [if_neg (fun h => z (inl_nat.mp h)), if_neg (fun h => z h.symm)]
        exact h3 k
  rintro H1 ⟨e1, kvs, hD1, _, hk⟩
  have hml : (ms.map nV).length = ms.length := List.length_map _
  rw [hml] at hk
  refine ⟨(by show 0 ≤ sizeLine; decide), fun p hp => ?_⟩
  have hp0 : H p = none := e1.free hp
  have pD : D ≠ p := fun z => by rw [z, hp] at hD1; cases hD1
  have e2 := e1.trans (same_new hp (.lst []))
  refine ⟨_, rfl, a, rfl, ⟨_, up_l e2 hS⟩, ?_⟩
  refine for_list (K := K) (a := a) (xs := ms.map nV) (fun i σ H' => (∃ o2 o3 o5 o6, σ = [some (.ref a), some (.ref D), o2, o3, some (.ref p), o5, o6]) ∧ Same H H' ∧ H' D = some (.dK kvs) ∧ (∃ ts : List Addr, H' p = some (.lst (ts.map V.ref)) ∧ ts.length = i ∧ (∀ (j : Nat) (t : Addr) (m : Nat), ts[j]? = some t → ms[j]? = some m → t ≠ p ∧ H' t = some (.lst ((rowT ms m).map nV)))) ∧ ∀ j, j < i → rowOk ms (ms.getD j 0) = true)
    ⟨⟨_, _, _, _, rfl⟩, e2, by rw [upd_ne pD]; exact hD1, ⟨[], upd_same, rfl, fun j t m h _ => by simp at h⟩, fun j h => absurd h (Nat.not_lt_zero j)⟩ (fun i σ H' _ p => up_l p.2.1 hS) ?_ ?_
  · rintro i x σ H2 hx ⟨⟨o2, o3, o5, o6, rfl⟩, e3, hD2, ⟨ts, hp2, htl, hts⟩, hro⟩
    obtain ⟨m, hm1, rfl⟩ := map_get hx
    have hil := (List.getElem?_eq_some_iff.mp hm1).1
    refine ⟨_, rfl, a, rfl, ⟨_, up_l e3 hS⟩, fun R hR => ?_⟩
    have Rp : R ≠ p := fun z => by rw [z, hp2] at hR; cases hR
    refine lc_mapL (j := 6) (R := fun i y _ => ∃ o, ms[i]? = some o ∧ y = oV (lastTo ms ms.length (m &&& o))) (fun _ _ _ _ _ h => h) hR (up_l e3 hS) (le_line (by omega)) (fun _ => rfl) ?_ ?_
    · intro j y H3 hy e4 Q' k'
      obtain ⟨o, ho, rfl⟩ := map_get hy
      refine ⟨_, rfl, D, rfl, .inl ⟨kvs, .inl (e4 _ _ hD2)⟩, _, rfl, _, rfl, _, _, rfl, rfl, (lastTo ms ms.length (m &&& o)).map nV, .inl ⟨kvs, .inl ((m &&& o : Nat) : Int), .inl (e4 _ _ hD2), ?_, (hk _).symm⟩, k' _ _ (Same.refl _) ⟨o, ho, ?_⟩⟩
      · show V.int (Builtin.bitAnd m o) = V.int _
        rw [band_nat]
      · cases lastTo ms ms.length (m &&& o) <;> rfl
    · intro H3 ys e4 hR3 hyl hy
      have hys : ys = rowV ms m := by
        refine List.ext_getElem? fun j => ?_
        unfold rowV
        cases hj : ys[j]? with
        | none =>
          have : ms.length ≤ j := by
            have := List.getElem?_eq_none_iff.mp hj
            omega
          rw [List.getElem?_map, List.getElem?_eq_none_iff.mpr (by rw [List.length_range]; exact this)] <;> rfl
        | some y =>
          obtain ⟨o, ho, rfl⟩ := hy j y hj
          have := (List.getElem?_eq_some_iff.mp ho).1
          rw [List.getElem?_map, List.getElem?_range this]
          show _ = some (oV (lastTo ms ms.length (m &&& ms.getD j 0)))
          rw [getD_of ho]
      subst hys
      have e5 := e3.trans e4
      refine ⟨_, rfl, R, _, rfl, .inl (SqL.of hR3), rfl, flat_row ms m, _, rfl, ?_⟩
      rw [inV_row]
      refine if_bb rfl (fun hb => ?_) (fun hb => ?_)
      · have hb : rowOk ms m = false := (Bool.not_eq_true' _).mp hb
        refine qn _ e5 (List.all_eq_false.mpr ⟨i, List.mem_range.mpr hil, ?_⟩)
        rw [getD_of hm1, hb]
        decide
      · have hb : rowOk ms m = true := (Bool.not_eq_false' (b := rowOk ms m)).mp hb
        refine ⟨_, rfl, .inl ⟨rfl, _, SqL.of (e4 _ _ hp2)⟩, _, rfl, p, _, _, rfl, rfl, e4 _ _ hp2, lt_line (by rw [List.length_map]; omega), ?_⟩
        refine ⟨⟨_, _, _, _, rfl⟩, same_at hp0 e5, by rw [upd_ne pD]; exact e4 _ _ hD2, ⟨ts ++ [R], by rw [upd_same, List.map_append]; rfl, by rw [List.length_append, htl]; rfl, fun j t m' hj hm' => ?_⟩, fun j hj => ?_⟩
        · by_cases hjl : j < ts.length
          · rw [List.getElem?_append_left hjl] at hj
            obtain ⟨h1, h2⟩ := hts j t m' hj hm'
            exact ⟨h1, by rw [upd_ne h1]; exact e4 _ _ h2⟩
          · have hje : j = ts.length := by
              have := (List.getElem?_eq_some_iff.mp hj).1
              rw [List.length_append, List.length_singleton] at this
              omega
            subst hje
            rw [List.getElem?_append_right (Nat.le_refl _), Nat.sub_self] at hj
            cases hj
            rw [htl, hm1] at hm'
            cases hm'
            exact ⟨Rp, by rw [upd_ne Rp, hR3, row_ok hb]⟩
        · by_cases z : j = i
          · rw [z, getD_of hm1]
            exact hb
          · exact hro j (by omega)
  · rintro σ H2 ⟨⟨o2, o3, o5, o6, rfl⟩, e3, hD2, ⟨ts, hp2, htl, hts⟩, hro⟩
    refine ⟨_, rfl, q p H2 e3 (List.all_eq_true.mpr fun j hj => hro j (by rw [hml]; exact List.mem_range.mp hj)) ⟨ts, hp2, ?_, fun i t r h1 h2 => ?_⟩⟩
    · rw [htl, hml]
      unfold tabT
      rw [List.length_map]
    · unfold tabT at h2
      rw [List.getElem?_map] at h2
      obtain ⟨m, hm1, rfl⟩ := Option.map_eq_some_iff.mp h2
      exact (hts i t m h1 hm1).2
theorem ok_gathered {f : Addr} {fd : FuncData} (F : FunD K "gathered" "gathered" (defArgs s_gathered) (defBody s_gathered) (defScope s_gathered) [] [] f fd) (hm : mg "gathered" = some (.ref f)) (T : Top K mg) : Def P w K mg base "gathered" 1 ["table", "places"] (spGathered K) := by
  refine def_mk F hm (F.bindsN fun _ _ _ _ _ _ us hl => match us, hl with | [_, _], _ => rfl) sc_gathered (fun vs H Q E h => ?_) (fun cdv A outer s H vs Q E hr h => ?_)
  · obtain ⟨a, b, tab, x, xs, rfl, _⟩ := h
    rfl
  obtain ⟨a, b, tab, x, xs, rfl, hT, hS, hn, hx, hxs, hrl, hrz, q⟩ := h
  refine ⟨_, (pss_cons (ps_asg (pv 1) (pg_star2L rfl (pgs_cons (pg_name (i := 2) sc_gathered.nd rfl (Or.inl rfl) (.inl rfl)) (pgs_cons (pg_name (i := 3) sc_gathered.nd rfl (Or.inl rfl) (.inl rfl)) pgs_nil))))
  (pss_cons (ps_for PassesOwn.never rfl (pi_listK K (pv 3)) (pg_name (i := 4) sc_gathered.nd rfl (Or.inl rfl) (.inl rfl))
  (pss_one (ps_set (i := 2) sc_gathered.nd rfl (Or.inl rfl) (pe_ix (ix_listK K) (pe_ix (ix_listK K) (pv 0) (pv 2) (fun _ _ => rfl)) (pv 4) (fun _ _ => rfl)))))
  (pss_one (ps_ret (pv 2))))), ?_⟩
  refine ⟨_, rfl, b, _, _, rfl, hS, fun p hp => ⟨_, [.ref p], rfl, _, [], rfl, rfl, ?_⟩⟩
  obtain ⟨ts, hA, htl, hts⟩ := hT
  have e1 := same_new hp (.lst (xs.map nV))
  refine ⟨_, rfl, p, rfl, ⟨_, SqL.of upd_same⟩, ?_⟩
  refine for_list (K := K) (a := p) (xs := xs.map nV) (fun i σ H' => (∃ o4 z, σ = [some (.ref a), some (.ref b), some (nV z), some (.ref p), o4] ∧ z < tab.length ∧ (xs.drop i).foldl (fun f y => (tab.getD f []).getD y 0) z = xs.foldl (fun f y => (tab.getD f []).getD y 0) x) ∧ H' = upd H p (.lst (xs.map nV)))
    ⟨⟨_, x, rfl, hx, rfl⟩, rfl⟩ (fun i σ H' _ h => by rw [h.2]; exact SqL.of upd_same) ?_ ?_
  · rintro i v σ H2 hv ⟨⟨o4, z, rfl, hz, hf⟩, rfl⟩
    obtain ⟨y, hy, rfl⟩ := map_get hv
    have hyt := hxs y (List.mem_of_getElem? hy)
    have hzt : z < ts.length := by omega
    have hr : tab[z]? = some (tab.getD z []) := by rw [List.getD_eq_getElem?_getD, List.getElem?_eq_getElem hz] <;> rfl
    have hmem := List.mem_of_getElem? hr
    have hyl : y < (tab.getD z []).length := by rw [hrl _ hmem]; exact hyt
    have hy2 : (tab.getD z [])[y]? = some ((tab.getD z []).getD y 0) := by rw [List.getD_eq_getElem?_getD (l := tab.getD z []), List.getElem?_eq_getElem hyl] <;> rfl
    refine ⟨_, rfl, _, rfl, a, _, _, _, rfl, rfl, SqL.of (e1 _ _ hA), atI_nat (v := V.ref ts[z]) (by rw [List.getElem?_map, List.getElem?_eq_getElem hzt] <;> rfl), _, rfl, ts[z], _, _, _, rfl, rfl, SqL.of (e1 _ _ (hts z _ _ (List.getElem?_eq_getElem hzt) hr)), atI_nat (v := nV ((tab.getD z []).getD y 0)) (by rw [List.getElem?_map, hy2] <;> rfl), ?_⟩
    refine ⟨⟨_, _, rfl, hrz _ hmem _ (List.mem_of_getElem? hy2), ?_⟩, rfl⟩
    rw [← hf]
    have : xs.drop i = y :: xs.drop (i + 1) := by
      have hil := (List.getElem?_eq_some_iff.mp hy).1
      rw [List.drop_eq_getElem_cons hil]
      congr 1
      exact (List.getElem?_eq_some_iff.mp hy).2
    rw [this] <;> rfl
  · rintro σ H2 ⟨⟨o4, z, rfl, hz, hf⟩, rfl⟩
    rw [List.length_map, List.drop_length] at hf
    refine ⟨_, rfl, ?_⟩
    have h := q _ e1
    rw [← hf] at h
    exact h
end
end FF
/-! the class Board: made, its rows, its length -/
namespace FF
open PySem PySem.Spec PyProof.Rows L2
theorem sl_b {K : PySem.W.Frag} {H H' : Hp} {a b C dx : Addr} {fs : List (Str × V)} {xs : List V} (hb : H b = some (.ins C dx fs)) (e : SameB b H H') (h : SqL K H a xs) : SqL K H' a xs := by
  rcases h with (h | ⟨o, h⟩) | h
  · exact .inl (.inl (e _ _ (fun z => by rw [z, hb] at h; cases h) h))
  · exact .inl (.inr ⟨o, e _ _ (fun z => by rw [z, hb] at h; cases h) h⟩)
  · exact .inr h
theorem tab_b {H H' : Hp} {p b C dx : Addr} {fs : List (Str × V)} {tab : List (List Nat)} (hb : H b = some (.ins C dx fs)) (e : SameB b H H') (h : TabAt H p tab) : TabAt H' p tab := by
  obtain ⟨ts, h1, h2, h3⟩ := h
  have ne : ∀ {t : Addr} {xs : List V}, H t = some (.lst xs) → H' t = some (.lst xs) := fun {t xs} ht => e _ _ (fun z => by rw [z, hb] at ht; cases ht) ht
  exact ⟨ts, ne h1, h2, fun i t r a b => ne (h3 i t r a b)⟩
def gathL (tab : List (List Nat)) (x : Nat) (xs : List Nat) : Nat := xs.foldl (fun f y => (tab.getD f []).getD y 0) x
def gathA (tab : List (List Nat)) : Nat := gathL tab 0 ((List.range (tab.length - 1)).map (· + 1))
theorem rgV_nat (n : Nat) : rgV 0 (n : Int) = (List.range n).map nV := by
  unfold rgV
  rw [show ((n : Int) - 0).toNat = n by omega]
  refine List.map_congr_left fun i _ => ?_
  rw [Int.zero_add]
theorem range_cons {n : Nat} (h : 1 ≤ n) : List.range n = 0 :: (List.range (n - 1)).map (· + 1) := by
  obtain ⟨m, rfl⟩ : ∃ m, n = m + 1 := ⟨n - 1, by omega⟩
  rw [List.range_succ_eq_map]
  rfl
/-- a good table of n places -/
structure TabOk (n : Nat) (tab : List (List Nat)) : Prop where
  len : tab.length = n
  row : ∀ r ∈ tab, r.length = n
  ent : ∀ r ∈ tab, ∀ z ∈ r, z < n
theorem tabT_ok {ms : List Nat} (h : 1 ≤ ms.length) : TabOk ms.length (tabT ms) := by
  refine ⟨by unfold tabT; rw [List.length_map], fun r hr => ?_, fun r hr z hz => ?_⟩
  · obtain ⟨m, _, rfl⟩ := List.mem_map.mp hr
    unfold rowT
    rw [List.length_map, List.length_range]
  · obtain ⟨m, _, rfl⟩ := List.mem_map.mp hr
    obtain ⟨y, _, rfl⟩ := List.mem_map.mp hz
    show (meetAt ms m y).getD 0 < _
    cases e : meetAt ms m y with
    | none => exact h
    | some z => exact (lastTo_some e).1
/-- what a board's object holds -/
def brdF (lo up li : Addr) (l g : Nat) : List (Str × V) := [(("lows" : Str), .ref lo), (("ups" : Str), .ref up), (("lines" : Str), .ref li), (("least" : Str), nV l), (("greatest" : Str), nV g)]
def BoardAt (K : PySem.W.Frag) (H : Hp) (b dx li : Addr) (rs : List Str) : Prop := progBoard rs = true ∧ ∃ lo up : Addr, H b = some (.ins (He.ga K "Board") dx (brdF lo up li (gathA (tabT (below rs))) (gathA (tabT (above rs))))) ∧ TabAt H lo (tabT (below rs)) ∧ TabAt H up (tabT (above rs)) ∧ H li = some (.lst (rs.map V.str))
theorem BoardAt.up {K : PySem.W.Frag} {H H' : Hp} {b dx li : Addr} {rs : List Str} (h : BoardAt K H b dx li rs) (e : Same H H') : BoardAt K H' b dx li rs := by
  obtain ⟨h0, lo, up, h1, h2, h3, h4⟩ := h
  exact ⟨h0, lo, up, e _ _ h1, h2.up e, h3.up e, e _ _ h4⟩
theorem TabAt.upN {H H' : Hp} {p : Addr} {tab : List (List Nat)} (e : LamX.ExtN H H') (h : TabAt H p tab) : TabAt H' p tab := by
  obtain ⟨ts, h1, h2, h3⟩ := h
  exact ⟨ts, e _ _ h1 (fun ps z => by cases z), h2, fun i t r a b => e _ _ (h3 i t r a b) (fun ps z => by cases z)⟩
theorem BoardAt.upN {K : PySem.W.Frag} {H H' : Hp} {b dx li : Addr} {rs : List Str} (h : BoardAt K H b dx li rs) (e : LamX.ExtN H H') : BoardAt K H' b dx li rs := by
  obtain ⟨h0, lo, up, h1, h2, h3, h4⟩ := h
  exact ⟨h0, lo, up, e _ _ h1 (fun ps z => by cases z), h2.upN e, h3.upN e, e _ _ h4 (fun ps z => by cases z)⟩
def spMeetV (K : PySem.W.Frag) : Sp := fun vs H Q _ => ∃ (a : Addr) (ms : List Nat), vs = [.ref a] ∧ SqL K H a (ms.map nV) ∧ ms.length ≤ 60 ∧ ∀ v H', Same H H' → ((∃ p, v = .ref p ∧ meetB ms = true ∧ TabAt H' p (tabT ms)) ∨ (v = .non ∧ meetB ms = false)) → Q v H'
theorem meet_v {K : PySem.W.Frag} (vs : List V) (H : Hp) (Q : VK) (E : XK) (h : spMeetV K vs H Q E) : spMeet K vs H Q E := by
  obtain ⟨a, ms, h1, h2, h3, q⟩ := h
  exact ⟨a, ms, h1, h2, h3, fun p H' e m t => q _ H' e (.inl ⟨p, rfl, m, t⟩), fun H' e m => q _ H' e (.inr ⟨rfl, m⟩)⟩
def ibE (K : PySem.W.Frag) (b : Addr) (H : Hp) (E : XK) : Prop := ∀ dd H', SameB b H H' → Thr ("InvalidBoard" : Str) dd H' → E (.ref (He.ga K "InvalidBoard")) dd H'
def spBoard (K : PySem.W.Frag) : Sp := fun vs H Q E => ∃ (b a dx : Addr) (rs : List Str), vs = [.ref b, .ref a] ∧ H b = some (.ins (He.ga K "Board") dx []) ∧ SqL K H a (rs.map V.str) ∧ rs.length ≤ 1000 ∧ (∀ r ∈ rs, r.length ≤ 10000) ∧
  (progBoard rs = true → ∀ li H', H li = none → SameB b H H' → BoardAt K H' b dx li rs → Q .non H') ∧ (progBoard rs = false → ibE K b H E)
section
variable {P : Program} {w : World} {K : PySem.W.Frag} {mg : Str → Option Value} {base : Heap}
theorem gathered_all {K : PySem.W.Frag} {H : Hp} {tab : List (List Nat)} {n : Nat} {a q : Addr} {Q : VK} {E : XK} (ht : TabAt H a tab) (ok : TabOk n tab) (hn : 1 ≤ n) (h60 : n ≤ 60) (hq : H q = some (.lst (rgV 0 (n : Int)))) (k : ∀ H', Same H H' → Q (nV (gathA tab)) H') :
    spGathered K [.ref a, .ref q] H Q E := by
  refine ⟨a, q, tab, 0, (List.range (n - 1)).map (· + 1), rfl, ht, SqL.of ?_, ?_, ?_, fun y hy => ?_, fun r hr => ?_, fun r hr z hz => ?_, ?_⟩
  · rw [hq, rgV_nat, range_cons hn] <;> rfl
  · rw [List.length_map, List.length_range]
    omega
  · rw [ok.len]
    omega
  · obtain ⟨z, hz, rfl⟩ := List.mem_map.mp hy
    have := List.mem_range.mp hz
    rw [ok.len]
    omega
  · rw [ok.len]
    exact ok.row r hr
  · rw [ok.len]
    exact ok.ent r hr z hz
  · have e : gathA tab = ((List.range (n - 1)).map (· + 1)).foldl (fun f y => (tab.getD f []).getD y 0) 0 := by
      unfold gathA gathL
      rw [ok.len]
    rw [← e]
    exact k
set_option maxHeartbeats 8000000 in
theorem ok_board_init {fd : FuncData} (F : FunD K "__init__" "Board.__init__" (defArgs s_Board___init__) (defBody s_Board___init__) (defScope s_Board___init__) [] [] (He.ma K (He.ga K "Board") "__init__") fd) (T : Top K mg)
    (D_is_square : Def P w K mg base "is_square" 1 ["rows", "limit"] (spSquare K)) (D_mask_of : Def P w K mg base "mask_of" 1 ["text"] spMask) (D_turned_rows : Def P w K mg base "turned_rows" 1 ["rows"] (spTurned K))
    (D_is_order : Def P w K mg base "is_order" 1 ["masks"] (spOrder K)) (D_meeting_places0 : Def P w K mg base "meeting_places" 1 ["masks"] (spMeet K)) (D_gathered : Def P w K mg base "gathered" 1 ["table", "places"] (spGathered K))
    (x_InvalidBoard : RaiseD P w K mg base "InvalidBoard" "FaultError" 2 "InvalidBoard") : FnOk P w K mg base (L2.CX P w) 4 (He.ma K (He.ga K "Board") "__init__") fd ["self", "rows"] (spBoard K) := by
  have D_meeting_places := D_meeting_places0.imp (sp' := spMeetV K) meet_v
  refine FunD.ok F sc_Board___init__ (fun vs H Q E h => ?_) (fun cdv A outer s0 H vs Q E hr h => ?_)
  · obtain ⟨b, a, dx, rs, rfl, _⟩ := h
    rfl
  obtain ⟨b, a, dx, rs, rfl, hb, hS, hl, hlr, q1, q2⟩ := h
  have tk : Takes (cxOf (L2.CX P w) P w K mg base ["self", "rows", "above", "row", "below"] "Board.__init__" (defScope s_Board___init__) (He.ma K (He.ga K "Board") "__init__") cdv A outer s0 H E) (fun cls d _ H => E cls d H) := takes_of rfl rfl rfl rfl
  refine ⟨_, (pss_cons (ps_if (pt_not (pt_val (pe_def D_is_square hr (by first | decide | omega) (pa_cons (pv 1) (pa_cons pe_int pa_nil)))))
  (pss_one (ps_raise rfl tk (pmk_raise x_InvalidBoard hr (by first | decide | omega))))
  pss_nil)
  (pss_cons (ps_setLc (i := 2) (own := [("row", 3)]) rfl sc_Board___init__.nd rfl rfl (sw_true rfl rfl rfl (by kernel_rfl)) (pi_listK K (pv 1)) (blkOk_by (by kernel_rfl)) (fun _ _ _ _ _ => (pg_name (i := 3) sc_Board___init__.nd rfl (Or.inl rfl) (.inr rfl))) (fun _ _ _ _ _ => pts_nil) (fun _ _ _ _ _ => (pe_def D_mask_of hr (by first | decide | omega) (pa_cons (pv 3) pa_nil))))
  (pss_cons (ps_setLc (i := 4) (own := [("row", 3)]) rfl sc_Board___init__.nd rfl rfl (sw_true rfl rfl rfl (by kernel_rfl)) (pi_listK K (pe_def D_turned_rows hr (by first | decide | omega) (pa_cons (pv 1) pa_nil))) (blkOk_by (by kernel_rfl)) (fun _ _ _ _ _ => (pg_name (i := 3) sc_Board___init__.nd rfl (Or.inl rfl) (.inr rfl))) (fun _ _ _ _ _ => pts_nil) (fun _ _ _ _ _ => (pe_def D_mask_of hr (by first | decide | omega) (pa_cons (pv 3) pa_nil))))
  (pss_cons (ps_if (pt_not (pt_val (pe_def D_is_order hr (by first | decide | omega) (pa_cons (pv 2) pa_nil))))
  (pss_one (ps_raise rfl tk (pmk_raise x_InvalidBoard hr (by first | decide | omega))))
  pss_nil)
  (pss_cons (ps_fld (pv 0) (pe_def D_meeting_places hr (by first | decide | omega) (pa_cons (pv 4) pa_nil)) rfl)
  (pss_cons (ps_fld (pv 0) (pe_def D_meeting_places hr (by first | decide | omega) (pa_cons (pv 2) pa_nil)) rfl)
  (pss_cons (ps_if (PW.pt (pw_or (pt_cmp (pc_isN (pe_fld (pv 0) rfl)) (by rfl)) (pw_or1 (pt_cmp (pc_isN (pe_fld (pv 0) rfl)) (by rfl)))))
  (pss_one (ps_raise rfl tk (pmk_raise x_InvalidBoard hr (by first | decide | omega))))
  pss_nil)
  (pss_cons (ps_fld (pv 0) (pe_callTy (call_list_ofK K) (by rfl) T.b_list (by decide +kernel) (pa_cons (pv 1) pa_nil)) rfl)
  (pss_cons (ps_fld (pv 0) (pe_def D_gathered hr (by first | decide | omega) (pa_cons (pe_fld (pv 0) rfl) (pa_cons (pe_listRg rfl (by rfl) T.b_list (prg_1 (by rfl) T.b_range (pe_callB (call_lenK K) (by rfl) T.b_len (by decide +kernel) (pa_cons (pv 1) pa_nil)))) pa_nil))) rfl)
  (pss_one (ps_fld (pv 0) (pe_def D_gathered hr (by first | decide | omega) (pa_cons (pe_fld (pv 0) rfl) (pa_cons (pe_listRg rfl (by rfl) T.b_list (prg_1 (by rfl) T.b_range (pe_callB (call_lenK K) (by rfl) T.b_len (by decide +kernel) (pa_cons (pv 1) pa_nil)))) pa_nil))) rfl))))))))))), ?_⟩
  refine ⟨_, rfl, a, rs, rfl, hS, hl, hlr, fun H1 e1 => ⟨_, rfl, ?_⟩⟩
  refine if_nb (fun h1 => ?_) (fun h1 => ?_)
  · refine fun dd H2 e2 ht => q2 ?_ dd H2 (sb_of (e1.trans e2)) ht
    unfold progBoard
    rw [h1, Bool.false_and]
  have sq := sq_iff.mp h1
  have hn := sq.le
  have hp := sq.pos
  have mlen : ∀ r ∈ rs, Bits (tl r) ∧ 1 ≤ r.length ∧ r.length ≤ 60 := fun r hr => ⟨sq.dig r hr, by rw [sq.len r hr]; exact hp, by rw [sq.len r hr]; exact hn⟩
  refine ⟨_, rfl, a, rfl, ⟨_, up_l e1 hS⟩, fun D hD => ?_⟩
  refine lc_mapL (j := 3) (R := fun i y _ => ∃ r, rs[i]? = some r ∧ y = nV (maskN r)) (fun _ _ _ _ _ h => h) hD (up_l e1 hS) (le_line (by rw [List.length_map]; omega)) (fun _ => rfl) ?_ ?_
  · intro i x H2 hx e2 Q' k'
    obtain ⟨r, hr, rfl⟩ := map_get hx
    obtain ⟨m1, m2, m3⟩ := mlen r (List.mem_of_getElem? hr)
    exact ⟨_, rfl, r, rfl, m1, m2, m3, k' _ _ (Same.refl _) ⟨r, hr, rfl⟩⟩
  intro H2 ys e2 hD2 hyl hy
  have hys : ys = (above rs).map nV := by
    unfold above
    rw [List.map_map]
    exact eq_map_of (by rw [hyl, List.length_map]) fun i y h => hy i y h
  subst hys
  clear hy hyl
  refine ⟨_, rfl, a, rs, rfl, up_l (e1.trans e2) hS, sq, fun t H3 e3 ht ht3 => ⟨t, rfl, ⟨_, SqL.of ht3⟩, fun D2 hD2' => ?_⟩⟩
  refine lc_mapL (j := 3) (R := fun i y _ => ∃ r, (cols rs)[i]? = some r ∧ y = nV (maskN r)) (fun _ _ _ _ _ h => h) hD2' (SqL.of ht3) (le_line (by rw [List.length_map]; unfold cols; rw [List.length_map, List.length_range]; omega)) (fun _ => rfl) ?_ ?_
  · intro i x H4 hx e4 Q' k'
    obtain ⟨r, hr, rfl⟩ := map_get hx
    have hc : (cols rs)[i]? = some r := hr
    unfold cols at hr
    rw [List.getElem?_map] at hr
    obtain ⟨j, hj, rfl⟩ := Option.map_eq_some_iff.mp hr
    have hj2 := List.mem_range.mp (List.mem_of_getElem? hj)
    have hcl : (colS rs j).length = rs.length := by
      show (rs.map fun r => (tl r).getD j 0).toArray.size = _
      rw [List.size_toArray, List.length_map]
    exact ⟨_, rfl, colS rs j, rfl, col_dig sq hj2, by omega, by omega, k' _ _ (Same.refl _) ⟨_, hc, rfl⟩⟩
  intro H4 ys e4 hD4 hyl hy
  have hys : ys = (below rs).map nV := by
    unfold below
    rw [List.map_map]
    exact eq_map_of (by rw [hyl, List.length_map]) fun i y h => hy i y h
  subst hys
  clear hy hyl
  have e14 := e1.trans (e2.trans (e3.trans e4))
  have hD4a := e4 _ _ (e3 _ _ hD2)
  have al := above_len (rs := rs)
  have bl := below_len (rs := rs)
  refine ⟨_, rfl, D, above rs, rfl, SqL.of hD4a, by omega, fun H5 e5 => ⟨_, rfl, ?_⟩⟩
  refine if_nb (fun h2 => ?_) (fun h2 => ?_)
  · refine fun dd H2 e2 ht => q2 ?_ dd H2 (sb_of (e14.trans (e5.trans e2))) ht
    unfold progBoard
    rw [h1, h2] <;> rfl
  have e15 := e14.trans e5
  refine ⟨_, rfl, D2, below rs, rfl, SqL.of (e5 _ _ hD4), by omega, fun v1 H6 e6 hv1 => ?_⟩
  have hb6 := (e15.trans e6) _ _ hb
  refine ⟨_, rfl, b, _, dx, _, rfl, hb6, T.k_Board, T.n_Board_lows, (by decide : 0 < 1000), ?_⟩
  have n6 : SameB b H (upd H6 b (.ins (He.ga K "Board") dx (putF "lows" v1 []))) := (sb_of (e15.trans e6)).tr sb_upd
  have hDb : D ≠ b := fun z => by
    have h8 := (e5.trans e6) _ _ hD4a
    rw [z, hb6] at h8
    cases h8
  have hD7 : (upd H6 b (.ins (He.ga K "Board") dx (putF "lows" v1 []))) D = some (.lst ((above rs).map nV)) := by
    rw [upd_ne hDb]
    exact (e5.trans e6) _ _ hD4a
  refine ⟨_, rfl, D, above rs, rfl, SqL.of hD7, by omega, fun v2 H8 e8 hv2 => ?_⟩
  have hb8 := e8 _ _ upd_same
  refine ⟨_, rfl, b, _, dx, _, rfl, hb8, T.k_Board, T.n_Board_ups, (by show 1 < 1000; decide), ?_⟩
  have pf : putF "ups" v2 (putF "lows" v1 []) = [(("lows" : Str), v1), (("ups" : Str), v2)] := by rfl
  rw [pf]
  have n8 : SameB b H (upd H8 b (.ins (He.ga K "Board") dx [(("lows" : Str), v1), (("ups" : Str), v2)])) := (n6.tr (sb_of e8)).tr sb_upd
  have hb9 : (upd H8 b (.ins (He.ga K "Board") dx [(("lows" : Str), v1), (("ups" : Str), v2)])) b = some (.ins (He.ga K "Board") dx [(("lows" : Str), v1), (("ups" : Str), v2)]) := upd_same
  have hS9 := sl_b hb n8 hS
  have bad : (meetB (below rs) && meetB (above rs)) = false → progBoard rs = false := fun h => by
    unfold progBoard
    rw [h, h1, h2] <;> rfl
  have v1t : (∃ p, v1 = .ref p ∧ meetB (below rs) = true ∧ TabAt (upd H8 b (.ins (He.ga K "Board") dx [(("lows" : Str), v1), (("ups" : Str), v2)])) p (tabT (below rs))) ∨ (v1 = .non ∧ meetB (below rs) = false) := by
    rcases hv1 with ⟨p, hp, hm, ht⟩ | h
    · exact .inl ⟨p, hp, hm, tab_b hb8 sb_upd ((tab_b hb6 sb_upd ht).up e8)⟩
    · exact .inr h
  have v2t : (∃ p, v2 = .ref p ∧ meetB (above rs) = true ∧ TabAt (upd H8 b (.ins (He.ga K "Board") dx [(("lows" : Str), v1), (("ups" : Str), v2)])) p (tabT (above rs))) ∨ (v2 = .non ∧ meetB (above rs) = false) := by
    rcases hv2 with ⟨p, hp, hm, ht⟩ | h
    · exact .inl ⟨p, hp, hm, tab_b hb8 sb_upd ht⟩
    · exact .inr h
  clear hv1 hv2
  generalize upd H8 b (.ins (He.ga K "Board") dx [(("lows" : Str), v1), (("ups" : Str), v2)]) = H9 at n8 hb9 hS9 v1t v2t ⊢
  refine ⟨_, rfl, b, _, dx, _, _, rfl, hb9, T.k_Board, T.n_Board_lows, rfl, _, rfl, ?_⟩
  refine if_dec (fun h3 => ?_) (fun h3 => ?_)
  · subst h3
    refine fun dd H2 e2 ht => q2 (bad ?_) dd H2 (n8.tr (sb_of e2)) ht
    rcases v1t with ⟨p, hp, _⟩ | ⟨_, h⟩
    · cases hp
    · rw [h, Bool.false_and]
  refine ⟨_, rfl, b, _, dx, _, _, rfl, hb9, T.k_Board, T.n_Board_ups, rfl, _, rfl, ?_⟩
  refine if_dec (fun h4 => ?_) (fun h4 => ?_)
  · subst h4
    refine fun dd H2 e2 ht => q2 (bad ?_) dd H2 (n8.tr (sb_of e2)) ht
    rcases v2t with ⟨p, hp, _⟩ | ⟨_, h⟩
    · cases hp
    · rw [h, Bool.and_false]
  obtain ⟨lo, rfl, m1, t1⟩ : ∃ p, v1 = .ref p ∧ meetB (below rs) = true ∧ TabAt H9 p (tabT (below rs)) := v1t.resolve_right fun h => h3 h.1
  obtain ⟨up, rfl, m2, t2⟩ : ∃ p, v2 = .ref p ∧ meetB (above rs) = true ∧ TabAt H9 p (tabT (above rs)) := v2t.resolve_right fun h => h4 h.1
  have good : progBoard rs = true := by
    unfold progBoard
    rw [h1, h2, m1, m2] <;> rfl
  clear h3 h4 v1t v2t bad
  have ok1 := bl ▸ tabT_ok (ms := below rs) (by omega)
  have ok2 := al ▸ tabT_ok (ms := above rs) (by omega)
  refine ⟨_, rfl, a, _, rfl, .inl hS9, fun li hli => ?_⟩
  have f1 := same_new hli (.lst (rs.map V.str))
  have hb10 := f1 _ _ hb9
  refine ⟨_, rfl, b, _, dx, _, rfl, hb10, T.k_Board, T.n_Board_lines, (by show 2 < 1000; decide), ?_⟩
  have pf2 : putF "lines" (.ref li) [(("lows" : Str), .ref lo), (("ups" : Str), .ref up)] = [(("lows" : Str), .ref lo), (("ups" : Str), .ref up), (("lines" : Str), .ref li)] := by rfl
  rw [pf2]
  have lib : li ≠ b := fun z => by rw [z, hb9] at hli; cases hli
  have liN : H li = none := by
    cases hz : H li with
    | none => rfl
    | some o =>
      rw [n8 _ _ lib hz] at hli
      cases hli
  have n10 := (n8.tr (sb_of f1)).tr (sb_upd (a := b) (o := .ins (He.ga K "Board") dx [(("lows" : Str), .ref lo), (("ups" : Str), .ref up), (("lines" : Str), .ref li)]))
  have t1b := tab_b hb10 (sb_upd (o := .ins (He.ga K "Board") dx [(("lows" : Str), .ref lo), (("ups" : Str), .ref up), (("lines" : Str), .ref li)])) (t1.up f1)
  have t2b := tab_b hb10 (sb_upd (o := .ins (He.ga K "Board") dx [(("lows" : Str), .ref lo), (("ups" : Str), .ref up), (("lines" : Str), .ref li)])) (t2.up f1)
  have li10 : (upd (upd H9 li (.lst (rs.map V.str))) b (.ins (He.ga K "Board") dx [(("lows" : Str), .ref lo), (("ups" : Str), .ref up), (("lines" : Str), .ref li)])) li = some (.lst (rs.map V.str)) := by
    rw [upd_ne lib]
    exact upd_same
  have hb11 : (upd (upd H9 li (.lst (rs.map V.str))) b (.ins (He.ga K "Board") dx [(("lows" : Str), .ref lo), (("ups" : Str), .ref up), (("lines" : Str), .ref li)])) b = some (.ins (He.ga K "Board") dx [(("lows" : Str), .ref lo), (("ups" : Str), .ref up), (("lines" : Str), .ref li)]) := upd_same
  have hS11 := sl_b hb n10 hS
  generalize upd (upd H9 li (.lst (rs.map V.str))) b (.ins (He.ga K "Board") dx [(("lows" : Str), .ref lo), (("ups" : Str), .ref up), (("lines" : Str), .ref li)]) = H11 at n10 t1b t2b li10 hb11 hS11 ⊢
  have rg : RgOk 0 (rs.length : Int) := RgOk.of_le (by omega) (by omega) (by omega) (by omega)
  refine ⟨_, rfl, b, _, dx, _, _, rfl, hb11, T.k_Board, T.n_Board_lows, rfl, _, rfl, _, rs.length, rfl, .inl ⟨_, hS11, (List.length_map _).symm⟩, _, rfl, rg, fun g1 hg1 => ?_⟩
  have f2 := same_new hg1 (.lst (rgV 0 (rs.length : Int)))
  try unfold tNil
  dsimp only [List.append_nil, List.cons_append, List.nil_append]
  refine gathered_all (t1b.up f2) ok1 hp hn upd_same fun H12 e12 => ?_
  have f12 := f2.trans e12
  refine ⟨_, rfl, b, _, dx, _, rfl, f12 _ _ hb11, T.k_Board, T.n_Board_least, (by show 3 < 1000; decide), ?_⟩
  have pf3 : putF "least" (nV (gathA (tabT (below rs)))) [(("lows" : Str), .ref lo), (("ups" : Str), .ref up), (("lines" : Str), .ref li)] = [(("lows" : Str), .ref lo), (("ups" : Str), .ref up), (("lines" : Str), .ref li), (("least" : Str), nV (gathA (tabT (below rs))))] := by rfl
  rw [pf3]
  have hb12 := f12 _ _ hb11
  have n13 := (n10.tr (sb_of f12)).tr (sb_upd (a := b) (o := .ins (He.ga K "Board") dx [(("lows" : Str), .ref lo), (("ups" : Str), .ref up), (("lines" : Str), .ref li), (("least" : Str), nV (gathA (tabT (below rs))))]))
  have t1c := tab_b hb12 (sb_upd (o := .ins (He.ga K "Board") dx [(("lows" : Str), .ref lo), (("ups" : Str), .ref up), (("lines" : Str), .ref li), (("least" : Str), nV (gathA (tabT (below rs))))])) (t1b.up f12)
  have t2c := tab_b hb12 (sb_upd (o := .ins (He.ga K "Board") dx [(("lows" : Str), .ref lo), (("ups" : Str), .ref up), (("lines" : Str), .ref li), (("least" : Str), nV (gathA (tabT (below rs))))])) (t2b.up f12)
  have li13 : (upd H12 b (.ins (He.ga K "Board") dx [(("lows" : Str), .ref lo), (("ups" : Str), .ref up), (("lines" : Str), .ref li), (("least" : Str), nV (gathA (tabT (below rs))))])) li = some (.lst (rs.map V.str)) := by
    rw [upd_ne lib]
    exact f12 _ _ li10
  have hb13 : (upd H12 b (.ins (He.ga K "Board") dx [(("lows" : Str), .ref lo), (("ups" : Str), .ref up), (("lines" : Str), .ref li), (("least" : Str), nV (gathA (tabT (below rs))))])) b = some (.ins (He.ga K "Board") dx [(("lows" : Str), .ref lo), (("ups" : Str), .ref up), (("lines" : Str), .ref li), (("least" : Str), nV (gathA (tabT (below rs))))]) := upd_same
  have hS13 := sl_b hb n13 hS
  generalize upd H12 b (.ins (He.ga K "Board") dx [(("lows" : Str), .ref lo), (("ups" : Str), .ref up), (("lines" : Str), .ref li), (("least" : Str), nV (gathA (tabT (below rs))))]) = H13 at n13 t1c t2c li13 hb13 hS13 ⊢
  refine ⟨_, rfl, b, _, dx, _, _, rfl, hb13, T.k_Board, T.n_Board_ups, rfl, _, rfl, _, rs.length, rfl, .inl ⟨_, hS13, (List.length_map _).symm⟩, _, rfl, rg, fun g2 hg2 => ?_⟩
  have f3 := same_new hg2 (.lst (rgV 0 (rs.length : Int)))
  try unfold tNil
  dsimp only [List.append_nil, List.cons_append, List.nil_append]
  refine gathered_all (t2c.up f3) ok2 hp hn upd_same fun H14 e14 => ?_
  have f14 := f3.trans e14
  have hb14 := f14 _ _ hb13
  refine ⟨_, rfl, b, _, dx, _, rfl, hb14, T.k_Board, T.n_Board_greatest, (by show 4 < 1000; decide), ?_⟩
  refine q1 good li _ liN ((n13.tr (sb_of f14)).tr sb_upd) ⟨good, lo, up, ?_, tab_b hb14 sb_upd (t1c.up f14), tab_b hb14 sb_upd (t2c.up f14), ?_⟩
  · rw [upd_same] <;> rfl
  · rw [upd_ne lib]
    exact f14 _ _ li13
/-- the object and its rows alone -/
def LinesAt (K : PySem.W.Frag) (H : Hp) (b dx li : Addr) (rs : List Str) : Prop := ∃ (lo up : Addr) (l g : Nat), H b = some (.ins (He.ga K "Board") dx (brdF lo up li l g)) ∧ H li = some (.lst (rs.map V.str))
theorem BoardAt.lines {K : PySem.W.Frag} {H : Hp} {b dx li : Addr} {rs : List Str} (h : BoardAt K H b dx li rs) : LinesAt K H b dx li rs := by
  obtain ⟨_, lo, up, h1, _, _, h4⟩ := h
  exact ⟨lo, up, _, _, h1, h4⟩
theorem LinesAt.up {K : PySem.W.Frag} {H H' : Hp} {b dx li : Addr} {rs : List Str} (h : LinesAt K H b dx li rs) (e : Same H H') : LinesAt K H' b dx li rs := by
  obtain ⟨lo, up, l, g, h1, h2⟩ := h
  exact ⟨lo, up, l, g, e _ _ h1, e _ _ h2⟩
end
end FF
/-! Board.rows, Board.__len__ -/
namespace FF
open PySem PySem.Spec PyProof.Rows L2
section
variable {P : Program} {w : World} {K : PySem.W.Frag} {mg : Str → Option Value} {base : Heap}
def spRowsB (K : PySem.W.Frag) : Sp := fun vs H Q _ => ∃ (b dx li : Addr) (rs : List Str), vs = [.ref b] ∧ LinesAt K H b dx li rs ∧ ∀ p, H p = none → Q (.ref p) (upd H p (.lst (rs.map V.str)))
def spLenB (K : PySem.W.Frag) : Sp := fun vs H Q _ => ∃ (b dx li : Addr) (rs : List Str), vs = [.ref b] ∧ LinesAt K H b dx li rs ∧ Q (nV rs.length) H
theorem ok_rowsB {fd : FuncData} (F : FunD K "rows" "Board.rows" (defArgs s_Board_rows) (defBody s_Board_rows) (defScope s_Board_rows) [] [] (He.ma K (He.ga K "Board") "rows") fd) (T : Top K mg) : MethD P w K mg base "Board" "rows" 1 ["self"] (spRowsB K) := by
  refine methd_mk F (F.bindsN fun _ _ _ _ _ _ us hl => match us, hl with | [_], _ => rfl) T.k_Board T.m_Board_rows sc_Board_rows (fun vs H Q E h => ?_) (fun cdv A outer s H vs Q E hr h => ?_)
  · obtain ⟨b, dx, li, rs, rfl, _⟩ := h
    rfl
  obtain ⟨b, dx, li, rs, rfl, ⟨lo, up, l, g, hb, hli⟩, q⟩ := h
  refine ⟨_, (pss_one (ps_ret (pe_callTy (call_list_ofK K) (by rfl) T.b_list (by decide +kernel) (pa_cons (pe_fld (pv 0) rfl) pa_nil)))), ?_⟩
  exact ⟨_, rfl, b, _, dx, _, _, rfl, hb, T.k_Board, T.n_Board_lines, rfl, li, _, rfl, .inl (SqL.of hli), q⟩
theorem ok_lenB {fd : FuncData} (F : FunD K "__len__" "Board.__len__" (defArgs s_Board___len__) (defBody s_Board___len__) (defScope s_Board___len__) [] [] (He.ma K (He.ga K "Board") "__len__") fd) (T : Top K mg) : MethD P w K mg base "Board" "__len__" 1 ["self"] (spLenB K) := by
  refine methd_mk F (F.bindsN fun _ _ _ _ _ _ us hl => match us, hl with | [_], _ => rfl) T.k_Board T.m_Board___len__ sc_Board___len__ (fun vs H Q E h => ?_) (fun cdv A outer s H vs Q E hr h => ?_)
  · obtain ⟨b, dx, li, rs, rfl, _⟩ := h
    rfl
  obtain ⟨b, dx, li, rs, rfl, ⟨lo, up, l, g, hb, hli⟩, q⟩ := h
  refine ⟨_, (pss_one (ps_ret (pe_callB (call_lenK K) (by rfl) T.b_len (by decide +kernel) (pa_cons (pe_fld (pv 0) rfl) pa_nil)))), ?_⟩
  exact ⟨_, rfl, b, _, dx, _, _, rfl, hb, T.k_Board, T.n_Board_lines, rfl, .ref li, rs.length, rfl, .inl ⟨_, SqL.of hli, (List.length_map _).symm⟩, q⟩
end
end FF
/-! boards: families of numbers are boards; tables and what they gather -/
namespace FF
open PySem PySem.Spec PyProof.Rows L2
structure Fam (ms : List Nat) : Prop where
  nd : ms.Nodup
  cap : ∀ a ∈ ms, ∀ b ∈ ms, a &&& b ∈ ms
  top : ∃ t ∈ ms, ∀ a ∈ ms, a &&& t = a
theorem Fam.perm {ms ks : List Nat} (h : Fam ms) (p : ks.Perm ms) : Fam ks := by
  obtain ⟨h1, h2, t, ht, h3⟩ := h
  exact ⟨p.nodup_iff.mpr h1, fun a ha b hb => p.mem_iff.mpr (h2 a (p.mem_iff.mp ha) b (p.mem_iff.mp hb)), t, p.mem_iff.mpr ht, fun a ha => h3 a (p.mem_iff.mp ha)⟩
theorem Fam.pos {ms : List Nat} (h : Fam ms) : 1 ≤ ms.length := by
  obtain ⟨t, ht, _⟩ := h.top
  exact List.length_pos_of_mem ht
def sub1 (a b : Nat) : Nat := if a &&& b = a then 49 else 48
def rowsOf (ms : List Nat) : List Str := ms.map fun a => ⟨(ms.map fun b => sub1 a b).toArray⟩
theorem rowsOf_len (ms : List Nat) : (rowsOf ms).length = ms.length := List.length_map _
theorem rowsOf_sq {ms : List Nat} (h1 : 1 ≤ ms.length) (h2 : ms.length ≤ 60) : Sq (rowsOf ms) := by
  refine ⟨by rw [rowsOf_len]; exact h1, by rw [rowsOf_len]; exact h2, fun r hr => ?_, fun r hr c hc => ?_⟩
  · obtain ⟨a, _, rfl⟩ := List.mem_map.mp hr
    show (ms.map fun b => sub1 a b).toArray.size = _
    rw [List.size_toArray, List.length_map, rowsOf_len]
  · obtain ⟨a, _, rfl⟩ := List.mem_map.mp hr
    obtain ⟨b, _, rfl⟩ := List.mem_map.mp (show c ∈ ms.map fun b => sub1 a b from hc)
    unfold sub1
    split
    · exact .inr rfl
    · exact .inl rfl
theorem bit_rowsOf {ms : List Nat} {x y : Nat} (hx : x < ms.length) (hy : y < ms.length) : bit (rowsOf ms) x y = decide (ms[x] &&& ms[y] = ms[x]) := by
  unfold bit
  have e : (rowsOf ms)[x]? = some ⟨(ms.map fun b => sub1 ms[x] b).toArray⟩ := by
    unfold rowsOf
    rw [List.getElem?_map, List.getElem?_eq_getElem hx] <;> rfl
  rw [e]
  show ((ms.map fun b => sub1 ms[x] b)[y]? == some 49) = _
  rw [List.getElem?_map, List.getElem?_eq_getElem hy]
  show (some (sub1 ms[x] ms[y]) == some 49) = _
  unfold sub1
  by_cases h : ms[x] &&& ms[y] = ms[x]
  · rw [if_pos h, decide_eq_true h] <;> rfl
  · rw [if_neg h, decide_eq_false h] <;> rfl
theorem fam_board {ms : List Nat} (h : Fam ms) (h60 : ms.length ≤ 60) : progBoard (rowsOf ms) = true := by
  rw [board_alike]
  have sq := rowsOf_sq h.pos h60
  have b : ∀ {x y} (hx : x < ms.length) (hy : y < ms.length), bit (rowsOf ms) x y = true ↔ ms[x] &&& ms[y] = ms[x] := fun hx hy => by rw [bit_rowsOf hx hy, decide_eq_true_eq]
  have o : Ord (rowsOf ms).length (bit (rowsOf ms)) := by
    rw [rowsOf_len]
    refine ⟨fun x hx => (b hx hx).mpr (Nat.and_self _), fun x y z hx hy hz h1 h2 => ?_, fun x y hx hy h1 h2 => ?_⟩
    · have h1 := (b hx hy).mp h1
      have h2 := (b hy hz).mp h2
      refine (b hx hz).mpr ?_
      rw [← h1, Nat.and_assoc, h2]
    · have h1 := (b hx hy).mp h1
      have h2 := (b hy hx).mp h2
      have e : ms[x] = ms[y] := by
        rw [← h1, Nat.and_comm]
        exact h2
      exact (List.getElem_inj h.nd).mp e
  have at_ : ∀ {a}, a ∈ ms → ∃ i, ∃ hi : i < ms.length, ms[i] = a := fun ha => List.getElem_of_mem ha
  unfold lawBoard
  rw [sq_iff.mpr sq, orderL_iff.mpr o, (bounds_iff o).mpr ?_] <;> try rfl
  rw [rowsOf_len]
  refine ⟨fun x y hx hy => ?_, fun x y hx hy => ?_⟩
  · obtain ⟨z, hz, ez⟩ := at_ (h.cap _ (List.getElem_mem hx) _ (List.getElem_mem hy))
    refine ⟨z, hz, fun w hw => ?_⟩
    rw [b hw hz, b hw hx, b hw hy, ez]
    constructor
    · intro q
      constructor
      · rw [← q, Nat.and_assoc, Nat.and_assoc]
        congr 1
        rw [Nat.and_comm ms[y] ms[x], ← Nat.and_assoc, Nat.and_self]
      · rw [← q, Nat.and_assoc, Nat.and_assoc, Nat.and_self]
    · rintro ⟨q1, q2⟩
      rw [← Nat.and_assoc, q1, q2]
  · -- the least upper bound: the common part of all that lie above both
    have key : ∀ l : List Nat, (∀ a ∈ l, a ∈ ms) → ∃ m ∈ ms, (∀ a ∈ l, m &&& a = m) ∧ ∀ c, c ∈ ms → (∀ a ∈ l, c &&& a = c) → c &&& m = c := by
      intro l
      induction l with
      | nil =>
        intro _
        obtain ⟨t, ht, q⟩ := h.top
        exact ⟨t, ht, (fun a ha => by cases ha), fun c hc _ => q c hc⟩
      | cons a l ih =>
        intro ha
        obtain ⟨m, hm, q1, q2⟩ := ih fun d hd => ha d (List.mem_cons_of_mem _ hd)
        refine ⟨a &&& m, h.cap _ (ha a List.mem_cons_self) _ hm, fun d hd => ?_, fun c hc hd => ?_⟩
        · rcases List.mem_cons.mp hd with rfl | hd
          · rw [Nat.and_comm, ← Nat.and_assoc, Nat.and_self]
          · rw [Nat.and_assoc, q1 d hd]
        · rw [← Nat.and_assoc, hd a List.mem_cons_self]
          exact q2 c hc fun d hd' => hd d (List.mem_cons_of_mem _ hd')
    obtain ⟨m, hm, q1, q2⟩ := key (ms.filter fun a => decide (ms[x] &&& a = ms[x]) && decide (ms[y] &&& a = ms[y])) fun a ha => (List.mem_filter.mp ha).1
    obtain ⟨z, hz, ez⟩ := at_ hm
    have inU : ∀ {a}, a ∈ (ms.filter fun a => decide (ms[x] &&& a = ms[x]) && decide (ms[y] &&& a = ms[y])) ↔ a ∈ ms ∧ ms[x] &&& a = ms[x] ∧ ms[y] &&& a = ms[y] := fun {a} => by
      rw [List.mem_filter, Bool.and_eq_true, decide_eq_true_eq, decide_eq_true_eq]
    have zx : ms[x] &&& m = ms[x] := q2 _ (List.getElem_mem hx) fun a ha => (inU.mp ha).2.1
    have zy : ms[y] &&& m = ms[y] := q2 _ (List.getElem_mem hy) fun a ha => (inU.mp ha).2.2
    refine ⟨z, hz, fun w hw => ?_⟩
    show bit (rowsOf ms) z w = true ↔ bit (rowsOf ms) x w = true ∧ bit (rowsOf ms) y w = true
    rw [b hz hw, b hx hw, b hy hw, ez]
    constructor
    · intro q
      constructor
      · rw [← zx, Nat.and_assoc, q]
      · rw [← zy, Nat.and_assoc, q]
    · rintro ⟨p1, p2⟩
      exact q1 _ (inU.mpr ⟨List.getElem_mem hw, p1, p2⟩)
/-! ### tables -/
def IsGlb (n : Nat) (le : Nat → Nat → Bool) (x y z : Nat) : Prop := z < n ∧ ∀ w, w < n → (le w z = true ↔ le w x = true ∧ le w y = true)
theorem uniq {n : Nat} {le : Nat → Nat → Bool} (o : Ord n le) {z1 z2 : Nat} (h1 : z1 < n) (h2 : z2 < n) (h : ∀ w, w < n → (le w z1 = true ↔ le w z2 = true)) : z1 = z2 :=
  o.anti z1 z2 h1 h2 ((h z1 h1).mp (o.refl z1 h1)) ((h z2 h2).mpr (o.refl z2 h2))
theorem best_eq {n : Nat} {le : Nat → Nat → Bool} (o : Ord n le) {x y z : Nat} (hx : x < n) (hy : y < n) (h : IsGlb n le x y z) : bestL n le x y = [z] := by
  obtain ⟨hz, hg⟩ := h
  have hb : boundB n le x y = true := (bound_iff o hx hy).mpr ⟨z, hz, hg⟩
  unfold boundB at hb
  obtain ⟨u, hu⟩ := List.length_eq_one_iff.mp (beq_iff_eq.mp hb)
  rw [hu]
  have hm : u ∈ bestL n le x y := by rw [hu]; exact List.mem_singleton.mpr rfl
  unfold bestL someL at hm
  obtain ⟨h1, h2⟩ := List.mem_filter.mp hm
  obtain ⟨h3, h4⟩ := List.mem_filter.mp h1
  have hun := List.mem_range.mp h3
  obtain ⟨h5, h6⟩ := (Bool.and_eq_true _ _).mp h4
  have a1 := (hg u hun).mpr ⟨h5, h6⟩
  obtain ⟨b1, b2⟩ := (hg z hz).mp (o.refl z hz)
  have a2 := List.all_eq_true.mp h2 z (List.mem_filter.mpr ⟨List.mem_range.mpr hz, by rw [b1, b2]; rfl⟩)
  rw [o.anti u z hun hz a1 a2]
structure TabGlb (n : Nat) (le : Nat → Nat → Bool) (tab : List (List Nat)) : Prop where
  ok : TabOk n tab
  glb : ∀ x y, x < n → y < n → IsGlb n le x y ((tab.getD x []).getD y 0)
theorem gath_glb {n : Nat} {le : Nat → Nat → Bool} {tab : List (List Nat)} (T : TabGlb n le tab) : ∀ (xs : List Nat) (x : Nat), x < n → (∀ y ∈ xs, y < n) → gathL tab x xs < n ∧ ∀ w, w < n → (le w (gathL tab x xs) = true ↔ le w x = true ∧ ∀ y ∈ xs, le w y = true)
  | [], x, hx, _ => ⟨hx, fun w _ => ⟨fun h => ⟨h, fun y hy => by cases hy⟩, fun h => h.1⟩⟩
  | y :: ys, x, hx, hy => by
    obtain ⟨g1, g2⟩ := T.glb x y hx (hy y List.mem_cons_self)
    obtain ⟨h1, h2⟩ := gath_glb T ys _ g1 fun z hz => hy z (List.mem_cons_of_mem _ hz)
    refine ⟨h1, fun w hw => ?_⟩
    show le w (gathL tab ((tab.getD x []).getD y 0) ys) = true ↔ _
    rw [h2 w hw, g2 w hw]
    constructor
    · rintro ⟨⟨a, b⟩, c⟩
      refine ⟨a, fun z hz => ?_⟩
      rcases List.mem_cons.mp hz with rfl | hz
      · exact b
      · exact c z hz
    · rintro ⟨a, b⟩
      exact ⟨⟨a, b y List.mem_cons_self⟩, fun z hz => b z (List.mem_cons_of_mem _ hz)⟩
theorem gath_all {n : Nat} {le : Nat → Nat → Bool} {tab : List (List Nat)} (T : TabGlb n le tab) (hn : 1 ≤ n) : gathA tab < n ∧ ∀ w, w < n → (le w (gathA tab) = true ↔ ∀ y, y < n → le w y = true) := by
  unfold gathA
  rw [T.ok.len]
  have hl : ∀ y ∈ (List.range (n - 1)).map (· + 1), y < n := fun y hy => by
    obtain ⟨z, hz, rfl⟩ := List.mem_map.mp hy
    have := List.mem_range.mp hz
    omega
  obtain ⟨h1, h2⟩ := gath_glb T ((List.range (n - 1)).map (· + 1)) 0 hn hl
  refine ⟨h1, fun w hw => ?_⟩
  rw [h2 w hw]
  constructor
  · rintro ⟨a, b⟩ y hy
    cases y with
    | zero => exact a
    | succ y => exact b (y + 1) (List.mem_map.mpr ⟨y, List.mem_range.mpr (by omega), rfl⟩)
  · intro a
    exact ⟨a 0 hn, fun y hy => a y (hl y hy)⟩
theorem meet_tab {n : Nat} {le : Nat → Nat → Bool} {ms : List Nat} (hl : ms.length = n) (hn : 1 ≤ n) (hb : ∀ x z, x < n → (ms.getD x 0).testBit z = (decide (z < n) && le z x)) (hm : meetB ms = true) : TabGlb n le (tabT ms) := by
  refine ⟨hl ▸ tabT_ok (by omega), fun x y hx hy => ?_⟩
  have e1 : (tabT ms).getD x [] = rowT ms (ms.getD x 0) := by
    unfold tabT
    have hx' : x < ms.length := by omega
    rw [List.getD_eq_getElem?_getD, List.getElem?_map, List.getD_eq_getElem?_getD, List.getElem?_eq_getElem hx'] <;> rfl
  have e2 : (rowT ms (ms.getD x 0)).getD y 0 = (meetAt ms (ms.getD x 0) y).getD 0 := by
    unfold rowT
    rw [List.getD_eq_getElem?_getD, List.getElem?_map, List.getElem?_range (by omega)] <;> rfl
  rw [e1, e2]
  unfold meetB rowOk at hm
  rw [List.all_eq_true] at hm
  have h1 := List.all_eq_true.mp (hm x (List.mem_range.mpr (by omega))) y (List.mem_range.mpr (by omega))
  obtain ⟨z, hz⟩ := Option.isSome_iff_exists.mp h1
  rw [hz]
  show IsGlb n le x y z
  unfold meetAt at hz
  obtain ⟨a, b⟩ := lastTo_some hz
  refine ⟨by omega, fun w hw => ?_⟩
  have h2 : (ms.getD z 0).testBit w = (ms.getD x 0 &&& ms.getD y 0).testBit w := congrArg (fun k : Nat => k.testBit w) b
  rw [Nat.testBit_and, hb z w (by omega), hb x w hx, hb y w hy, decide_eq_true hw, Bool.true_and, Bool.true_and, Bool.true_and] at h2
  rw [h2, Bool.and_eq_true]
/-- a board: its order and tables -/
structure Lat (rs : List Str) : Prop where
  sq : Sq rs
  ord : Ord rs.length (bit rs)
  lo : TabGlb rs.length (bit rs) (tabT (below rs))
  up : TabGlb rs.length (flip2 (bit rs)) (tabT (above rs))
theorem lat_of {rs : List Str} (h : progBoard rs = true) : Lat rs := by
  unfold progBoard at h
  obtain ⟨h1, h⟩ := (Bool.and_eq_true _ _).mp h
  obtain ⟨h2, h⟩ := (Bool.and_eq_true _ _).mp h
  obtain ⟨h3, h4⟩ := (Bool.and_eq_true _ _).mp h
  have sq := sq_iff.mp h1
  refine ⟨sq, (ord_iff sq).mp h2, meet_tab below_len sq.pos (fun x z hx => ?_) h3, meet_tab above_len sq.pos (fun x z hx => ?_) h4⟩
  · rw [below_all sq (below_get hx)]
    cases e : bit rs z x with
    | false => rw [Bool.and_false]
    | true => rw [decide_eq_true (bit_lt sq e).1] <;> rfl
  · rw [above_bit sq (above_get hx)]
    show bit rs x z = (decide (z < rs.length) && bit rs x z)
    cases e : bit rs x z with
    | false => rw [Bool.and_false]
    | true => rw [decide_eq_true (bit_lt sq e).2] <;> rfl
/-! ### low, up, bottom, top -/
def lowN (rs : List Str) (x y : Nat) : Nat := ((tabT (below rs)).getD x []).getD y 0
def upN (rs : List Str) (x y : Nat) : Nat := ((tabT (above rs)).getD x []).getD y 0
def botN (rs : List Str) : Nat := gathA (tabT (below rs))
def topN (rs : List Str) : Nat := gathA (tabT (above rs))
section
variable {rs : List Str} (L : Lat rs)
include L
theorem Lat.low_lt {x y : Nat} (hx : x < rs.length) (hy : y < rs.length) : lowN rs x y < rs.length := (L.lo.glb x y hx hy).1
theorem Lat.up_lt {x y : Nat} (hx : x < rs.length) (hy : y < rs.length) : upN rs x y < rs.length := (L.up.glb x y hx hy).1
theorem Lat.low_iff {x y : Nat} (hx : x < rs.length) (hy : y < rs.length) {w : Nat} (hw : w < rs.length) : bit rs w (lowN rs x y) = true ↔ bit rs w x = true ∧ bit rs w y = true := (L.lo.glb x y hx hy).2 w hw
theorem Lat.up_iff {x y : Nat} (hx : x < rs.length) (hy : y < rs.length) {w : Nat} (hw : w < rs.length) : bit rs (upN rs x y) w = true ↔ bit rs x w = true ∧ bit rs y w = true := (L.up.glb x y hx hy).2 w hw
theorem Lat.bot_lt : botN rs < rs.length := (gath_all L.lo L.sq.pos).1
theorem Lat.top_lt : topN rs < rs.length := (gath_all L.up L.sq.pos).1
theorem Lat.bot_le {y : Nat} (hy : y < rs.length) : bit rs (botN rs) y = true := ((gath_all L.lo L.sq.pos).2 _ L.bot_lt).mp (L.ord.refl _ L.bot_lt) y hy
theorem Lat.top_ge {y : Nat} (hy : y < rs.length) : bit rs y (topN rs) = true := ((gath_all L.up L.sq.pos).2 _ L.top_lt).mp (L.ord.refl _ L.top_lt) y hy
/-- low(places) -/
def lowsN (rs : List Str) (xs : List Nat) : Nat := gathL (tabT (below rs)) (topN rs) xs
def upsN (rs : List Str) (xs : List Nat) : Nat := gathL (tabT (above rs)) (botN rs) xs
theorem Lat.lows_lt {xs : List Nat} (h : ∀ y ∈ xs, y < rs.length) : lowsN rs xs < rs.length := (gath_glb L.lo xs _ L.top_lt h).1
theorem Lat.ups_lt {xs : List Nat} (h : ∀ y ∈ xs, y < rs.length) : upsN rs xs < rs.length := (gath_glb L.up xs _ L.bot_lt h).1
theorem Lat.lows_iff {xs : List Nat} (h : ∀ y ∈ xs, y < rs.length) {w : Nat} (hw : w < rs.length) : bit rs w (lowsN rs xs) = true ↔ ∀ y ∈ xs, bit rs w y = true := by
  unfold lowsN
  rw [(gath_glb L.lo xs _ L.top_lt h).2 w hw]
  exact ⟨fun q => q.2, fun q => ⟨L.top_ge hw, q⟩⟩
theorem Lat.ups_iff {xs : List Nat} (h : ∀ y ∈ xs, y < rs.length) {w : Nat} (hw : w < rs.length) : bit rs (upsN rs xs) w = true ↔ ∀ y ∈ xs, bit rs y w = true := by
  unfold upsN
  have := (gath_glb L.up xs _ L.bot_lt h).2 w hw
  unfold flip2 at this
  rw [this]
  exact ⟨fun q => q.2, fun q => ⟨L.bot_le hw, q⟩⟩
theorem Lat.lows_one {x : Nat} (hx : x < rs.length) : lowsN rs [x] = x := uniq L.ord (L.lows_lt (by simpa using hx)) hx fun w hw => by rw [L.lows_iff (by simpa using hx) hw]; simp
theorem Lat.ups_one {x : Nat} (hx : x < rs.length) : upsN rs [x] = x := uniq L.ord.flip (L.ups_lt (by simpa using hx)) hx fun w hw => by
  show bit rs (upsN rs [x]) w = true ↔ bit rs x w = true
  rw [L.ups_iff (by simpa using hx) hw]
  simp
theorem Lat.lows_snoc {xs : List Nat} {x : Nat} (h : ∀ y ∈ xs, y < rs.length) (hx : x < rs.length) : lowsN rs (xs ++ [x]) = lowN rs (lowsN rs xs) x := by
  unfold lowsN gathL
  rw [List.foldl_append]
  rfl
theorem Lat.ups_snoc {xs : List Nat} {x : Nat} (h : ∀ y ∈ xs, y < rs.length) (hx : x < rs.length) : upsN rs (xs ++ [x]) = upN rs (upsN rs xs) x := by
  unfold upsN gathL
  rw [List.foldl_append]
  rfl
theorem Lat.best_low {x y : Nat} (hx : x < rs.length) (hy : y < rs.length) : bestL rs.length (bit rs) x y = [lowN rs x y] := best_eq L.ord hx hy (L.lo.glb x y hx hy)
theorem Lat.best_up {x y : Nat} (hx : x < rs.length) (hy : y < rs.length) : bestL rs.length (flip2 (bit rs)) x y = [upN rs x y] := best_eq L.ord.flip hx hy (L.up.glb x y hx hy)
end
end FF
/-! the class Board: is_place, need_places -/
namespace FF
open PySem PySem.Spec PyProof.Rows L2
def isPlaceD (n : Nat) : PyData → Bool
  | .int i => decide (0 ≤ i) && decide (i < n)
  | _ => false
def spIsPlace (K : PySem.W.Frag) : Sp := fun vs H Q _ => ∃ (b dx li : Addr) (rs : List Str) (v : V) (d : PyData), vs = [.ref b, v] ∧ LinesAt K H b dx li rs ∧ Dp K H v d ∧ Q (.bl (isPlaceD rs.length d)) H
abbrev inR (n : Nat) (i : Int) : Prop := 0 ≤ i ∧ i < n
def placeE (K : PySem.W.Frag) (v : V) (H : Hp) (E : XK) : Prop := ∀ dd H', Same H H' → H' dd = some (.xd [("place", v), ("code", .str "InvalidPlace")]) → E (.ref (He.ga K "InvalidPlace")) (some dd) H'
/-- good ways and bad ways of some places -/
def Places (K : PySem.W.Frag) (n : Nat) (is : List Int) (H : Hp) (E : XK) (good : Prop) : Prop := ((∀ i ∈ is, inR n i) → good) ∧ ∀ pre v post, is = pre ++ v :: post → (∀ i ∈ pre, inR n i) → ¬ inR n v → placeE K (.int v) H E
def spNeedPl (K : PySem.W.Frag) : Sp := fun vs H Q E => ∃ (b dx li p : Addr) (rs : List Str) (is : List Int), vs = [.ref b, .ref p] ∧ LinesAt K H b dx li rs ∧ (SqL K H p (is.map V.int) ∨ SqT K H p (is.map V.int)) ∧ is.length ≤ 20000 ∧ Places K rs.length is H E (Q .non H)
section
variable {P : Program} {w : World} {K : PySem.W.Frag} {mg : Str → Option Value} {base : Heap}
theorem ok_isPlace {fd : FuncData} (F : FunD K "is_place" "Board.is_place" (defArgs s_Board_is_place) (defBody s_Board_is_place) (defScope s_Board_is_place) [] [] (He.ma K (He.ga K "Board") "is_place") fd) (T : Top K mg) : MethD P w K mg base "Board" "is_place" 1 ["self", "value"] (spIsPlace K) := by
  refine methd_mk F (F.bindsN fun _ _ _ _ _ _ us hl => match us, hl with | [_, _], _ => rfl) T.k_Board T.m_Board_is_place sc_Board_is_place (fun vs H Q E h => ?_) (fun cdv A outer s H vs Q E hr h => ?_)
  · obtain ⟨b, dx, li, rs, v, d, rfl, _⟩ := h
    rfl
  obtain ⟨b, dx, li, rs, v, d, rfl, ⟨lo, up, l, g, hb, hli⟩, hd, q⟩ := h
  refine ⟨_, (pss_one (ps_ret (pe_and (pe_callB (call_isK K kb_int) (by rfl) T.b_isinstance (by decide +kernel) (pa_cons (pv 1) (pa_cons (pe_bltn (v := .ty "int") (by rfl) T.b_int (by decide +kernel) rfl) pa_nil))) (pe_and (pe_not (pe_callB (call_isK K kb_bool) (by rfl) T.b_isinstance (by decide +kernel) (pa_cons (pv 1) (pa_cons (pe_bltn (v := .ty "bool") (by rfl) T.b_bool (by decide +kernel) rfl) pa_nil)))) (pe_one (pe_chain op_le op_lt pe_int (pv 1) (pe_callB (call_lenK K) (by rfl) T.b_len (by decide +kernel) (pa_cons (pe_fld (pv 0) rfl) pa_nil)))))))), ?_⟩
  refine ⟨_, rfl, v, d, rfl, hd, _, rfl, ?_⟩
  refine if_b (fun h1 => ?_) (fun h1 => ?_)
  rotate_left
  · have : isPlaceD rs.length d = false := by
      cases d <;> first | rfl | cases h1
    rw [this] at q
    exact q
  refine ⟨_, rfl, v, d, rfl, hd, _, rfl, ⟨_, rfl, ?_⟩⟩
  refine if_nb (fun h2 => ?_) (fun h2 => ?_)
  rotate_left
  · have : isPlaceD rs.length d = false := by
      cases d <;> first | rfl | cases h2
    rw [this] at q
    exact q
  cases d with
  | int i =>
    cases hd
    refine ⟨_, rfl, _, _, rfl, rfl, _, rfl, ?_⟩
    change Q (.bl (decide (0 ≤ i) && decide (i < rs.length))) H at q
    refine if_dec (fun h3 => ?_) (fun h3 => ?_)
    · rw [decide_eq_true h3, Bool.true_and] at q
      exact ⟨_, rfl, b, _, dx, _, _, rfl, hb, T.k_Board, T.n_Board_lines, rfl, .ref li, rs.length, rfl, .inl ⟨_, SqL.of hli, (List.length_map _).symm⟩, _, _, rfl, rfl, q⟩
    · rw [decide_eq_false h3, Bool.false_and] at q
      exact q
  | bool x => cases h2
  | _ => cases h1
theorem ok_needPl {fd : FuncData} (F : FunD K "need_places" "Board.need_places" (defArgs s_Board_need_places) (defBody s_Board_need_places) (defScope s_Board_need_places) [] [] (He.ma K (He.ga K "Board") "need_places") fd) (T : Top K mg)
    (D_Board_is_place : MethD P w K mg base "Board" "is_place" 1 ["self", "value"] (spIsPlace K)) (x_InvalidPlace : RaiseD1 P w K mg base "InvalidPlace" "FaultError" 2 "InvalidPlace" "place") : MethX P w K mg base "Board" "need_places" 4 ["self", "places"] (spNeedPl K) := by
  refine methx_mk F (F.bindsN fun _ _ _ _ _ _ us hl => match us, hl with | [_, _], _ => rfl) T.k_Board T.m_Board_need_places sc_Board_need_places (fun vs H Q E h => ?_) (fun cdv A outer s0 H vs Q E hr h tk => ?_)
  · obtain ⟨b, dx, li, p, rs, is, rfl, _⟩ := h
    rfl
  obtain ⟨b, dx, li, p, rs, is, rfl, hL, hp, hn, q1, q2⟩ := h
  refine ⟨_, (pss_one (ps_for (passes_of rfl) rfl (pi_seqK K (pv 1)) (pg_name (i := 2) sc_Board_need_places.nd rfl (Or.inl rfl) (.inl rfl))
  (pss_one (ps_if (pt_not (pt_val (pe_methd D_Board_is_place hr (by first | decide | omega) (pv 0) (pa_cons (pv 2) pa_nil))))
  (pss_one (ps_raise rfl tk (pmk_raise1 x_InvalidPlace hr (by first | decide | omega) (pa_cons (pv 2) pa_nil) (mono := by intro σ H Q Q' h q; first | exact h _ _ q | exact (let ⟨v, e, q⟩ := q; ⟨v, e, h _ _ q⟩) | exact (let ⟨v, e, x, n, e2, h2, q⟩ := q; ⟨v, e, x, n, e2, h2, h _ _ q⟩) | exact (let ⟨v, e, a, b, c, d, e1, e2, h1, h2, q⟩ := q; ⟨v, e, a, b, c, d, e1, e2, h1, h2, h _ _ q⟩)))))
  pss_nil)))), ?_⟩
  obtain ⟨lo, up, l, g, hb, hli⟩ := id hL
  refine ⟨_, rfl, ?_⟩
  refine for_seqS (H0 := H) hp (Same.refl H) (fun i σ H' => (∃ o, σ = [some (.ref b), some (.ref p), o]) ∧ H' = H ∧ ∀ j ∈ is.take i, inR rs.length j) ⟨⟨_, rfl⟩, rfl, fun j hj => by cases hj⟩ (fun i σ H' _ ⟨_, e, _⟩ => e ▸ Same.refl H) ?_ ?_
  · rintro i x σ H1 hx ⟨⟨o, rfl⟩, rfl, hok⟩
    obtain ⟨v, hv, rfl⟩ := map_get hx
    refine ⟨_, rfl, b, dx, _, rfl, hb, rfl, _, rfl, b, dx, li, rs, .int v, .int v, rfl, hL, .int v, _, rfl, ?_⟩
    refine if_nb (fun h => ?_) (fun h => ?_)
    · have hi := (List.getElem?_eq_some_iff.mp hv).1
      refine ⟨_, rfl, _, rfl, fun dd H2 e2 hd => q2 (is.take i) v (is.drop (i + 1)) ?_ hok (fun z => ?_) dd H2 e2 hd⟩
      · have := (List.getElem?_eq_some_iff.mp hv).2
        rw [← this, ← List.drop_eq_getElem_cons hi, List.take_append_drop]
      · have h : (decide (0 ≤ v) && decide (v < rs.length)) = false := h
        rw [decide_eq_true z.1, decide_eq_true z.2] at h
        cases h
    · refine ⟨⟨_, rfl⟩, rfl, fun j hj => ?_⟩
      rw [List.take_add_one, hv] at hj
      rcases List.mem_append.mp hj with hj | hj
      · exact hok j hj
      · have e : j = v := by simpa using hj
        subst e
        have h : (decide (0 ≤ j) && decide (j < rs.length)) = true := h
        obtain ⟨a, c⟩ := (Bool.and_eq_true _ _).mp h
        exact ⟨of_decide_eq_true a, of_decide_eq_true c⟩
  · rintro σ H1 ⟨⟨o, rfl⟩, rfl, hok⟩
    rw [List.length_map, List.take_length] at hok
    exact q1 hok
end
end FF
/-! rows read sign by sign; [e for k in range(n) if test] -/
namespace FF
open PySem PySem.Spec PyProof.Rows L2
abbrev rowD (rs : List Str) (x : Nat) : Str := rs.getD x ⟨#[]⟩
abbrev sgD (rs : List Str) (x y : Nat) : Nat := (tl (rowD rs x)).getD y 0
section
variable {rs : List Str} {x y : Nat} {i j : Int}
theorem rowG (hx : x < rs.length) : rs[x]? = some (rowD rs x) := by
  unfold rowD
  rw [List.getD_eq_getElem?_getD, List.getElem?_eq_getElem hx] <;> rfl
theorem rowA (hx : x < rs.length) (e : i = (x : Nat)) : atI (rs.map V.str) i = some (.str (rowD rs x)) := by
  subst e
  refine atI_nat ?_
  rw [List.getElem?_map, rowG hx] <;> rfl
theorem lenA (h : Sq rs) (hx : x < rs.length) : (rowD rs x).length = rs.length := h.len _ (List.mem_of_getElem? (rowG hx))
theorem lineA (h : Sq rs) (hx : x < rs.length) : (rowD rs x).length ≤ sizeLine := by
  rw [lenA h hx]
  have := h.le
  exact le_line (by omega)
theorem signG (h : Sq rs) (hx : x < rs.length) (hy : y < rs.length) : (tl (rowD rs x))[y]? = some (sgD rs x y) := by
  have hl : y < (tl (rowD rs x)).length := by
    show y < (rowD rs x).length
    rw [lenA h hx]
    exact hy
  unfold sgD
  rw [List.getD_eq_getElem?_getD (l := tl (rowD rs x)), List.getElem?_eq_getElem hl] <;> rfl
theorem signA (h : Sq rs) (hx : x < rs.length) (hy : y < rs.length) (e : j = (y : Nat)) : atI (tl (rowD rs x)) j = some (sgD rs x y) := by
  subst e
  exact atI_nat (signG h hx hy)
theorem cell1 (h : Sq rs) (hx : x < rs.length) (hy : y < rs.length) : decide (V.str ⟨#[sgD rs x y]⟩ = V.str "1") = bit rs x y := by
  unfold bit
  rw [rowG hx]
  show _ = ((tl (rowD rs x))[y]? == some 49)
  rw [signG h hx hy, Bool.eq_iff_iff, decide_eq_true_eq, beq_iff_eq]
  have e1 : ("1" : Str) = ⟨#[49]⟩ := by decide +kernel
  rw [e1]
  exact ⟨fun h => by injection h with h; injection h with h; injection h with h; injection h with h; rw [h], fun h => by injection h with h; rw [h]⟩
end
theorem lc_filtR {n : Nat} {lo : Int} {tt : TT} {te : TE} {vs : List Nat} {σ : L2.St} {H1 : Hp} {D : Addr} {Qd : Hp → Prop} {j : Nat} (f : Nat → Bool) (g : Nat → V) (hD : H1 D = none) (hz : n ≤ sizeLine)
    (hw : ∀ x, wipe ((wipe σ vs).set j (some x)) vs = wipe σ vs)
    (test : ∀ (i : Nat) (H2 : Hp), i < n → Same H1 H2 → ∀ Qb : Bool → Hp → Prop, (∀ H3, Same H2 H3 → Qb (f i) H3) → tt ((wipe σ vs).set j (some (.int (lo + i)))) H2 Qb)
    (elt : ∀ (i : Nat) (H2 : Hp), i < n → Same H1 H2 → ∀ Q' : VK, (∀ H3, Same H2 H3 → Q' (g i) H3) → te ((wipe σ vs).set j (some (.int (lo + i)))) H2 Q')
    (done : ∀ H2, Same H1 H2 → H2 D = some (.lst (((List.range n).filter f).map g)) → Qd H2) :
    ∃ W : Nat → Nat → Hp → Prop, (∃ m, W 0 m (upd H1 D (.lst []))) ∧ ∀ i m H, W i m H →
      ((Itr lo n).stop i H ∧ Qd H) ∨ ((Itr lo n).go i H ∧ ∃ Nx : Hp → Prop, (∀ H', Nx H' → ∃ m', m' < m ∧ W (i + 1) m' H') ∧ ∀ x H', (Itr lo n).yld i H x H' → gName j x (wipe σ vs) H' fun σ2 H2 => wipe σ2 vs = wipe σ vs ∧ tt σ2 H2 fun b H3 =>
        if b = true then te σ2 H3 fun y H4 => ∃ acc, H4 D = some (.lst acc) ∧ acc.length < sizeLine ∧ Nx (upd H4 D (.lst (acc ++ [y]))) else Nx H3) :=
  lc_range (fun i H => Same H1 H ∧ H D = some (.lst (((List.range i).filter f).map g)))
    ⟨same_new hD _, upd_same⟩
    (fun i H hx ⟨e, h1⟩ => ⟨hw _, test i H hx e _ fun H3 e3 => by
      have f1 : (List.range (i + 1)).filter f = (List.range i).filter f ++ (if f i = true then [i] else []) := by
        rw [List.range_succ, List.filter_append]
        congr 1
        by_cases h : f i = true
        · rw [if_pos h, List.filter_cons_of_pos h, List.filter_nil]
        · rw [if_neg h, List.filter_cons_of_neg h, List.filter_nil]
      cases hb : f i with
      | false =>
        refine iteF ⟨e.trans e3, ?_⟩
        rw [f1, if_neg (by rw [hb]; decide), List.append_nil]
        exact e3 _ _ h1
      | true =>
        refine iteT (elt i H3 hx (e.trans e3) _ fun H4 e4 => ⟨_, e4 _ _ (e3 _ _ h1), ?_, same_at hD (e.trans (e3.trans e4)), ?_⟩)
        · rw [List.length_map]
          refine Nat.lt_of_le_of_lt (List.length_filter_le _ _) ?_
          rw [List.length_range]
          omega
        · rw [f1, if_pos hb, upd_same, List.map_append]
          rfl⟩)
    fun H ⟨e, h1⟩ => done H e h1
end FF
/-! the class Board: is_below, low, up, bottom, top -/
namespace FF
open PySem PySem.Spec PyProof.Rows L2
def natsOf (is : List Int) : List Nat := is.map Int.toNat
theorem natsOf_lt {n : Nat} {is : List Int} (h : ∀ i ∈ is, inR n i) : ∀ y ∈ natsOf is, y < n := fun y hy => by
  obtain ⟨i, hi, rfl⟩ := List.mem_map.mp hy
  have := h i hi
  obtain ⟨a, b⟩ := this
  omega
theorem natsOf_map {n : Nat} : ∀ {is : List Int}, (∀ i ∈ is, inR n i) → is.map V.int = (natsOf is).map nV
  | [], _ => rfl
  | i :: is, h => by
    have hi := h i List.mem_cons_self
    show V.int i :: is.map V.int = V.int (i.toNat : Nat) :: (natsOf is).map nV
    rw [natsOf_map fun j hj => h j (List.mem_cons_of_mem _ hj), show ((i.toNat : Nat) : Int) = i from Int.toNat_of_nonneg hi.1]
theorem natsOf_nat : ∀ xs : List Nat, natsOf (xs.map fun x : Nat => (x : Int)) = xs
  | [] => rfl
  | x :: xs => by
    show (x : Int).toNat :: natsOf (xs.map fun x : Nat => (x : Int)) = _
    rw [natsOf_nat xs, Int.toNat_natCast]
def spBelow (K : PySem.W.Frag) : Sp := fun vs H Q E => ∃ (b dx li : Addr) (rs : List Str) (i j : Int), vs = [.ref b, .int i, .int j] ∧ LinesAt K H b dx li rs ∧ Sq rs ∧ ∀ H1, Same H H1 → Places K rs.length [i, j] H1 E (Q (.bl (bit rs i.toNat j.toNat)) H1)
def spLowT (K : PySem.W.Frag) : Sp := fun vs H Q E => ∃ (b dx li p : Addr) (rs : List Str) (is : List Int), vs = [.ref b, .ref p] ∧ BoardAt K H b dx li rs ∧ SqT K H p (is.map V.int) ∧ is.length ≤ 9000 ∧ Places K rs.length is H E (∀ H1, Same H H1 → Q (nV (lowsN rs (natsOf is))) H1)
def spUpT (K : PySem.W.Frag) : Sp := fun vs H Q E => ∃ (b dx li p : Addr) (rs : List Str) (is : List Int), vs = [.ref b, .ref p] ∧ BoardAt K H b dx li rs ∧ SqT K H p (is.map V.int) ∧ is.length ≤ 9000 ∧ Places K rs.length is H E (∀ H1, Same H H1 → Q (nV (upsN rs (natsOf is))) H1)
/-- low(..), up(..) called with so many places -/
def spStar (K : PySem.W.Frag) (f : List Str → List Nat → Nat) : Sp := fun vs H Q E => ∃ (b dx li : Addr) (rs : List Str) (is : List Int), vs = .ref b :: is.map V.int ∧ BoardAt K H b dx li rs ∧ is.length ≤ 9000 ∧ ∀ H1, Same H H1 → Places K rs.length is H1 E (∀ H2, Same H1 H2 → Q (nV (f rs (natsOf is))) H2)
theorem gathered_from {K : PySem.W.Frag} {H : Hp} {tab : List (List Nat)} {n x : Nat} {xs : List Nat} {a q : Addr} {Q : VK} {E : XK} (ht : TabAt H a tab) (ok : TabOk n tab) (hx : x < n) (hxs : ∀ y ∈ xs, y < n) (hl : xs.length ≤ 10000) (hq : SqL K H q ((x :: xs).map nV)) (k : ∀ H', Same H H' → Q (nV (gathL tab x xs)) H') :
    spGathered K [.ref a, .ref q] H Q E :=
  ⟨a, q, tab, x, xs, rfl, ht, hq, hl, by rw [ok.len]; exact hx, fun y hy => by rw [ok.len]; exact hxs y hy, fun r hr => by rw [ok.len]; exact ok.row r hr, fun r hr z hz => by rw [ok.len]; exact ok.ent r hr z hz, k⟩
section
variable {P : Program} {w : World} {K : PySem.W.Frag} {mg : Str → Option Value} {base : Heap}
theorem fn_below {fd : FuncData} (F : FunD K "is_below" "Board.is_below" (defArgs s_Board_is_below) (defBody s_Board_is_below) (defScope s_Board_is_below) [] [] (He.ma K (He.ga K "Board") "is_below") fd) (T : Top K mg)
    (D_Board_need_places : MethX P w K mg base "Board" "need_places" 4 ["self", "places"] (spNeedPl K)) : FnOk P w K mg base (L2.CX P w) 5 (He.ma K (He.ga K "Board") "is_below") fd ["self", "one", "other"] (spBelow K) := by
  refine FunD.ok F sc_Board_is_below (fun vs H Q E h => ?_) (fun cdv A outer s0 H vs Q E hr h => ?_)
  · obtain ⟨b, dx, li, rs, i, j, rfl, _⟩ := h
    rfl
  obtain ⟨b, dx, li, rs, i, j, rfl, hL, sq, q⟩ := h
  have tk : Takes (cxOf (L2.CX P w) P w K mg base ["self", "one", "other"] "Board.is_below" (defScope s_Board_is_below) (He.ma K (He.ga K "Board") "is_below") cdv A outer s0 H E) (fun cls d _ H => E cls d H) := takes_of rfl rfl rfl rfl
  refine ⟨_, (pss_cons (ps_expr (pe_methx (E := E) D_Board_need_places tk (fun _ _ _ _ h => h) hr (by first | decide | omega) (pv 0) (pa_cons (pe_lst (pa_cons (pv 1) (pa_cons (pv 2) pa_nil))) pa_nil)))
  (pss_one (ps_ret (pe_cmpR op_eq (pe_ix ix_str (pe_ix (ix_listK K) (pe_fld (pv 0) rfl) (pv 1) (fun _ _ => rfl)) (pv 2) (fun _ _ => rfl)) pe_str (nomark _))))), ?_⟩
  obtain ⟨lo, up, l, g, hb, hli⟩ := id hL
  refine ⟨_, rfl, b, dx, _, rfl, hb, rfl, _, rfl, _, rfl, (by show 2 ≤ sizeLine; decide), fun p hp => ?_⟩
  have e1 := same_new hp (.lst [.int i, .int j])
  obtain ⟨q1, q2⟩ := q _ e1
  refine ⟨b, dx, li, p, rs, [i, j], rfl, hL.up e1, .inl (SqL.of upd_same), (by show 2 ≤ 20000; decide), fun hok => ?_, q2⟩
  have q1 := q1 hok
  obtain ⟨i0, i1⟩ := hok i List.mem_cons_self
  obtain ⟨j0, j1⟩ := hok j (List.mem_cons_of_mem _ List.mem_cons_self)
  have hi : i.toNat < rs.length := by omega
  have hj : j.toNat < rs.length := by omega
  have hb1 := e1 _ _ hb
  have hl1 := e1 _ _ hli
  generalize upd H p (.lst [.int i, .int j]) = H1 at hb1 hl1 q1 ⊢
  refine ⟨_, rfl, b, _, dx, _, _, rfl, hb1, T.k_Board, T.n_Board_lines, rfl, _, rfl, li, _, _, _, rfl, rfl, SqL.of hl1, rowA hi (by omega), _, rfl, _, _, _, rfl, rfl, lineA sq hi, signA sq hi hj (by omega), rfl, ?_⟩
  rw [cell1 sq hi hj]
  exact q1
theorem ok_below {fd : FuncData} (F : FunD K "is_below" "Board.is_below" (defArgs s_Board_is_below) (defBody s_Board_is_below) (defScope s_Board_is_below) [] [] (He.ma K (He.ga K "Board") "is_below") fd) (T : Top K mg)
    (D_Board_need_places : MethX P w K mg base "Board" "need_places" 4 ["self", "places"] (spNeedPl K)) : MethX P w K mg base "Board" "is_below" 5 ["self", "one", "other"] (spBelow K) :=
  ⟨⟨fd, fn_below F T D_Board_need_places, F.bindsN fun _ _ _ _ _ _ us hl => match us, hl with | [_, _, _], _ => rfl⟩, T.k_Board, T.m_Board_is_below⟩
theorem ok_lowT {fd : FuncData} (F : FunD K "low" "Board.low" (defArgs s_Board_low) (defBody s_Board_low) (defScope s_Board_low) [] [] (He.ma K (He.ga K "Board") "low") fd) (T : Top K mg)
    (D_Board_need_places : MethX P w K mg base "Board" "need_places" 4 ["self", "places"] (spNeedPl K)) (D_gathered : Def P w K mg base "gathered" 1 ["table", "places"] (spGathered K)) : MethS P w K mg base "Board" "low" 5 (spStar K lowsN) := by
  have D := meths_mk (P := P) (w := w) (base := base) (k := 4) (sp := spLowT K) F T.k_Board T.m_Board_low sc_Board_low (fun _ _ _ _ _ _ _ => rfl) (fun _ _ _ _ _ _ _ _ _ => rfl) (fun cdv A outer s0 H vs Q E hr h tk => by
    obtain ⟨b, dx, li, p, rs, is, rfl, hB, hp, hn, q1, q2⟩ := h
    refine ⟨_, (pss_cons (ps_expr (pe_methx (E := E) D_Board_need_places tk (fun _ _ _ _ h => h) hr (by first | decide | omega) (pv 0) (pa_cons (pv 1) pa_nil)))
  (pss_one (ps_ret (pe_def D_gathered hr (by first | decide | omega) (pa_cons (pe_fld (pv 0) rfl) (pa_cons (pe_lst (pa_cons (pe_fld (pv 0) rfl) (StX.pa_star (pv 1) pa_nil))) pa_nil)))))), ?_⟩
    obtain ⟨good, lo, up, hb, t1, t2, hli⟩ := id hB
    have L := lat_of good
    refine ⟨_, rfl, b, dx, _, rfl, hb, rfl, _, rfl, b, dx, li, p, rs, is, rfl, hB.lines, .inr hp, by omega, fun hok => ?_, q2⟩
    have q1 := q1 hok
    have hxs := natsOf_lt hok
    refine ⟨_, rfl, b, _, dx, _, _, rfl, hb, T.k_Board, T.n_Board_lows, rfl, _, rfl, b, _, dx, _, _, rfl, hb, T.k_Board, T.n_Board_greatest, rfl, _, rfl, p, _, rfl, .inl hp, ?_⟩
    rw [natsOf_map hok]
    have len : (natsOf is).length = is.length := List.length_map _
    refine ⟨?_, fun l hl => ?_⟩
    · show ((natsOf is).map nV ++ []).length + 1 ≤ sizeLine
      rw [List.length_append, List.length_map, len]
      exact le_line (by show is.length + 0 + 1 ≤ 20000; omega)
    have e1 := same_new hl (.lst (nV (gathA (tabT (above rs))) :: ((natsOf is).map nV ++ [])))
    refine gathered_from (E := E0) (n := rs.length) (x := topN rs) (xs := natsOf is) (t1.up e1) L.lo.ok L.top_lt hxs (by omega) (SqL.of ?_) fun H' e => q1 H' (e1.trans e)
    rw [upd_same, List.append_nil]
    rfl)
  refine ⟨FnR.imp D.ex fun vs H Q E h => ?_, D.cl, D.me⟩
  obtain ⟨b, dx, li, rs, is, rfl, hB, hn, q⟩ := h
  refine ⟨_, _, rfl, le_line (by rw [List.length_map]; omega), fun p hp => ?_⟩
  have e1 := same_new hp (.tup (is.map V.int))
  exact ⟨b, dx, li, p, rs, is, rfl, hB.up e1, SqT.of upd_same, hn, q _ e1⟩
theorem ok_upT {fd : FuncData} (F : FunD K "up" "Board.up" (defArgs s_Board_up) (defBody s_Board_up) (defScope s_Board_up) [] [] (He.ma K (He.ga K "Board") "up") fd) (T : Top K mg)
    (D_Board_need_places : MethX P w K mg base "Board" "need_places" 4 ["self", "places"] (spNeedPl K)) (D_gathered : Def P w K mg base "gathered" 1 ["table", "places"] (spGathered K)) : MethS P w K mg base "Board" "up" 5 (spStar K upsN) := by
  have D := meths_mk (P := P) (w := w) (base := base) (k := 4) (sp := spUpT K) F T.k_Board T.m_Board_up sc_Board_up (fun _ _ _ _ _ _ _ => rfl) (fun _ _ _ _ _ _ _ _ _ => rfl) (fun cdv A outer s0 H vs Q E hr h tk => by
    obtain ⟨b, dx, li, p, rs, is, rfl, hB, hp, hn, q1, q2⟩ := h
    refine ⟨_, (pss_cons (ps_expr (pe_methx (E := E) D_Board_need_places tk (fun _ _ _ _ h => h) hr (by first | decide | omega) (pv 0) (pa_cons (pv 1) pa_nil)))
  (pss_one (ps_ret (pe_def D_gathered hr (by first | decide | omega) (pa_cons (pe_fld (pv 0) rfl) (pa_cons (pe_lst (pa_cons (pe_fld (pv 0) rfl) (StX.pa_star (pv 1) pa_nil))) pa_nil)))))), ?_⟩
    obtain ⟨good, lo, up, hb, t1, t2, hli⟩ := id hB
    have L := lat_of good
    refine ⟨_, rfl, b, dx, _, rfl, hb, rfl, _, rfl, b, dx, li, p, rs, is, rfl, hB.lines, .inr hp, by omega, fun hok => ?_, q2⟩
    have q1 := q1 hok
    have hxs := natsOf_lt hok
    refine ⟨_, rfl, b, _, dx, _, _, rfl, hb, T.k_Board, T.n_Board_ups, rfl, _, rfl, b, _, dx, _, _, rfl, hb, T.k_Board, T.n_Board_least, rfl, _, rfl, p, _, rfl, .inl hp, ?_⟩
    rw [natsOf_map hok]
    have len : (natsOf is).length = is.length := List.length_map _
    refine ⟨?_, fun l hl => ?_⟩
    · show ((natsOf is).map nV ++ []).length + 1 ≤ sizeLine
      rw [List.length_append, List.length_map, len]
      exact le_line (by show is.length + 0 + 1 ≤ 20000; omega)
    have e1 := same_new hl (.lst (nV (gathA (tabT (below rs))) :: ((natsOf is).map nV ++ [])))
    refine gathered_from (E := E0) (n := rs.length) (x := botN rs) (xs := natsOf is) (t2.up e1) L.up.ok L.bot_lt hxs (by omega) (SqL.of ?_) fun H' e => q1 H' (e1.trans e)
    rw [upd_same, List.append_nil]
    rfl)
  refine ⟨FnR.imp D.ex fun vs H Q E h => ?_, D.cl, D.me⟩
  obtain ⟨b, dx, li, rs, is, rfl, hB, hn, q⟩ := h
  refine ⟨_, _, rfl, le_line (by rw [List.length_map]; omega), fun p hp => ?_⟩
  have e1 := same_new hp (.tup (is.map V.int))
  exact ⟨b, dx, li, p, rs, is, rfl, hB.up e1, SqT.of upd_same, hn, q _ e1⟩
end
end FF
/-! boards, the law: rows that are boards -/
namespace FF
open PySem PySem.Spec PyProof.Rows L2
def spRowsV (K : PySem.W.Frag) : Sp := fun vs H Q _ => ∃ (a : Addr) (ms : List Nat), vs = [.ref a] ∧ SqL K H a (ms.map nV) ∧ ms.length ≤ 1000 ∧ ∀ p H', H p = none → Same H H' → H' p = some (.lst ((rowsOf ms).map V.str)) → Q (.ref p) H'
def toN (v : V) : Nat := match v with
  | .int i => i.toNat
  | _ => 0
theorem toN_n (n : Nat) : toN (nV n) = n := by
  show ((n : Nat) : Int).toNat = n
  exact Int.toNat_natCast n
theorem perm_nats {ys : List V} {ns : List Nat} (h : ys.Perm (ns.map nV)) : ∃ ms : List Nat, ys = ms.map nV ∧ ms.Perm ns := by
  have : ∀ l : List V, (∀ y ∈ l, ∃ n : Nat, y = nV n) → ∃ ms : List Nat, l = ms.map nV := by
    intro l
    induction l with
    | nil => exact fun _ => ⟨[], rfl⟩
    | cons y l ih =>
      intro hy
      obtain ⟨n, rfl⟩ := hy y List.mem_cons_self
      obtain ⟨ms, rfl⟩ := ih fun z hz => hy z (List.mem_cons_of_mem _ hz)
      exact ⟨n :: ms, rfl⟩
  obtain ⟨ms, rfl⟩ := this ys fun y hy => by
    obtain ⟨n, _, e⟩ := List.mem_map.mp (h.subset hy)
    exact ⟨n, e.symm⟩
  refine ⟨ms, rfl, ?_⟩
  have h2 := h.map toN
  rw [List.map_map, List.map_map] at h2
  have e : toN ∘ nV = id := funext toN_n
  rw [e, List.map_id, List.map_id] at h2
  exact h2
theorem sub_str (a b : Nat) : (toString (if decide (V.int (Builtin.bitAnd (a : Int) (b : Int)) = nV a) = true then (1 : Int) else 0) : Str) = ⟨#[sub1 a b]⟩ := by
  have e : decide (V.int (Builtin.bitAnd (a : Int) (b : Int)) = nV a) = decide (a &&& b = a) := by
    rw [band_nat, Bool.eq_iff_iff, decide_eq_true_eq, decide_eq_true_eq]
    exact ⟨fun h => Int.ofNat.inj (V.int.inj h), fun h => by rw [h]⟩
  rw [e]
  unfold sub1
  by_cases h : a &&& b = a
  · rw [decide_eq_true h, if_pos h, if_pos rfl]
    decide +kernel
  · rw [decide_eq_false h, if_neg h, if_neg (by decide)]
    decide +kernel
section
variable {P : Program} {w : World} {K : PySem.W.Frag} {mg : Str → Option Value} {base : Heap}
theorem ok_rowsV {f : Addr} {fd : FuncData} (F : FunD K "_law_rows" "_law_rows" (defArgs s_law_rows) (defBody s_law_rows) (defScope s_law_rows) [] [] f fd) (hm : mg "_law_rows" = some (.ref f)) (T : Top K mg) : Def P w K mg base "_law_rows" 1 ["_law_masks"] (spRowsV K) := by
  refine def_mk F hm (F.bindsN fun _ _ _ _ _ _ us hl => match us, hl with | [_], _ => rfl) sc_law_rows (fun vs H Q E h => ?_) (fun cdv A outer s H vs Q E hr h => ?_)
  · obtain ⟨a, xs, rfl, _⟩ := h
    rfl
  obtain ⟨a, ms, rfl, hS, hn, q⟩ := h
  refine ⟨_, (pss_one (ps_ret (pe_lc (own := [("_law_one", 2)]) rfl sc_law_rows.nd (pi_listK K (pv 0)) (blkOk_by (by kernel_rfl)) (fun _ _ _ _ _ => (pg_name (i := 2) sc_law_rows.nd rfl (Or.inr rfl) (.inl rfl))) (fun _ _ _ _ _ => pts_nil) (fun _ _ _ _ _ => (pe_joinK K pe_str (pe_lc (own := [("_law_other", 1)]) rfl sc_law_rows.nd (pi_listK K (pv 0)) (blkOk_by (by kernel_rfl)) (fun _ _ _ _ _ => (pg_name (i := 1) sc_law_rows.nd rfl (Or.inl rfl) (.inr rfl))) (fun _ _ _ _ _ => pts_nil) (fun _ _ _ _ _ => (pe_callTy call_str_int (by rfl) T.b_str (by decide +kernel) (pa_cons (pe_callTy call_int1 (by rfl) T.b_int (by decide +kernel) (pa_cons (pe_cmpR op_eq (pe_op op_and (pv 2) (pv 1)) (pv 2) (nomark _)) pa_nil)) pa_nil))))))))), ?_⟩
  refine ⟨_, rfl, a, rfl, ⟨_, hS⟩, fun D hD => ?_⟩
  refine lc_mapX (j := 2) (f := nV) (l := ms) (fun a => .str ⟨(ms.map fun b => sub1 a b).toArray⟩) hD hS (by omega) (fun _ => rfl) ?_ ?_
  · intro x H2 hx e2 Q' k'
    refine ⟨⟨_, rfl⟩, _, rfl, a, rfl, ⟨_, up_l e2 hS⟩, fun D2 hD2 => ?_⟩
    refine lc_mapX (j := 1) (f := nV) (l := ms) (fun b => .str ⟨#[sub1 x b]⟩) hD2 (up_l e2 hS) (by omega) (fun _ => rfl) ?_ ?_
    · intro y H3 hy e3 Q'' kk
      refine ⟨_, rfl, _, rfl, _, _, rfl, rfl, _, rfl, rfl, .inr ⟨_, rfl, _, rfl, ?_, ?_⟩⟩
      · split <;> decide
      · rw [sub_str]
        exact kk _ (Same.refl _)
    · intro H3 e3 hD3
      have em : (ms.map fun b => V.str ⟨#[sub1 x b]⟩) = (ms.map fun b => (⟨#[sub1 x b]⟩ : Str)).map V.str := by
        rw [List.map_map]
        rfl
      rw [em] at hD3
      refine ⟨_, D2, _, rfl, rfl, .inl (SqL.of hD3), ?_, ?_⟩
      · rw [sum_one, List.length_map, show ("" : Str).length = 0 from rfl]
        omega
      · rw [join_one]
        exact k' H3 e3
  · intro H2 e2 hD2
    refine q D H2 hD e2 ?_
    rw [hD2]
    unfold rowsOf
    rw [List.map_map]
    rfl
end
end FF
/-! boards, the law: low, up and the tables of both -/
namespace FF
open PySem PySem.Spec PyProof.Rows L2
theorem nV_inj (a b : Nat) (h : nV a = nV b) : a = b := Int.ofNat.inj (V.int.inj h)
def spLowL (K : PySem.W.Frag) (f : List Str → Nat → Nat → Nat) : Sp := fun vs H Q _ => ∃ (a : Addr) (rs : List Str) (x y : Nat), vs = [.ref a, .int x, .int y] ∧ SqL K H a (rs.map V.str) ∧ Lat rs ∧ x < rs.length ∧ y < rs.length ∧ ∀ H', Same H H' → Q (nV (f rs x y)) H'
section
variable {P : Program} {w : World} {K : PySem.W.Frag} {mg : Str → Option Value} {base : Heap}
theorem ok_lowL {f : Addr} {fd : FuncData} (F : FunD K "_law_low" "_law_low" (defArgs s_law_low) (defBody s_law_low) (defScope s_law_low) [] [] f fd) (hm : mg "_law_low" = some (.ref f)) (T : Top K mg) : Def P w K mg base "_law_low" 1 ["_law_rows_here", "_law_x", "_law_y"] (spLowL K lowN) := by
  refine def_mk F hm (F.bindsN fun _ _ _ _ _ _ us hl => match us, hl with | [_, _, _], _ => rfl) sc_law_low (fun vs H Q E h => ?_) (fun cdv A outer s H vs Q E hr h => ?_)
  · obtain ⟨a, rs, x, y, rfl, _⟩ := h
    rfl
  obtain ⟨a, rs, x, y, rfl, hS, L, hx, hy, q⟩ := h
  have sq := L.sq
  have hn := sq.le
  refine ⟨_, (pss_cons (ps_set (i := 3) sc_law_low.nd rfl (Or.inr rfl) (pe_lc (own := [("_law_z", 4)]) rfl sc_law_low.nd (pi_range1 (by rfl) T.b_range (pa_cons (pe_callB (call_lenK K) (by rfl) T.b_len (by decide +kernel) (pa_cons (pv 0) pa_nil)) pa_nil)) (blkOk_by (by kernel_rfl)) (fun _ _ _ _ _ => (pg_name (i := 4) sc_law_low.nd rfl (Or.inl rfl) (.inr rfl))) (fun _ _ _ _ _ => (pts_one (PW.pt (pw_and (pt_cmpR op_eq (pe_ix ix_str (pe_ix (ix_listK K) (pv 0) (pv 4) (fun _ _ => rfl)) (pv 1) (fun _ _ => rfl)) pe_str (nomark _)) (pw_and1 (pt_cmpR op_eq (pe_ix ix_str (pe_ix (ix_listK K) (pv 0) (pv 4) (fun _ _ => rfl)) (pv 2) (fun _ _ => rfl)) pe_str (nomark _))))))) (fun _ _ _ _ _ => (pv 4))))
  (pss_one (ps_ret (pe_ix (ix_listK K) (pe_lc (own := [("_law_z", 4)]) rfl sc_law_low.nd (pi_listK K (pv 3)) (blkOk_by (by kernel_rfl)) (fun _ _ _ _ _ => (pg_name (i := 4) sc_law_low.nd rfl (Or.inr rfl) (.inl rfl))) (fun _ _ _ _ _ => (pts_one (pt_val (pe_callB (cr_allK K rfl) (by rfl) T.b_all (by decide +kernel) (pa_cons (pe_lc (own := [("_law_w", 5)]) rfl sc_law_low.nd (pi_listK K (pv 3)) (blkOk_by (by kernel_rfl)) (fun _ _ _ _ _ => (pg_name (i := 5) sc_law_low.nd rfl (Or.inl rfl) (.inr rfl))) (fun _ _ _ _ _ => pts_nil) (fun _ _ _ _ _ => (pe_cmpR op_eq (pe_ix ix_str (pe_ix (ix_listK K) (pv 0) (pv 5) (fun _ _ => rfl)) (pv 4) (fun _ _ => rfl)) pe_str (nomark _)))) pa_nil))))) (fun _ _ _ _ _ => (pv 4))) pe_int (fun _ _ => rfl))))), ?_⟩
  refine ⟨_, rfl, _, rs.length, rfl, .inl ⟨_, hS, (List.length_map _).symm⟩, (rs.length : Nat), rfl, by omega, by omega, fun D hD => ?_⟩
  rw [Int.toNat_natCast]
  refine lc_filtR (j := 4) (fun z => bit rs z x && bit rs z y) nV hD (le_line (by omega)) (fun _ => rfl) ?_ ?_ ?_
  · intro z H2 hz e2 Qb k
    have k := k H2 (Same.refl _)
    refine ⟨_, rfl, _, rfl, a, _, _, _, rfl, rfl, up_l e2 hS, rowA hz (Int.zero_add _), _, rfl, _, _, _, rfl, rfl, lineA sq hz, signA sq hz hx rfl, rfl, _, rfl, ?_⟩
    refine if_bb (cell1 sq hz hx) (fun b1 => ?_) (fun b1 => ?_)
    · refine ⟨_, rfl, _, rfl, a, _, _, _, rfl, rfl, up_l e2 hS, rowA hz (Int.zero_add _), _, rfl, _, _, _, rfl, rfl, lineA sq hz, signA sq hz hy rfl, rfl, _, rfl, ?_⟩
      rw [cell1 sq hz hy]
      rw [b1, Bool.true_and] at k
      exact k
    · rw [b1, Bool.false_and] at k
      exact k
  · intro z H2 hz e2 Q' k
    have k := k H2 (Same.refl _)
    refine ⟨_, rfl, ?_⟩
    rw [Int.zero_add]
    exact k
  intro H2 e2 hD2
  change H2 D = some (.lst ((someL rs.length (bit rs) x y).map nV)) at hD2
  have sml : (someL rs.length (bit rs) x y).length ≤ 20000 := Nat.le_trans (List.length_filter_le _ _) (by rw [List.length_range]; omega)
  have smem : ∀ {z}, z ∈ someL rs.length (bit rs) x y → z < rs.length := fun h => List.mem_range.mp (List.mem_filter.mp h).1
  refine ⟨_, rfl, D, rfl, ⟨_, SqL.of hD2⟩, fun D2 hD2n => ?_⟩
  refine lc_filtX (j := 4) (f := nV) (fun z => (someL rs.length (bit rs) x y).all fun w => bit rs w z) nV_inj hD2n (SqL.of hD2) sml (fun _ => rfl) ?_ (fun v H2 Q' k => ⟨_, rfl, k⟩) ?_
  · intro z H3 hzm e3 Qb k
    have hz := smem hzm
    have hD3 := e3 _ _ hD2
    refine ⟨_, rfl, D, rfl, ⟨_, SqL.of hD3⟩, fun D3 hD3n => ?_⟩
    refine lc_mapX (j := 5) (f := nV) (fun w => .bl (bit rs w z)) hD3n (SqL.of hD3) sml (fun _ => rfl) ?_ ?_
    · intro w H4 hwm e4 Q' k'
      have hw := smem hwm
      refine ⟨_, rfl, _, rfl, a, _, _, _, rfl, rfl, up_l (e2.trans (e3.trans e4)) hS, rowA hw rfl, _, rfl, _, _, _, rfl, rfl, lineA sq hw, signA sq hw hz rfl, rfl, ?_⟩
      rw [cell1 sq hw hz]
      exact k' _ (Same.refl _)
    · intro H4 e4 hD4
      refine ⟨D3, (someL rs.length (bit rs) x y).map fun w => bit rs w z, rfl, SqL.of ?_, _, rfl, ?_⟩
      · rw [hD4, List.map_map] <;> rfl
      · rw [List.all_map]
        exact k H4 e4
  intro H3 e3 hD3
  change H3 D2 = some (.lst ((bestL rs.length (bit rs) x y).map nV)) at hD3
  rw [L.best_low hx hy] at hD3
  exact ⟨D2, _, 0, _, rfl, rfl, SqL.of hD3, at0, q _ (e2.trans e3)⟩
theorem ok_upL {f : Addr} {fd : FuncData} (F : FunD K "_law_up" "_law_up" (defArgs s_law_up) (defBody s_law_up) (defScope s_law_up) [] [] f fd) (hm : mg "_law_up" = some (.ref f)) (T : Top K mg) : Def P w K mg base "_law_up" 1 ["_law_rows_here", "_law_x", "_law_y"] (spLowL K upN) := by
  refine def_mk F hm (F.bindsN fun _ _ _ _ _ _ us hl => match us, hl with | [_, _, _], _ => rfl) sc_law_up (fun vs H Q E h => ?_) (fun cdv A outer s H vs Q E hr h => ?_)
  · obtain ⟨a, rs, x, y, rfl, _⟩ := h
    rfl
  obtain ⟨a, rs, x, y, rfl, hS, L, hx, hy, q⟩ := h
  have sq := L.sq
  have hn := sq.le
  refine ⟨_, (pss_cons (ps_set (i := 3) sc_law_up.nd rfl (Or.inr rfl) (pe_lc (own := [("_law_z", 4)]) rfl sc_law_up.nd (pi_range1 (by rfl) T.b_range (pa_cons (pe_callB (call_lenK K) (by rfl) T.b_len (by decide +kernel) (pa_cons (pv 0) pa_nil)) pa_nil)) (blkOk_by (by kernel_rfl)) (fun _ _ _ _ _ => (pg_name (i := 4) sc_law_up.nd rfl (Or.inl rfl) (.inr rfl))) (fun _ _ _ _ _ => (pts_one (PW.pt (pw_and (pt_cmpR op_eq (pe_ix ix_str (pe_ix (ix_listK K) (pv 0) (pv 1) (fun _ _ => rfl)) (pv 4) (fun _ _ => rfl)) pe_str (nomark _)) (pw_and1 (pt_cmpR op_eq (pe_ix ix_str (pe_ix (ix_listK K) (pv 0) (pv 2) (fun _ _ => rfl)) (pv 4) (fun _ _ => rfl)) pe_str (nomark _))))))) (fun _ _ _ _ _ => (pv 4))))
  (pss_one (ps_ret (pe_ix (ix_listK K) (pe_lc (own := [("_law_z", 4)]) rfl sc_law_up.nd (pi_listK K (pv 3)) (blkOk_by (by kernel_rfl)) (fun _ _ _ _ _ => (pg_name (i := 4) sc_law_up.nd rfl (Or.inr rfl) (.inl rfl))) (fun _ _ _ _ _ => (pts_one (pt_val (pe_callB (cr_allK K rfl) (by rfl) T.b_all (by decide +kernel) (pa_cons (pe_lc (own := [("_law_w", 5)]) rfl sc_law_up.nd (pi_listK K (pv 3)) (blkOk_by (by kernel_rfl)) (fun _ _ _ _ _ => (pg_name (i := 5) sc_law_up.nd rfl (Or.inl rfl) (.inr rfl))) (fun _ _ _ _ _ => pts_nil) (fun _ _ _ _ _ => (pe_cmpR op_eq (pe_ix ix_str (pe_ix (ix_listK K) (pv 0) (pv 4) (fun _ _ => rfl)) (pv 5) (fun _ _ => rfl)) pe_str (nomark _)))) pa_nil))))) (fun _ _ _ _ _ => (pv 4))) pe_int (fun _ _ => rfl))))), ?_⟩
  refine ⟨_, rfl, _, rs.length, rfl, .inl ⟨_, hS, (List.length_map _).symm⟩, (rs.length : Nat), rfl, by omega, by omega, fun D hD => ?_⟩
  rw [Int.toNat_natCast]
  refine lc_filtR (j := 4) (fun z => flip2 (bit rs) z x && flip2 (bit rs) z y) nV hD (le_line (by omega)) (fun _ => rfl) ?_ ?_ ?_
  · intro z H2 hz e2 Qb k
    have k := k H2 (Same.refl _)
    refine ⟨_, rfl, _, rfl, a, _, _, _, rfl, rfl, up_l e2 hS, rowA hx rfl, _, rfl, _, _, _, rfl, rfl, lineA sq hx, signA sq hx hz (Int.zero_add _), rfl, _, rfl, ?_⟩
    refine if_bb (cell1 sq hx hz) (fun b1 => ?_) (fun b1 => ?_)
    · refine ⟨_, rfl, _, rfl, a, _, _, _, rfl, rfl, up_l e2 hS, rowA hy rfl, _, rfl, _, _, _, rfl, rfl, lineA sq hy, signA sq hy hz (Int.zero_add _), rfl, _, rfl, ?_⟩
      rw [cell1 sq hy hz]
      rw [show flip2 (bit rs) z x = true from b1, Bool.true_and] at k
      exact k
    · rw [show flip2 (bit rs) z x = false from b1, Bool.false_and] at k
      exact k
  · intro z H2 hz e2 Q' k
    have k := k H2 (Same.refl _)
    refine ⟨_, rfl, ?_⟩
    rw [Int.zero_add]
    exact k
  intro H2 e2 hD2
  change H2 D = some (.lst ((someL rs.length (flip2 (bit rs)) x y).map nV)) at hD2
  have sml : (someL rs.length (flip2 (bit rs)) x y).length ≤ 20000 := Nat.le_trans (List.length_filter_le _ _) (by rw [List.length_range]; omega)
  have smem : ∀ {z}, z ∈ someL rs.length (flip2 (bit rs)) x y → z < rs.length := fun h => List.mem_range.mp (List.mem_filter.mp h).1
  refine ⟨_, rfl, D, rfl, ⟨_, SqL.of hD2⟩, fun D2 hD2n => ?_⟩
  refine lc_filtX (j := 4) (f := nV) (fun z => (someL rs.length (flip2 (bit rs)) x y).all fun w => flip2 (bit rs) w z) nV_inj hD2n (SqL.of hD2) sml (fun _ => rfl) ?_ (fun v H2 Q' k => ⟨_, rfl, k⟩) ?_
  · intro z H3 hzm e3 Qb k
    have hz := smem hzm
    have hD3 := e3 _ _ hD2
    refine ⟨_, rfl, D, rfl, ⟨_, SqL.of hD3⟩, fun D3 hD3n => ?_⟩
    refine lc_mapX (j := 5) (f := nV) (fun w => .bl (flip2 (bit rs) w z)) hD3n (SqL.of hD3) sml (fun _ => rfl) ?_ ?_
    · intro w H4 hwm e4 Q' k'
      have hw := smem hwm
      refine ⟨_, rfl, _, rfl, a, _, _, _, rfl, rfl, up_l (e2.trans (e3.trans e4)) hS, rowA hz rfl, _, rfl, _, _, _, rfl, rfl, lineA sq hz, signA sq hz hw rfl, rfl, ?_⟩
      rw [cell1 sq hz hw]
      exact k' _ (Same.refl _)
    · intro H4 e4 hD4
      refine ⟨D3, (someL rs.length (flip2 (bit rs)) x y).map fun w => flip2 (bit rs) w z, rfl, SqL.of ?_, _, rfl, ?_⟩
      · rw [hD4, List.map_map] <;> rfl
      · rw [List.all_map]
        exact k H4 e4
  intro H3 e3 hD3
  change H3 D2 = some (.lst ((bestL rs.length (flip2 (bit rs)) x y).map nV)) at hD3
  rw [L.best_up hx hy] at hD3
  exact ⟨D2, _, 0, _, rfl, rfl, SqL.of hD3, at0, q _ (e2.trans e3)⟩
end
end FF
/-! boards: C(..) in a law; low, up called; tables read; rows and their ends -/
namespace FF
open PySem PySem.Spec PyProof.Rows L2
theorem Src.upN {H H' : Hp} {s : Addr} (e : LamX.ExtN H H') (h : Src H s) : Src H' s := by
  obtain ⟨c, ns, h1, h2⟩ := h
  exact ⟨c, ns, e _ _ h1 (fun ps z => by unfold hid at z; cases z), e _ _ h2 (fun ps z => by cases z)⟩
theorem mk_same {H H' : Hp} {b dx : Addr} {o o' : HO} (hb : H b = none) (hdx : H dx = none) (e : SameB b (upd (upd H dx o) b o') H') : Same H H' := fun z u hz => by
  have h1 : z ≠ b := ne_of_none hz hb
  have h2 : z ≠ dx := ne_of_none hz hdx
  exact e z u h1 (by rw [upd_ne h1, upd_ne h2]; exact hz)
theorem strs_dp {K : PySem.W.Frag} {H : Hp} : ∀ (rs : List Str), DpAll K H (rs.map V.str) (rs.map .str)
  | [] => .nil
  | _ :: rs => .cons (.str _) (strs_dp rs)
theorem digs_ok {rs : List Str} (sq : Sq rs) : nice (.list (rs.map .str)) = true := by
  simp only [nice, Bool.and_eq_true, decide_eq_true_eq]
  refine ⟨by rw [List.length_map]; have := sq.le; omega, niceAll_of fun d hd => ?_⟩
  obtain ⟨r, hr, rfl⟩ := List.mem_map.mp hd
  simp only [nice, Bool.and_eq_true, decide_eq_true_eq]
  refine ⟨by rw [sq.len r hr]; have := sq.le; omega, ?_⟩
  show (r.cps.all fun x => decide (x < 0x110000)) = true
  rw [Array.all_eq_true_iff_forall_mem]
  intro x hx
  rcases sq.dig r hr x (Array.mem_toList_iff.mpr hx) with rfl | rfl <;> rfl
theorem dig_shaped {rs : List Str} (sq : Sq rs) : SeqAt.shaped (.list (rs.map .str)) = true := by
  refine Nice.shaped (n := 2) ⟨digs_ok sq, ?_⟩
  have := depthAll_of (ds := rs.map PyData.str) (n := 0) fun d hd => by
    obtain ⟨r, _, rfl⟩ := List.mem_map.mp hd
    rw [PyData.depth]
    exact Nat.le_refl _
  rw [PyData.depth]
  omega
theorem accept {K : PySem.W.Frag} {H1 : Hp} {l : Addr} {rs : List Str} {Q' : Addr → Hp → Prop} {E' : XK} (good : progBoard rs = true) (hl : SqL K H1 l (rs.map V.str)) (k : ∀ b dx li H2, H1 b = none → H1 li = none → Same H1 H2 → BoardAt K H2 b dx li rs → Q' b H2) :
    ∀ x dx, H1 x = none → H1 dx = none → dx ≠ x → spBoard K (.ref x :: ([.ref l] ++ [])) (upd (upd H1 dx (.own x)) x (.ins (He.ga K "Board") dx [])) (fun v H2 => v = .non ∧ Q' x H2) E' := fun x dx hx hdx hne =>
  have sq := (lat_of good).sq
  ⟨x, l, dx, rs, rfl, upd_same, up_l ((same_new hdx (.own x)).trans (same_new (by rw [upd_ne hne.symm]; exact hx) _)) hl, (by have := sq.le; omega), (fun r hr => by rw [sq.len r hr]; have := sq.le; omega), fun _ li H2 hli e hB => ⟨rfl, k x dx li H2 hx (by
    have h3 : li ≠ x := fun z => by rw [z, upd_same] at hli; cases hli
    rw [upd_ne h3] at hli
    by_cases h4 : li = dx
    · rw [h4]; exact hdx
    · rw [upd_ne h4] at hli; exact hli) (mk_same hx hdx e) hB⟩, fun g => (by rw [good] at g; cases g)⟩
/-! ### places -/
theorem places_ok {K : PySem.W.Frag} {n : Nat} {xs : List Nat} {H : Hp} {E : XK} {good : Prop} (h : ∀ x ∈ xs, x < n) (g : good) : Places K n (xs.map fun x : Nat => (x : Int)) H E good :=
  ⟨fun _ => g, fun pre v post e _ hv => by
    have hm : v ∈ xs.map fun x : Nat => (x : Int) := by rw [e]; exact List.mem_append_right _ List.mem_cons_self
    obtain ⟨x, hx, rfl⟩ := List.mem_map.mp hm
    have := h x hx
    exact absurd ⟨by omega, by omega⟩ hv⟩
theorem star_ok {K : PySem.W.Frag} {f : List Str → List Nat → Nat} {H : Hp} {b dx li : Addr} {rs : List Str} {xs : List Nat} {Q : VK} {E : XK} (hB : BoardAt K H b dx li rs) (hl : xs.length ≤ 9000) (h : ∀ x ∈ xs, x < rs.length) (k : ∀ H2, Same H H2 → Q (nV (f rs xs)) H2) : spStar K f (.ref b :: xs.map nV) H Q E := by
  refine ⟨b, dx, li, rs, xs.map fun x : Nat => (x : Int), by rw [List.map_map]; rfl, hB, by rw [List.length_map]; exact hl, fun H1 e1 => places_ok h fun H2 e2 => ?_⟩
  rw [natsOf_nat]
  exact k H2 (e1.trans e2)
theorem below_ok {K : PySem.W.Frag} {H : Hp} {b dx li : Addr} {rs : List Str} {x y : Nat} {Q : VK} {E : XK} (hL : LinesAt K H b dx li rs) (sq : Sq rs) (hx : x < rs.length) (hy : y < rs.length) (k : ∀ H2, Same H H2 → Q (.bl (bit rs x y)) H2) : spBelow K [.ref b, nV x, nV y] H Q E :=
  ⟨b, dx, li, rs, x, y, rfl, hL, sq, fun H1 e1 => places_ok (xs := [x, y]) (fun z hz => by
    simp only [List.mem_cons, List.not_mem_nil, or_false] at hz
    rcases hz with rfl | rfl
    · exact hx
    · exact hy) (by rw [Int.toNat_natCast, Int.toNat_natCast]; exact k H1 e1)⟩
/-! ### tables read -/
theorem ix_row {K : PySem.W.Frag} {H : Hp} {a : Addr} {tab : List (List Nat)} {n x : Nat} {Q : VK} (T : TabAt H a tab) (ok : TabOk n tab) (hx : x < n) (q : ∀ t, H t = some (.lst ((tab.getD x []).map nV)) → Q (.ref t) H) : rIxL K (.ref a) (nV x) H Q := by
  obtain ⟨ts, h1, h2, h3⟩ := T
  have hxt : x < ts.length := by rw [h2, ok.len]; exact hx
  have hxb : x < tab.length := by rw [ok.len]; exact hx
  refine ⟨a, _, _, .ref ts[x], rfl, rfl, SqL.of h1, atI_nat (by rw [List.getElem?_map, List.getElem?_eq_getElem hxt] <;> rfl), q _ (h3 x _ _ (List.getElem?_eq_getElem hxt) ?_)⟩
  rw [List.getD_eq_getElem?_getD, List.getElem?_eq_getElem hxb] <;> rfl
theorem ix_ent {K : PySem.W.Frag} {H : Hp} {t : Addr} {r : List Nat} {y : Nat} {Q : VK} (h : H t = some (.lst (r.map nV))) (hy : y < r.length) (q : Q (nV (r.getD y 0)) H) : rIxL K (.ref t) (nV y) H Q :=
  ⟨t, _, _, nV (r.getD y 0), rfl, rfl, SqL.of h, atI_nat (by rw [List.getElem?_map, List.getD_eq_getElem?_getD, List.getElem?_eq_getElem hy] <;> rfl), q⟩
theorem TabOk.rlen {n x : Nat} {tab : List (List Nat)} (ok : TabOk n tab) (hx : x < n) : (tab.getD x []).length = n := by
  have hxb : x < tab.length := by rw [ok.len]; exact hx
  rw [List.getD_eq_getElem?_getD, List.getElem?_eq_getElem hxb]
  exact ok.row _ (List.getElem_mem hxb)
/-! ### several places -/
section
variable {rs : List Str} (L : Lat rs)
include L
theorem Lat.lows2 {x y : Nat} (hx : x < rs.length) (hy : y < rs.length) : lowsN rs [x, y] = lowN rs x y := by
  have := L.lows_snoc (xs := [x]) (x := y) (by simpa using hx) hy
  rw [L.lows_one hx] at this
  exact this
theorem Lat.ups2 {x y : Nat} (hx : x < rs.length) (hy : y < rs.length) : upsN rs [x, y] = upN rs x y := by
  have := L.ups_snoc (xs := [x]) (x := y) (by simpa using hx) hy
  rw [L.ups_one hx] at this
  exact this
end
end FF
/-! named boards: chains, cubes, fans are families -/
namespace FF
open PySem PySem.Spec PyProof.Rows L2
theorem and_tb (a b k : Nat) : (a &&& b).testBit k = (a.testBit k && b.testBit k) := Nat.testBit_and a b k
/-! ### chains -/
def chM (i : Nat) : Nat := 2 ^ i - 1
def chainM (n : Nat) : List Nat := (List.range n).map chM
theorem chM_tb (i k : Nat) : (chM i).testBit k = decide (k < i) := Nat.testBit_two_pow_sub_one i k
theorem chM_and (i j : Nat) : chM i &&& chM j = chM (min i j) := Nat.eq_of_testBit_eq fun k => by
  rw [and_tb, chM_tb, chM_tb, chM_tb, ← Bool.decide_and]
  exact decide_eq_decide.mpr (by omega)
theorem chM_inj {i j : Nat} (h : chM i = chM j) : i = j := by
  have t : ∀ k, decide (k < i) = decide (k < j) := fun k => by rw [← chM_tb, ← chM_tb, h]
  have t : ∀ k, k < i ↔ k < j := fun k => decide_eq_decide.mp (t k)
  have h1 := t i
  have h2 := t j
  omega
theorem chM_sub (i j : Nat) : chM i &&& chM j = chM i ↔ i ≤ j := by
  rw [chM_and]
  exact ⟨fun h => by have := chM_inj h; omega, fun h => by rw [Nat.min_eq_left h]⟩
theorem nodup_map {f : Nat → Nat} (inj : ∀ {i j}, f i = f j → i = j) (n : Nat) : ((List.range n).map f).Nodup := by
  refine List.pairwise_map.mpr (List.Pairwise.imp (fun {a b} h => ?_) (List.nodup_range (n := n)))
  exact fun z => h (inj z)
theorem chain_fam {n : Nat} (h : 1 ≤ n) : Fam (chainM n) := by
  have mem : ∀ {a}, a ∈ chainM n ↔ ∃ i, i < n ∧ chM i = a := fun {a} => by
    unfold chainM
    rw [List.mem_map]
    exact ⟨fun ⟨i, hi, e⟩ => ⟨i, List.mem_range.mp hi, e⟩, fun ⟨i, hi, e⟩ => ⟨i, List.mem_range.mpr hi, e⟩⟩
  refine ⟨nodup_map chM_inj n, fun a ha b hb => ?_, chM (n - 1), mem.mpr ⟨n - 1, by omega, rfl⟩, fun a ha => ?_⟩
  · obtain ⟨i, hi, rfl⟩ := mem.mp ha
    obtain ⟨j, hj, rfl⟩ := mem.mp hb
    exact mem.mpr ⟨min i j, by omega, (chM_and i j).symm⟩
  · obtain ⟨i, hi, rfl⟩ := mem.mp ha
    exact (chM_sub _ _).mpr (by omega)
/-! ### cubes -/
/-! ### fans -/
def fanT (n : Nat) : Nat := 2 ^ (n + 1) - 1
def fanM (n : Nat) : List Nat := 0 :: ((List.range n).map (fun i => 2 ^ i) ++ [fanT n])
theorem pw_and_pw {i j : Nat} (h : i ≠ j) : 2 ^ i &&& 2 ^ j = 0 := Nat.eq_of_testBit_eq fun k => by
  rw [and_tb, Nat.testBit_two_pow, Nat.testBit_two_pow, Nat.zero_testBit, ← Bool.decide_and]
  exact decide_eq_false (by omega)
theorem pw_top {i n : Nat} (h : i < n) : 2 ^ i &&& fanT n = 2 ^ i := by
  have h1 : 2 ^ i < 2 ^ (n + 1) := Nat.pow_lt_pow_right (by decide) (by omega)
  unfold fanT
  rw [Nat.and_two_pow_sub_one_eq_mod, Nat.mod_eq_of_lt h1]
theorem pw_inj {i j : Nat} (h : 2 ^ i = 2 ^ j) : i = j := by
  rcases Nat.lt_trichotomy i j with k | k | k
  · have := Nat.pow_lt_pow_right (show 1 < 2 by decide) k
    omega
  · exact k
  · have := Nat.pow_lt_pow_right (show 1 < 2 by decide) k
    omega
theorem pw_ne_top {i n : Nat} (h : i < n) : 2 ^ i ≠ fanT n := fun z => by
  have := congrArg (fun u => Nat.testBit u n) z
  unfold fanT at this
  rw [Nat.testBit_two_pow, Nat.testBit_two_pow_sub_one, decide_eq_true (show n < n + 1 by omega), decide_eq_false (show ¬ i = n by omega)] at this
  cases this
theorem fan_fam {n : Nat} : Fam (fanM n) := by
  have mem : ∀ {a}, a ∈ fanM n ↔ a = 0 ∨ (∃ i, i < n ∧ 2 ^ i = a) ∨ a = fanT n := fun {a} => by
    unfold fanM
    rw [List.mem_cons, List.mem_append, List.mem_map, List.mem_singleton]
    exact or_congr Iff.rfl (or_congr ⟨fun ⟨i, hi, e⟩ => ⟨i, List.mem_range.mp hi, e⟩, fun ⟨i, hi, e⟩ => ⟨i, List.mem_range.mpr hi, e⟩⟩ Iff.rfl)
  have tpos : fanT n ≠ 0 := by
    unfold fanT
    have : 2 ^ 1 ≤ 2 ^ (n + 1) := Nat.pow_le_pow_right (by decide) (by omega)
    omega
  have under : ∀ a ∈ fanM n, a &&& fanT n = a := fun a ha => by
    rcases mem.mp ha with rfl | ⟨i, hi, rfl⟩ | rfl
    · exact Nat.zero_and _
    · exact pw_top hi
    · exact Nat.and_self _
  refine ⟨?_, fun a ha b hb => ?_, fanT n, mem.mpr (.inr (.inr rfl)), under⟩
  · unfold fanM
    refine List.nodup_cons.mpr ⟨fun z => ?_, List.nodup_append.mpr ⟨nodup_map (f := fun i => 2 ^ i) (fun {i j} h => pw_inj h) n, by simp, fun a ha b hb => ?_⟩⟩
    · rcases List.mem_append.mp z with z | z
      · obtain ⟨i, _, e⟩ := List.mem_map.mp z
        have := Nat.two_pow_pos i
        omega
      · exact tpos (List.mem_singleton.mp z).symm
    · obtain ⟨i, hi, rfl⟩ := List.mem_map.mp ha
      rw [List.mem_singleton.mp hb]
      exact pw_ne_top (List.mem_range.mp hi)
  · rcases mem.mp hb with rfl | ⟨j, hj, rfl⟩ | rfl
    · rw [Nat.and_zero]
      exact mem.mpr (.inl rfl)
    · rcases mem.mp ha with rfl | ⟨i, hi, rfl⟩ | rfl
      · rw [Nat.zero_and]
        exact mem.mpr (.inl rfl)
      · by_cases h : i = j
        · subst h
          rw [Nat.and_self]
          exact ha
        · rw [pw_and_pw h]
          exact mem.mpr (.inl rfl)
      · rw [Nat.and_comm, under _ hb]
        exact hb
    · rw [under _ ha]
      exact ha
/-! ### their digits -/
def fanG (n z : Nat) : Nat := if z = 0 then 0 else if z = n + 1 then fanT n else 2 ^ (z - 1)
theorem fan_eq (n : Nat) : fanM n = (List.range (n + 2)).map (fanG n) := by
  unfold fanM
  rw [List.range_succ_eq_map, List.map_cons, List.map_map, List.range_succ, List.map_append, List.map_singleton]
  have h1 : (List.range n).map (fun i => 2 ^ i) = (List.range n).map (fanG n ∘ Nat.succ) := List.map_congr_left fun i hi => by
    have := List.mem_range.mp hi
    show 2 ^ i = fanG n (i + 1)
    unfold fanG
    rw [if_neg (by omega), if_neg (by omega)]
    rfl
  have h2 : fanT n = (fanG n ∘ Nat.succ) n := by
    show fanT n = fanG n (n + 1)
    unfold fanG
    rw [if_neg (by omega), if_pos rfl]
  rw [h1, h2]
  rfl
theorem fan_sub {n x y : Nat} (hx : x < n + 2) (hy : y < n + 2) : fanG n x &&& fanG n y = fanG n x ↔ (x = y ∨ x = 0 ∨ y = n + 1) := by
  by_cases hxy : x = y
  · subst hxy
    rw [Nat.and_self]
    exact ⟨fun _ => .inl rfl, fun _ => rfl⟩
  have tpos : 2 ^ 1 ≤ 2 ^ (n + 1) := Nat.pow_le_pow_right (by decide) (by omega)
  unfold fanG
  by_cases x0 : x = 0
  · rw [if_pos x0, Nat.zero_and]
    exact ⟨fun _ => .inr (.inl x0), fun _ => rfl⟩
  rw [if_neg x0]
  by_cases xt : x = n + 1
  · rw [if_pos xt]
    have yt : y ≠ n + 1 := fun z => hxy (xt.trans z.symm)
    by_cases y0 : y = 0
    · rw [if_pos y0, Nat.and_zero]
      exact ⟨fun h => by unfold fanT at h; omega, fun h => by omega⟩
    · rw [if_neg y0, if_neg yt, Nat.and_comm, pw_top (by omega)]
      exact ⟨fun h => absurd h (pw_ne_top (by omega)), fun h => by omega⟩
  rw [if_neg xt]
  by_cases y0 : y = 0
  · rw [if_pos y0, Nat.and_zero]
    have := Nat.two_pow_pos (x - 1)
    exact ⟨fun h => by omega, fun h => by omega⟩
  rw [if_neg y0]
  by_cases yt : y = n + 1
  · rw [if_pos yt, pw_top (by omega)]
    exact ⟨fun _ => .inr (.inr yt), fun _ => rfl⟩
  rw [if_neg yt, pw_and_pw (by omega)]
  have := Nat.two_pow_pos (x - 1)
  exact ⟨fun h => by omega, fun h => by omega⟩
end FF
/-! named boards: their rows as texts -/
namespace FF
open PySem PySem.Spec PyProof.Rows L2
def digRow (N : Nat) (p : Nat → Bool) : Str := ⟨((List.range N).map fun y => if p y = true then 49 else 48).toArray⟩
theorem digRow_congr {N : Nat} {p q : Nat → Bool} (h : ∀ y, y < N → p y = q y) : digRow N p = digRow N q := by
  unfold digRow
  rw [List.map_congr_left (f := fun y => if p y = true then 49 else 48) (g := fun y => if q y = true then 49 else 48) fun y hy => by rw [h y (List.mem_range.mp hy)]]
theorem rows_dig (f : Nat → Nat) (N : Nat) : rowsOf ((List.range N).map f) = (List.range N).map fun x => digRow N fun y => decide (f x &&& f y = f x) := by
  unfold rowsOf
  rw [List.map_map]
  refine List.map_congr_left fun x _ => ?_
  show (⟨(((List.range N).map f).map fun b => sub1 (f x) b).toArray⟩ : Str) = digRow N _
  unfold digRow
  rw [List.map_map]
  refine congrArg (fun l : List Nat => (⟨l.toArray⟩ : Str)) (List.map_congr_left fun y _ => ?_)
  show sub1 (f x) (f y) = _
  unfold sub1
  by_cases h : f x &&& f y = f x
  · simp [h]
  · simp [h]
def chainR (n : Nat) : List Str := (List.range n).map fun x => digRow n fun y => decide (x ≤ y)
def fanR (n : Nat) : List Str := (List.range (n + 2)).map fun x => digRow (n + 2) fun y => decide (x = y ∨ x = 0 ∨ y = n + 1)
theorem chainR_eq (n : Nat) : chainR n = rowsOf (chainM n) := by
  unfold chainM
  rw [rows_dig]
  exact List.map_congr_left fun x _ => digRow_congr fun y _ => decide_eq_decide.mpr (chM_sub x y).symm
theorem fanR_eq (n : Nat) : fanR n = rowsOf (fanM n) := by
  rw [fan_eq, rows_dig]
  exact List.map_congr_left fun x hx => digRow_congr fun y hy => decide_eq_decide.mpr (fan_sub (List.mem_range.mp hx) hy).symm
theorem chain_board {n : Nat} (h1 : 1 ≤ n) (h2 : n ≤ 60) : progBoard (chainR n) = true := by
  rw [chainR_eq]
  exact fam_board (chain_fam h1) (by unfold chainM; rw [List.length_map, List.length_range]; exact h2)
theorem fan_board {n : Nat} (h2 : n ≤ 58) : progBoard (fanR n) = true := by
  rw [fanR_eq]
  exact fam_board fan_fam (by rw [fan_eq, List.length_map, List.length_range]; omega)
/-! ### the texts that the program lays -/
theorem tl_app (a b : Str) : tl (a ++ b) = tl a ++ tl b := by
  show (a.cps ++ b.cps).toList = _
  rw [Array.toList_append]
theorem tl_rep0 (n : Nat) : tl (repS "0" n) = List.replicate n 48 := by
  show (List.replicate n ("0" : Str).cps.toList).flatten = _
  rw [show ("0" : Str).cps.toList = [48] by decide +kernel]
  induction n with
  | zero => rfl
  | succ n ih => rw [List.replicate_succ, List.flatten_cons, ih, List.replicate_succ] <;> rfl
theorem tl_rep1 (n : Nat) : tl (repS "1" n) = List.replicate n 49 := by
  show (List.replicate n ("1" : Str).cps.toList).flatten = _
  rw [show ("1" : Str).cps.toList = [49] by decide +kernel]
  induction n with
  | zero => rfl
  | succ n ih => rw [List.replicate_succ, List.flatten_cons, ih, List.replicate_succ] <;> rfl
theorem tl_zero : tl ("0" : Str) = [48] := by decide +kernel
theorem tl_one : tl ("1" : Str) = [49] := by decide +kernel
theorem tl_dig (N : Nat) (p : Nat → Bool) : tl (digRow N p) = (List.range N).map fun y => if p y = true then 49 else 48 := rfl
theorem chain_text {n x : Nat} (hx : x < n) : repS "0" x ++ repS "1" (n - x) = digRow n fun y => decide (x ≤ y) := by
  refine TL.ext_tl ?_
  show tl _ = tl _
  rw [tl_app, tl_rep0, tl_rep1, tl_dig]
  refine List.ext_getElem (by simp; omega) fun y h1 h2 => ?_
  rw [List.getElem_map, List.getElem_range, List.getElem_append]
  simp only [List.length_replicate, List.getElem_replicate]
  by_cases h : y < x
  · rw [dif_pos h, decide_eq_false (by omega), if_neg (by decide)]
  · rw [dif_neg h, decide_eq_true (by omega), if_pos rfl]
def fanRow (n i : Nat) : Str := ((("0" ++ repS "0" i) ++ "1") ++ repS "0" (n - 1 - i)) ++ "1"
theorem fan_text {n i : Nat} (hi : i < n) : fanRow n i = digRow (n + 2) fun y => decide (i + 1 = y ∨ i + 1 = 0 ∨ y = n + 1) := by
  refine TL.ext_tl ?_
  show tl _ = tl _
  unfold fanRow
  rw [tl_app, tl_app, tl_app, tl_app, tl_rep0, tl_rep0, tl_zero, tl_one, tl_dig]
  refine List.ext_getElem (by simp; omega) fun y h1 h2 => ?_
  rw [List.getElem_map, List.getElem_range]
  simp only [List.length_map, List.length_range] at h2
  simp only [List.getElem_append, List.length_append, List.length_replicate, List.length_singleton, List.getElem_replicate, List.getElem_singleton]
  by_cases c : i + 1 = y ∨ i + 1 = 0 ∨ y = n + 1
  · rw [decide_eq_true c, if_pos rfl]
    repeat (first | rfl | split | omega)
  · rw [decide_eq_false c, if_neg (by decide)]
    repeat (first | rfl | split | omega)
theorem fan_first (n : Nat) : repS "1" (n + 2) = digRow (n + 2) fun y => decide (0 = y ∨ 0 = 0 ∨ y = n + 1) := by
  refine TL.ext_tl ?_
  show tl _ = tl _
  rw [tl_rep1, tl_dig]
  refine List.ext_getElem (by simp) fun y h1 h2 => ?_
  rw [List.getElem_map, List.getElem_range, List.getElem_replicate, decide_eq_true (.inr (.inl rfl)), if_pos rfl]
theorem fan_last (n : Nat) : repS "0" (n + 1) ++ "1" = digRow (n + 2) fun y => decide (n + 1 = y ∨ n + 1 = 0 ∨ y = n + 1) := by
  refine TL.ext_tl ?_
  show tl _ = tl _
  rw [tl_app, tl_rep0, tl_one, tl_dig]
  refine List.ext_getElem (by simp) fun y h1 h2 => ?_
  rw [List.getElem_map, List.getElem_range]
  simp only [List.length_map, List.length_range] at h2
  simp only [List.getElem_append, List.length_replicate, List.getElem_replicate, List.getElem_singleton]
  by_cases c : n + 1 = y ∨ n + 1 = 0 ∨ y = n + 1
  · rw [decide_eq_true c, if_pos rfl]
    repeat (first | rfl | split | omega)
  · rw [decide_eq_false c, if_neg (by decide)]
    repeat (first | rfl | split | omega)
theorem fan_rows (n : Nat) : repS "1" (n + 2) :: ((List.range n).map (fanRow n) ++ [repS "0" (n + 1) ++ "1"]) = fanR n := by
  unfold fanR
  rw [List.range_succ_eq_map, List.map_cons, List.map_map, List.range_succ, List.map_append, List.map_singleton, ← fan_first]
  have h1 : (List.range n).map (fanRow n) = (List.range n).map ((fun x => digRow (n + 2) fun y => decide (x = y ∨ x = 0 ∨ y = n + 1)) ∘ Nat.succ) := List.map_congr_left fun i hi => fan_text (List.mem_range.mp hi)
  rw [h1, fan_last]
  rfl
end FF
/-! Board.chain, Board.cube, Board.fan, ==, repr -/
namespace FF
open PySem PySem.Spec PyProof.Rows L2
def ibR (K : PySem.W.Frag) (H : Hp) (E : XK) : Prop := ∀ dd H', Same H H' → Thr ("InvalidBoard" : Str) dd H' → E (.ref (He.ga K "InvalidBoard")) dd H'
/-- a board of so many steps, or InvalidBoard -/
def spNamed (K : PySem.W.Frag) (pre_ : List V) (lo hi : Nat) (R : Nat → List Str) : Sp := fun vs H Q E => ∃ n : Int, vs = pre_ ++ [.int n] ∧
  (∀ m : Nat, n = m → lo ≤ m → m ≤ hi → ∀ b dx li H', Same H H' → BoardAt K H' b dx li (R m) → Q (.ref b) H') ∧ (¬ (lo ≤ n ∧ n ≤ hi) → ibR K H E)
def spChain (K : PySem.W.Frag) : Sp := spNamed K [.ref (He.ga K "Board")] 1 60 chainR
def spFan (K : PySem.W.Frag) : Sp := spNamed K [] 1 58 fanR
theorem str_len (a b : Str) : (a ++ b).length = a.length + b.length := by
  show (a.cps ++ b.cps).size = _
  rw [Array.size_append]
  rfl
theorem rep0_len (n : Nat) : (repS "0" n).length = n := by rw [repS_len, show ("0" : Str).length = 1 from rfl, Nat.mul_one]
theorem rep1_len (n : Nat) : (repS "1" n).length = n := by rw [repS_len, show ("1" : Str).length = 1 from rfl, Nat.mul_one]
theorem rep0_ok {n : Int} (h : 0 ≤ n ∧ n ≤ 60) : -2147483648 ≤ n ∧ n < 2147483648 ∧ ("0" : Str).length * n.toNat ≤ 100000 := ⟨by omega, by omega, by rw [show ("0" : Str).length = 1 from rfl]; omega⟩
theorem rep1_ok {n : Int} (h : 0 ≤ n ∧ n ≤ 60) : -2147483648 ≤ n ∧ n < 2147483648 ∧ ("1" : Str).length * n.toNat ≤ 100000 := ⟨by omega, by omega, by rw [show ("1" : Str).length = 1 from rfl]; omega⟩
section
variable {P : Program} {w : World} {K : PySem.W.Frag} {mg : Str → Option Value} {base : Heap}
theorem fn_chain {fd : FuncData} (F : FunD K "chain" "Board.chain" (defArgs s_Board_chain) (defBody s_Board_chain) (defScope s_Board_chain) [] [] (gAd K "classmethod" "Board" "chain") fd) (T : Top K mg)
    (M_Board : MakeX P w K mg base "Board" 4 ["self", "rows"] (spBoard K)) (x_InvalidBoard : RaiseD P w K mg base "InvalidBoard" "FaultError" 2 "InvalidBoard") : FnOk P w K mg base (L2.CX P w) 6 (gAd K "classmethod" "Board" "chain") fd ["cls", "size"] (spChain K) := by
  refine FunD.ok F sc_Board_chain (fun vs H Q E h => ?_) (fun cdv A outer s0 H vs Q E hr h => ?_)
  · obtain ⟨n, rfl, _⟩ := h
    rfl
  obtain ⟨n, rfl, q1, q2⟩ := h
  have tk : Takes (cxOf (L2.CX P w) P w K mg base ["cls", "size", "place"] "Board.chain" (defScope s_Board_chain) (gAd K "classmethod" "Board" "chain") cdv A outer s0 H E) (fun cls d _ H => E cls d H) := takes_of rfl rfl rfl rfl
  obtain ⟨u, hv⟩ := T.v_Board_MAX_PLACES
  refine ⟨_, (pss_cons (ps_if (pt_not (pt_chain op_le op_le pe_int (pv 1) (ClX.pe_cval (pv 0))))
  (pss_one (ps_raise rfl tk (pmk_raise x_InvalidBoard hr (by first | decide | omega))))
  pss_nil)
  (pss_one (ps_ret (pe_mkL (E := E) M_Board tk (fun _ _ _ _ h => h) hr (by first | decide | omega) (pv 0) (pa_cons (pe_lc (own := [("place", 2)]) rfl sc_Board_chain.nd (pi_range1 (by rfl) T.b_range (pa_cons (pv 1) pa_nil)) (blkOk_by (by kernel_rfl)) (fun _ _ _ _ _ => (pg_name (i := 2) sc_Board_chain.nd rfl (Or.inl rfl) (.inr rfl))) (fun _ _ _ _ _ => pts_nil) (fun _ _ _ _ _ => (pe_op op_add_str (pe_op op_rep_strX pe_str (pv 2)) (pe_op op_rep_strX pe_str (pe_op op_sub (pv 1) (pv 2)))))) pa_nil))))), ?_⟩
  refine ⟨_, rfl, _, _, rfl, rfl, _, rfl, ?_⟩
  refine if_dec (fun h1 => ?_) (fun h1 => ?_)
  rotate_left
  · exact ⟨_, rfl, q2 (fun z => h1 z.1)⟩
  refine ⟨_, rfl, _, _, _, _, rfl, T.r_Board, hv, _, _, rfl, rfl, _, rfl, ?_⟩
  refine if_nb (fun h2 => ?_) (fun h2 => ?_)
  · exact q2 (fun z => of_decide_eq_false h2 z.2)
  have h2 := of_decide_eq_true h2
  obtain ⟨m, rfl⟩ : ∃ m : Nat, n = m := ⟨n.toNat, by omega⟩
  refine ⟨_, rfl, rfl, _, rfl, m, rfl, by omega, by omega, fun D hD => ?_⟩
  refine lc_mapN (n := m) (j := 2) (fun i => .str (repS "0" i ++ repS "1" (m - i))) hD (by omega) (fun _ => rfl) ?_ ?_
  · intro i H2 hi e2 Q' k'
    have k' := k' H2 (Same.refl _)
    have b1 := rep0_ok (n := 0 + (i : Int)) (by omega)
    have b2 := rep1_ok (n := (m : Int) - (0 + (i : Int))) (by omega)
    refine ⟨_, rfl, _, _, rfl, rfl, b1.1, b1.2.1, b1.2.2, ?_⟩
    refine ⟨_, rfl, _, rfl, _, _, rfl, rfl, _, _, rfl, rfl, b2.1, b2.2.1, b2.2.2, ?_⟩
    have t1 : (0 + (i : Int)).toNat = i := by omega
    have t2 : ((m : Int) - (0 + (i : Int))).toNat = m - i := by omega
    rw [t1, t2]
    refine ⟨_, _, rfl, rfl, le_line ?_, k'⟩
    rw [rep0_len, rep1_len]
    omega
  intro H2 e2 hD2
  have er : (List.range m).map (fun i => V.str (repS "0" i ++ repS "1" (m - i))) = (chainR m).map V.str := by
    unfold chainR
    rw [List.map_map]
    refine List.map_congr_left fun i hi => ?_
    rw [chain_text (List.mem_range.mp hi)]
    rfl
  rw [er] at hD2
  exact accept (chain_board (by omega) (by omega)) (SqL.of hD2) fun b dx li H3 hb0 hli0 e4 hB => q1 m rfl (by omega) (by omega) b dx li H3 (e2.trans e4) hB
end
end FF
/-! Board.fan, Board.cube, ==, repr; the law's rows of cubes -/
namespace FF
open PySem PySem.Spec PyProof.Rows L2
section
variable {P : Program} {w : World} {K : PySem.W.Frag} {mg : Str → Option Value} {base : Heap}
theorem ok_fan {fd : FuncData} (F : FunD K "fan" "Board.fan" (defArgs s_Board_fan) (defBody s_Board_fan) (defScope s_Board_fan) [] [] (gAd K "staticmethod" "Board" "fan") fd) (T : Top K mg)
    (M_Board : MakeX P w K mg base "Board" 4 ["self", "rows"] (spBoard K)) (x_InvalidBoard : RaiseD P w K mg base "InvalidBoard" "FaultError" 2 "InvalidBoard") : StatX P w K mg base "Board" "fan" 6 ["size"] (spFan K) := by
  refine statx_mk F (F.bindsN fun _ _ _ _ _ _ us hl => match us, hl with | [_], _ => rfl) T.r_Board T.s_Board_fan T.c_Board sc_Board_fan (fun vs H Q E h => ?_) (fun cdv A outer s0 H vs Q E hr h tk => ?_)
  · obtain ⟨n, rfl, _⟩ := h
    rfl
  obtain ⟨n, rfl, q1, q2⟩ := h
  refine ⟨_, (pss_cons (ps_if (pt_not (pt_chain op_le op_le pe_int (pv 0) pe_int))
  (pss_one (ps_raise rfl tk (pmk_raise x_InvalidBoard hr (by first | decide | omega))))
  pss_nil)
  (pss_cons (ps_setLc (i := 1) (own := [("at", 2)]) rfl sc_Board_fan.nd rfl rfl (sw_true rfl rfl rfl (by kernel_rfl)) (pi_range1 (by rfl) T.b_range (pa_cons (pv 0) pa_nil)) (blkOk_by (by kernel_rfl)) (fun _ _ _ _ _ => (pg_name (i := 2) sc_Board_fan.nd rfl (Or.inl rfl) (.inr rfl))) (fun _ _ _ _ _ => pts_nil) (fun _ _ _ _ _ => (pe_op op_add_str (pe_op op_add_str (pe_op op_add_str (pe_op op_add_str pe_str (pe_op op_rep_strX pe_str (pv 2))) pe_str) (pe_op op_rep_strX pe_str (pe_op op_sub (pe_op op_sub (pv 0) pe_int) (pv 2)))) pe_str)))
  (pss_one (ps_ret (pe_mkxK K (E := E) M_Board tk (fun _ _ _ _ h => h) hr (by first | decide | omega) (pa_cons (pe_lst (pa_cons (pe_op op_rep_strX pe_str (pe_op op_add (pv 0) pe_int)) (StX.pa_star (pv 1) (pa_cons (pe_op op_add_str (pe_op op_rep_strX pe_str (pe_op op_add (pv 0) pe_int)) pe_str) pa_nil)))) pa_nil)))))), ?_⟩
  refine ⟨_, rfl, _, _, rfl, rfl, _, rfl, ?_⟩
  refine if_dec (fun h1 => ?_) (fun h1 => ?_)
  rotate_left
  · exact ⟨_, rfl, q2 (fun z => h1 z.1)⟩
  refine ⟨_, _, rfl, rfl, _, rfl, ?_⟩
  refine if_nb (fun h2 => ?_) (fun h2 => ?_)
  · exact q2 (fun z => of_decide_eq_false h2 z.2)
  have h2 := of_decide_eq_true h2
  obtain ⟨m, rfl⟩ : ∃ m : Nat, n = m := ⟨n.toNat, by omega⟩
  refine ⟨_, rfl, m, rfl, by omega, by omega, fun D hD => ?_⟩
  have l0 : ("0" : Str).length = 1 := rfl
  have l1 : ("1" : Str).length = 1 := rfl
  refine lc_mapN (n := m) (j := 2) (fun i => .str (fanRow m i)) hD (by omega) (fun _ => rfl) ?_ ?_
  · intro i H2 hi e2 Q' k'
    have k' := k' H2 (Same.refl _)
    have b1 := rep0_ok (n := 0 + (i : Int)) (by omega)
    have b2 := rep0_ok (n := (m : Int) - 1 - (0 + (i : Int))) (by omega)
    have zz : ∀ {n : Nat}, n ≤ 20000 → n ≤ sizeLine := fun h => le_line h
    refine ⟨_, rfl, _, _, rfl, rfl, b1.1, b1.2.1, b1.2.2, ?_⟩
    refine ⟨_, _, rfl, rfl, zz (by rw [rep0_len, l0]; omega), _, _, rfl, rfl, zz (by rw [str_len, rep0_len, l0, l1]; omega), ?_⟩
    refine ⟨_, rfl, _, _, rfl, rfl, _, rfl, _, _, rfl, rfl, _, _, rfl, rfl, b2.1, b2.2.1, b2.2.2, ?_⟩
    refine ⟨_, _, rfl, rfl, zz (by rw [str_len, str_len, rep0_len, rep0_len, l0, l1]; omega), _, _, rfl, rfl, zz (by rw [str_len, str_len, str_len, rep0_len, rep0_len, l0, l1]; omega), ?_⟩
    have t1 : (0 + (i : Int)).toNat = i := by omega
    have t2 : ((m : Int) - 1 - (0 + (i : Int))).toNat = m - 1 - i := by omega
    rw [t1, t2]
    exact k'
  intro H2 e2 hD2
  have c1 := rep1_ok (n := (m : Int) + 2) (by omega)
  have c2 := rep0_ok (n := (m : Int) + 1) (by omega)
  have t3 : ((m : Int) + 2).toNat = m + 2 := by omega
  have t4 : ((m : Int) + 1).toNat = m + 1 := by omega
  refine ⟨_, rfl, _, _, rfl, rfl, _, _, rfl, rfl, c1.1, c1.2.1, c1.2.2, ?_⟩
  refine ⟨_, rfl, D, _, rfl, .inr (SqL.of hD2), ?_⟩
  refine ⟨_, rfl, _, _, rfl, rfl, _, _, rfl, rfl, c2.1, c2.2.1, c2.2.2, _, _, rfl, rfl, le_line (by rw [rep0_len, l1, t4]; omega), ?_⟩
  refine ⟨?_, fun l hl => ?_⟩
  · refine le_line ?_
    dsimp only [List.length_cons, List.length_append, List.length_map, List.length_nil]
    rw [List.length_append, List.length_map, List.length_range]
    simp
    omega
  rw [t3, t4]
  have er : V.str (repS "1" (m + 2)) :: ((List.range m).map (fun i => V.str (fanRow m i)) ++ [V.str (repS "0" (m + 1) ++ "1")]) = (fanR m).map V.str := by
    rw [← fan_rows, List.map_cons, List.map_append, List.map_map]
    rfl
  have e3 := same_new hl (.lst ((fanR m).map V.str))
  have hl3 : SqL K (upd H2 l (.lst ((fanR m).map V.str))) l ((fanR m).map V.str) := SqL.of upd_same
  have fin := accept (K := K) (Q' := fun b H' => Q (.ref b) H') (E' := E) (fan_board (n := m) (by omega)) hl3 fun b dx li H3 hb0 hli0 e4 hB => q1 m rfl (by omega) (by omega) b dx li H3 (e2.trans (e3.trans e4)) hB
  rw [← er] at fin
  exact fin
end
end FF
/-! boards turned; boards that spread: the plain law -/
namespace FF
open PySem PySem.Spec PyProof.Rows L2
theorem cols_len (rs : List Str) : (cols rs).length = rs.length := by
  unfold cols
  rw [List.length_map, List.length_range]
theorem cols_get {rs : List Str} {x : Nat} (hx : x < rs.length) : (cols rs)[x]? = some (colS rs x) := by
  unfold cols
  rw [List.getElem?_map, List.getElem?_range hx] <;> rfl
theorem cols_sq {rs : List Str} (h : Sq rs) : Sq (cols rs) := by
  refine ⟨by rw [cols_len]; exact h.pos, by rw [cols_len]; exact h.le, fun r hr => ?_, fun r hr => ?_⟩
  · obtain ⟨j, hj, rfl⟩ := List.mem_map.mp hr
    rw [cols_len]
    show (rs.map fun r => (tl r).getD j 0).toArray.size = _
    rw [List.size_toArray, List.length_map]
  · obtain ⟨j, hj, rfl⟩ := List.mem_map.mp hr
    exact col_dig h (List.mem_range.mp hj)
theorem cols_bit {rs : List Str} (h : Sq rs) {x y : Nat} (hx : x < rs.length) (hy : y < rs.length) : bit (cols rs) x y = bit rs y x := by
  show (match (cols rs)[x]? with | some r => (tl r)[y]? == some 49 | none => false) = _
  rw [cols_get hx]
  show ((tl (colS rs x))[y]? == some 49) = _
  rw [col_get h hy hx]
  show ((rs[y]?).bind (fun r => (tl r)[x]?) == some 49) = (match rs[y]? with | some r => (tl r)[x]? == some 49 | none => false)
  rw [List.getElem?_eq_getElem hy] <;> rfl
theorem Ord.congr {n : Nat} {le le' : Nat → Nat → Bool} (o : Ord n le) (h : ∀ x y, x < n → y < n → le' x y = le x y) : Ord n le' :=
  ⟨fun x hx => by rw [h x x hx hx]; exact o.refl x hx, fun x y z hx hy hz h1 h2 => by
    rw [h x y hx hy] at h1
    rw [h y z hy hz] at h2
    rw [h x z hx hz]
    exact o.trans x y z hx hy hz h1 h2, fun x y hx hy h1 h2 => by
    rw [h x y hx hy] at h1
    rw [h y x hy hx] at h2
    exact o.anti x y hx hy h1 h2⟩
theorem Glb.congr {n : Nat} {le le' : Nat → Nat → Bool} (h : ∀ x y, x < n → y < n → le' x y = le x y) {x y : Nat} (hx : x < n) (hy : y < n) (g : Glb n le x y) : Glb n le' x y := by
  obtain ⟨z, hz, q⟩ := g
  refine ⟨z, hz, fun w hw => ?_⟩
  rw [h w z hw hz, h w x hw hx, h w y hw hy]
  exact q w hw
theorem cols_board {rs : List Str} (h : progBoard rs = true) : progBoard (cols rs) = true := by
  have L := lat_of h
  have sq := L.sq
  rw [board_alike] at h ⊢
  unfold lawBoard at h ⊢
  obtain ⟨h1, h⟩ := (Bool.and_eq_true _ _).mp h
  obtain ⟨h2, h3⟩ := (Bool.and_eq_true _ _).mp h
  obtain ⟨g1, g2⟩ := (bounds_iff L.ord).mp h3
  have cb : ∀ x y, x < rs.length → y < rs.length → bit (cols rs) x y = flip2 (bit rs) x y := fun x y hx hy => cols_bit sq hx hy
  have cf : ∀ x y, x < rs.length → y < rs.length → flip2 (bit (cols rs)) x y = bit rs x y := fun x y hx hy => cols_bit sq hy hx
  have o2 : Ord (cols rs).length (bit (cols rs)) := by
    rw [cols_len]
    exact L.ord.flip.congr cb
  rw [sq_iff.mpr (cols_sq sq), orderL_iff.mpr o2, (bounds_iff o2).mpr ?_] <;> try rfl
  rw [cols_len]
  exact ⟨fun x y hx hy => (g2 x y hx hy).congr cb hx hy, fun x y hx hy => (g1 x y hx hy).congr cf hx hy⟩
section
variable {rs : List Str} (L : Lat rs)
include L
theorem Lat.cols : Lat (cols rs) := lat_of (cols_board (by
  rw [board_alike]
  unfold lawBoard
  rw [sq_iff.mpr L.sq, orderL_iff.mpr L.ord, (bounds_iff L.ord).mpr ⟨fun x y hx hy => ⟨_, L.lo.glb x y hx hy⟩, fun x y hx hy => ⟨_, L.up.glb x y hx hy⟩⟩] <;> rfl))
end
/-! ### lattices on numbers -/
structure LA (n : Nat) (le : Nat → Nat → Bool) (lo up : Nat → Nat → Nat) : Prop where
  ord : Ord n le
  low : ∀ x y, x < n → y < n → lo x y < n ∧ ∀ w, w < n → (le w (lo x y) = true ↔ le w x = true ∧ le w y = true)
  upp : ∀ x y, x < n → y < n → up x y < n ∧ ∀ w, w < n → (le (up x y) w = true ↔ le x w = true ∧ le y w = true)
theorem LA.flip {n : Nat} {le : Nat → Nat → Bool} {lo up : Nat → Nat → Nat} (a : LA n le lo up) : LA n (flip2 le) up lo := ⟨a.ord.flip, a.upp, a.low⟩
def Spr (n : Nat) (lo up : Nat → Nat → Nat) : Prop := ∀ x y z, x < n → y < n → z < n → lo x (up y z) = up (lo x y) (lo x z)
section
variable {n : Nat} {le : Nat → Nat → Bool} {lo up : Nat → Nat → Nat} (a : LA n le lo up)
include a
theorem LA.up1 {x y : Nat} (hx : x < n) (hy : y < n) : le x (up x y) = true ∧ le y (up x y) = true := ((a.upp x y hx hy).2 _ (a.upp x y hx hy).1).mp (a.ord.refl _ (a.upp x y hx hy).1)
theorem LA.lo1 {x y : Nat} (hx : x < n) (hy : y < n) : le (lo x y) x = true ∧ le (lo x y) y = true := ((a.low x y hx hy).2 _ (a.low x y hx hy).1).mp (a.ord.refl _ (a.low x y hx hy).1)
theorem LA.comm {x y : Nat} (hx : x < n) (hy : y < n) : lo x y = lo y x := uniq a.ord (a.low x y hx hy).1 (a.low y x hy hx).1 fun w hw => by
  rw [(a.low x y hx hy).2 w hw, (a.low y x hy hx).2 w hw, And.comm]
end
/-! ### spreading -/
def sprAt (rs : List Str) (x y z : Nat) : Bool := lowN rs x (upN rs y z) == upN rs (lowN rs x y) (lowN rs x z)
def spreadsB (rs : List Str) : Bool := (List.range rs.length).all fun x => (List.range rs.length).all fun y => (List.range rs.length).all fun z => sprAt rs x y z
theorem spr_iff {rs : List Str} : spreadsB rs = true ↔ Spr rs.length (lowN rs) (upN rs) := by
  unfold spreadsB
  rw [List.all_eq_true]
  constructor
  · intro h x y z hx hy hz
    exact beq_iff_eq.mp (List.all_eq_true.mp (List.all_eq_true.mp (h x (List.mem_range.mpr hx)) y (List.mem_range.mpr hy)) z (List.mem_range.mpr hz))
  · intro h x hx
    rw [List.all_eq_true]
    intro y hy
    rw [List.all_eq_true]
    intro z hz
    exact beq_iff_eq.mpr (h x y z (List.mem_range.mp hx) (List.mem_range.mp hy) (List.mem_range.mp hz))
theorem spr_false {rs : List Str} {x y z : Nat} (hx : x < rs.length) (hy : y < rs.length) (hz : z < rs.length) (h : lowN rs x (upN rs y z) ≠ upN rs (lowN rs x y) (lowN rs x z)) : spreadsB rs = false := by
  cases e : spreadsB rs with
  | false => rfl
  | true => exact absurd (spr_iff.mp e x y z hx hy hz) h
/-! ### values -/
/-! ### chains, cubes, fans -/
theorem low_is {rs : List Str} (L : Lat rs) {x y z : Nat} (hx : x < rs.length) (hy : y < rs.length) (hz : z < rs.length) (h : ∀ w, w < rs.length → (bit rs w z = true ↔ bit rs w x = true ∧ bit rs w y = true)) : lowN rs x y = z := uniq L.ord (L.low_lt hx hy) hz fun w hw => by rw [L.low_iff hx hy hw, h w hw]
theorem up_is {rs : List Str} (L : Lat rs) {x y z : Nat} (hx : x < rs.length) (hy : y < rs.length) (hz : z < rs.length) (h : ∀ w, w < rs.length → (bit rs z w = true ↔ bit rs x w = true ∧ bit rs y w = true)) : upN rs x y = z := uniq L.ord.flip (L.up_lt hx hy) hz fun w hw => by
  show bit rs (upN rs x y) w = true ↔ bit rs z w = true
  rw [L.up_iff hx hy hw, h w hw]
theorem chain_len' (n : Nat) : (chainR n).length = n := by
  unfold chainR
  rw [List.length_map, List.length_range]
theorem fan_len' (n : Nat) : (fanR n).length = n + 2 := by
  unfold fanR
  rw [List.length_map, List.length_range]
theorem chain_bit {n x y : Nat} (hx : x < n) (hy : y < n) : bit (chainR n) x y = decide (x ≤ y) := by
  have hl : (chainM n).length = n := by unfold chainM; rw [List.length_map, List.length_range]
  rw [chainR_eq, bit_rowsOf (by omega) (by omega)]
  refine decide_eq_decide.mpr ?_
  have g : ∀ {i : Nat} (h : i < (chainM n).length), (chainM n)[i] = chM i := fun {i} h => Option.some.inj ((List.getElem?_eq_getElem h).symm.trans (by
    unfold chainM
    rw [List.getElem?_map, List.getElem?_range (by omega)] <;> rfl))
  rw [g, g]
  exact chM_sub x y
theorem chain_spr {n : Nat} (h1 : 1 ≤ n) (h2 : n ≤ 60) : spreadsB (chainR n) = true := by
  have L := lat_of (chain_board h1 h2)
  have e := chain_len' n
  have lo : ∀ {x y : Nat}, x < n → y < n → lowN (chainR n) x y = min x y := fun {x y} hx hy => low_is L (by omega) (by omega) (by omega) fun w hw => by
    rw [chain_bit (by omega) (by omega), chain_bit (by omega) (by omega), chain_bit (by omega) (by omega), decide_eq_true_eq, decide_eq_true_eq, decide_eq_true_eq]
    omega
  have up : ∀ {x y : Nat}, x < n → y < n → upN (chainR n) x y = max x y := fun {x y} hx hy => up_is L (by omega) (by omega) (by omega) fun w hw => by
    rw [chain_bit (by omega) (by omega), chain_bit (by omega) (by omega), chain_bit (by omega) (by omega), decide_eq_true_eq, decide_eq_true_eq, decide_eq_true_eq]
    omega
  refine spr_iff.mpr fun x y z hx hy hz => ?_
  rw [e] at hx hy hz
  rw [up hy hz, lo hx (by omega), lo hx hy, lo hx hz, up (by omega) (by omega)]
  omega
end FF
/-! Board.turned, Board.spreads, _law_spreads -/
namespace FF
open PySem PySem.Spec PyProof.Rows L2
def spTurnB (K : PySem.W.Frag) : Sp := fun vs H Q _ => ∃ (b dx li : Addr) (rs : List Str), vs = [.ref b] ∧ BoardAt K H b dx li rs ∧ ∀ b2 dx2 li2 H', Same H H' → BoardAt K H' b2 dx2 li2 (cols rs) → Q (.ref b2) H'
def spSpr (K : PySem.W.Frag) : Sp := fun vs H Q _ => ∃ (b dx li : Addr) (rs : List Str), vs = [.ref b] ∧ BoardAt K H b dx li rs ∧ ∀ H', Same H H' → Q (.bl (spreadsB rs)) H'
theorem all_spr {rs : List Str} {x : Nat} (h : ∀ x' < x, ∀ y < rs.length, ∀ z < rs.length, sprAt rs x' y z = true) (h2 : ∀ y < rs.length, ∀ z < rs.length, sprAt rs x y z = true) : ∀ x' < x + 1, ∀ y < rs.length, ∀ z < rs.length, sprAt rs x' y z = true := fun x' hx' => by
  by_cases e : x' = x
  · subst e; exact h2
  · exact h x' (by omega)
theorem spr_true {rs : List Str} (h : ∀ x < rs.length, ∀ y < rs.length, ∀ z < rs.length, sprAt rs x y z = true) : spreadsB rs = true := spr_iff.mpr fun x y z hx hy hz => beq_iff_eq.mp (h x hx y hy z hz)
section
variable {P : Program} {w : World} {K : PySem.W.Frag} {mg : Str → Option Value} {base : Heap}
theorem ok_turnB {fd : FuncData} (F : FunD K "turned" "Board.turned" (defArgs s_Board_turned) (defBody s_Board_turned) (defScope s_Board_turned) [] [] (He.ma K (He.ga K "Board") "turned") fd) (T : Top K mg)
    (M_Board : MakeX P w K mg base "Board" 4 ["self", "rows"] (spBoard K)) (D_turned_rows : Def P w K mg base "turned_rows" 1 ["rows"] (spTurned K)) : MethD P w K mg base "Board" "turned" 6 ["self"] (spTurnB K) := by
  refine methd_mk F (F.bindsN fun _ _ _ _ _ _ us hl => match us, hl with | [_], _ => rfl) T.k_Board T.m_Board_turned sc_Board_turned (fun vs H Q E h => ?_) (fun cdv A outer s0 H vs Q E hr h => ?_)
  · obtain ⟨b, dx, li, rs, rfl, _⟩ := h
    rfl
  obtain ⟨b, dx, li, rs, rfl, ⟨good, lo, up, hb, t1, t2, hli⟩, q⟩ := h
  have L := lat_of good
  refine ⟨_, (pss_one (ps_ret (pe_mkxN M_Board hr (by first | decide | omega) (pa_cons (pe_def D_turned_rows hr (by first | decide | omega) (pa_cons (pe_fld (pv 0) rfl) pa_nil)) pa_nil)))), ?_⟩
  refine ⟨_, rfl, b, _, dx, _, _, rfl, hb, T.k_Board, T.n_Board_lines, rfl, li, rs, rfl, SqL.of hli, L.sq, fun p H1 e1 _ hp => ?_⟩
  exact accept (cols_board good) (SqL.of hp) fun b2 dx2 li2 H3 _ _ e3 hB => q b2 dx2 li2 H3 (e1.trans e3) hB
theorem ok_spr {fd : FuncData} (F : FunD K "spreads" "Board.spreads" (defArgs s_Board_spreads) (defBody s_Board_spreads) (defScope s_Board_spreads) [] [] (He.ma K (He.ga K "Board") "spreads") fd) (T : Top K mg) : MethD P w K mg base "Board" "spreads" 1 ["self"] (spSpr K) := by
  refine methd_mk F (F.bindsN fun _ _ _ _ _ _ us hl => match us, hl with | [_], _ => rfl) T.k_Board T.m_Board_spreads sc_Board_spreads (fun vs H Q E h => ?_) (fun cdv A outer s0 H vs Q E hr h => ?_)
  · obtain ⟨b, dx, li, rs, rfl, _⟩ := h
    rfl
  obtain ⟨b, dx, li, rs, rfl, ⟨good, lo, up, hb, t1, t2, hli⟩, q⟩ := h
  have L := lat_of good
  have n60 := L.sq.le
  refine ⟨_, (pss_cons (ps_set (i := 1) sc_Board_spreads.nd rfl (Or.inl rfl) (pe_listRg rfl (by rfl) T.b_list (prg_1 (by rfl) T.b_range (pe_callB (call_lenK K) (by rfl) T.b_len (by decide +kernel) (pa_cons (pe_fld (pv 0) rfl) pa_nil)))))
  (pss_cons (ps_for PassesOwn.never rfl (pi_listK K (pv 1)) (pg_name (i := 2) sc_Board_spreads.nd rfl (Or.inl rfl) (.inl rfl))
  (pss_one (ps_for PassesOwn.never rfl (pi_listK K (pv 1)) (pg_name (i := 3) sc_Board_spreads.nd rfl (Or.inl rfl) (.inl rfl))
  (pss_one (ps_for PassesOwn.never rfl (pi_listK K (pv 1)) (pg_name (i := 4) sc_Board_spreads.nd rfl (Or.inl rfl) (.inl rfl))
  (pss_cons (ps_set (i := 5) sc_Board_spreads.nd rfl (Or.inl rfl) (pe_ix (ix_listK K) (pe_ix (ix_listK K) (pe_fld (pv 0) rfl) (pv 2) (fun _ _ => rfl)) (pe_ix (ix_listK K) (pe_ix (ix_listK K) (pe_fld (pv 0) rfl) (pv 3) (fun _ _ => rfl)) (pv 4) (fun _ _ => rfl)) (fun _ _ => rfl)))
  (pss_one (ps_if (pt_cmpR op_ne (pv 5) (pe_ix (ix_listK K) (pe_ix (ix_listK K) (pe_fld (pv 0) rfl) (pe_ix (ix_listK K) (pe_ix (ix_listK K) (pe_fld (pv 0) rfl) (pv 2) (fun _ _ => rfl)) (pv 3) (fun _ _ => rfl)) (fun _ _ => rfl)) (pe_ix (ix_listK K) (pe_ix (ix_listK K) (pe_fld (pv 0) rfl) (pv 2) (fun _ _ => rfl)) (pv 4) (fun _ _ => rfl)) (fun _ _ => rfl)) (nomark _))
  (pss_one (ps_ret pe_bl))
  pss_nil))))))))
  (pss_one (ps_ret pe_bl)))), ?_⟩
  refine ⟨_, rfl, b, _, dx, _, _, rfl, hb, T.k_Board, T.n_Board_lines, rfl, .ref li, rs.length, rfl, .inl ⟨_, SqL.of hli, (List.length_map _).symm⟩, _, rfl, RgOk.of_le (by omega) (by omega) (by omega) (by omega), fun p hp => ?_⟩
  have e1 := same_new hp (.lst (rgV 0 (rs.length : Int)))
  have hp1 : (upd H p (.lst (rgV 0 (rs.length : Int)))) p = some (.lst ((List.range rs.length).map nV)) := by rw [upd_same, rgV_nat]
  generalize upd H p (.lst (rgV 0 (rs.length : Int))) = H1 at e1 hp1 ⊢
  have hb := e1 _ _ hb
  have t1 := t1.up e1
  have t2 := t2.up e1
  have q := q H1 e1
  clear e1 hp hli
  have it : ∀ {i : Nat} {x : V}, ((List.range rs.length).map nV)[i]? = some x → i < rs.length ∧ x = nV i := fun {i x} h => by
    obtain ⟨y, hy, rfl⟩ := map_get h
    have hi := (List.getElem?_eq_some_iff.mp hy).1
    rw [List.length_range] at hi
    rw [List.getElem?_range hi] at hy
    cases hy
    exact ⟨hi, rfl⟩
  have len : ((List.range rs.length).map nV).length = rs.length := by rw [List.length_map, List.length_range]
  refine ⟨_, rfl, p, rfl, ⟨_, SqL.of hp1⟩, ?_⟩
  refine for_list (xs := (List.range rs.length).map nV) (fun i σ H' => (∃ o2 o3 o4 o5, σ = [some (.ref b), some (.ref p), o2, o3, o4, o5]) ∧ H' = H1 ∧ ∀ x < i, ∀ y < rs.length, ∀ z < rs.length, sprAt rs x y z = true)
    ⟨⟨_, _, _, _, rfl⟩, rfl, fun x hx => absurd hx (Nat.not_lt_zero _)⟩ (fun i σ H' _ ⟨_, e, _⟩ => e ▸ SqL.of hp1) ?_ ?_
  · rintro x v σ H2 hx ⟨⟨o2, o3, o4, o5, rfl⟩, rfl, hok⟩
    obtain ⟨kx, ex⟩ := it hx
    clear hx
    subst ex
    have hx := kx
    refine ⟨_, rfl, p, rfl, ⟨_, SqL.of hp1⟩, ?_⟩
    refine for_list (xs := (List.range rs.length).map nV) (fun i σ H' => (∃ o3 o4 o5, σ = [some (.ref b), some (.ref p), some (nV x), o3, o4, o5]) ∧ H' = H2 ∧ ∀ y < i, ∀ z < rs.length, sprAt rs x y z = true)
      ⟨⟨_, _, _, rfl⟩, rfl, fun x hx => absurd hx (Nat.not_lt_zero _)⟩ (fun i σ H' _ ⟨_, e, _⟩ => e ▸ SqL.of hp1) ?_ ?_
    · rintro y v σ H3 hy ⟨⟨o3, o4, o5, rfl⟩, rfl, hok2⟩
      obtain ⟨ky, ey⟩ := it hy
      clear hy
      subst ey
      have hy := ky
      refine ⟨_, rfl, p, rfl, ⟨_, SqL.of hp1⟩, ?_⟩
      refine for_list (xs := (List.range rs.length).map nV) (fun i σ H' => (∃ o4 o5, σ = [some (.ref b), some (.ref p), some (nV x), some (nV y), o4, o5]) ∧ H' = H3 ∧ ∀ z < i, sprAt rs x y z = true)
        ⟨⟨_, _, rfl⟩, rfl, fun x hx => absurd hx (Nat.not_lt_zero _)⟩ (fun i σ H' _ ⟨_, e, _⟩ => e ▸ SqL.of hp1) ?_ ?_
      · rintro z v σ H4 hz ⟨⟨o4, o5, rfl⟩, rfl, hok3⟩
        obtain ⟨kz, ez⟩ := it hz
        clear hz
        subst ez
        have hz := kz
        have hyz := L.up_lt hy hz
        have hxy := L.low_lt hx hy
        have hxz := L.low_lt hx hz
        refine ⟨_, rfl, b, _, dx, _, _, rfl, hb, T.k_Board, T.n_Board_lows, rfl, _, rfl, ix_row t1 L.lo.ok hx fun r1 h1 => ?_⟩
        refine ⟨_, rfl, b, _, dx, _, _, rfl, hb, T.k_Board, T.n_Board_ups, rfl, _, rfl, ix_row t2 L.up.ok hy fun r2 h2 => ⟨_, rfl, ix_ent h2 (Nat.lt_of_lt_of_eq hz (L.up.ok.rlen hy).symm) (ix_ent h1 (Nat.lt_of_lt_of_eq hyz (L.lo.ok.rlen hx).symm) ?_)⟩⟩
        refine ⟨_, rfl, _, rfl, b, _, dx, _, _, rfl, hb, T.k_Board, T.n_Board_ups, rfl, _, rfl, b, _, dx, _, _, rfl, hb, T.k_Board, T.n_Board_lows, rfl, _, rfl, ix_row t1 L.lo.ok hx fun r3 h3 => ⟨_, rfl, ix_ent h3 (Nat.lt_of_lt_of_eq hy (L.lo.ok.rlen hx).symm) (ix_row t2 L.up.ok hxy fun r4 h4 => ?_)⟩⟩
        refine ⟨_, rfl, b, _, dx, _, _, rfl, hb, T.k_Board, T.n_Board_lows, rfl, _, rfl, ix_row t1 L.lo.ok hx fun r5 h5 => ⟨_, rfl, ix_ent h5 (Nat.lt_of_lt_of_eq hz (L.lo.ok.rlen hx).symm) (ix_ent h4 (Nat.lt_of_lt_of_eq hxz (L.up.ok.rlen hxy).symm) ?_)⟩⟩
        refine ⟨rfl, _, rfl, ?_⟩
        refine if_nb (fun h => ?_) (fun h => ?_)
        · rw [spr_false hx hy hz (fun e => (of_decide_eq_false h) (congrArg nV e))] at q
          exact q
        · refine ⟨⟨_, _, rfl⟩, rfl, fun z' hz' => ?_⟩
          by_cases e : z' = z
          · subst e
            exact beq_iff_eq.mpr (nV_inj _ _ (of_decide_eq_true h))
          · exact hok3 z' (by omega)
      · rintro σ H4 ⟨⟨o4, o5, rfl⟩, rfl, hok3⟩
        rw [len] at hok3
        exact ⟨⟨_, _, _, rfl⟩, rfl, fun y' hy' => by
          by_cases e : y' = y
          · subst e; exact hok3
          · exact hok2 y' (by omega)⟩
    · rintro σ H3 ⟨⟨o3, o4, o5, rfl⟩, rfl, hok2⟩
      rw [len] at hok2
      exact ⟨⟨_, _, _, _, rfl⟩, rfl, all_spr hok hok2⟩
  · rintro σ H2 ⟨⟨o2, o3, o4, o5, rfl⟩, rfl, hok⟩
    rw [len] at hok
    rw [spr_true hok] at q
    exact q
end
end FF
/-! products of boards: the plain law -/
namespace FF
open PySem PySem.Spec PyProof.Rows L2
def prodR (rs ts : List Str) : List Str := (List.range (rs.length * ts.length)).map fun i => digRow (rs.length * ts.length) fun j => bit rs (i / ts.length) (j / ts.length) && bit ts (i % ts.length) (j % ts.length)
theorem prod_len (rs ts : List Str) : (prodR rs ts).length = rs.length * ts.length := by
  unfold prodR
  rw [List.length_map, List.length_range]
theorem dig_len (n : Nat) (p : Nat → Bool) : (digRow n p).length = n := by
  show ((List.range n).map fun y => if p y = true then 49 else 48).toArray.size = n
  rw [List.size_toArray, List.length_map, List.length_range]
theorem dig_bits (n : Nat) (p : Nat → Bool) : Bits (tl (digRow n p)) := fun c hc => by
  have hc : c ∈ ((List.range n).map fun y => if p y = true then 49 else 48).toArray.toList := hc
  rw [List.toList_toArray] at hc
  obtain ⟨y, _, rfl⟩ := List.mem_map.mp hc
  split
  · exact .inr rfl
  · exact .inl rfl
theorem prod_bit {rs ts : List Str} {i j : Nat} (hi : i < rs.length * ts.length) (hj : j < rs.length * ts.length) : bit (prodR rs ts) i j = (bit rs (i / ts.length) (j / ts.length) && bit ts (i % ts.length) (j % ts.length)) := by
  have hr : (prodR rs ts)[i]? = some (digRow (rs.length * ts.length) fun j => bit rs (i / ts.length) (j / ts.length) && bit ts (i % ts.length) (j % ts.length)) := by
    unfold prodR
    rw [List.getElem?_map, List.getElem?_range hi] <;> rfl
  show (match (prodR rs ts)[i]? with | some r => (tl r)[j]? == some 49 | none => false) = _
  rw [hr]
  show ((((List.range (rs.length * ts.length)).map fun y => if (bit rs (i / ts.length) (y / ts.length) && bit ts (i % ts.length) (y % ts.length)) = true then 49 else 48).toArray.toList)[j]? == some 49) = _
  rw [List.toList_toArray, List.getElem?_map, List.getElem?_range hj, Option.map_some]
  generalize (bit rs (i / ts.length) (j / ts.length) && bit ts (i % ts.length) (j % ts.length)) = q
  cases q <;> rfl
theorem prod_sq {rs ts : List Str} (h1 : 1 ≤ rs.length) (h2 : 1 ≤ ts.length) (h : rs.length * ts.length ≤ 60) : Sq (prodR rs ts) := by
  refine ⟨by rw [prod_len]; exact Nat.mul_pos h1 h2, by rw [prod_len]; exact h, fun r hr => ?_, fun r hr => ?_⟩
  · obtain ⟨i, _, rfl⟩ := List.mem_map.mp hr
    rw [dig_len, prod_len]
  · obtain ⟨i, _, rfl⟩ := List.mem_map.mp hr
    exact dig_bits _ _
section
variable {rs ts : List Str}
theorem div_lt' {i n m : Nat} (h : i < n * m) : i / m < n := Nat.div_lt_of_lt_mul (by rw [Nat.mul_comm]; exact h)
theorem mod_lt' {i n m : Nat} (h : i < n * m) : i % m < m := Nat.mod_lt _ (Nat.pos_of_ne_zero fun z => by subst z; omega)
theorem pair_lt {a b n m : Nat} (ha : a < n) (hb : b < m) : a * m + b < n * m := by
  have : (a + 1) * m ≤ n * m := Nat.mul_le_mul_right _ ha
  rw [Nat.succ_mul] at this
  omega
theorem pair_div {a b m : Nat} (hb : b < m) : (a * m + b) / m = a := by
  rw [Nat.mul_comm, Nat.mul_add_div (by omega), Nat.div_eq_of_lt hb, Nat.add_zero]
theorem pair_mod {a b m : Nat} (hb : b < m) : (a * m + b) % m = b := by
  rw [Nat.mul_comm, Nat.mul_add_mod, Nat.mod_eq_of_lt hb]
theorem pair_eq (i m : Nat) : i / m * m + i % m = i := by
  rw [Nat.mul_comm]
  exact Nat.div_add_mod i m
/-- by parts -/
def byP (m : Nat) (f g : Nat → Nat → Nat) (i j : Nat) : Nat := f (i / m) (j / m) * m + g (i % m) (j % m)
variable (L : Lat rs) (M : Lat ts) (h60 : rs.length * ts.length ≤ 60)
include L M h60
theorem prod_ord : Ord (rs.length * ts.length) (bit (prodR rs ts)) := by
  refine ⟨fun i hi => ?_, fun i j k hi hj hk a b => ?_, fun i j hi hj a b => ?_⟩
  · rw [prod_bit hi hi, L.ord.refl _ (div_lt' hi), M.ord.refl _ (mod_lt' hi)] <;> rfl
  · rw [prod_bit hi hj] at a
    rw [prod_bit hj hk] at b
    rw [prod_bit hi hk]
    obtain ⟨a1, a2⟩ := Bool.and_eq_true_iff.mp a
    obtain ⟨b1, b2⟩ := Bool.and_eq_true_iff.mp b
    rw [L.ord.trans _ _ _ (div_lt' hi) (div_lt' hj) (div_lt' hk) a1 b1, M.ord.trans _ _ _ (mod_lt' hi) (mod_lt' hj) (mod_lt' hk) a2 b2] <;> rfl
  · rw [prod_bit hi hj] at a
    rw [prod_bit hj hi] at b
    obtain ⟨a1, a2⟩ := Bool.and_eq_true_iff.mp a
    obtain ⟨b1, b2⟩ := Bool.and_eq_true_iff.mp b
    have e1 := L.ord.anti _ _ (div_lt' hi) (div_lt' hj) a1 b1
    have e2 := M.ord.anti _ _ (mod_lt' hi) (mod_lt' hj) a2 b2
    rw [← pair_eq i ts.length, ← pair_eq j ts.length, e1, e2]
theorem prod_low {i j : Nat} (hi : i < rs.length * ts.length) (hj : j < rs.length * ts.length) : byP ts.length (lowN rs) (lowN ts) i j < rs.length * ts.length ∧ ∀ w, w < rs.length * ts.length → (bit (prodR rs ts) w (byP ts.length (lowN rs) (lowN ts) i j) = true ↔ bit (prodR rs ts) w i = true ∧ bit (prodR rs ts) w j = true) := by
  have a := L.low_lt (div_lt' hi) (div_lt' hj)
  have b := M.low_lt (mod_lt' hi) (mod_lt' hj)
  have hz := pair_lt a b
  refine ⟨hz, fun w hw => ?_⟩
  unfold byP
  rw [prod_bit hw hz, prod_bit hw hi, prod_bit hw hj, pair_div b, pair_mod b, Bool.and_eq_true_iff, Bool.and_eq_true_iff, Bool.and_eq_true_iff, L.low_iff (div_lt' hi) (div_lt' hj) (div_lt' hw), M.low_iff (mod_lt' hi) (mod_lt' hj) (mod_lt' hw)]
  constructor
  · rintro ⟨⟨h1, h2⟩, h3, h4⟩; exact ⟨⟨h1, h3⟩, h2, h4⟩
  · rintro ⟨⟨h1, h2⟩, h3, h4⟩; exact ⟨⟨h1, h3⟩, h2, h4⟩
theorem prod_up {i j : Nat} (hi : i < rs.length * ts.length) (hj : j < rs.length * ts.length) : byP ts.length (upN rs) (upN ts) i j < rs.length * ts.length ∧ ∀ w, w < rs.length * ts.length → (bit (prodR rs ts) (byP ts.length (upN rs) (upN ts) i j) w = true ↔ bit (prodR rs ts) i w = true ∧ bit (prodR rs ts) j w = true) := by
  have a := L.up_lt (div_lt' hi) (div_lt' hj)
  have b := M.up_lt (mod_lt' hi) (mod_lt' hj)
  have hz := pair_lt a b
  refine ⟨hz, fun w hw => ?_⟩
  unfold byP
  rw [prod_bit hz hw, prod_bit hi hw, prod_bit hj hw, pair_div b, pair_mod b, Bool.and_eq_true_iff, Bool.and_eq_true_iff, Bool.and_eq_true_iff, L.up_iff (div_lt' hi) (div_lt' hj) (div_lt' hw), M.up_iff (mod_lt' hi) (mod_lt' hj) (mod_lt' hw)]
  constructor
  · rintro ⟨⟨h1, h2⟩, h3, h4⟩; exact ⟨⟨h1, h3⟩, h2, h4⟩
  · rintro ⟨⟨h1, h2⟩, h3, h4⟩; exact ⟨⟨h1, h3⟩, h2, h4⟩
theorem prod_board : progBoard (prodR rs ts) = true := by
  have sq := prod_sq L.sq.pos M.sq.pos h60
  have e := prod_len rs ts
  have o2 : Ord (prodR rs ts).length (bit (prodR rs ts)) := by
    rw [e]
    exact prod_ord L M h60
  rw [board_alike]
  unfold lawBoard
  rw [sq_iff.mpr sq, orderL_iff.mpr o2, (bounds_iff o2).mpr ?_] <;> try rfl
  rw [e]
  exact ⟨fun i j hi hj => ⟨_, prod_low L M h60 hi hj⟩, fun i j hi hj => ⟨_, prod_up L M h60 hi hj⟩⟩
theorem prodLow {i j : Nat} (hi : i < rs.length * ts.length) (hj : j < rs.length * ts.length) : lowN (prodR rs ts) i j = byP ts.length (lowN rs) (lowN ts) i j := by
  have P := lat_of (prod_board L M h60)
  have e := prod_len rs ts
  obtain ⟨h1, h2⟩ := prod_low L M h60 hi hj
  exact low_is P (by omega) (by omega) (by omega) fun w hw => h2 w (by omega)
theorem prodUp {i j : Nat} (hi : i < rs.length * ts.length) (hj : j < rs.length * ts.length) : upN (prodR rs ts) i j = byP ts.length (upN rs) (upN ts) i j := by
  have P := lat_of (prod_board L M h60)
  have e := prod_len rs ts
  obtain ⟨h1, h2⟩ := prod_up L M h60 hi hj
  exact up_is P (by omega) (by omega) (by omega) fun w hw => h2 w (by omega)
theorem byP_div {f g : Nat → Nat → Nat} {i j : Nat} (hg : g (i % ts.length) (j % ts.length) < ts.length) : byP ts.length f g i j / ts.length = f (i / ts.length) (j / ts.length) ∧ byP ts.length f g i j % ts.length = g (i % ts.length) (j % ts.length) := ⟨pair_div hg, pair_mod hg⟩
theorem spr_prod : spreadsB (prodR rs ts) = (spreadsB rs && spreadsB ts) := by
  have e := prod_len rs ts
  have pl := @prodLow rs ts L M h60
  have pu := @prodUp rs ts L M h60
  have ll : ∀ {i j}, i < rs.length * ts.length → j < rs.length * ts.length → byP ts.length (lowN rs) (lowN ts) i j < rs.length * ts.length := fun hi hj => (prod_low L M h60 hi hj).1
  have uu : ∀ {i j}, i < rs.length * ts.length → j < rs.length * ts.length → byP ts.length (upN rs) (upN ts) i j < rs.length * ts.length := fun hi hj => (prod_up L M h60 hi hj).1
  have key : ∀ {i j k}, i < rs.length * ts.length → j < rs.length * ts.length → k < rs.length * ts.length → (lowN (prodR rs ts) i (upN (prodR rs ts) j k) = upN (prodR rs ts) (lowN (prodR rs ts) i j) (lowN (prodR rs ts) i k) ↔
      (lowN rs (i / ts.length) (upN rs (j / ts.length) (k / ts.length)) = upN rs (lowN rs (i / ts.length) (j / ts.length)) (lowN rs (i / ts.length) (k / ts.length)) ∧ lowN ts (i % ts.length) (upN ts (j % ts.length) (k % ts.length)) = upN ts (lowN ts (i % ts.length) (j % ts.length)) (lowN ts (i % ts.length) (k % ts.length)))) := fun {i j k} hi hj hk => by
    have mjk := M.up_lt (mod_lt' hj) (mod_lt' hk)
    have mij := M.low_lt (mod_lt' hi) (mod_lt' hj)
    have mik := M.low_lt (mod_lt' hi) (mod_lt' hk)
    rw [pu hj hk, pl hi (uu hj hk), pl hi hj, pl hi hk, pu (ll hi hj) (ll hi hk)]
    have d1 := byP_div L M h60 (f := upN rs) (g := upN ts) (i := j) (j := k) mjk
    have d2 := byP_div L M h60 (f := lowN rs) (g := lowN ts) (i := i) (j := j) mij
    have d3 := byP_div L M h60 (f := lowN rs) (g := lowN ts) (i := i) (j := k) mik
    generalize byP ts.length (upN rs) (upN ts) j k = u at d1 ⊢
    generalize byP ts.length (lowN rs) (lowN ts) i j = v at d2 ⊢
    generalize byP ts.length (lowN rs) (lowN ts) i k = x at d3 ⊢
    unfold byP
    rw [d1.1, d1.2, d2.1, d2.2, d3.1, d3.2]
    have g1 := M.low_lt (mod_lt' hi) mjk
    have g2 := M.up_lt mij mik
    constructor
    · intro h
      have h1 := congrArg (· / ts.length) h
      have h2 := congrArg (· % ts.length) h
      simp only [pair_div g1, pair_div g2, pair_mod g1, pair_mod g2] at h1 h2
      exact ⟨h1, h2⟩
    · rintro ⟨h1, h2⟩
      rw [h1, h2]
  have p1 := L.sq.pos
  have p2 := M.sq.pos
  rw [Bool.eq_iff_iff, Bool.and_eq_true_iff, spr_iff, spr_iff, spr_iff]
  constructor
  · intro h
    constructor
    · intro x y z hx hy hz
      have := (key (pair_lt hx p2) (pair_lt hy p2) (pair_lt hz p2)).mp (h _ _ _ (by rw [e]; exact pair_lt hx p2) (by rw [e]; exact pair_lt hy p2) (by rw [e]; exact pair_lt hz p2))
      have := this.1
      rw [pair_div p2, pair_div p2, pair_div p2] at this
      exact this
    · intro x y z hx hy hz
      have := (key (pair_lt p1 hx) (pair_lt p1 hy) (pair_lt p1 hz)).mp (h _ _ _ (by rw [e]; exact pair_lt p1 hx) (by rw [e]; exact pair_lt p1 hy) (by rw [e]; exact pair_lt p1 hz))
      have := this.2
      rw [pair_mod hx, pair_mod hy, pair_mod hz] at this
      exact this
  · rintro ⟨h1, h2⟩ x y z hx hy hz
    rw [e] at hx hy hz
    exact (key hx hy hz).mpr ⟨h1 _ _ _ (div_lt' hx) (div_lt' hy) (div_lt' hz), h2 _ _ _ (mod_lt' hx) (mod_lt' hy) (mod_lt' hz)⟩
end
end FF
/-! Board.product -/
namespace FF
open PySem PySem.Spec PyProof.Rows L2
def tmE (K : PySem.W.Frag) (H : Hp) (E : XK) : Prop := ∀ dd H', Same H H' → H' dd = some (.xd [("limit", .int 60), ("code", .str "TooManyPlaces")]) → E (.ref (He.ga K "TooManyPlaces")) (some dd) H'
def spProd (K : PySem.W.Frag) : Sp := fun vs H Q E => ∃ (b dx li c dy lj : Addr) (rs ts : List Str), vs = [.ref b, .ref c] ∧ BoardAt K H b dx li rs ∧ BoardAt K H c dy lj ts ∧
  (rs.length * ts.length ≤ 60 → ∀ b3 dx3 li3 H', Same H H' → BoardAt K H' b3 dx3 li3 (prodR rs ts) → Q (.ref b3) H') ∧ (¬ rs.length * ts.length ≤ 60 → tmE K H E)
theorem one_is {c d : Nat} (hc : c = 48 ∨ c = 49) (hd : d = 48 ∨ d = 49) : (decide (V.str ⟨#[c]⟩ = V.str ⟨#[d]⟩) = true ∧ decide (V.str ⟨#[d]⟩ = V.str ("1" : Str)) = true) ↔ (c = 49 ∧ d = 49) := by
  have e1 : ("1" : Str) = ⟨#[49]⟩ := by decide +kernel
  rw [decide_eq_true_eq, decide_eq_true_eq, e1]
  constructor
  · rintro ⟨h1, h2⟩
    have h1 := V.str.inj h1
    have h2 := V.str.inj h2
    have h2 : d = 49 := by
      have := congrArg (fun z : Str => z.cps.toList) h2
      simpa using this
    have h1 : c = d := by
      have := congrArg (fun z : Str => z.cps.toList) h1
      simpa using this
    exact ⟨h1.trans h2, h2⟩
  · rintro ⟨rfl, rfl⟩
    exact ⟨rfl, rfl⟩
theorem mul_ok {a b : Nat} (ha : a ≤ 60) (hb : b ≤ 60) : CMul (a : Int) (b : Int) := by
  have e : (2 : Int) ^ 64 = 18446744073709551616 := by decide
  exact .inl ⟨by rw [e]; omega, by rw [e]; omega⟩
theorem yes_intro {σ : L2.St} {H : Hp} {f : Bool → Hp → Prop} (h : f true H) : tYes σ H f := h
theorem bit_at {rs : List Str} {a i : Nat} {r : Str} (h : rs[a]? = some r) : bit rs a i = ((tl r)[i]? == some 49) := by
  show (match rs[a]? with | some r => (tl r)[i]? == some 49 | none => false) = _
  rw [h]
section
variable {P : Program} {w : World} {K : PySem.W.Frag} {mg : Str → Option Value} {base : Heap}
theorem fn_prod {fd : FuncData} (F : FunD K "product" "Board.product" (defArgs s_Board_product) (defBody s_Board_product) (defScope s_Board_product) [] [] (He.ma K (He.ga K "Board") "product") fd) (T : Top K mg)
    (M_Board : MakeX P w K mg base "Board" 4 ["self", "rows"] (spBoard K)) (x_TooManyPlaces : RaiseD1 P w K mg base "TooManyPlaces" "FaultError" 2 "TooManyPlaces" "limit") : FnOk P w K mg base (L2.CX P w) 6 (He.ma K (He.ga K "Board") "product") fd ["self", "other"] (spProd K) := by
  refine FunD.ok F sc_Board_product (fun vs H Q E h => ?_) (fun cdv A outer s0 H vs Q E hr h => ?_)
  · obtain ⟨b, dx, li, c, dy, lj, rs, ts, rfl, _⟩ := h
    rfl
  obtain ⟨b, dx, li, c, dy, lj, rs, ts, rfl, ⟨g1, lo1, up1, hb, _, _, hli⟩, ⟨g2, lo2, up2, hc, _, _, hlj⟩, q1, q2⟩ := h
  have tk : Takes (cxOf (L2.CX P w) P w K mg base ["self", "other", "pairs", "one", "two", "x", "y"] "Board.product" (defScope s_Board_product) (He.ma K (He.ga K "Board") "product") cdv A outer s0 H E) (fun cls d _ H => E cls d H) := takes_of rfl rfl rfl rfl
  have L := lat_of g1
  have M := lat_of g2
  have a60 := L.sq.le
  have b60 := M.sq.le
  have big : rs.length * ts.length ≤ 3600 := Nat.mul_le_mul a60 b60
  have er : ((rs.length : Nat) : Int) * ((ts.length : Nat) : Int) = ((rs.length * ts.length : Nat) : Int) := (Int.natCast_mul _ _).symm
  refine ⟨_, (pss_cons (ps_if (pt_cmpR op_gt (pe_op op_mul (pe_callB (call_lenK K) (by rfl) T.b_len (by decide +kernel) (pa_cons (pe_fld (pv 0) rfl) pa_nil)) (pe_callB (call_lenK K) (by rfl) T.b_len (by decide +kernel) (pa_cons (pe_fld (pv 1) rfl) pa_nil))) pe_int (nomark _))
  (pss_one (ps_raise rfl tk (pmk_raise1 x_TooManyPlaces hr (by first | decide | omega) (pa_cons pe_int pa_nil) (mono := by intro σ H Q Q' h q; first | exact h _ _ q | exact (let ⟨v, e, q⟩ := q; ⟨v, e, h _ _ q⟩) | exact (let ⟨v, e, x, n, e2, h2, q⟩ := q; ⟨v, e, x, n, e2, h2, h _ _ q⟩) | exact (let ⟨v, e, a, b, c, d, e1, e2, h1, h2, q⟩ := q; ⟨v, e, a, b, c, d, e1, e2, h1, h2, h _ _ q⟩)))))
  pss_nil)
  (pss_cons (ps_setLc2 (i := 2) (own := [("one", 3), ("two", 4)]) (vs1 := [4]) rfl sc_Board_product.nd rfl rfl (sw_true rfl rfl rfl (by kernel_rfl)) (pi_listK K (pe_fld (pv 0) rfl)) (blkOk_by (by kernel_rfl)) (by decide) (fun _ _ _ _ _ => (pg_name (i := 3) sc_Board_product.nd rfl (Or.inl rfl) (.inr rfl))) (fun _ _ _ _ _ => pts_nil) (fun _ _ _ _ _ => (pi_listK K (pe_fldK K (pv 1) rfl))) (fun _ _ _ _ _ => (pg_name (i := 4) sc_Board_product.nd rfl (Or.inl rfl) (.inr rfl))) (fun _ _ _ _ _ => pts_nil) (fun _ _ _ _ _ => (pe_tup (pa_cons (pv 3) (pa_cons (pv 4) pa_nil)))))
  (pss_one (ps_ret (pe_mkxK K (E := E) M_Board tk (fun _ _ _ _ h => h) hr (by first | decide | omega) (pa_cons (pe_lc (own := [("one", 3), ("two", 4)]) rfl sc_Board_product.nd (pi_listK K (pv 2)) (blkOk_by (by kernel_rfl)) (fun _ _ _ _ _ => (pg_tupK K (n := 2) rfl (pgs_cons (pg_name (i := 3) sc_Board_product.nd rfl (Or.inl rfl) (.inr rfl)) (pgs_cons (pg_name (i := 4) sc_Board_product.nd rfl (Or.inr rfl) (.inl rfl)) pgs_nil)))) (fun _ _ _ _ _ => pts_nil) (fun _ _ _ _ _ => (pe_joinK K pe_str (pe_lc2 (own := [("x", 5), ("y", 6)]) (vs1 := [6]) rfl sc_Board_product.nd (pi_str (pv 3)) (blkOk_by (by kernel_rfl)) (by decide) (fun _ _ _ _ _ => (pg_name (i := 5) sc_Board_product.nd rfl (Or.inl rfl) (.inr rfl))) (fun _ _ _ _ _ => pts_nil) (fun _ _ _ _ _ => (pi_str (pv 4))) (fun _ _ _ _ _ => (pg_name (i := 6) sc_Board_product.nd rfl (Or.inl rfl) (.inr rfl))) (fun _ _ _ _ _ => pts_nil) (fun _ _ _ _ _ => (pe_ifExp (pt_chain op_eq op_eq (pv 5) (pv 6) pe_str) pe_str pe_str)))))) pa_nil)))))), ?_⟩
  refine ⟨_, rfl, b, _, dx, _, _, rfl, hb, T.k_Board, T.n_Board_lines, rfl, .ref li, rs.length, rfl, .inl ⟨_, SqL.of hli, (List.length_map _).symm⟩, _, rfl, c, _, dy, _, _, rfl, hc, T.k_Board, T.n_Board_lines, rfl, .ref lj, ts.length, rfl, .inl ⟨_, SqL.of hlj, (List.length_map _).symm⟩, _, _, rfl, rfl, mul_ok a60 b60, _, _, rfl, rfl, _, rfl, ?_⟩
  refine if_dec (fun h1 => ?_) (fun h1 => ?_)
  · exact ⟨_, rfl, fun dd H2 e2 hd => q2 (by rw [er] at h1; omega) dd H2 e2 hd⟩
  have h60 : rs.length * ts.length ≤ 60 := by rw [er] at h1; omega
  have q1 := q1 h60
  clear q2 h1
  have sr : ∀ {a : Nat} {r : Str}, rs[a]? = some r → r.cps.size = rs.length := fun h => L.sq.len _ (List.mem_of_getElem? h)
  have st : ∀ {a : Nat} {r : Str}, ts[a]? = some r → r.cps.size = ts.length := fun h => M.sq.len _ (List.mem_of_getElem? h)
  refine ⟨_, rfl, b, _, dx, _, _, rfl, hb, T.k_Board, T.n_Board_lines, rfl, li, rfl, ⟨_, SqL.of hli⟩, fun D hD => ?_⟩
  refine lc2_map (n := (rs.map V.str).length) (n1 := (ts.map V.str).length) (jo := 3) (ji := 4) (Po := fun i x => (rs.map V.str)[i]? = some x) (P1 := fun j y => (ts.map V.str)[j]? = some y)
    (fun m y H' => ∃ (t : Addr) (r1 r2 : Str), rs[m / ts.length]? = some r1 ∧ ts[m % ts.length]? = some r2 ∧ y = .ref t ∧ H' t = some (.tup [.str r1, .str r2])) (fun m y _ _ e ⟨t, r1, r2, h1, h2, h3, h4⟩ => ⟨t, r1, r2, h1, h2, h3, e _ _ h4⟩) (walkL_same (SqL.of hli)) hD
    (le_line (by rw [List.length_map, List.length_map]; omega)) (fun _ => rfl) (fun _ _ => rfl) ?_ ?_ ?_
  · intro i x H2 G hi hx e2 k
    exact ⟨_, rfl, c, _, dy, _, _, rfl, e2 _ _ hc, T.k_Board, T.n_Board_lines, rfl, lj, rfl, ⟨_, SqL.of (e2 _ _ hlj)⟩, k _ H2 (Same.refl _) (walkL_same (SqL.of hlj))⟩
  · intro i x j y H2 hi hx hj hy e2 Q' k
    obtain ⟨r1, hr1, rfl⟩ := map_get hx
    obtain ⟨r2, hr2, rfl⟩ := map_get hy
    rw [List.length_map] at hj k
    exact ⟨_, rfl, _, rfl, (by show 2 ≤ sizeLine; decide), fun t ht => k _ _ (same_new ht _) ⟨t, r1, r2, by rw [pair_div hj]; exact hr1, by rw [pair_mod hj]; exact hr2, rfl, upd_same⟩⟩
  intro H2 ps e2 hD2 hpl hps
  rw [List.length_map, List.length_map] at hpl
  refine ⟨_, rfl, D, rfl, ⟨_, SqL.of hD2⟩, fun D2 hD2n => ?_⟩
  let rowOf : Nat → Str := fun i => digRow (rs.length * ts.length) fun j => bit rs (i / ts.length) (j / ts.length) && bit ts (i % ts.length) (j % ts.length)
  have n1 := M.sq.pos
  refine lc_list (xs := ps) (fun i H' => Same H2 H' ∧ H' D2 = some (.lst ((List.range i).map fun i => V.str (rowOf i)))) ⟨same_new hD2n _, upd_same⟩ (fun i H' _ p => SqL.of (p.1 _ _ hD2)) ?_ ?_
  · rintro i x H3 hx ⟨e3, h3⟩
    obtain ⟨t, r1, r2, hr1, hr2, rfl, ht⟩ := hps i x hx
    have hi : i < rs.length * ts.length := by
      have := (List.getElem?_eq_some_iff.mp hx).1
      omega
    refine ⟨t, _, rfl, SqT.of (e3 _ _ ht), rfl, _, _, rfl, _, _, rfl, rfl, rfl, ?_⟩
    refine yes_intro ?_
    rw [if_pos rfl]
    refine ⟨⟨_, rfl⟩, _, rfl, r1, rfl, fun D3 hD3 => ?_⟩
    refine lc2_map (n := r1.cps.size) (n1 := r2.cps.size) (jo := 5) (ji := 6) (Po := fun i x => ∃ c, r1.cps[i]? = some c ∧ x = .str ⟨#[c]⟩) (P1 := fun j y => ∃ c, r2.cps[j]? = some c ∧ y = .str ⟨#[c]⟩)
      (fun m y _ => y = .str ⟨#[if (bit rs (i / ts.length) (m / ts.length) && bit ts (i % ts.length) (m % ts.length)) = true then 49 else 48]⟩) ?_ ?_ hD3 ?_ ?_ ?_ ?_ ?_ ?_
    · exact fun _ _ _ _ _ h => h
    · exact Walk.mono walk_str (fun _ _ => trivial) (fun _ _ _ _ _ _ y => y)
    · exact le_line (by rw [sr hr1, st hr2]; omega)
    · exact fun _ => rfl
    · exact fun _ _ => rfl
    · intro i x H4 G hi hx e4 k
      exact ⟨_, rfl, r2, rfl, k _ H4 (Same.refl _) (Walk.mono walk_str (fun _ _ => trivial) (fun _ _ _ _ _ _ y => y))⟩
    · rintro j x k y H4 hj ⟨c, hc1, rfl⟩ hk ⟨d, hd1, rfl⟩ e4 Q' kk
      rw [st hr2] at hk kk
      have b1 : bit rs (i / ts.length) j = (c == 49) := by
        rw [bit_at hr1]
        show (r1.cps.toList[j]? == some 49) = _
        rw [Array.getElem?_toList, hc1] <;> rfl
      have b2 : bit ts (i % ts.length) k = (d == 49) := by
        rw [bit_at hr2]
        show (r2.cps.toList[k]? == some 49) = _
        rw [Array.getElem?_toList, hd1] <;> rfl
      have hc2 : c = 48 ∨ c = 49 := L.sq.dig r1 (List.mem_of_getElem? hr1) c (by
        show c ∈ r1.cps.toList
        exact List.mem_of_getElem? (i := j) (by rw [Array.getElem?_toList]; exact hc1))
      have hd2 : d = 48 ∨ d = 49 := M.sq.dig r2 (List.mem_of_getElem? hr2) d (by
        show d ∈ r2.cps.toList
        exact List.mem_of_getElem? (i := k) (by rw [Array.getElem?_toList]; exact hd1))
      have key := one_is hc2 hd2
      have fin := fun y h => kk y H4 (Same.refl _) h
      rw [pair_div hk, pair_mod hk, b1, b2] at fin
      have e1 : ("1" : Str) = ⟨#[49]⟩ := by decide +kernel
      have e0 : ("0" : Str) = ⟨#[48]⟩ := by decide +kernel
      have no : ¬ (c = 49 ∧ d = 49) → Q' (.str ("0" : Str)) H4 := fun h => fin _ (by
        have : (c == 49 && d == 49) = false := by
          rw [Bool.eq_false_iff]
          intro z
          obtain ⟨z1, z2⟩ := Bool.and_eq_true_iff.mp z
          exact h ⟨beq_iff_eq.mp z1, beq_iff_eq.mp z2⟩
        rw [this, e0] <;> rfl)
      refine ⟨_, rfl, _, rfl, rfl, _, rfl, ?_⟩
      refine if_b (fun h1 => ⟨rfl, _, rfl, ?_⟩) (fun h1 => ⟨_, rfl, iteF (no fun z => absurd ((key.mpr z).1.symm.trans h1) (by decide))⟩)
      refine if_b (fun h2 => ?_) (fun h2 => no fun z => absurd ((key.mpr z).2.symm.trans h2) (by decide))
      obtain ⟨z1, z2⟩ := key.mp ⟨h1, h2⟩
      refine fin _ ?_
      rw [z1, z2, e1] <;> rfl
    · intro H4 ys e4 hD4 hyl hy
      rw [sr hr1, st hr2] at hyl
      have hys : ys = ((List.range (rs.length * ts.length)).map fun m => (⟨#[if (bit rs (i / ts.length) (m / ts.length) && bit ts (i % ts.length) (m % ts.length)) = true then 49 else 48]⟩ : Str)).map V.str := by
        refine eq_map_of (by rw [hyl, List.length_map, List.length_range]) fun m y h => ?_
        have hm := (List.getElem?_eq_some_iff.mp h).1
        exact ⟨_, by rw [List.getElem?_map, List.getElem?_range (by omega)] <;> rfl, hy m y h⟩
      subst hys
      refine ⟨_, D3, _, rfl, rfl, .inl (SqL.of hD4), ?_, ?_⟩
      · rw [sum_one, List.length_map, show ("" : Str).length = 0 from rfl, List.length_range]
        omega
      · rw [join_one]
        refine ⟨_, e4 _ _ h3, ?_, same_at hD2n (e3.trans e4), ?_⟩
        · rw [List.length_map, List.length_range]
          exact Nat.lt_of_lt_of_le (show i < 20000 by omega) (le_line (Nat.le_refl _))
        · rw [upd_same, List.range_succ, List.map_append] <;> rfl
  · rintro H3 ⟨e3, h3⟩
    have h3 : H3 D2 = some (.lst ((prodR rs ts).map V.str)) := by
      rw [h3, hpl]
      unfold prodR
      rw [List.map_map] <;> rfl
    exact accept (prod_board L M h60) (SqL.of h3) fun b3 dx3 li3 H4 _ _ e4 hB => q1 b3 dx3 li3 H4 (e2.trans (e3.trans e4)) hB
theorem ok_prod {fd : FuncData} (F : FunD K "product" "Board.product" (defArgs s_Board_product) (defBody s_Board_product) (defScope s_Board_product) [] [] (He.ma K (He.ga K "Board") "product") fd) (T : Top K mg)
    (M_Board : MakeX P w K mg base "Board" 4 ["self", "rows"] (spBoard K)) (x_TooManyPlaces : RaiseD1 P w K mg base "TooManyPlaces" "FaultError" 2 "TooManyPlaces" "limit") : MethX P w K mg base "Board" "product" 6 ["self", "other"] (spProd K) :=
  ⟨⟨fd, fn_prod F T M_Board x_TooManyPlaces, F.bindsN fun _ _ _ _ _ _ us hl => match us, hl with | [_, _], _ => rfl⟩, T.k_Board, T.m_Board_product⟩
end
end FF
/-! faults: the plain law -/
namespace FF
open PySem PySem.Spec PyProof.Rows L2
theorem sub_len : ∀ (ks l : List Int), ks.Nodup → (∀ k ∈ ks, k ∈ l) → ks.length ≤ l.length
  | [], _, _, _ => Nat.zero_le _
  | k :: ks, l, nd, h => by
    have nd' := List.nodup_cons.mp nd
    have hk := h k List.mem_cons_self
    have h1 := sub_len ks (l.erase k) nd'.2 fun j hj => (List.mem_erase_of_ne (fun z : j = k => nd'.1 (z ▸ hj))).mpr (h j (List.mem_cons_of_mem _ hj))
    rw [List.length_erase_of_mem hk] at h1
    have h2 := List.length_pos_of_mem hk
    rw [List.length_cons]
    omega
theorem sub_lt : ∀ (l ks : List Int), ks.Nodup → (∀ k ∈ ks, k ∈ l) → ¬ l.Nodup → ks.length < l.length
  | [], _, _, _, h => absurd List.nodup_nil h
  | x :: t, ks, nd, h, hn => by
    rw [List.length_cons]
    by_cases hx : x ∈ t
    · have := sub_len ks t nd fun k hk => (List.mem_cons.mp (h k hk)).elim (fun e => e ▸ hx) id
      omega
    · have ht : ¬ t.Nodup := fun z => hn (List.nodup_cons.mpr ⟨hx, z⟩)
      have h1 := sub_lt t (ks.erase x) (nd.erase x) (fun k hk => by
        have hk2 := (nd.mem_erase_iff).mp hk
        exact (List.mem_cons.mp (h k hk2.2)).elim (fun e => absurd e hk2.1) id) ht
      by_cases hk : x ∈ ks
      · rw [List.length_erase_of_mem hk] at h1
        omega
      · rw [List.erase_of_not_mem hk] at h1
        omega
/-- so many different numbers -/
def HasN (l : List Int) (n : Nat) : Prop := ∃ ks : List Int, ks.Nodup ∧ (∀ k, k ∈ ks ↔ k ∈ l) ∧ ks.length = n
theorem HasN.le {l : List Int} {n : Nat} (h : HasN l n) : n ≤ l.length := by
  obtain ⟨ks, nd, hm, rfl⟩ := h
  exact sub_len ks l nd fun k hk => (hm k).mp hk
theorem HasN.full {l : List Int} {n : Nat} (h : HasN l n) : n = l.length ↔ l.Nodup := by
  have hle := h.le
  obtain ⟨ks, nd, hm, rfl⟩ := h
  constructor
  · intro e
    by_cases hl : l.Nodup
    · exact hl
    · have := sub_lt l ks nd (fun k hk => (hm k).mp hk) hl
      omega
  · intro hl
    have := sub_len l ks hl fun k hk => (hm k).mpr hk
    omega
theorem HasN.nil : HasN [] 0 := ⟨[], List.nodup_nil, fun _ => Iff.rfl, rfl⟩
theorem HasN.snoc {l : List Int} {n : Nat} {x : Int} (h : HasN l n) : HasN (l ++ [x]) (if decide (x ∈ l) = true then n else n + 1) := by
  obtain ⟨ks, nd, hm, rfl⟩ := h
  by_cases hx : x ∈ l
  · rw [decide_eq_true hx, if_pos rfl]
    refine ⟨ks, nd, fun k => ?_, rfl⟩
    rw [hm k, List.mem_append, List.mem_singleton]
    exact ⟨.inl, fun z => z.elim id fun e => e ▸ hx⟩
  · rw [decide_eq_false hx, if_neg (by decide)]
    refine ⟨x :: ks, List.nodup_cons.mpr ⟨fun z => hx ((hm x).mp z), nd⟩, fun k => ?_, rfl⟩
    rw [List.mem_cons, hm k, List.mem_append, List.mem_singleton, Or.comm]
/-! ### five places -/
def intD : PyData → Int
  | .int i => i
  | _ => 0
def five (n : Nat) (ds : List PyData) : Bool := decide (ds.length = 5) && (ds.all (isPlaceD n) && decide (ds.map intD).Nodup)
theorem place_get {n : Nat} {d : PyData} (h : isPlaceD n d = true) : ∃ x : Nat, d = .int x ∧ x < n := by
  cases d with
  | int i =>
    have h : (decide (0 ≤ i) && decide (i < n)) = true := h
    obtain ⟨a, b⟩ := (Bool.and_eq_true _ _).mp h
    have a := of_decide_eq_true a
    have b := of_decide_eq_true b
    exact ⟨i.toNat, by rw [Int.toNat_of_nonneg a], by omega⟩
  | _ => cases h
theorem places_get {n : Nat} : ∀ {ds : List PyData}, ds.all (isPlaceD n) = true → ∃ xs : List Nat, ds = xs.map (fun x : Nat => PyData.int x) ∧ ∀ x ∈ xs, x < n
  | [], _ => ⟨[], rfl, fun x hx => by cases hx⟩
  | d :: ds, h => by
    rw [List.all_cons, Bool.and_eq_true] at h
    obtain ⟨x, rfl, hx⟩ := place_get h.1
    obtain ⟨xs, rfl, hxs⟩ := places_get h.2
    exact ⟨x :: xs, rfl, fun y hy => (List.mem_cons.mp hy).elim (fun e => e ▸ hx) (hxs y)⟩
theorem five_get {n : Nat} {ds : List PyData} (h : five n ds = true) : ∃ a x y z g : Nat, ds = [.int a, .int x, .int y, .int z, .int g] ∧ a < n ∧ x < n ∧ y < n ∧ z < n ∧ g < n := by
  unfold five at h
  rw [Bool.and_eq_true, Bool.and_eq_true] at h
  obtain ⟨h1, h2, _⟩ := h
  have h1 := of_decide_eq_true h1
  obtain ⟨xs, rfl, hxs⟩ := places_get h2
  rw [List.length_map] at h1
  match xs, h1, hxs with
  | [a, x, y, z, g], _, hxs => exact ⟨a, x, y, z, g, rfl, hxs a (by simp), hxs x (by simp), hxs y (by simp), hxs z (by simp), hxs g (by simp)⟩
/-! ### faults -/
def meets (rs : List Str) (a g x y : Nat) : Bool := decide (lowN rs x y = a) && decide (upN rs x y = g)
abbrev lad : Str := "ladder"
abbrev fanS : Str := "fan"
def okKind (k : Str) : Bool := inV (.str k) [.str lad, .str fanS]
def fiveOk (rs : List Str) (k : Str) (a x y z g : Nat) : Bool := (decide (k ≠ lad) || bit rs x y) && (meets rs a g x z && (meets rs a g y z && (decide (k ≠ fanS) || meets rs a g x y)))
def restD (rs : List Str) (k : Str) : List PyData → Bool
  | [.int a, .int x, .int y, .int z, .int g] => fiveOk rs k a.toNat x.toNat y.toNat z.toNat g.toNat
  | _ => false
def tupD (rs : List Str) (k : Str) : PyData → Bool
  | .tuple ds => five rs.length ds && restD rs k ds
  | _ => false
def headD (rs : List Str) (d : PyData) : PyData → Bool
  | .str k => okKind k && tupD rs k d
  | _ => false
def pairD (rs : List Str) : List PyData → Bool
  | [] => false
  | a :: r => match r with
    | [] => false
    | b :: r2 => match r2 with
      | [] => headD rs b a
      | _ :: _ => false
def faultD (rs : List Str) : PyData → Bool
  | .tuple ds => pairD rs ds
  | _ => false
theorem faultD_tup {rs : List Str} {k : Str} {ds : List PyData} : faultD rs (.tuple [.str k, .tuple ds]) = (okKind k && (five rs.length ds && restD rs k ds)) := rfl
theorem restD_five {rs : List Str} {k : Str} {a x y z g : Nat} : restD rs k [.int a, .int x, .int y, .int z, .int g] = fiveOk rs k a x y z g := rfl
theorem faultD_len {rs : List Str} {ds : List PyData} (h : ds.length ≠ 2) : faultD rs (.tuple ds) = false := by
  match ds, h with
  | [], _ => rfl
  | [_], _ => rfl
  | [_, _], h => exact absurd rfl h
  | _ :: _ :: _ :: _, _ => rfl
theorem eqV_str {a b : Str} : eqV (.str a) (.str b) = decide (a = b) := by
  by_cases h : a = b
  · rw [decide_eq_true h, h]
    exact beq_self_eq_true b
  · rw [decide_eq_false h]
    exact beq_eq_false_iff_ne.mpr h
theorem kind_or {k : Str} (h : okKind k = true) : k = lad ∨ k = fanS := by
  unfold okKind inV at h
  rw [List.any_cons, List.any_cons, List.any_nil, Bool.or_false, Bool.or_eq_true, eqV_str, eqV_str] at h
  exact h.imp (fun z => (of_decide_eq_true z).symm) fun z => (of_decide_eq_true z).symm
theorem lad_fan : lad ≠ fanS := by decide +kernel
/-! ### values of faults -/
def FaultV (K : PySem.W.Frag) (H : Hp) (v : V) (n : Nat) : Prop := ∃ (a f : Addr) (k : Str) (xs : List Nat), v = .ref a ∧ SqT K H a [.str k, .ref f] ∧ SqT K H f (xs.map nV) ∧ xs.length = 5 ∧ (∀ x ∈ xs, x < n) ∧ (k = lad ∨ k = fanS)
theorem FaultV.up {K : PySem.W.Frag} {H H' : Hp} {v : V} {n : Nat} (h : FaultV K H v n) (e : Same H H') : FaultV K H' v n := by
  obtain ⟨a, f, k, xs, e1, h1, h2, r⟩ := h
  exact ⟨a, f, k, xs, e1, up_t e h1, up_t e h2, r⟩
theorem dp_nats {K : PySem.W.Frag} {H : Hp} : ∀ (xs : List Nat), DpAll K H (xs.map nV) (xs.map fun x : Nat => PyData.int x)
  | [] => .nil
  | _ :: xs => .cons (.int _) (dp_nats xs)
theorem FaultV.dp {K : PySem.W.Frag} {H : Hp} {v : V} {n : Nat} (h : FaultV K H v n) : ∃ d, Dp K H v d ∧ Nice 4 d := by
  obtain ⟨a, f, k, xs, rfl, h1, h2, h3, _, h5⟩ := h
  refine ⟨.tuple [.str k, .tuple (xs.map fun x : Nat => PyData.int x)], .tup h1 (.cons (.str k) (.cons (.tup h2 (dp_nats xs)) .nil)), ?_⟩
  have hs : nice (.str k) = true := by rcases h5 with rfl | rfl <;> decide +kernel
  have ht : nice (.tuple (xs.map fun x : Nat => PyData.int x)) = true := by
    simp only [nice, Bool.and_eq_true, decide_eq_true_eq]
    refine ⟨by rw [List.length_map]; omega, niceAll_of fun d hd => ?_⟩
    obtain ⟨x, _, rfl⟩ := List.mem_map.mp hd
    rfl
  have d1 : (PyData.tuple (xs.map fun x : Nat => PyData.int x)).depth ≤ 2 := by
    rw [PyData.depth]
    have := depthAll_of (ds := xs.map fun x : Nat => PyData.int x) (n := 0) fun d hd => by
      obtain ⟨x, _, rfl⟩ := List.mem_map.mp hd
      rw [PyData.depth]
      exact Nat.le_refl _
    omega
  refine ⟨?_, ?_⟩
  · simp only [nice, Bool.and_eq_true, decide_eq_true_eq]
    refine ⟨by show 2 ≤ 20000; decide, niceAll_of fun d hd => ?_⟩
    simp only [List.mem_cons, List.not_mem_nil, or_false] at hd
    rcases hd with rfl | rfl
    · exact hs
    · exact ht
  · rw [PyData.depth]
    have := depthAll_of (ds := [.str k, .tuple (xs.map fun x : Nat => PyData.int x)]) (n := 2) fun d hd => by
      simp only [List.mem_cons, List.not_mem_nil, or_false] at hd
      rcases hd with rfl | rfl
      · rw [PyData.depth]
        exact Nat.zero_le _
      · exact d1
    omega
end FF
/-! are_places, is_fault -/
namespace FF
open PySem PySem.Spec PyProof.Rows L2
/-! ### comprehensions over pairs, sets of a tuple's numbers -/
def PairsV (K : PySem.W.Frag) (H : Hp) (us : List V) (ps : List (Nat × Nat)) : Prop := us.length = ps.length ∧ ∀ (i : Nat) (u : V), us[i]? = some u → ∃ (p : Nat × Nat) (a : Addr), ps[i]? = some p ∧ u = V.ref a ∧ SqT K H a [nV p.1, nV p.2]
theorem lc_pairs {K : PySem.W.Frag} {a : Addr} {us : List V} {ps : List (Nat × Nat)} {i j : Nat} {te : TE} {vs : List Nat} {σ : L2.St} {H1 : Hp} {Q : Addr → Hp → Prop} (f : Nat × Nat → Bool) (h : SqL K H1 a us) (pv : PairsV K H1 us ps) (hz : us.length ≤ 100)
    (hw : ∀ x y, wipe (((wipe σ vs).set i (some x)).set j (some y)) vs = wipe σ vs)
    (step : ∀ p H2, p ∈ ps → Same H1 H2 → ∀ Q' : VK, (∀ H3, Same H2 H3 → Q' (.bl (f p)) H3) → te (((wipe σ vs).set i (some (nV p.1))).set j (some (nV p.2))) H2 Q')
    (done : ∀ H2 D, Same H1 H2 → H2 D = some (.lst ((ps.map f).map V.bl)) → Q D H2) : ∀ D, H1 D = none → LcR (Itl K a) (gTup K 2 (gCons (gName i) (gCons (gName j) gNil))) tYes te vs σ H1 D (Q D) := by
  refine lc_mapG (fun i y _ => ∃ p, ps[i]? = some p ∧ y = .bl (f p)) (fun _ _ _ _ _ h => h) h (le_line (by omega)) ?_ g2_mono ?_
  · intro m x H2 hx e2 Q' k'
    obtain ⟨p, t, hp, rfl, ht⟩ := pv.2 m x hx
    refine ⟨t, [nV p.1, nV p.2], rfl, up_t e2 ht, rfl, nV p.1, _, rfl, nV p.2, _, rfl, rfl, hw _ _, ?_⟩
    exact step p H2 (List.mem_of_getElem? hp) e2 Q' fun H3 e3 => k' _ _ e3 ⟨p, hp, rfl⟩
  · intro H2 D ys e2 _ h3 h4 h5
    have : ys = (ps.map f).map V.bl := by
      rw [List.map_map]
      exact eq_map_of (h4.trans pv.1) fun i u hu => h5 i u hu
    subst this
    exact done H2 D e2 h3
theorem sc_ints {P : Program} {w : World} {K : PySem.W.Frag} {a : Addr} {is : List Int} {te : TE} {vs : List Nat} {j : Nat} {σ : L2.St} {H1 : Hp} {D : Addr} {Qd : Hp → Prop} (hD : H1 D = none) (hs : SqT K H1 a (is.map V.int)) (hz : is.length ≤ 900) (hw : ∀ x, wipe ((wipe σ vs).set j (some x)) vs = wipe σ vs)
    (elt : ∀ x H (Q' : VK), Q' x H → te ((wipe σ vs).set j (some x)) H Q') (done : ∀ H2 S n, Same H1 H2 → H2 D = some (SetO w D S n) → HasN is n → Qd H2) :
    ∃ W : Nat → Nat → Hp → Prop, (∃ m, W 0 m (upd H1 D ((intF P w).ob D (fun _ => false) 0))) ∧ ∀ i m H, W i m H →
      ((Itt K a).stop i H ∧ Qd H) ∨ ((Itt K a).go i H ∧ ∃ Nx : Hp → Prop, (∀ H', Nx H' → ∃ m', m' < m ∧ W (i + 1) m' H') ∧ ∀ x H', (Itt K a).yld i H x H' → gName j x (wipe σ vs) H' fun σ2 H2 => wipe σ2 vs = wipe σ vs ∧ tYes σ2 H2 fun b H3 =>
        if b = true then te σ2 H3 fun y H4 => ∃ (k : (intF P w).κ) (S : (intF P w).κ → Bool) (n : Nat), y = (intF P w).val k ∧ H4 D = some ((intF P w).ob D S n) ∧ n + 1 < scanBound ∧ Nx (upd H4 D ((intF P w).ob D ((intF P w).put S k) (if S k = true then n else n + 1))) else Nx H3) := by
  let Pi : Nat → Hp → Prop := fun i H => ∃ S n, H = upd H1 D (SetO w D S n) ∧ (∀ k, S k = decide (k ∈ is.take i)) ∧ HasN (is.take i) n
  refine ⟨fun i m H => m = is.length - i ∧ i ≤ is.length ∧ Pi i H, ⟨is.length, rfl, Nat.zero_le _, _, 0, rfl, fun k => by simp, HasN.nil⟩, ?_⟩
  rintro i m H ⟨rfl, hi, S, n, rfl, hS, hn⟩
  have ht := up_t (same_new hD (SetO w D S n)) hs
  by_cases hlt : i < is.length
  · have hlm : i < (is.map V.int).length := by rw [List.length_map]; exact hlt
    have get : (is.map V.int)[i]? = some (V.int is[i]) := by rw [List.getElem?_map, List.getElem?_eq_getElem hlt]; rfl
    refine .inr ⟨⟨_, _, ht, get⟩, Pi (i + 1), fun H' p' => ⟨_, by omega, rfl, hlt, p'⟩, fun x H' y => ?_⟩
    obtain ⟨e, y⟩ := y
    subst e
    have hx := (y _ ht).symm.trans get
    cases hx
    refine ⟨hw _, ?_⟩
    unfold tYes
    dsimp only
    rw [if_pos rfl]
    refine elt _ _ _ ⟨is[i], S, n, rfl, upd_same, ?_, ?_⟩
    · have := hn.le
      rw [List.length_take] at this
      unfold scanBound
      omega
    · have tk : is.take (i + 1) = is.take i ++ [is[i]] := by rw [List.take_add_one, List.getElem?_eq_getElem hlt]; rfl
      refine ⟨_, _, upd_upd, fun k => ?_, ?_⟩
      · show (S k || decide (k = is[i])) = _
        rw [hS k, tk, ← Bool.decide_or]
        exact decide_eq_decide.mpr (by rw [List.mem_append, List.mem_singleton])
      · rw [tk, hS]
        exact hn.snoc
  · have e : i = is.length := by omega
    subst e
    rw [List.take_length] at hn
    refine .inl ⟨⟨_, ht, by rw [List.length_map]; exact Nat.le_refl _⟩, done _ S n (same_new hD _) upd_same hn⟩
end FF
/-! are_places, is_fault -/
namespace FF
open PySem PySem.Spec PyProof.Rows L2
def areD (n : Nat) : PyData → Bool
  | .tuple ds => five n ds
  | _ => false
def spAre (K : PySem.W.Frag) : Sp := fun vs H Q _ => ∃ (b dx li : Addr) (rs : List Str) (v : V) (d : PyData), vs = [.ref b, v] ∧ LinesAt K H b dx li rs ∧ Dp K H v d ∧ nice d = true ∧ ∀ H', Same H H' → Q (.bl (areD rs.length d)) H'
def spIsF (K : PySem.W.Frag) : Sp := fun vs H Q _ => ∃ (b dx li : Addr) (rs : List Str) (v : V) (d : PyData), vs = [.ref b, v] ∧ BoardAt K H b dx li rs ∧ Dp K H v d ∧ nice d = true ∧ ∀ H', Same H H' → Q (.bl (faultD rs d)) H'
theorem dp_ints {K : PySem.W.Frag} {H : Hp} : ∀ {xs : List Nat} {us : List V}, DpAll K H us (xs.map fun x : Nat => PyData.int x) → us = (xs.map fun x : Nat => (x : Int)).map V.int
  | [], _, .nil => rfl
  | _ :: _, _, .cons (.int _) h => congrArg _ (dp_ints h)
theorem intD_nats (xs : List Nat) : (xs.map fun x : Nat => PyData.int x).map intD = xs.map fun x : Nat => (x : Int) := by
  rw [List.map_map]
  rfl
section
variable {P : Program} {w : World} {K : PySem.W.Frag} {mg : Str → Option Value} {base : Heap}
theorem ok_are {f : Addr} {fd : FuncData} (F : FunD K "are_places" "are_places" (defArgs s_are_places) (defBody s_are_places) (defScope s_are_places) [] [] f fd) (hm : mg "are_places" = some (.ref f)) (T : Top K mg)
    (D_Board_is_place : MethD P w K mg base "Board" "is_place" 1 ["self", "value"] (spIsPlace K)) : Def P w K mg base "are_places" 2 ["board", "places"] (spAre K) := by
  refine def_mk F hm (F.bindsN fun _ _ _ _ _ _ us hl => match us, hl with | [_, _], _ => rfl) sc_are_places (fun vs H Q E h => ?_) (fun cdv A outer s H vs Q E hr h => ?_)
  · obtain ⟨b, dx, li, rs, v, d, rfl, _⟩ := h
    rfl
  obtain ⟨b, dx, li, rs, v, d, rfl, hL, hv, hn, q⟩ := h
  obtain ⟨lo, up, l, g, hb, hli⟩ := id hL
  refine ⟨_, (pss_cons (ps_if (PW.pt (pw_or (pt_not (pt_val (pe_callB (call_isK K kb_tup) (by rfl) T.b_isinstance (by decide +kernel) (pa_cons (pv 1) (pa_cons (pe_bltn (v := .ty "tuple") (by rfl) T.b_tuple (by decide +kernel) rfl) pa_nil))))) (pw_or (pt_cmpR op_ne (pe_callB (call_lenK K) (by rfl) T.b_len (by decide +kernel) (pa_cons (pv 1) pa_nil)) pe_int (nomark _)) (pw_or1 (pt_not (pt_val (pe_callB (cr_allK K rfl) (by rfl) T.b_all (by decide +kernel) (pa_cons (pe_lc (own := [("place", 2)]) rfl sc_are_places.nd (pi_tupK K (pv 1)) (blkOk_by (by kernel_rfl)) (fun _ _ _ _ _ => (pg_name (i := 2) sc_are_places.nd rfl (Or.inl rfl) (.inr rfl))) (fun _ _ _ _ _ => pts_nil) (fun _ _ _ _ _ => (pe_methdK K D_Board_is_place hr (by first | decide | omega) (pv 0) (pa_cons (pv 2) pa_nil)))) pa_nil))))))))
  (pss_one (ps_ret pe_bl))
  pss_nil)
  (pss_one (ps_ret (pe_cmpR op_eq (pe_callB cr_lenSetO (by rfl) T.b_len (by decide +kernel) (pa_cons (pe_scF (intF P w) (own := [("place", 2)]) rfl sc_are_places.nd (pi_tupK K (pv 1)) (blkOk_by (by kernel_rfl)) (fun _ _ _ _ _ => (pg_name (i := 2) sc_are_places.nd rfl (Or.inl rfl) (.inr rfl))) (fun _ _ _ _ _ => pts_nil) (fun _ _ _ _ _ => (pv 2))) pa_nil)) pe_int (nomark _))))), ?_⟩
  have q0 := q H (Same.refl H)
  refine ⟨_, rfl, v, d, rfl, hv, _, rfl, ?_⟩
  cases hv with
  | non => exact iteT q0
  | bl x => exact iteT q0
  | int i => exact iteT q0
  | str z => exact iteT q0
  | lst _ _ => exact iteT q0
  | @tup ta vs ds hta hts =>
  refine iteF ?_
  change Q (.bl (five rs.length ds)) H at q0
  change ∀ H', Same H H' → Q (.bl (five rs.length ds)) H' at q
  have lv := da_len hts
  refine ⟨_, rfl, _, _, rfl, .inr ⟨_, hta, rfl⟩, rfl, _, rfl, ?_⟩
  refine if_nb (fun h5 => ?_) (fun h5 => ?_)
  · have : five rs.length ds = false := by
      unfold five
      rw [decide_eq_false (fun z => of_decide_eq_false h5 (by rw [lv, z] <;> rfl)), Bool.false_and]
    rw [this] at q0
    exact q0
  have h5 : vs.length = 5 := by
    have := V.int.inj (of_decide_eq_true h5)
    omega
  have l5 : ds.length = 5 := lv ▸ h5
  refine ⟨_, rfl, ta, rfl, ⟨_, hta⟩, fun D hD => ?_⟩
  refine lc_mapT (j := 2) (fun i u _ => ∃ d, ds[i]? = some d ∧ u = .bl (isPlaceD rs.length d)) (fun _ _ _ _ _ h => h) hD hta (le_line (by omega)) (fun _ => rfl) ?_ ?_
  · intro i u H2 hu e2 Q' k'
    obtain ⟨d, hd1, hd2⟩ := da_get hts hu
    exact ⟨_, rfl, b, dx, _, rfl, e2 _ _ hb, rfl, _, rfl, b, dx, li, rs, u, d, rfl, hL.up e2, up_d e2 hd2, k' _ _ (Same.refl _) ⟨d, hd1, rfl⟩⟩
  intro H2 ys e2 hD2 hyl hy
  have hys : ys = (ds.map (isPlaceD rs.length)).map V.bl := by
    rw [List.map_map]
    exact eq_map_of (hyl.trans lv) fun i u hu => hy i u hu
  subst hys
  refine ⟨D, _, rfl, SqL.of hD2, _, rfl, ?_⟩
  have q2 := q H2 e2
  refine if_nb (fun ha => ?_) (fun ha => ?_)
  · have : five rs.length ds = false := by
      have h' : ds.all (isPlaceD rs.length) = false := by
        rw [List.all_map] at ha
        exact ha
      unfold five
      rw [h', Bool.false_and, Bool.and_false]
    rw [this] at q2
    exact q2
  have ha : ds.all (isPlaceD rs.length) = true := by
    rw [List.all_map] at ha
    exact ha
  obtain ⟨xs, rfl, hxs⟩ := places_get ha
  have hvs := dp_ints hts
  subst hvs
  have hta2 := up_t e2 hta
  rw [List.length_map] at l5
  refine ⟨_, rfl, ta, rfl, ⟨_, hta2⟩, fun D2 hD2 => ?_⟩
  refine sc_ints (P := P) (w := w) (j := 2) hD2 hta2 (by rw [List.length_map]; omega) (fun _ => rfl) (fun x H Q' k => ⟨_, rfl, k⟩) fun H3 S n e3 hD3 hN => ?_
  have hle := hN.le
  rw [List.length_map] at hle
  refine ⟨D2, S, n, rfl, hD3, by omega, rfl, ?_⟩
  have q3 := q H3 (e2.trans e3)
  have : five rs.length (xs.map fun x : Nat => PyData.int x) = decide (V.int (n : Int) = V.int 5) := by
    unfold five
    rw [decide_eq_true (by rw [List.length_map]; exact l5), ha, intD_nats, Bool.true_and, Bool.true_and]
    refine decide_eq_decide.mpr ?_
    rw [← hN.full, List.length_map, l5]
    exact ⟨fun e => by rw [e] <;> rfl, fun e => by have := V.int.inj e; omega⟩
  rw [this] at q3
  exact q3
end
end FF
/-! is_fault -/
namespace FF
open PySem PySem.Spec PyProof.Rows L2
def pairsOf (k : Str) (x y z : Nat) : List (Nat × Nat) := [(x, z), (y, z)] ++ (if decide (V.str k = V.str fanS) = true then [(x, y)] else [])
theorem meets_all {rs : List Str} {k : Str} {a x y z g : Nat} : ((pairsOf k x y z).map fun p => meets rs a g p.1 p.2).all id = (meets rs a g x z && (meets rs a g y z && (decide (k ≠ fanS) || meets rs a g x y))) := by
  unfold pairsOf
  by_cases hk : k = fanS
  · rw [decide_eq_true (congrArg V.str hk), if_pos rfl, decide_eq_false (fun z => z hk)]
    simp [List.all_cons, Bool.and_true]
  · rw [decide_eq_false (fun z => hk (V.str.inj z)), if_neg (by decide), decide_eq_true hk]
    simp [List.all_cons, Bool.and_true]
theorem eqN {l a : Nat} : decide (nV l = nV a) = decide (l = a) := decide_eq_decide.mpr ⟨fun e => by have := V.int.inj e; omega, fun e => by rw [e]⟩
section
variable {P : Program} {w : World} {K : PySem.W.Frag} {mg : Str → Option Value} {base : Heap}
theorem fn_isF {f : Addr} {fd : FuncData} (F : FunD K "is_fault" "is_fault" (defArgs s_is_fault) (defBody s_is_fault) (defScope s_is_fault) [] [] f fd) (T : Top K mg)
    (D_are_places : Def P w K mg base "are_places" 2 ["board", "places"] (spAre K)) (D_Board_is_below : MethX P w K mg base "Board" "is_below" 5 ["self", "one", "other"] (spBelow K))
    (D_Board_low : MethS P w K mg base "Board" "low" 5 (spStar K lowsN)) (D_Board_up : MethS P w K mg base "Board" "up" 5 (spStar K upsN)) : FnOk P w K mg base CX0 6 f fd ["board", "fault"] (spIsF K) := by
  refine fn_mk F sc_is_fault (fun vs H Q E h => ?_) (fun cdv A outer s H vs Q E hr h => ?_)
  · obtain ⟨b, dx, li, rs, v, d, rfl, _⟩ := h
    rfl
  obtain ⟨b, dx, li, rs, v, d, rfl, hB, hv, hn, q⟩ := h
  have L := lat_of hB.1
  have sq := L.sq
  refine ⟨_, (pss_cons (ps_if (PW.pt (pw_or (pt_not (pt_val (pe_callB (call_isK K kb_tup) (by rfl) T.b_isinstance (by decide +kernel) (pa_cons (pv 1) (pa_cons (pe_bltn (v := .ty "tuple") (by rfl) T.b_tuple (by decide +kernel) rfl) pa_nil))))) (pw_or (pt_cmpR op_ne (pe_callB (call_lenK K) (by rfl) T.b_len (by decide +kernel) (pa_cons (pv 1) pa_nil)) pe_int (nomark _)) (pw_or (pt_not (pt_val (pe_callB (call_isK K kb_str) (by rfl) T.b_isinstance (by decide +kernel) (pa_cons (pe_ix (ix_tupK K) (pv 1) pe_int (fun _ _ => rfl)) (pa_cons (pe_bltn (v := .ty "str") (by rfl) T.b_str (by decide +kernel) rfl) pa_nil))))) (pw_or1 (pt_cmpR (op_notIn_seqK K) (pe_ix (ix_tupK K) (pv 1) pe_int (fun _ _ => rfl)) (pe_gT T.g_SHAPES) (by rfl)))))))
  (pss_one (ps_ret pe_bl))
  pss_nil)
  (pss_cons (ps_asg (pv 1) (pg_tupK K (n := 2) rfl (pgs_cons (pg_name (i := 2) sc_is_fault.nd rfl (Or.inl rfl) (.inl rfl)) (pgs_cons (pg_name (i := 3) sc_is_fault.nd rfl (Or.inl rfl) (.inl rfl)) pgs_nil))))
  (pss_cons (ps_if (pt_not (pt_val (pe_def D_are_places hr (by first | decide | omega) (pa_cons (pv 0) (pa_cons (pv 3) pa_nil)))))
  (pss_one (ps_ret pe_bl))
  pss_nil)
  (pss_cons (ps_asg (pv 3) (pg_tupK K (n := 5) rfl (pgs_cons (pg_name (i := 4) sc_is_fault.nd rfl (Or.inr rfl) (.inl rfl)) (pgs_cons (pg_name (i := 5) sc_is_fault.nd rfl (Or.inl rfl) (.inl rfl)) (pgs_cons (pg_name (i := 6) sc_is_fault.nd rfl (Or.inl rfl) (.inl rfl)) (pgs_cons (pg_name (i := 7) sc_is_fault.nd rfl (Or.inl rfl) (.inl rfl)) (pgs_cons (pg_name (i := 8) sc_is_fault.nd rfl (Or.inr rfl) (.inl rfl)) pgs_nil)))))))
  (pss_cons (ps_set (i := 9) sc_is_fault.nd rfl (Or.inl rfl) (pe_lst (pa_cons (pe_tup (pa_cons (pv 5) (pa_cons (pv 7) pa_nil))) (pa_cons (pe_tup (pa_cons (pv 6) (pa_cons (pv 7) pa_nil))) pa_nil))))
  (C8.pss_cut (ps_if (PW.pt (pw_and (pt_cmpR op_eq (pv 2) pe_str (nomark _)) (pw_and1 (pt_not (pt_val (pe_methxN D_Board_is_below hr (by first | decide | omega) (pv 0) (pa_cons (pv 5) (pa_cons (pv 6) pa_nil))))))))
  (pss_one (ps_ret pe_bl))
  pss_nil)
  (C8.pss_cut (ps_if (pt_cmpR op_eq (pv 2) pe_str (nomark _))
  (pss_one (ps_expr (pe_bmK K PySem.F.plainAttrs_list PySem.F.slot_list_append PySem.F.type_list_append mt_append (pv 9) (pa_cons (pe_tup (pa_cons (pv 5) (pa_cons (pv 6) pa_nil))) pa_nil))))
  pss_nil)
  (pss_one (ps_ret (pe_callB (cr_allK K rfl) (by rfl) T.b_all (by decide +kernel) (pa_cons (pe_lc (own := [("x", 10), ("y", 11)]) rfl sc_is_fault.nd (pi_listK K (pv 9)) (blkOk_by (by kernel_rfl)) (fun _ _ _ _ _ => (pg_tupK K (n := 2) rfl (pgs_cons (pg_name (i := 10) sc_is_fault.nd rfl (Or.inl rfl) (.inr rfl)) (pgs_cons (pg_name (i := 11) sc_is_fault.nd rfl (Or.inl rfl) (.inr rfl)) pgs_nil)))) (fun _ _ _ _ _ => pts_nil) (fun _ _ _ _ _ => (pe_and (pe_cmpR op_eq (pe_methsNK K D_Board_low hr (by first | decide | omega) (pv 0) (pa_cons (pv 10) (pa_cons (pv 11) pa_nil))) (pv 4) (nomark _)) (pe_one (pe_cmpR op_eq (pe_methsNK K D_Board_up hr (by first | decide | omega) (pv 0) (pa_cons (pv 10) (pa_cons (pv 11) pa_nil))) (pv 8) (nomark _)))))) pa_nil))))))))))), ?_⟩
  obtain ⟨bl, bu, hb, _⟩ := id hB.2
  have q0 := q H (Same.refl H)
  refine ⟨_, rfl, v, d, rfl, hv, _, rfl, ?_⟩
  cases hv with
  | non => exact iteT q0
  | bl x => exact iteT q0
  | int i => exact iteT q0
  | str z => exact iteT q0
  | lst _ _ => exact iteT q0
  | @tup ta vs ds hta hts =>
  refine iteF ?_
  have lv := da_len hts
  refine ⟨_, rfl, _, _, rfl, .inr ⟨_, hta, rfl⟩, rfl, _, rfl, ?_⟩
  refine if_nb (fun h2 => ?_) (fun h2 => ?_)
  · rw [faultD_len (fun z => of_decide_eq_false h2 (by rw [lv, z] <;> rfl))] at q0
    exact q0
  have h2 : vs.length = 2 := by
    have := V.int.inj (of_decide_eq_true h2)
    omega
  obtain ⟨v0, v1, rfl⟩ : ∃ v0 v1, vs = [v0, v1] := by
    match vs, h2 with
    | [v0, v1], _ => exact ⟨v0, v1, rfl⟩
  cases hts with
  | @cons _ _ d0 _ hv0 hvr =>
  cases hvr with
  | @cons _ _ d1 _ hv1 hnil =>
  cases hnil
  have hn1 : nice d1 = true := nice_ti hn (by simp)
  change Q (.bl (headD rs d1 d0)) H at q0
  change ∀ H', Same H H' → Q (.bl (headD rs d1 d0)) H' at q
  refine ⟨_, rfl, ta, _, _, v0, rfl, rfl, hta, at0, v0, d0, rfl, hv0, _, rfl, ?_⟩
  cases hv0 with
  | non => exact iteT q0
  | bl b => exact iteT q0
  | int i => exact iteT q0
  | lst _ _ => exact iteT q0
  | tup _ _ => exact iteT q0
  | str k =>
  refine iteF ?_
  change Q (.bl (okKind k && tupD rs k d1)) H at q0
  change ∀ H', Same H H' → Q (.bl (okKind k && tupD rs k d1)) H' at q
  refine ⟨_, rfl, ta, _, _, _, rfl, rfl, hta, at0, _, _, rfl, .inr (T.t_SHAPES H), rfl, rfl, _, rfl, ?_⟩
  refine if_nb (fun hk => ?_) (fun hk => ?_)
  · rw [show okKind k = false from hk, Bool.false_and] at q0
    exact q0
  rw [show okKind k = true from hk, Bool.true_and] at q0
  simp only [show okKind k = true from hk, Bool.true_and] at q
  refine ⟨_, rfl, ta, _, rfl, hta, rfl, _, _, rfl, _, _, rfl, rfl, ?_⟩
  refine ⟨_, rfl, _, rfl, b, dx, li, rs, v1, d1, rfl, hB.lines, hv1, hn1, fun H1 e1 => ?_⟩
  refine ⟨_, rfl, if_nb (fun hp => ?_) (fun hp => ?_)⟩
  · have := q H1 e1
    have z : tupD rs k d1 = false := by
      cases d1 with
      | tuple ds =>
        show (five rs.length ds && restD rs k ds) = false
        rw [show five rs.length ds = false from hp, Bool.false_and]
      | _ => rfl
    rw [z] at this
    exact this
  cases hv1 with
  | non => cases hp
  | bl b => cases hp
  | int i => cases hp
  | str z => cases hp
  | lst _ _ => cases hp
  | @tup tf vs ds htf hts =>
  have hp : five rs.length ds = true := hp
  obtain ⟨a, x, y, z, g, rfl, ha, hx, hy, hz, hg⟩ := five_get hp
  have ev := dp_ints (xs := [a, x, y, z, g]) hts
  subst ev
  have q1 : ∀ H', Same H1 H' → Q (.bl (fiveOk rs k a x y z g)) H' := fun H' e => by
    have := q H' (e1.trans e)
    rw [show tupD rs k (.tuple [.int a, .int x, .int y, .int z, .int g]) = (five rs.length [.int a, .int x, .int y, .int z, .int g] && fiveOk rs k a x y z g) from rfl, hp, Bool.true_and] at this
    exact this
  have hB1 := hB.up e1
  have hb1 := e1 _ _ hb
  have htf1 := up_t e1 htf
  have hkk := kind_or hk
  clear q q0 hB hb hta hts htf hn e1
  refine ⟨_, rfl, tf, _, rfl, htf1, rfl, _, _, rfl, _, _, rfl, _, _, rfl, _, _, rfl, _, _, rfl, rfl, ?_⟩
  refine ⟨_, rfl, _, rfl, (by show 2 ≤ sizeLine; decide), fun p1 hp1 => ⟨_, rfl, _, rfl, (by show 2 ≤ sizeLine; decide), fun p2 hp2 => ⟨(by show 2 ≤ sizeLine; decide), fun pl hpl => ?_⟩⟩⟩
  generalize hg1 : upd H1 p1 _ = H2 at hp2 hpl ⊢
  have e2 : Same H1 H2 := hg1 ▸ same_new hp1 _
  have a1 : H2 p1 = some (.tup [nV x, nV z]) := by rw [← hg1]; exact upd_same
  generalize hg2 : upd H2 p2 _ = H3 at hpl ⊢
  have e3 : Same H2 H3 := hg2 ▸ same_new hp2 _
  have a2 : H3 p2 = some (.tup [nV y, nV z]) := by rw [← hg2]; exact upd_same
  generalize hg3 : upd H3 pl _ = H4
  have e4 : Same H3 H4 := hg3 ▸ same_new hpl _
  have a3 : H4 pl = some (.lst [.ref p1, .ref p2]) := by rw [← hg3]; exact upd_same
  have eS := (e2.trans e3).trans e4
  have a1 := e4 _ _ (e3 _ _ a1)
  have a2 := e4 _ _ a2
  have hpl1 : H1 pl = none := by
    cases z : H1 pl with
    | none => rfl
    | some o => rw [e3 _ _ (e2 _ _ z)] at hpl; cases hpl
  clear hg1 hg2 hg3 hp1 hp2 hpl e2 e3 e4
  have hB4 := hB1.up eS
  have hb4 := eS _ _ hb1
  refine ⟨fun σ' H' => σ' = [some (.ref b), some (.ref ta), some (.str k), some (.ref tf), some (nV a), some (nV x), some (nV y), some (nV z), some (nV g), some (.ref pl), none, none] ∧ Same H4 H' ∧ (k = lad → bit rs x y = true), ?_, ?_⟩
  · refine ⟨_, rfl, rfl, _, rfl, ?_⟩
    refine if_dec (fun h => ?_) (fun h => ⟨rfl, Same.refl _, fun z => absurd (congrArg V.str z) h⟩)
    refine ⟨_, rfl, b, dx, _, rfl, hb4, rfl, _, rfl, _, rfl, ?_⟩
    dsimp only [tNil]
    refine below_ok hB4.lines sq hx hy fun H5 e5 => ⟨_, rfl, if_nb (fun hbit => ?_) (fun hbit => ⟨rfl, e5, fun _ => hbit⟩)⟩
    have := q1 _ (eS.trans e5)
    rw [show fiveOk rs k a x y z g = false by
      unfold fiveOk
      rw [decide_eq_false (fun z => z (V.str.inj h)), hbit, Bool.false_or, Bool.false_and]] at this
    exact this
  rintro σ' H5 ⟨rfl, e5, hlad⟩
  have q5 : ∀ H', Same H1 H' → Q (.bl (((pairsOf k x y z).map fun p => meets rs a g p.1 p.2).all id)) H' := fun H' e => by
    have := q1 H' e
    rw [show fiveOk rs k a x y z g = ((pairsOf k x y z).map fun p => meets rs a g p.1 p.2).all id by
      rw [meets_all]
      unfold fiveOk
      by_cases hk : k = lad
      · rw [hlad hk, Bool.or_true, Bool.true_and]
      · rw [decide_eq_true hk, Bool.true_or, Bool.true_and]] at this
    exact this
  have a1 := e5 _ _ a1
  have a2 := e5 _ _ a2
  have a3 := e5 _ _ a3
  have hB5 := hB4.up e5
  have eS5 := eS.trans e5
  refine ⟨fun σ' H' => σ' = [some (.ref b), some (.ref ta), some (.str k), some (.ref tf), some (nV a), some (nV x), some (nV y), some (nV z), some (nV g), some (.ref pl), none, none] ∧ (∀ H'', Same H' H'' → Q (.bl (((pairsOf k x y z).map fun p => meets rs a g p.1 p.2).all id)) H'') ∧ BoardAt K H' b dx li rs ∧ ∃ us, H' pl = some (.lst us) ∧ PairsV K H' us (pairsOf k x y z) ∧ us.length ≤ 3, ?_, ?_⟩
  · refine ⟨_, rfl, rfl, _, rfl, ?_⟩
    have n1 : p1 ≠ pl := fun z => by rw [z, a3] at a1; cases a1
    have n2 : p2 ≠ pl := fun z => by rw [z, a3] at a2; cases a2
    refine if_b (fun h => ?_) (fun h => ?_)
    · refine ⟨_, rfl, .inl ⟨rfl, _, SqL.of a3⟩, _, rfl, _, rfl, (by show 2 ≤ sizeLine; decide), fun p3 hp3 => ?_⟩
      generalize hg : upd H5 p3 _ = H6
      have e6 : Same H5 H6 := hg ▸ same_new hp3 _
      have a4 : H6 p3 = some (.tup [nV x, nV y]) := by rw [← hg]; exact upd_same
      have a3' := e6 _ _ a3
      have n3 : p3 ≠ pl := fun z => by rw [z, a3'] at a4; cases a4
      refine ⟨pl, _, _, rfl, rfl, a3', lt_line (by show 2 ≤ 20000; decide), ?_⟩
      have hs : Same H1 (upd H6 pl (.lst ([.ref p1, .ref p2] ++ [.ref p3]))) := same_at hpl1 (eS5.trans e6)
      refine ⟨rfl, fun H'' e => q5 H'' (hs.trans e), hB1.up hs, [.ref p1, .ref p2, .ref p3], upd_same, ?_, by show 3 ≤ 3; decide⟩
      have hp : pairsOf k x y z = [(x, z), (y, z), (x, y)] := by unfold pairsOf; rw [h, if_pos rfl]; rfl
      rw [hp]
      refine ⟨rfl, fun i u hu => ?_⟩
      match i, hu with
      | 0, hu => cases hu; exact ⟨_, p1, rfl, rfl, SqT.of (by rw [upd_ne n1]; exact e6 _ _ a1)⟩
      | 1, hu => cases hu; exact ⟨_, p2, rfl, rfl, SqT.of (by rw [upd_ne n2]; exact e6 _ _ a2)⟩
      | 2, hu => cases hu; exact ⟨_, p3, rfl, rfl, SqT.of (by rw [upd_ne n3]; exact a4)⟩
      | _ + 3, hu => simp at hu
    · refine ⟨rfl, fun H'' e => q5 H'' (eS5.trans e), hB5, [.ref p1, .ref p2], a3, ?_, by show 2 ≤ 3; decide⟩
      have hp : pairsOf k x y z = [(x, z), (y, z)] := by unfold pairsOf; rw [h, if_neg (by decide)]; rfl
      rw [hp]
      refine ⟨rfl, fun i u hu => ?_⟩
      match i, hu with
      | 0, hu => cases hu; exact ⟨_, p1, rfl, rfl, SqT.of a1⟩
      | 1, hu => cases hu; exact ⟨_, p2, rfl, rfl, SqT.of a2⟩
      | _ + 2, hu => simp at hu
  rintro σ' H6 ⟨rfl, q6, hB6, us, hus, hpv, hul⟩
  have mp : ∀ p ∈ pairsOf k x y z, p.1 < rs.length ∧ p.2 < rs.length := fun p hp => by
    unfold pairsOf at hp
    split at hp <;> simp at hp <;> rcases hp with rfl | rfl | rfl <;> simp_all
  obtain ⟨bl, bu, hb6, _⟩ := id hB6.2
  refine ⟨_, rfl, pl, rfl, ⟨_, SqL.of hus⟩, ?_⟩
  refine lc_pairs (fun p => meets rs a g p.1 p.2) (SqL.of hus) hpv (by omega) (fun _ _ => rfl) ?_ ?_
  · intro p H7 hp e7 Q' k'
    obtain ⟨h1, h2⟩ := mp p hp
    refine ⟨_, rfl, b, dx, _, rfl, e7 _ _ hb6, rfl, _, rfl, _, rfl, ?_⟩
    dsimp only [tNil]
    refine star_ok (xs := [p.1, p.2]) (hB6.up e7) (by show 2 ≤ 9000; decide) (by simp [h1, h2]) fun H8 e8 => ?_
    rw [L.lows2 h1 h2]
    refine ⟨_, rfl, rfl, _, rfl, ?_⟩
    have k8 := k' H8 e8
    rw [eqN]
    unfold meets at k' 
    refine if_dec (fun h => ?_) (fun h => ?_)
    · refine ⟨_, rfl, b, dx, _, rfl, e8 _ _ (e7 _ _ hb6), rfl, _, rfl, _, rfl, ?_⟩
      dsimp only [tNil]
      refine star_ok (xs := [p.1, p.2]) ((hB6.up e7).up e8) (by show 2 ≤ 9000; decide) (by simp [h1, h2]) fun H9 e9 => ?_
      rw [L.ups2 h1 h2]
      refine ⟨_, rfl, rfl, ?_⟩
      rw [eqN]
      have k9 := k' H9 (e8.trans e9)
      rw [decide_eq_true h, Bool.true_and] at k9
      exact k9
    · have k9 := k' H8 e8
      rw [decide_eq_false h, Bool.false_and] at k9
      exact k9
  · intro H7 D e7 hD7
    exact ⟨D, _, rfl, SqL.of hD7, q6 _ e7⟩
end
end FF
/-! lattices: ladders and fans -/
namespace FF
structure Ltc {α : Type} (le : α → α → Prop) (m j : α → α → α) : Prop where
  rf : ∀ a, le a a
  tr : ∀ {a b c}, le a b → le b c → le a c
  an : ∀ {a b}, le a b → le b a → a = b
  mi : ∀ {w a b}, le w (m a b) ↔ le w a ∧ le w b
  ji : ∀ {a b w}, le (j a b) w ↔ le a w ∧ le b w
section
variable {α : Type} {le : α → α → Prop} {m j : α → α → α} (L : Ltc le m j)
include L
theorem Ltc.flip : Ltc (fun a b => le b a) j m := ⟨L.rf, fun h1 h2 => L.tr h2 h1, fun h1 h2 => L.an h2 h1, L.ji, L.mi⟩
theorem Ltc.ml {a b : α} : le (m a b) a := (L.mi.mp (L.rf _)).1
theorem Ltc.mr {a b : α} : le (m a b) b := (L.mi.mp (L.rf _)).2
theorem Ltc.jl {a b : α} : le a (j a b) := (L.ji.mp (L.rf _)).1
theorem Ltc.jr {a b : α} : le b (j a b) := (L.ji.mp (L.rf _)).2
theorem Ltc.mc {a b : α} : m a b = m b a := L.an (L.mi.mpr ⟨L.mr, L.ml⟩) (L.mi.mpr ⟨L.mr, L.ml⟩)
theorem Ltc.jc {a b : α} : j a b = j b a := L.an (L.ji.mpr ⟨L.jr, L.jl⟩) (L.ji.mpr ⟨L.jr, L.jl⟩)
theorem Ltc.me {a b : α} (h : le a b) : m a b = a := L.an L.ml (L.mi.mpr ⟨L.rf _, h⟩)
theorem Ltc.je {a b : α} (h : le a b) : j a b = b := L.an (L.ji.mpr ⟨h, L.rf _⟩) L.jr
/-! ### ladders -/
theorem Ltc.lad_le {x y z : α} (h : le x z) : le (j x (m y z)) (m (j x y) z) := L.mi.mpr ⟨L.ji.mpr ⟨L.jl, L.tr L.ml L.jr⟩, L.ji.mpr ⟨h, L.mr⟩⟩
theorem Ltc.lad_low {x y z : α} (h : le x z) : m (j x (m y z)) y = m y z ∧ m (m (j x y) z) y = m y z := by
  have h1 : le (m y z) (m (j x (m y z)) y) := L.mi.mpr ⟨L.jr, L.ml⟩
  have h2 : le (m (j x (m y z)) y) (m (m (j x y) z) y) := L.mi.mpr ⟨L.tr L.ml (L.lad_le h), L.mr⟩
  have h3 : le (m (m (j x y) z) y) (m y z) := L.mi.mpr ⟨L.mr, L.tr L.ml L.mr⟩
  exact ⟨L.an (L.tr h2 h3) h1, L.an h3 (L.tr h1 h2)⟩
theorem Ltc.lad_up {x y z : α} (h : le x z) : j (j x (m y z)) y = j x y ∧ j (m (j x y) z) y = j x y := by
  have h1 : le (j x y) (j (j x (m y z)) y) := L.ji.mpr ⟨L.tr L.jl L.jl, L.jr⟩
  have h2 : le (j (j x (m y z)) y) (j (m (j x y) z) y) := L.ji.mpr ⟨L.tr (L.lad_le h) L.jl, L.jr⟩
  have h3 : le (j (m (j x y) z) y) (j x y) := L.ji.mpr ⟨L.ml, L.jr⟩
  exact ⟨L.an (L.tr h2 h3) h1, L.an h3 (L.tr h1 h2)⟩
theorem Ltc.lad_diff {a p q y g : α} (hn : p ≠ q) (hl : le p q) (m1 : m p y = a) (m2 : m q y = a) (j1 : j p y = g) (j2 : j q y = g) : [a, p, q, y, g].Nodup := by
  have ap : le a p := m1 ▸ L.ml
  have ay : le a y := m1 ▸ L.mr
  have pg : le p g := j1 ▸ L.jl
  have yg : le y g := j1 ▸ L.jr
  have qg : le q g := j2 ▸ L.jl
  have na : a ≠ p := fun e => by
    have h1 : le p y := e ▸ ay
    have h2 : g = y := j1.symm.trans (L.je h1)
    have h3 : le q y := h2 ▸ qg
    have h4 : q = a := (L.me h3).symm.trans m2
    exact hn (e.symm.trans h4.symm)
  have nq : a ≠ q := fun e => hn (L.an hl (e ▸ ap))
  have ny : a ≠ y := fun e => by
    have h1 : le y p := e ▸ ap
    have h2 : g = p := by rw [← j1, L.jc]; exact L.je h1
    exact hn (L.an hl (h2 ▸ qg))
  have ng : a ≠ g := fun e => hn (L.an hl (L.tr qg (e ▸ ap)))
  have py : p ≠ y := fun e => na (by rw [← m1, ← e]; exact L.me (L.rf _))
  have pg' : p ≠ g := fun e => hn (L.an hl (e ▸ qg))
  have qy : q ≠ y := fun e => nq (by rw [← m2, ← e]; exact L.me (L.rf _))
  have qg' : q ≠ g := fun e => ny (by
    have h1 : le y q := e ▸ yg
    rw [← m2, L.mc]
    exact L.me h1)
  have yg' : y ≠ g := fun e => na (by
    have h1 : le p y := e ▸ pg
    rw [← m1]
    exact L.me h1)
  simp [na, nq, ny, ng, hn, py, pg', qy, qg', yg']
/-! ### the modular law -/
def MdL (le : α → α → Prop) (m j : α → α → α) : Prop := ∀ x y z, le x z → j x (m y z) = m (j x y) z
theorem Ltc.md_flip (h : MdL le m j) : MdL (fun a b => le b a) j m := fun x y z hz => by
  have := h z y x hz
  show m x (j y z) = j (m x y) z
  rw [L.mc (a := x) (b := j y z), L.jc (a := y) (b := z), ← this, L.jc (a := z), L.mc (a := y)]
/-! ### fans: d and e told by what is above and below -/
def isD (le : α → α → Prop) (m : α → α → α) (x y z d : α) : Prop := ∀ w, le d w ↔ le (m x y) w ∧ le (m y z) w ∧ le (m z x) w
def isE (le : α → α → Prop) (j : α → α → α) (x y z e : α) : Prop := ∀ w, le w e ↔ le w (j x y) ∧ le w (j y z) ∧ le w (j z x)
theorem isD.rot {x y z d : α} (h : isD le m x y z d) : isD le m y z x d := fun w => (h w).trans ⟨fun ⟨a, b, c⟩ => ⟨b, c, a⟩, fun ⟨a, b, c⟩ => ⟨c, a, b⟩⟩
theorem isE.rot {x y z d : α} (h : isE le j x y z d) : isE le j y z x d := fun w => (h w).trans ⟨fun ⟨a, b, c⟩ => ⟨b, c, a⟩, fun ⟨a, b, c⟩ => ⟨c, a, b⟩⟩
theorem Ltc.d_swap {x y z d : α} (h : isD le m x y z d) : isD le m y x z d := fun w => by
  rw [h w, L.mc (a := y) (b := x), L.mc (a := x) (b := z), L.mc (a := z) (b := y)]
  exact ⟨fun ⟨a, b, c⟩ => ⟨a, c, b⟩, fun ⟨a, b, c⟩ => ⟨a, c, b⟩⟩
theorem Ltc.e_swap {x y z e : α} (h : isE le j x y z e) : isE le j y x z e := L.flip.d_swap (m := j) h
theorem Ltc.de {x y z d e : α} (hd : isD le m x y z d) (he : isE le j x y z e) : le d e := (hd e).mpr ⟨(he _).mpr ⟨L.tr L.ml L.jl, L.tr L.mr L.jl, L.tr L.ml L.jr⟩, (he _).mpr ⟨L.tr L.ml L.jr, L.tr L.ml L.jl, L.tr L.mr L.jl⟩, (he _).mpr ⟨L.tr L.mr L.jl, L.tr L.ml L.jr, L.tr L.ml L.jl⟩⟩
theorem Ltc.fan_meet (M : MdL le m j) {x y z d e : α} (hd : isD le m x y z d) : m (j (m x e) d) (j (m y e) d) = d := by
  refine L.an ?_ (L.mi.mpr ⟨L.jr, L.jr⟩)
  obtain ⟨d1, d2, d3⟩ := (hd d).mp (L.rf _)
  have h1 : m (j (m x e) d) (j (m y e) d) = j d (m (m x e) (j (m y e) d)) := by rw [L.jc (a := m x e)]; exact (M d (m x e) _ L.jr).symm
  rw [h1]
  refine L.ji.mpr ⟨L.rf _, ?_⟩
  generalize hw : m (m x e) (j (m y e) d) = w
  have wx : le w x := hw ▸ L.tr L.ml L.ml
  have wy : le w (j (m z x) y) := by
    have h2 : le w (j (m y e) d) := hw ▸ L.mr
    refine L.tr h2 (L.ji.mpr ⟨L.tr L.ml L.jr, (hd _).mpr ⟨L.tr L.mr L.jr, L.tr L.ml L.jr, L.jl⟩⟩)
  have h3 : le w (m (j (m z x) y) x) := L.mi.mpr ⟨wy, wx⟩
  rw [← M (m z x) y x L.mr] at h3
  refine L.tr h3 (L.ji.mpr ⟨d3, ?_⟩)
  rw [L.mc]
  exact d1
theorem Ltc.fan_side (M : MdL le m j) {d e x : α} (h : le d e) : j (m x e) d = m (j x d) e := by
  rw [L.jc, M d x e h, L.jc]
theorem Ltc.fan_join (M : MdL le m j) {x y z d e : α} (hd : isD le m x y z d) (he : isE le j x y z e) : j (j (m x e) d) (j (m y e) d) = e := by
  have h := L.de hd he
  rw [L.fan_side M h, L.fan_side M h]
  exact L.flip.fan_meet (L.md_flip M) (m := j) (j := m) (e := d) he
theorem Ltc.fan_diff {d e p q r : α} (hn : d ≠ e) (m1 : m p q = d) (m2 : m q r = d) (m3 : m p r = d) (j1 : j p q = e) (j2 : j q r = e) (j3 : j p r = e) : [d, p, q, r, e].Nodup := by
  have dp : le d p := m1 ▸ L.ml
  have dq : le d q := m1 ▸ L.mr
  have dr : le d r := m2 ▸ L.mr
  have pe : le p e := j1 ▸ L.jl
  have qe : le q e := j1 ▸ L.jr
  have re : le r e := j2 ▸ L.jr
  -- no side is least or greatest
  have no : ∀ {p q r : α}, m q r = d → j p q = e → j p r = e → le d q → le d r → d ≠ p := fun {p q r} m2 j1 j3 hq hr z => by
    subst z
    have h1 : q = e := (L.je hq).symm.trans j1
    have h2 : r = e := (L.je hr).symm.trans j3
    rw [h1, h2, L.me (L.rf _)] at m2
    exact hn m2.symm
  have no2 : ∀ {p q r : α}, j q r = e → m p q = d → m p r = d → le q e → le r e → p ≠ e := fun {p q r} j2 m1 m3 hq hr z => by
    subst z
    have h1 : q = d := by rw [← m1, L.mc]; exact (L.me hq).symm
    have h2 : r = d := by rw [← m3, L.mc]; exact (L.me hr).symm
    rw [h1, h2, L.je (L.rf _)] at j2
    exact hn j2
  have ne : ∀ {p q : α}, m p q = d → j p q = e → p ≠ q := fun {p q} h1 h2 z => by
    subst z
    rw [L.me (L.rf _)] at h1
    rw [L.je (L.rf _)] at h2
    exact hn (h1.symm.trans h2)
  have a1 := no m2 j1 j3 dq dr
  have a2 := no (p := q) (q := p) (r := r) m3 (by rw [L.jc]; exact j1) j2 dp dr
  have a3 := no (p := r) (q := p) (r := q) m1 (by rw [L.jc]; exact j3) (by rw [L.jc]; exact j2) dp dq
  have b1 := no2 j2 m1 m3 qe re
  have b2 := no2 (p := q) (q := p) (r := r) j3 (by rw [L.mc]; exact m1) m2 pe re
  have b3 := no2 (p := r) (q := p) (r := q) j1 (by rw [L.mc]; exact m3) (by rw [L.mc]; exact m2) pe qe
  have c1 := ne m1 j1
  have c2 := ne m2 j2
  have c3 := ne m3 j3
  simp [a1, a2, a3, b1, b2, b3, c1, c2, c3, hn]
/-- the distributive law at three places -/
theorem Ltc.dis (M : MdL le m j) {x y z d : α} (hd : isD le m x y z d) (he : isE le j x y z d) : m x (j y z) = j (m x y) (m x z) := by
  refine L.an ?_ (L.ji.mpr ⟨L.mi.mpr ⟨L.ml, L.tr L.mr L.jl⟩, L.mi.mpr ⟨L.ml, L.tr L.mr L.jr⟩⟩)
  generalize hw : m x (j y z) = w
  generalize hu : j (m x y) (m x z) = u
  have wx : le w x := hw ▸ L.ml
  have wd : le w d := (he w).mpr ⟨L.tr wx L.jl, hw ▸ L.mr, L.tr wx L.jr⟩
  have ux : le u x := hu ▸ L.ji.mpr ⟨L.ml, L.ml⟩
  have u1 : le (m x y) u := hu ▸ L.jl
  have u2 : le (m x z) u := hu ▸ L.jr
  have du : le d (j u (m y z)) := (hd _).mpr ⟨L.tr u1 L.jl, L.jr, L.tr (L.mc ▸ u2) L.jl⟩
  have h1 : le w (m (j u (m y z)) x) := L.mi.mpr ⟨L.tr wd du, wx⟩
  rw [← M u (m y z) x ux] at h1
  exact L.tr h1 (L.ji.mpr ⟨L.rf _, L.tr (L.mi.mpr ⟨L.mr, L.tr L.ml L.ml⟩) u1⟩)
/-- no ladder and no fan in what is distributive -/
theorem Ltc.no_lad (D : ∀ x y z, m x (j y z) = j (m x y) (m x z)) {a p q y g : α} (hl : le p q) (m1 : m p y = a) (m2 : m q y = a) (j1 : j p y = g) (j2 : j q y = g) : p = q := by
  have h := D q p y
  rw [j1, m2, L.me (j2 ▸ L.jl : le q g), L.mc, L.me hl, ← m1, L.jc, L.je L.ml] at h
  exact h.symm
theorem Ltc.no_fan (D : ∀ x y z, m x (j y z) = j (m x y) (m x z)) {d e p q r : α} (m1 : m p q = d) (m3 : m p r = d) (j1 : j p q = e) (j2 : j q r = e) : d = p := by
  have h := D p q r
  rw [j2, m1, m3, L.je (L.rf _), L.me (j1 ▸ L.jl : le p e)] at h
  exact h.symm
theorem Ltc.no_lad2 (M : MdL le m j) {p q y : α} (hl : le p q) (h1 : m p y = m q y) (h2 : j p y = j q y) : p = q := by
  have h := M p y q hl
  rw [L.mc (a := y), ← h1, L.jc, L.je L.ml, h2, L.mc, L.me L.jl] at h
  exact h
/-- x, y, z not all different: d and e are alike -/
theorem Ltc.de_two {x z d e : α} (hd : isD le m x x z d) (he : isE le j x x z e) : d = e := by
  refine L.an (L.de hd he) ?_
  have h1 : le e x := by
    have := ((he e).mp (L.rf _)).1
    rw [L.je (L.rf _)] at this
    exact this
  have h2 : le x d := by
    have := ((hd d).mp (L.rf _)).1
    rw [L.me (L.rf _)] at this
    exact this
  exact L.tr h1 h2
end
end FF
/-! find_fault: what it finds (plain) -/
namespace FF
open PySem PySem.Spec PyProof.Rows L2
def mkF (k : Str) (a x y z g : Nat) : PyData := .tuple [.str k, .tuple [.int (a : Int), .int (x : Int), .int (y : Int), .int (z : Int), .int (g : Int)]]
def ladD (rs : List Str) (x y z : Nat) : Option PyData :=
  if upN rs x (lowN rs y z) = lowN rs (upN rs x y) z then none else some (mkF lad (lowN rs y z) (upN rs x (lowN rs y z)) (lowN rs (upN rs x y) z) y (upN rs x y))
def leastN (rs : List Str) (x y z : Nat) : Nat := upN rs (upN rs (lowN rs x y) (lowN rs y z)) (lowN rs z x)
def greatN (rs : List Str) (x y z : Nat) : Nat := lowN rs (lowN rs (upN rs x y) (upN rs y z)) (upN rs z x)
def sideN (rs : List Str) (d e p : Nat) : Nat := upN rs (lowN rs p e) d
def fanD (rs : List Str) (x y z : Nat) : Option PyData :=
  if leastN rs x y z = greatN rs x y z then none else some (mkF fanS (leastN rs x y z) (sideN rs (leastN rs x y z) (greatN rs x y z) x) (sideN rs (leastN rs x y z) (greatN rs x y z) y) (sideN rs (leastN rs x y z) (greatN rs x y z) z) (greatN rs x y z))
def ladsD (rs : List Str) : Option PyData := (List.range rs.length).findSome? fun x => ((List.range rs.length).filter fun z => bit rs x z).findSome? fun z => (List.range rs.length).findSome? fun y => ladD rs x y z
def fansD (rs : List Str) : Option PyData := (List.range rs.length).findSome? fun x => (List.range x).findSome? fun y => (List.range y).findSome? fun z => fanD rs x y z
def findD (rs : List Str) : Option PyData := match ladsD rs with
  | some d => some d
  | none => fansD rs
theorem first_at {α β : Type} {l : List α} {f : α → Option β} {i : Nat} {a : α} {b : β} (ha : l[i]? = some a) (h : ∀ x ∈ l.take i, f x = none) (hb : f a = some b) : l.findSome? f = some b := by
  refine List.findSome?_eq_some_iff.mpr ⟨l.take i, a, l.drop (i + 1), ?_, hb, h⟩
  obtain ⟨hi, rfl⟩ := List.getElem?_eq_some_iff.mp ha
  rw [← List.drop_eq_getElem_cons hi, List.take_append_drop]
theorem first_no {α β : Type} {l : List α} {f : α → Option β} (h : ∀ x ∈ l, f x = none) : l.findSome? f = none := List.findSome?_eq_none_iff.mpr h
theorem first_get {α β : Type} {l : List α} {f : α → Option β} {b : β} (h : l.findSome? f = some b) : ∃ a ∈ l, f a = some b := by
  obtain ⟨l1, a, l2, rfl, h1, _⟩ := List.findSome?_eq_some_iff.mp h
  exact ⟨a, List.mem_append_right _ List.mem_cons_self, h1⟩
/-! ### the lattice of the places -/
abbrev Pl (rs : List Str) : Type := { i : Nat // i < rs.length }
section
variable {rs : List Str} (L : Lat rs)
def leP (rs : List Str) : Pl rs → Pl rs → Prop := fun a b => bit rs a.1 b.1 = true
def loP (a b : Pl rs) : Pl rs := ⟨lowN rs a.1 b.1, L.low_lt a.2 b.2⟩
def upP (a b : Pl rs) : Pl rs := ⟨upN rs a.1 b.1, L.up_lt a.2 b.2⟩
theorem Lat.ltc : Ltc (leP rs) (loP L) (upP L) := ⟨fun a => L.ord.refl _ a.2, fun {a b c} h1 h2 => L.ord.trans _ _ _ a.2 b.2 c.2 h1 h2, fun {a b} h1 h2 => Subtype.ext (L.ord.anti _ _ a.2 b.2 h1 h2), fun {w a b} => L.low_iff a.2 b.2 w.2, fun {a b w} => L.up_iff a.2 b.2 w.2⟩
theorem spr_dis : spreadsB rs = true ↔ ∀ x y z : Pl rs, loP L x (upP L y z) = upP L (loP L x y) (loP L x z) := by
  rw [spr_iff]
  exact ⟨fun h x y z => Subtype.ext (h x.1 y.1 z.1 x.2 y.2 z.2), fun h x y z hx hy hz => congrArg Subtype.val (h ⟨x, hx⟩ ⟨y, hy⟩ ⟨z, hz⟩)⟩
/-- two places under one another that no third place tells apart -/
def HasLad (rs : List Str) : Prop := ∃ x y z, x < rs.length ∧ y < rs.length ∧ z < rs.length ∧ bit rs x y = true ∧ x ≠ y ∧ lowN rs x z = lowN rs y z ∧ upN rs x z = upN rs y z
theorem five_nd {n : Nat} {l : List (Pl rs)} (hn : n = rs.length) (nd : l.Nodup) (h5 : l.length = 5) : five n (l.map fun s => PyData.int (s.1 : Int)) = true := by
  unfold five
  rw [decide_eq_true (by rw [List.length_map]; exact h5), Bool.true_and, Bool.and_eq_true]
  constructor
  · rw [List.all_eq_true]
    intro d hd
    obtain ⟨s, _, rfl⟩ := List.mem_map.mp hd
    show (decide ((0 : Int) ≤ (s.1 : Int)) && decide ((s.1 : Int) < (n : Int))) = true
    rw [decide_eq_true (Int.natCast_nonneg _), decide_eq_true (by have := s.2; omega)] <;> rfl
  · rw [decide_eq_true_eq, List.map_map]
    exact List.pairwise_map.mpr (nd.imp fun hne e => hne (Subtype.ext (Int.ofNat.inj e)))
theorem okLad : okKind lad = true := by decide +kernel
theorem okFan : okKind fanS = true := by decide +kernel
theorem meets_ok {a g x y : Nat} (h1 : lowN rs x y = a) (h2 : upN rs x y = g) : meets rs a g x y = true := by
  unfold meets
  rw [decide_eq_true h1, decide_eq_true h2] <;> rfl
include L
theorem lad_some {x y z : Nat} {d : PyData} (hx : x < rs.length) (hy : y < rs.length) (hz : z < rs.length) (hb : bit rs x z = true) (h : ladD rs x y z = some d) : (∃ a p q g, d = mkF lad a p q y g ∧ a < rs.length ∧ p < rs.length ∧ q < rs.length ∧ g < rs.length) ∧ faultD rs d = true ∧ HasLad rs ∧ spreadsB rs = false := by
  unfold ladD at h
  split at h
  · cases h
  rename_i hn
  cases h
  have T := L.ltc
  let X : Pl rs := ⟨x, hx⟩
  let Y : Pl rs := ⟨y, hy⟩
  let Z : Pl rs := ⟨z, hz⟩
  have hle : leP rs X Z := hb
  obtain ⟨m1, m2⟩ := T.lad_low (x := X) (y := Y) (z := Z) hle
  obtain ⟨j1, j2⟩ := T.lad_up (x := X) (y := Y) (z := Z) hle
  have l1 := T.lad_le (x := X) (y := Y) (z := Z) hle
  have nd := T.lad_diff (fun e => hn (congrArg Subtype.val e)) l1 m1 m2 j1 j2
  have f5 := five_nd rfl nd rfl
  refine ⟨⟨_, _, _, _, rfl, (loP L Y Z).2, (upP L X (loP L Y Z)).2, (loP L (upP L X Y) Z).2, (upP L X Y).2⟩, ?_, ⟨_, _, y, (upP L X (loP L Y Z)).2, (loP L (upP L X Y) Z).2, hy, l1, hn, congrArg Subtype.val (m1.trans m2.symm), congrArg Subtype.val (j1.trans j2.symm)⟩, ?_⟩
  · unfold mkF
    rw [faultD_tup, okLad, restD_five]
    have f5' : five rs.length [.int (lowN rs y z : Nat), .int (upN rs x (lowN rs y z) : Nat), .int (lowN rs (upN rs x y) z : Nat), .int (y : Nat), .int (upN rs x y : Nat)] = true := f5
    rw [f5', Bool.true_and, Bool.true_and]
    unfold fiveOk
    have q1 : meets rs (lowN rs y z) (upN rs x y) (upN rs x (lowN rs y z)) y = true := meets_ok (congrArg Subtype.val m1) (congrArg Subtype.val j1)
    have q2 : meets rs (lowN rs y z) (upN rs x y) (lowN rs (upN rs x y) z) y = true := meets_ok (congrArg Subtype.val m2) (congrArg Subtype.val j2)
    rw [show bit rs (upN rs x (lowN rs y z)) (lowN rs (upN rs x y) z) = true from l1, q1, q2, decide_eq_true lad_fan, Bool.or_true] <;> rfl
  · cases e : spreadsB rs with
    | false => rfl
    | true => exact absurd (congrArg Subtype.val (T.no_lad ((spr_dis L).mp e) l1 m1 m2 j1 j2)) hn
theorem fan_isD {x y z : Nat} (hx : x < rs.length) (hy : y < rs.length) (hz : z < rs.length) : isD (leP rs) (loP L) ⟨x, hx⟩ ⟨y, hy⟩ ⟨z, hz⟩ (upP L (upP L (loP L ⟨x, hx⟩ ⟨y, hy⟩) (loP L ⟨y, hy⟩ ⟨z, hz⟩)) (loP L ⟨z, hz⟩ ⟨x, hx⟩)) := fun w => by
  rw [L.ltc.ji, L.ltc.ji, and_assoc]
theorem fan_isE {x y z : Nat} (hx : x < rs.length) (hy : y < rs.length) (hz : z < rs.length) : isE (leP rs) (upP L) ⟨x, hx⟩ ⟨y, hy⟩ ⟨z, hz⟩ (loP L (loP L (upP L ⟨x, hx⟩ ⟨y, hy⟩) (upP L ⟨y, hy⟩ ⟨z, hz⟩)) (upP L ⟨z, hz⟩ ⟨x, hx⟩)) := fun w => by
  rw [L.ltc.mi, L.ltc.mi, and_assoc]
theorem fan_some (M : MdL (leP rs) (loP L) (upP L)) {x y z : Nat} {d : PyData} (hx : x < rs.length) (hy : y < rs.length) (hz : z < rs.length) (h : fanD rs x y z = some d) : (∃ a p q r g, d = mkF fanS a p q r g ∧ a < rs.length ∧ p < rs.length ∧ q < rs.length ∧ r < rs.length ∧ g < rs.length) ∧ faultD rs d = true ∧ spreadsB rs = false := by
  unfold fanD at h
  split at h
  · cases h
  rename_i hn
  cases h
  have T := L.ltc
  let X : Pl rs := ⟨x, hx⟩
  let Y : Pl rs := ⟨y, hy⟩
  let Z : Pl rs := ⟨z, hz⟩
  let D : Pl rs := upP L (upP L (loP L X Y) (loP L Y Z)) (loP L Z X)
  let E : Pl rs := loP L (loP L (upP L X Y) (upP L Y Z)) (upP L Z X)
  have hd : isD (leP rs) (loP L) X Y Z D := fan_isD L hx hy hz
  have he : isE (leP rs) (upP L) X Y Z E := fan_isE L hx hy hz
  have hd2 : isD (leP rs) (loP L) Y Z X D := isD.rot T hd
  have he2 : isE (leP rs) (upP L) Y Z X E := isE.rot T he
  have hd3 : isD (leP rs) (loP L) X Z Y D := T.d_swap (isD.rot T hd2)
  have he3 : isE (leP rs) (upP L) X Z Y E := T.e_swap (isE.rot T he2)
  have m1 := T.fan_meet M (e := E) hd
  have m2 := T.fan_meet M (e := E) hd2
  have m3 := T.fan_meet M (e := E) hd3
  have j1 := T.fan_join M hd he
  have j2 := T.fan_join M hd2 he2
  have j3 := T.fan_join M hd3 he3
  have nd := T.fan_diff (fun e => hn (congrArg Subtype.val e)) m1 m2 m3 j1 j2 j3
  have f5 := five_nd rfl nd rfl
  refine ⟨⟨_, _, _, _, _, rfl, D.2, (upP L (loP L X E) D).2, (upP L (loP L Y E) D).2, (upP L (loP L Z E) D).2, E.2⟩, ?_, ?_⟩
  · unfold mkF
    rw [faultD_tup, okFan, restD_five]
    have f5' : five rs.length [.int (leastN rs x y z : Nat), .int (sideN rs (leastN rs x y z) (greatN rs x y z) x : Nat), .int (sideN rs (leastN rs x y z) (greatN rs x y z) y : Nat), .int (sideN rs (leastN rs x y z) (greatN rs x y z) z : Nat), .int (greatN rs x y z : Nat)] = true := f5
    rw [f5', Bool.true_and, Bool.true_and]
    unfold fiveOk
    have q1 : meets rs (leastN rs x y z) (greatN rs x y z) (sideN rs (leastN rs x y z) (greatN rs x y z) x) (sideN rs (leastN rs x y z) (greatN rs x y z) y) = true := meets_ok (congrArg Subtype.val m1) (congrArg Subtype.val j1)
    have q2 : meets rs (leastN rs x y z) (greatN rs x y z) (sideN rs (leastN rs x y z) (greatN rs x y z) y) (sideN rs (leastN rs x y z) (greatN rs x y z) z) = true := meets_ok (congrArg Subtype.val m2) (congrArg Subtype.val j2)
    have q3 : meets rs (leastN rs x y z) (greatN rs x y z) (sideN rs (leastN rs x y z) (greatN rs x y z) x) (sideN rs (leastN rs x y z) (greatN rs x y z) z) = true := meets_ok (congrArg Subtype.val m3) (congrArg Subtype.val j3)
    rw [decide_eq_true lad_fan.symm, q1, q2, q3, Bool.or_true] <;> rfl
  · cases e : spreadsB rs with
    | false => rfl
    | true =>
      have h1 := T.no_fan ((spr_dis L).mp e) m1 m3 j1 j2
      rw [List.nodup_cons] at nd
      exact absurd (h1 ▸ List.mem_cons_self) nd.1
theorem lads_none (h : ladsD rs = none) : MdL (leP rs) (loP L) (upP L) := fun x y z hz => by
  have h1 := List.findSome?_eq_none_iff.mp h x.1 (List.mem_range.mpr x.2)
  have h2 := List.findSome?_eq_none_iff.mp h1 z.1 (List.mem_filter.mpr ⟨List.mem_range.mpr z.2, hz⟩)
  have h3 := List.findSome?_eq_none_iff.mp h2 y.1 (List.mem_range.mpr y.2)
  refine Subtype.ext ?_
  show upN rs x.1 (lowN rs y.1 z.1) = lowN rs (upN rs x.1 y.1) z.1
  unfold ladD at h3
  split at h3
  · rename_i e; exact e
  · cases h3
theorem md_nolad (M : MdL (leP rs) (loP L) (upP L)) : ¬ HasLad rs := fun ⟨x, y, z, hx, hy, hz, hb, hn, h1, h2⟩ =>
  hn (congrArg Subtype.val (L.ltc.no_lad2 M (p := ⟨x, hx⟩) (q := ⟨y, hy⟩) (y := ⟨z, hz⟩) hb (Subtype.ext h1) (Subtype.ext h2)))
theorem fans_none (M : MdL (leP rs) (loP L) (upP L)) (h : fansD rs = none) : spreadsB rs = true := by
  have T := L.ltc
  have key : ∀ x y z : Pl rs, z.1 < y.1 → y.1 < x.1 → ∃ d, isD (leP rs) (loP L) x y z d ∧ isE (leP rs) (upP L) x y z d := fun x y z h1 h2 => by
    have a1 := List.findSome?_eq_none_iff.mp h x.1 (List.mem_range.mpr x.2)
    have a2 := List.findSome?_eq_none_iff.mp a1 y.1 (List.mem_range.mpr h2)
    have a3 := List.findSome?_eq_none_iff.mp a2 z.1 (List.mem_range.mpr h1)
    have e : leastN rs x.1 y.1 z.1 = greatN rs x.1 y.1 z.1 := by
      unfold fanD at a3
      split at a3
      · rename_i e; exact e
      · cases a3
    have hd := fan_isD L x.2 y.2 z.2
    have he := fan_isE L x.2 y.2 z.2
    refine ⟨_, hd, ?_⟩
    have e2 : (upP L (upP L (loP L x y) (loP L y z)) (loP L z x)) = (loP L (loP L (upP L x y) (upP L y z)) (upP L z x)) := Subtype.ext e
    rw [show (upP L (upP L (loP L ⟨x.1, x.2⟩ ⟨y.1, y.2⟩) (loP L ⟨y.1, y.2⟩ ⟨z.1, z.2⟩)) (loP L ⟨z.1, z.2⟩ ⟨x.1, x.2⟩)) = _ from e2]
    exact he
  have sw : ∀ {x y z : Pl rs}, (∃ d, isD (leP rs) (loP L) x y z d ∧ isE (leP rs) (upP L) x y z d) → ∃ d, isD (leP rs) (loP L) y x z d ∧ isE (leP rs) (upP L) y x z d := fun ⟨d, h1, h2⟩ => ⟨d, T.d_swap h1, T.e_swap h2⟩
  have ro : ∀ {x y z : Pl rs}, (∃ d, isD (leP rs) (loP L) x y z d ∧ isE (leP rs) (upP L) x y z d) → ∃ d, isD (leP rs) (loP L) y z x d ∧ isE (leP rs) (upP L) y z x d := fun ⟨d, h1, h2⟩ => ⟨d, isD.rot T h1, isE.rot T h2⟩
  have two : ∀ x z : Pl rs, ∃ d, isD (leP rs) (loP L) x x z d ∧ isE (leP rs) (upP L) x x z d := fun x z => by
    have hd := fan_isD L x.2 x.2 z.2
    have he := fan_isE L x.2 x.2 z.2
    have e := T.de_two hd he
    exact ⟨_, hd, e ▸ he⟩
  have all : ∀ x y z : Pl rs, ∃ d, isD (leP rs) (loP L) x y z d ∧ isE (leP rs) (upP L) x y z d := fun x y z => by
    by_cases e1 : x = y
    · subst e1; exact two x z
    by_cases e2 : y = z
    · subst e2; exact ro (ro (two y x))
    by_cases e3 : x = z
    · subst e3; exact ro (two x y)
    have n1 : x.1 ≠ y.1 := fun e => e1 (Subtype.ext e)
    have n2 : y.1 ≠ z.1 := fun e => e2 (Subtype.ext e)
    have n3 : x.1 ≠ z.1 := fun e => e3 (Subtype.ext e)
    rcases Nat.lt_or_gt_of_ne n1 with h1 | h1 <;> rcases Nat.lt_or_gt_of_ne n2 with h2 | h2 <;> rcases Nat.lt_or_gt_of_ne n3 with h3 | h3
    · -- x < y < z
      exact sw (ro (key z y x h1 h2))
    · omega
    · -- x < z < y
      exact ro (ro (key y z x h3 h2))
    · -- z < x < y
      exact sw (key y x z h3 h1)
    · -- y < x, y < z, x < z : z > x > y
      exact ro (key z x y h1 h3)
    · -- z < x, y < z : x > z > y
      exact sw (ro (ro (key x z y h2 h3)))
    · omega
    · -- z < y < x
      exact key x y z h2 h1
  refine (spr_dis L).mpr fun x y z => ?_
  obtain ⟨d, h1, h2⟩ := all x y z
  exact T.dis M h1 h2
theorem find_none (h : findD rs = none) : spreadsB rs = true := by
  unfold findD at h
  split at h
  · cases h
  · rename_i e
    exact fans_none L (lads_none L e) h
theorem find_some {d : PyData} (h : findD rs = some d) : (∃ k a x y z g, d = mkF k a x y z g ∧ a < rs.length ∧ x < rs.length ∧ y < rs.length ∧ z < rs.length ∧ g < rs.length ∧ (k = lad ∨ k = fanS) ∧ (k = lad ↔ HasLad rs)) ∧ faultD rs d = true ∧ spreadsB rs = false := by
  unfold findD at h
  split at h
  · rename_i e
    cases h
    obtain ⟨x, hx, h1⟩ := first_get e
    obtain ⟨z, hz, h2⟩ := first_get h1
    obtain ⟨y, hy, h3⟩ := first_get h2
    obtain ⟨hz, hb⟩ := List.mem_filter.mp hz
    obtain ⟨⟨a, p, q, g, e1, i1, i2, i3, i4⟩, f, hl, sp⟩ := lad_some L (List.mem_range.mp hx) (List.mem_range.mp hy) (List.mem_range.mp hz) hb h3
    exact ⟨⟨lad, a, p, q, y, g, e1, i1, i2, i3, List.mem_range.mp hy, i4, .inl rfl, ⟨fun _ => hl, fun _ => rfl⟩⟩, f, sp⟩
  · rename_i e
    have M := lads_none L e
    obtain ⟨x, hx, h1⟩ := first_get h
    obtain ⟨y, hy, h2⟩ := first_get h1
    obtain ⟨z, hz, h3⟩ := first_get h2
    have hx := List.mem_range.mp hx
    have hy := List.mem_range.mp hy
    have hz := List.mem_range.mp hz
    obtain ⟨⟨a, p, q, r, g, e1, i1, i2, i3, i4, i5⟩, f, sp⟩ := fan_some L M hx (by omega) (by omega) h3
    exact ⟨⟨fanS, a, p, q, r, g, e1, i1, i2, i3, i4, i5, .inr rfl, ⟨fun e => absurd e.symm lad_fan, fun h => absurd h (md_nolad L M)⟩⟩, f, sp⟩
end
end FF
/-! the law's own judgement -/
namespace FF
open PySem PySem.Spec PyProof.Rows L2
def spIdx (K : PySem.W.Frag) : Sp := fun vs H Q _ => ∃ (v : V) (d : PyData) (n : Nat), vs = [v, nV n] ∧ Dp K H v d ∧ Q (.bl (isPlaceD n d)) H
theorem five_nodup {n : Nat} {a x y z g : Nat} (ha : a < n) (hx : x < n) (hy : y < n) (hz : z < n) (hg : g < n) : five n [.int a, .int x, .int y, .int z, .int g] = decide ([(a : Int), x, y, z, g].Nodup) := by
  have p : ∀ {u : Nat}, u < n → isPlaceD n (.int u) = true := fun {u} h => by
    show (decide ((0 : Int) ≤ u) && decide ((u : Int) < n)) = true
    rw [decide_eq_true (by omega), decide_eq_true (by omega)] <;> rfl
  unfold five
  rw [show ([PyData.int a, .int x, .int y, .int z, .int g].all (isPlaceD n)) = true by simp only [List.all_cons, List.all_nil, p ha, p hx, p hy, p hz, p hg, Bool.and_true]]
  rfl
section
variable {P : Program} {w : World} {K : PySem.W.Frag} {mg : Str → Option Value} {base : Heap}
theorem ok_idx {f : Addr} {fd : FuncData} (F : FunD K "_law_index" "_law_index" (defArgs s_law_index) (defBody s_law_index) (defScope s_law_index) [] [] f fd) (hm : mg "_law_index" = some (.ref f)) (T : Top K mg) : Def P w K mg base "_law_index" 1 ["_law_one", "_law_at"] (spIdx K) := by
  refine def_mk F hm (F.bindsN fun _ _ _ _ _ _ us hl => match us, hl with | [_, _], _ => rfl) sc_law_index (fun vs H Q E h => ?_) (fun cdv A outer s H vs Q E hr h => ?_)
  · obtain ⟨v, d, n, rfl, _⟩ := h
    rfl
  obtain ⟨v, d, n, rfl, hd, q⟩ := h
  refine ⟨_, (pss_one (ps_ret (pe_and (pe_callB (call_isK K kb_int) (by rfl) T.b_isinstance (by decide +kernel) (pa_cons (pv 0) (pa_cons (pe_bltn (v := .ty "int") (by rfl) T.b_int (by decide +kernel) rfl) pa_nil))) (pe_and (pe_not (pe_callB (call_isK K kb_bool) (by rfl) T.b_isinstance (by decide +kernel) (pa_cons (pv 0) (pa_cons (pe_bltn (v := .ty "bool") (by rfl) T.b_bool (by decide +kernel) rfl) pa_nil)))) (pe_one (pe_chain op_le op_lt pe_int (pv 0) (pv 1))))))), ?_⟩
  refine ⟨_, rfl, v, d, rfl, hd, _, rfl, ?_⟩
  refine if_b (fun h1 => ?_) (fun h1 => ?_)
  rotate_left
  · have : isPlaceD n d = false := by
      cases d <;> first | rfl | cases h1
    rw [this] at q
    exact q
  refine ⟨_, rfl, v, d, rfl, hd, _, rfl, ⟨_, rfl, ?_⟩⟩
  refine if_nb (fun h2 => ?_) (fun h2 => ?_)
  rotate_left
  · have : isPlaceD n d = false := by
      cases d <;> first | rfl | cases h2
    rw [this] at q
    exact q
  cases d with
  | int i =>
    cases hd
    refine ⟨_, rfl, _, _, rfl, rfl, _, rfl, ?_⟩
    change Q (.bl (decide (0 ≤ i) && decide (i < n))) H at q
    refine if_dec (fun h3 => ?_) (fun h3 => ?_)
    · rw [decide_eq_true h3, Bool.true_and] at q
      exact ⟨_, rfl, _, _, rfl, rfl, q⟩
    · rw [decide_eq_false h3, Bool.false_and] at q
      exact q
  | bool x => cases h2
  | _ => cases h1
end
end FF
/-! ladder_at, fan_at, find_fault told exactly; _law_has_ladder -/
namespace FF
open PySem PySem.Spec PyProof.Rows L2
def MayX (K : PySem.W.Frag) (H : Hp) (v : V) : Option PyData → Prop
  | none => v = .non
  | some d => Tp K H v d ∧ v ≠ .non
def spLadX (K : PySem.W.Frag) (f : List Str → Nat → Nat → Nat → Option PyData) : Sp := fun vs H Q _ => ∃ (b dx li : Addr) (rs : List Str) (x y z : Nat), vs = [.ref b, nV x, nV y, nV z] ∧ BoardAt K H b dx li rs ∧ x < rs.length ∧ y < rs.length ∧ z < rs.length ∧ ∀ v H', Same H H' → MayX K H' v (f rs x y z) → Q v H'
def spFindX (K : PySem.W.Frag) : Sp := fun vs H Q _ => ∃ (b dx li : Addr) (rs : List Str), vs = [.ref b] ∧ BoardAt K H b dx li rs ∧ ∀ v H', Same H H' → MayX K H' v (findD rs) → Q v H'
theorem tp_five {K : PySem.W.Frag} {H : Hp} {a x y z g : Nat} {k : Str} {f p : Addr} (h1 : H f = some (.tup [nV a, nV x, nV y, nV z, nV g])) (h2 : H p = some (.tup [.str k, .ref f])) : MayX K H (.ref p) (some (mkF k a x y z g)) :=
  ⟨.tup (.inl h2) (.cons (.str k) (.cons (.tup (.inl h1) (.cons (.int _) (.cons (.int _) (.cons (.int _) (.cons (.int _) (.cons (.int _) .nil)))))) .nil)), fun z => by cases z⟩
theorem range_take {n i x : Nat} (h : x ∈ (List.range n).take i) : x < i := by
  rw [List.take_range] at h
  have := List.mem_range.mp h
  omega
theorem range_at {n i : Nat} (h : i < n) : (List.range n)[i]? = some i := List.getElem?_range h
section
variable {P : Program} {w : World} {K : PySem.W.Frag} {mg : Str → Option Value} {base : Heap}
theorem ok_ladderX {f : Addr} {fd : FuncData} (F : FunD K "ladder_at" "ladder_at" (defArgs s_ladder_at) (defBody s_ladder_at) (defScope s_ladder_at) [] [] f fd) (hm : mg "ladder_at" = some (.ref f)) (T : Top K mg) : Def P w K mg base "ladder_at" 1 ["board", "one", "other", "last"] (spLadX K ladD) := by
  refine def_mk F hm (F.bindsN fun _ _ _ _ _ _ us hl => match us, hl with | [_, _, _, _], _ => rfl) sc_ladder_at (fun vs H Q E h => ?_) (fun cdv A outer s H vs Q E hr h => ?_)
  · obtain ⟨b, dx, li, rs, x, y, z, rfl, _⟩ := h
    rfl
  obtain ⟨b, dx, li, rs, x, y, z, rfl, hB, hx, hy, hz, q⟩ := h
  obtain ⟨good, lo, up, hb, t1, t2, hli⟩ := id hB
  have L := lat_of good
  have lo_ : ∀ {u v}, u < rs.length → v < rs.length → v < ((tabT (below rs)).getD u []).length := fun h1 h2 => Nat.lt_of_lt_of_eq h2 (L.lo.ok.rlen h1).symm
  have up_ : ∀ {u v}, u < rs.length → v < rs.length → v < ((tabT (above rs)).getD u []).length := fun h1 h2 => Nat.lt_of_lt_of_eq h2 (L.up.ok.rlen h1).symm
  have l1 := L.low_lt hy hz
  have u1 := L.up_lt hx hy
  have l2 := L.up_lt hx l1
  have u2 := L.low_lt u1 hz
  refine ⟨_, (pss_cons (ps_par (i := 4) (j := 5) (by rfl) sc_ladder_at.nd rfl rfl (by decide) rfl rfl (pa_cons (pe_fld (pv 0) rfl) (pa_cons (pe_fld (pv 0) rfl) pa_nil)) (by rfl))
  (pss_cons (ps_par (i := 6) (j := 7) (by rfl) sc_ladder_at.nd rfl rfl (by decide) rfl rfl (pa_cons (pe_ix (ix_listK K) (pe_ix (ix_listK K) (pv 5) (pv 1) (fun _ _ => rfl)) (pe_ix (ix_listK K) (pe_ix (ix_listK K) (pv 4) (pv 2) (fun _ _ => rfl)) (pv 3) (fun _ _ => rfl)) (fun _ _ => rfl)) (pa_cons (pe_ix (ix_listK K) (pe_ix (ix_listK K) (pv 4) (pe_ix (ix_listK K) (pe_ix (ix_listK K) (pv 5) (pv 1) (fun _ _ => rfl)) (pv 2) (fun _ _ => rfl)) (fun _ _ => rfl)) (pv 3) (fun _ _ => rfl)) pa_nil)) (by rfl))
  (pss_cons (ps_if (pt_cmpR op_eq (pv 6) (pv 7) (nomark _))
  (pss_one (ps_ret pe_non))
  pss_nil)
  (pss_one (ps_ret (pe_tup (pa_cons pe_str (pa_cons (pe_tup (pa_cons (pe_ix (ix_listK K) (pe_ix (ix_listK K) (pv 4) (pv 2) (fun _ _ => rfl)) (pv 3) (fun _ _ => rfl)) (pa_cons (pv 6) (pa_cons (pv 7) (pa_cons (pv 2) (pa_cons (pe_ix (ix_listK K) (pe_ix (ix_listK K) (pv 5) (pv 1) (fun _ _ => rfl)) (pv 2) (fun _ _ => rfl)) pa_nil)))))) pa_nil)))))))), ?_⟩
  refine ⟨_, rfl, b, _, dx, _, _, rfl, hb, T.k_Board, T.n_Board_lows, rfl, _, rfl, b, _, dx, _, _, rfl, hb, T.k_Board, T.n_Board_ups, rfl, _, _, rfl, ?_⟩
  refine ⟨_, rfl, _, rfl, ix_row t2 L.up.ok hx fun p1 h1 => ⟨_, rfl, _, rfl, ix_row t1 L.lo.ok hy fun p2 h2 => ⟨_, rfl, ix_ent h2 (lo_ hy hz) (ix_ent h1 (up_ hx l1) ?_)⟩⟩⟩
  refine ⟨_, rfl, _, rfl, _, rfl, ix_row t2 L.up.ok hx fun p3 h3 => ⟨_, rfl, ix_ent h3 (up_ hx hy) (ix_row t1 L.lo.ok u1 fun p4 h4 => ⟨_, rfl, ix_ent h4 (lo_ u1 hz) ?_⟩)⟩⟩
  refine ⟨_, _, rfl, ?_⟩
  refine ⟨_, rfl, _, rfl, rfl, _, rfl, if_int (fun h => q _ _ (Same.refl H) (by unfold ladD; rw [if_pos (show upN rs x (lowN rs y z) = lowN rs (upN rs x y) z from Int.ofNat.inj h)]; rfl)) (fun h => ?_)⟩
  have e9 : ladD rs x y z = _ := if_neg fun z => h (congrArg (fun n : Nat => (n : Int)) z)
  rw [e9] at q
  refine ⟨_, rfl, _, rfl, ix_row t1 L.lo.ok hy fun p5 h5 => ⟨_, rfl, ix_ent h5 (lo_ hy hz) ?_⟩⟩
  refine ⟨_, rfl, _, rfl, _, rfl, _, rfl, _, rfl, ix_row t2 L.up.ok hx fun p6 h6 => ⟨_, rfl, ix_ent h6 (up_ hx hy) ?_⟩⟩
  refine ⟨(by show 5 ≤ sizeLine; decide), fun pf hf => ⟨(by show 2 ≤ sizeLine; decide), fun pa ha => ?_⟩⟩
  have e1 := same_new hf (.tup [nV (lowN rs y z), nV (upN rs x (lowN rs y z)), nV (lowN rs (upN rs x y) z), nV y, nV (upN rs x y)])
  have e2 := same_new ha (.tup [.str lad, .ref pf])
  exact q _ _ (e1.trans e2) (tp_five (e2 _ _ upd_same) upd_same)
theorem ok_fan_atX {f : Addr} {fd : FuncData} (F : FunD K "fan_at" "fan_at" (defArgs s_fan_at) (defBody s_fan_at) (defScope s_fan_at) [] [] f fd) (hm : mg "fan_at" = some (.ref f)) (T : Top K mg) : Def P w K mg base "fan_at" 1 ["board", "one", "other", "last"] (spLadX K fanD) := by
  refine def_mk F hm (F.bindsN fun _ _ _ _ _ _ us hl => match us, hl with | [_, _, _, _], _ => rfl) sc_fan_at (fun vs H Q E h => ?_) (fun cdv A outer s H vs Q E hr h => ?_)
  · obtain ⟨b, dx, li, rs, x, y, z, rfl, _⟩ := h
    rfl
  obtain ⟨b, dx, li, rs, x, y, z, rfl, hB, hx, hy, hz, q⟩ := h
  obtain ⟨good, lo, up, hb, t1, t2, hli⟩ := id hB
  have L := lat_of good
  have lo_ : ∀ {u v}, u < rs.length → v < rs.length → v < ((tabT (below rs)).getD u []).length := fun h1 h2 => Nat.lt_of_lt_of_eq h2 (L.lo.ok.rlen h1).symm
  have up_ : ∀ {u v}, u < rs.length → v < rs.length → v < ((tabT (above rs)).getD u []).length := fun h1 h2 => Nat.lt_of_lt_of_eq h2 (L.up.ok.rlen h1).symm
  have a1 := L.low_lt hx hy
  have a2 := L.low_lt hy hz
  have a3 := L.low_lt hz hx
  have a4 := L.up_lt a1 a2
  have a5 := L.up_lt a4 a3
  have b1 := L.up_lt hx hy
  have b2 := L.up_lt hy hz
  have b3 := L.up_lt hz hx
  have b4 := L.low_lt b1 b2
  have b5 := L.low_lt b4 b3
  refine ⟨_, (pss_cons (ps_asg (pe_tup (pa_cons (pe_fld (pv 0) rfl) (pa_cons (pe_fld (pv 0) rfl) pa_nil))) (pg_tupK K (n := 2) rfl (pgs_cons (pg_name (i := 4) sc_fan_at.nd rfl (Or.inr rfl) (.inl rfl)) (pgs_cons (pg_name (i := 5) sc_fan_at.nd rfl (Or.inr rfl) (.inl rfl)) pgs_nil))))
  (pss_cons (ps_set (i := 6) sc_fan_at.nd rfl (Or.inr rfl) (pe_ix (ix_listK K) (pe_ix (ix_listK K) (pv 5) (pe_ix (ix_listK K) (pe_ix (ix_listK K) (pv 5) (pe_ix (ix_listK K) (pe_ix (ix_listK K) (pv 4) (pv 1) (fun _ _ => rfl)) (pv 2) (fun _ _ => rfl)) (fun _ _ => rfl)) (pe_ix (ix_listK K) (pe_ix (ix_listK K) (pv 4) (pv 2) (fun _ _ => rfl)) (pv 3) (fun _ _ => rfl)) (fun _ _ => rfl)) (fun _ _ => rfl)) (pe_ix (ix_listK K) (pe_ix (ix_listK K) (pv 4) (pv 3) (fun _ _ => rfl)) (pv 1) (fun _ _ => rfl)) (fun _ _ => rfl)))
  (pss_cons (ps_set (i := 7) sc_fan_at.nd rfl (Or.inr rfl) (pe_ix (ix_listK K) (pe_ix (ix_listK K) (pv 4) (pe_ix (ix_listK K) (pe_ix (ix_listK K) (pv 4) (pe_ix (ix_listK K) (pe_ix (ix_listK K) (pv 5) (pv 1) (fun _ _ => rfl)) (pv 2) (fun _ _ => rfl)) (fun _ _ => rfl)) (pe_ix (ix_listK K) (pe_ix (ix_listK K) (pv 5) (pv 2) (fun _ _ => rfl)) (pv 3) (fun _ _ => rfl)) (fun _ _ => rfl)) (fun _ _ => rfl)) (pe_ix (ix_listK K) (pe_ix (ix_listK K) (pv 5) (pv 3) (fun _ _ => rfl)) (pv 1) (fun _ _ => rfl)) (fun _ _ => rfl)))
  (pss_cons (ps_if (pt_cmpR op_eq (pv 6) (pv 7) (nomark _))
  (pss_one (ps_ret pe_non))
  pss_nil)
  (pss_cons (ps_setLc (i := 8) (own := [("place", 9)]) rfl sc_fan_at.nd rfl rfl (sw_true rfl rfl rfl (by kernel_rfl)) (pi_tupK K (pe_tup (pa_cons (pv 1) (pa_cons (pv 2) (pa_cons (pv 3) pa_nil))))) (blkOk_by (by kernel_rfl)) (fun _ _ _ _ _ => (pg_name (i := 9) sc_fan_at.nd rfl (Or.inl rfl) (.inr rfl))) (fun _ _ _ _ _ => pts_nil) (fun _ _ _ _ _ => (pe_ix (ix_listK K) (pe_ix (ix_listK K) (pv 5) (pe_ix (ix_listK K) (pe_ix (ix_listK K) (pv 4) (pv 9) (fun _ _ => rfl)) (pv 7) (fun _ _ => rfl)) (fun _ _ => rfl)) (pv 6) (fun _ _ => rfl))))
  (pss_one (ps_ret (pe_tup (pa_cons pe_str (pa_cons (pe_tup (pa_cons (pv 6) (StX.pa_star (pv 8) (pa_cons (pv 7) pa_nil)))) pa_nil)))))))))), ?_⟩
  refine ⟨_, rfl, b, _, dx, _, _, rfl, hb, T.k_Board, T.n_Board_lows, rfl, _, rfl, b, _, dx, _, _, rfl, hb, T.k_Board, T.n_Board_ups, rfl, (by show 2 ≤ sizeLine; decide), fun pp hpp => ⟨pp, _, rfl, SqT.of upd_same, rfl, _, _, rfl, _, _, rfl, rfl, ?_⟩⟩
  have e0 := same_new hpp (.tup [.ref lo, .ref up])
  have q := fun v H' e => q v H' (e0.trans e)
  have t1 := t1.up e0
  have t2 := t2.up e0
  generalize upd H pp (.tup [.ref lo, .ref up]) = H0 at e0 q t1 t2 ⊢
  refine ⟨_, rfl, _, rfl, _, rfl, _, rfl, ix_row t1 L.lo.ok hx fun p1 h1 => ⟨_, rfl, ix_ent h1 (lo_ hx hy) (ix_row t2 L.up.ok a1 fun p2 h2 => ⟨_, rfl, _, rfl, ix_row t1 L.lo.ok hy fun p3 h3 => ⟨_, rfl, ix_ent h3 (lo_ hy hz) (ix_ent h2 (up_ a1 a2) (ix_row t2 L.up.ok a4 fun p4 h4 => ⟨_, rfl, _, rfl, ix_row t1 L.lo.ok hz fun p5 h5 => ⟨_, rfl, ix_ent h5 (lo_ hz hx) (ix_ent h4 (up_ a4 a3) ?_)⟩⟩))⟩⟩)⟩⟩
  refine ⟨_, rfl, _, rfl, _, rfl, _, rfl, ix_row t2 L.up.ok hx fun p1 h1 => ⟨_, rfl, ix_ent h1 (up_ hx hy) (ix_row t1 L.lo.ok b1 fun p2 h2 => ⟨_, rfl, _, rfl, ix_row t2 L.up.ok hy fun p3 h3 => ⟨_, rfl, ix_ent h3 (up_ hy hz) (ix_ent h2 (lo_ b1 b2) (ix_row t1 L.lo.ok b4 fun p4 h4 => ⟨_, rfl, _, rfl, ix_row t2 L.up.ok hz fun p5 h5 => ⟨_, rfl, ix_ent h5 (up_ hz hx) (ix_ent h4 (lo_ b4 b3) ?_)⟩⟩))⟩⟩)⟩⟩
  refine ⟨_, rfl, _, rfl, rfl, _, rfl, if_int (fun h => q _ _ (Same.refl _) (by unfold fanD; rw [if_pos (show leastN rs x y z = greatN rs x y z from Int.ofNat.inj h)]; rfl)) (fun h => ?_)⟩
  have e9 : fanD rs x y z = _ := if_neg fun z => h (congrArg (fun n : Nat => (n : Int)) z)
  rw [e9] at q
  change upN rs (upN rs (lowN rs x y) (lowN rs y z)) (lowN rs z x) < rs.length at a5
  change lowN rs (lowN rs (upN rs x y) (upN rs y z)) (upN rs z x) < rs.length at b5
  have hm' : ∀ p ∈ [x, y, z], p < rs.length := by simp [hx, hy, hz]
  refine ⟨_, rfl, _, rfl, _, rfl, (by show 3 ≤ sizeLine; decide), fun pt hpt => ⟨pt, rfl, ⟨_, SqT.of upd_same⟩, fun D hD => ?_⟩⟩
  have e1 := same_new hpt (.tup [nV x, nV y, nV z])
  refine lc_mapT (xs := [nV x, nV y, nV z]) (j := 9) (fun i u _ => ∃ p : Nat, [x, y, z][i]? = some p ∧ u = nV (sideN rs (leastN rs x y z) (greatN rs x y z) p)) (fun _ _ _ _ _ h => h) hD (SqT.of upd_same) (by show 3 ≤ sizeLine; decide) (fun _ => rfl) ?_ ?_
  · intro i u H3 hu e3 Q' k'
    obtain ⟨p, hp, rfl⟩ := map_get (l := [x, y, z]) hu
    have hpl := hm' p (List.mem_of_getElem? hp)
    have c1 := L.low_lt hpl b5
    have e13 := e1.trans e3
    refine ⟨_, rfl, _, rfl, _, rfl, ix_row (t1.up e13) L.lo.ok hpl fun p1 h1 => ⟨_, rfl, ix_ent h1 (lo_ hpl b5) (ix_row (t2.up e13) L.up.ok c1 fun p2 h2 => ⟨_, rfl, ix_ent h2 (up_ c1 a5) (k' _ _ (Same.refl _) ⟨p, hp, rfl⟩)⟩)⟩⟩
  intro H2 ys e2 hD2 hyl hy'
  obtain rfl : ys = [nV (sideN rs (leastN rs x y z) (greatN rs x y z) x), nV (sideN rs (leastN rs x y z) (greatN rs x y z) y), nV (sideN rs (leastN rs x y z) (greatN rs x y z) z)] := by
    match ys, hyl with
    | [y0, y1, y2], _ =>
      obtain ⟨p0, h0, e0⟩ := hy' 0 y0 rfl
      obtain ⟨p1, h1, e1⟩ := hy' 1 y1 rfl
      obtain ⟨p2, h2, e2⟩ := hy' 2 y2 rfl
      cases h0
      cases h1
      cases h2
      rw [e0, e1, e2]
  refine ⟨_, rfl, _, rfl, D, _, rfl, .inr (SqL.of hD2), _, rfl, (by show 5 ≤ sizeLine; decide), fun pf hf => ⟨(by show 2 ≤ sizeLine; decide), fun pa ha => ?_⟩⟩
  have e3 := same_new hf (.tup [nV (upN rs (upN rs (lowN rs x y) (lowN rs y z)) (lowN rs z x)), nV (sideN rs (leastN rs x y z) (greatN rs x y z) x), nV (sideN rs (leastN rs x y z) (greatN rs x y z) y), nV (sideN rs (leastN rs x y z) (greatN rs x y z) z), nV (lowN rs (lowN rs (upN rs x y) (upN rs y z)) (upN rs z x))])
  have e4 := same_new ha (.tup [.str fanS, .ref pf])
  exact q _ _ (e1.trans (e2.trans (e3.trans e4))) (tp_five (e4 _ _ upd_same) upd_same)
theorem fn_findX {f : Addr} {fd : FuncData} (F : FunD K "find_fault" "find_fault" (defArgs s_find_fault) (defBody s_find_fault) (defScope s_find_fault) [] [] f fd) (T : Top K mg)
    (D_Board___len__ : MethD P w K mg base "Board" "__len__" 1 ["self"] (spLenB K)) (D_Board_is_below : MethX P w K mg base "Board" "is_below" 5 ["self", "one", "other"] (spBelow K))
    (D_ladder_at : Def P w K mg base "ladder_at" 1 ["board", "one", "other", "last"] (spLadX K ladD)) (D_fan_at : Def P w K mg base "fan_at" 1 ["board", "one", "other", "last"] (spLadX K fanD)) : FnOk P w K mg base CX0 6 f fd ["board"] (spFindX K) := by
  refine fn_mk F sc_find_fault (fun vs H Q E h => ?_) (fun cdv A outer s H vs Q E hr h => ?_)
  · obtain ⟨b, dx, li, rs, rfl, _⟩ := h
    rfl
  obtain ⟨b, dx, li, rs, rfl, hB, q⟩ := h
  have L := lat_of hB.1
  have sq := L.sq
  have n60 := sq.le
  refine ⟨_, (pss_cons (ps_set (i := 1) sc_find_fault.nd rfl (Or.inl rfl) (pe_listRg rfl (by rfl) T.b_list (prg_1 (by rfl) T.b_range (pe_callB (call_lenD D_Board___len__ hr (by first | decide | omega)) (by rfl) T.b_len (by decide +kernel) (pa_cons (pv 0) pa_nil)))))
  (pss_cons (ps_for PassesOwn.never rfl (pi_listK K (pv 1)) (pg_name (i := 2) sc_find_fault.nd rfl (Or.inr rfl) (.inl rfl))
  (pss_one (ps_for PassesOwn.never rfl (pi_listK K (pe_lc (own := [("place", 4)]) rfl sc_find_fault.nd (pi_listK K (pv 1)) (blkOk_by (by kernel_rfl)) (fun _ _ _ _ _ => (pg_name (i := 4) sc_find_fault.nd rfl (Or.inl rfl) (.inr rfl))) (fun _ _ _ _ _ => (pts_one (pt_val (pe_methxNK K D_Board_is_below hr (by first | decide | omega) (pv 0) (pa_cons (pv 2) (pa_cons (pv 4) pa_nil)))))) (fun _ _ _ _ _ => (pv 4)))) (pg_name (i := 3) sc_find_fault.nd rfl (Or.inl rfl) (.inl rfl))
  (pss_one (ps_for PassesOwn.never rfl (pi_listK K (pv 1)) (pg_name (i := 5) sc_find_fault.nd rfl (Or.inl rfl) (.inl rfl))
  (pss_cons (ps_set (i := 6) sc_find_fault.nd rfl (Or.inl rfl) (pe_def D_ladder_at hr (by first | decide | omega) (pa_cons (pv 0) (pa_cons (pv 2) (pa_cons (pv 5) (pa_cons (pv 3) pa_nil))))))
  (pss_one (ps_if (pt_cmp (pc_notN (pv 6)) (by rfl))
  (pss_one (ps_ret (pv 6)))
  pss_nil))))))))
  (pss_cons (ps_for PassesOwn.never rfl (pi_listK K (pv 1)) (pg_name (i := 2) sc_find_fault.nd rfl (Or.inr rfl) (.inl rfl))
  (pss_one (ps_for PassesOwn.never rfl (pi_range1 (by rfl) T.b_range (pa_cons (pv 2) pa_nil)) (pg_name (i := 5) sc_find_fault.nd rfl (Or.inl rfl) (.inl rfl))
  (pss_one (ps_for PassesOwn.never rfl (pi_range1 (by rfl) T.b_range (pa_cons (pv 5) pa_nil)) (pg_name (i := 3) sc_find_fault.nd rfl (Or.inl rfl) (.inl rfl))
  (pss_cons (ps_set (i := 6) sc_find_fault.nd rfl (Or.inl rfl) (pe_def D_fan_at hr (by first | decide | omega) (pa_cons (pv 0) (pa_cons (pv 2) (pa_cons (pv 5) (pa_cons (pv 3) pa_nil))))))
  (pss_one (ps_if (pt_cmp (pc_notN (pv 6)) (by rfl))
  (pss_one (ps_ret (pv 6)))
  pss_nil))))))))
  (pss_one (ps_ret pe_non))))), ?_⟩
  obtain ⟨bl, bu, hb, _⟩ := id hB.2
  refine ⟨_, rfl, b, dx, _, rfl, hb, ⟨b, dx, li, rs, rfl, hB.lines, rs.length, rfl, by omega, _, rfl, RgOk.of_le (by omega) (by omega) (by omega) (by omega), fun ev hev => ?_⟩⟩
  rw [rgV_nat]
  have e1 := same_new hev (.lst ((List.range rs.length).map nV))
  have hE1 : SqL K (upd H ev (.lst ((List.range rs.length).map nV))) ev ((List.range rs.length).map nV) := SqL.of upd_same
  generalize upd H ev (.lst ((List.range rs.length).map nV)) = H1 at e1 hE1 ⊢
  have hB1 := hB.up e1
  have hb1 := e1 _ _ hb
  have q := fun v H' e => q v H' (e1.trans e)
  clear hB hb e1 hev
  have row : ∀ {i : Nat} {x : V}, ((List.range rs.length).map nV)[i]? = some x → i < rs.length ∧ x = nV i := fun {i x} h => by
    obtain ⟨z, hz, rfl⟩ := map_get h
    have hi := (List.getElem?_eq_some_iff.mp hz).1
    rw [List.length_range] at hi
    rw [List.getElem?_range hi] at hz
    cases hz
    exact ⟨hi, rfl⟩
  refine ⟨_, rfl, ev, rfl, ⟨_, hE1⟩, ?_⟩
  refine for_list (K := K) (a := ev) (xs := (List.range rs.length).map nV) (fun i σ H' => (∃ o2 o3 o4 o5 o6, σ = [some (.ref b), some (.ref ev), o2, o3, o4, o5, o6]) ∧ Same H1 H' ∧ ∀ x' < i, (((List.range rs.length).filter fun z => bit rs x' z).findSome? fun z => (List.range rs.length).findSome? fun y => ladD rs x' y z) = none) ⟨⟨_, _, _, _, _, rfl⟩, Same.refl _, fun x' h => absurd h (Nat.not_lt_zero _)⟩ (fun i σ H' _ h => up_l h.2.1 hE1) ?_ ?_
  · rintro x u σ H2 hu ⟨⟨o2, o3, o4, o5, o6, rfl⟩, e2, no1⟩
    obtain ⟨hx, rfl⟩ := row hu
    refine ⟨_, rfl, ev, rfl, ⟨_, up_l e2 hE1⟩, fun D hD => ?_⟩
    refine lc_filtX (j := 4) (f := nV) (l := List.range rs.length) (fun z => bit rs x z) nV_inj hD (up_l e2 hE1) (by rw [List.length_range]; omega) (fun _ => rfl) ?_ (fun v H3 Q' k => ⟨_, rfl, k⟩) ?_
    · intro z H3 hz e3 Qb k
      have e23 := e2.trans e3
      refine ⟨_, rfl, b, dx, _, rfl, e23 _ _ hb1, rfl, _, rfl, _, rfl, ?_⟩
      dsimp only [tNil]
      exact below_ok (hB1.up e23).lines sq hx (List.mem_range.mp hz) fun H4 e4 => ⟨_, rfl, k H4 e4⟩
    intro H3 e3 hD3
    have e13 := e2.trans e3
    refine ⟨D, rfl, ⟨_, SqL.of hD3⟩, ?_⟩
    refine for_list (K := K) (a := D) (xs := ((List.range rs.length).filter fun z => bit rs x z).map nV) (fun j σ H' => (∃ o3 o4 o5 o6, σ = [some (.ref b), some (.ref ev), some (nV x), o3, o4, o5, o6]) ∧ Same H3 H' ∧ ∀ z' ∈ ((List.range rs.length).filter fun z => bit rs x z).take j, ((List.range rs.length).findSome? fun y => ladD rs x y z') = none) ⟨⟨_, _, _, _, rfl⟩, Same.refl _, fun z' h => by cases h⟩ (fun i σ H' _ h => up_l h.2.1 (SqL.of hD3)) ?_ ?_
    · rintro j u σ H4 hu ⟨⟨o3, o4, o5, o6, rfl⟩, e4, no2⟩
      obtain ⟨z, hz, rfl⟩ := map_get hu
      have hzz := hz
      have hz : z < rs.length := List.mem_range.mp (List.mem_filter.mp (List.mem_of_getElem? hz)).1
      have e14 := e13.trans e4
      refine ⟨_, rfl, ev, rfl, ⟨_, up_l e14 hE1⟩, ?_⟩
      refine for_list (K := K) (a := ev) (xs := (List.range rs.length).map nV) (fun k σ H' => (∃ o4 o5 o6, σ = [some (.ref b), some (.ref ev), some (nV x), some (nV z), o4, o5, o6]) ∧ Same H4 H' ∧ ∀ y' < k, ladD rs x y' z = none) ⟨⟨_, _, _, rfl⟩, Same.refl _, fun y' h => absurd h (Nat.not_lt_zero _)⟩ (fun i σ H' _ h => up_l (e14.trans h.2.1) hE1) ?_ ?_
      · rintro y u σ H5 hu ⟨⟨o4, o5, o6, rfl⟩, e5, no3⟩
        obtain ⟨hy, rfl⟩ := row hu
        have e15 := e14.trans e5
        refine ⟨_, rfl, _, rfl, _, rfl, _, rfl, b, dx, li, rs, x, y, z, rfl, hB1.up e15, hx, hy, hz, fun v H6 e6 hv => ?_⟩
        refine ⟨_, rfl, _, rfl, ?_⟩
        cases hl : ladD rs x y z with
        | none =>
          rw [hl] at hv
          obtain rfl := hv
          refine ⟨⟨_, _, _, rfl⟩, e5.trans e6, fun y' hy' => ?_⟩
          by_cases e : y' = y
          · subst e; exact hl
          · exact no3 y' (by omega)
        | some d =>
          rw [hl] at hv
          rw [decide_eq_false hv.2]
          refine ⟨_, rfl, q _ _ (e15.trans e6) ?_⟩
          have a1 : ((List.range rs.length).findSome? fun y => ladD rs x y z) = some d := first_at (range_at hy) (fun y' h => no3 y' (range_take h)) hl
          have a2 : (((List.range rs.length).filter fun z => bit rs x z).findSome? fun z => (List.range rs.length).findSome? fun y => ladD rs x y z) = some d := first_at hzz no2 a1
          have a3 : ladsD rs = some d := first_at (range_at hx) (fun x' h => no1 x' (range_take h)) a2
          unfold findD
          rw [a3]
          exact hv
      · rintro σ H5 ⟨⟨o4, o5, o6, rfl⟩, e5, no3⟩
        refine ⟨⟨_, _, _, _, rfl⟩, e4.trans e5, fun z' hz' => ?_⟩
        rw [List.take_add_one, hzz] at hz'
        rcases List.mem_append.mp hz' with h | h
        · exact no2 z' h
        · obtain rfl : z' = z := by simpa using h
          exact first_no fun y' h => no3 y' (by rw [List.length_map, List.length_range]; exact List.mem_range.mp h)
    · rintro σ H4 ⟨⟨o3, o4, o5, o6, rfl⟩, e4, no2⟩
      refine ⟨⟨_, _, _, _, _, rfl⟩, e13.trans e4, fun x' hx' => ?_⟩
      by_cases e : x' = x
      · subst e
        rw [List.length_map, List.take_length] at no2
        exact first_no no2
      · exact no1 x' (by omega)
  rintro σ H2 ⟨⟨o2, o3, o4, o5, o6, rfl⟩, e2, no1⟩
  have l0 : ladsD rs = none := first_no fun x' h => no1 x' (by rw [List.length_map, List.length_range]; exact List.mem_range.mp h)
  have fd : findD rs = fansD rs := by unfold findD; rw [l0]
  clear no1
  refine ⟨_, rfl, ev, rfl, ⟨_, up_l e2 hE1⟩, ?_⟩
  refine for_list (K := K) (a := ev) (xs := (List.range rs.length).map nV) (fun i σ H' => (∃ o2 o3 o4 o5 o6, σ = [some (.ref b), some (.ref ev), o2, o3, o4, o5, o6]) ∧ Same H1 H' ∧ ∀ x' < i, ((List.range x').findSome? fun y => (List.range y).findSome? fun z => fanD rs x' y z) = none) ⟨⟨_, _, _, _, _, rfl⟩, e2, fun x' h => absurd h (Nat.not_lt_zero _)⟩ (fun i σ H' _ h => up_l h.2.1 hE1) ?_ ?_
  · rintro x u σ H3 hu ⟨⟨o2, o3, o4, o5, o6, rfl⟩, e3, no1⟩
    obtain ⟨hx, rfl⟩ := row hu
    refine ⟨_, rfl, x, rfl, by omega, by omega, ?_⟩
    refine for_range (lo := 0) (n := x) (fun i σ H' => (∃ o3 o4 o5 o6, σ = [some (.ref b), some (.ref ev), some (nV x), o3, o4, o5, o6]) ∧ Same H3 H' ∧ ∀ y' < i, ((List.range y').findSome? fun z => fanD rs x y' z) = none) ⟨⟨_, _, _, _, rfl⟩, Same.refl _, fun y' h => absurd h (Nat.not_lt_zero _)⟩ ?_ ?_
    · rintro y σ H4 hy ⟨⟨o3, o4, o5, o6, rfl⟩, e4, no2⟩
      rw [Int.zero_add]
      refine ⟨_, rfl, y, rfl, by omega, by omega, ?_⟩
      refine for_range (lo := 0) (n := y) (fun i σ H' => (∃ o3 o4 o6, σ = [some (.ref b), some (.ref ev), some (nV x), o3, o4, some (nV y), o6]) ∧ Same H4 H' ∧ ∀ z' < i, fanD rs x y z' = none) ⟨⟨_, _, _, rfl⟩, Same.refl _, fun z' h => absurd h (Nat.not_lt_zero _)⟩ ?_ ?_
      · rintro z σ H5 hz ⟨⟨o3, o4, o6, rfl⟩, e5, no3⟩
        rw [Int.zero_add]
        have e15 := e3.trans (e4.trans e5)
        refine ⟨_, rfl, _, rfl, _, rfl, _, rfl, b, dx, li, rs, x, y, z, rfl, hB1.up e15, hx, by omega, by omega, fun v H6 e6 hv => ?_⟩
        refine ⟨_, rfl, _, rfl, ?_⟩
        cases hl : fanD rs x y z with
        | none =>
          rw [hl] at hv
          obtain rfl := hv
          refine ⟨⟨_, _, _, rfl⟩, e5.trans e6, fun z' hz' => ?_⟩
          by_cases e : z' = z
          · subst e; exact hl
          · exact no3 z' (by omega)
        | some d =>
          rw [hl] at hv
          rw [decide_eq_false hv.2]
          refine ⟨_, rfl, q _ _ (e15.trans e6) ?_⟩
          have a1 : ((List.range y).findSome? fun z => fanD rs x y z) = some d := first_at (range_at hz) (fun z' h => no3 z' (range_take h)) hl
          have a2 : ((List.range x).findSome? fun y => (List.range y).findSome? fun z => fanD rs x y z) = some d := first_at (range_at hy) (fun y' h => no2 y' (range_take h)) a1
          have a3 : fansD rs = some d := first_at (range_at hx) (fun x' h => no1 x' (range_take h)) a2
          rw [fd, a3]
          exact hv
      · rintro σ H5 ⟨⟨o3, o4, o6, rfl⟩, e5, no3⟩
        refine ⟨⟨_, _, _, _, rfl⟩, e4.trans e5, fun y' hy' => ?_⟩
        by_cases e : y' = y
        · subst e
          exact first_no fun z' h => no3 z' (List.mem_range.mp h)
        · exact no2 y' (by omega)
    · rintro σ H4 ⟨⟨o3, o4, o5, o6, rfl⟩, e4, no2⟩
      refine ⟨⟨_, _, _, _, _, rfl⟩, e3.trans e4, fun x' hx' => ?_⟩
      by_cases e : x' = x
      · subst e
        exact first_no fun y' h => no2 y' (List.mem_range.mp h)
      · exact no1 x' (by omega)
  rintro σ H3 ⟨_, e3, no1⟩
  refine q _ _ e3 ?_
  rw [fd, show fansD rs = none from first_no fun x' h => no1 x' (by rw [List.length_map, List.length_range]; exact List.mem_range.mp h)]
  rfl
theorem ok_findX {f : Addr} {fd : FuncData} (F : FunD K "find_fault" "find_fault" (defArgs s_find_fault) (defBody s_find_fault) (defScope s_find_fault) [] [] f fd) (hm : mg "find_fault" = some (.ref f)) (T : Top K mg)
    (D_Board___len__ : MethD P w K mg base "Board" "__len__" 1 ["self"] (spLenB K)) (D_Board_is_below : MethX P w K mg base "Board" "is_below" 5 ["self", "one", "other"] (spBelow K))
    (D_ladder_at : Def P w K mg base "ladder_at" 1 ["board", "one", "other", "last"] (spLadX K ladD)) (D_fan_at : Def P w K mg base "fan_at" 1 ["board", "one", "other", "last"] (spLadX K fanD)) : Def P w K mg base "find_fault" 6 ["board"] (spFindX K) :=
  ⟨f, fd, fn_findX F T D_Board___len__ D_Board_is_below D_ladder_at D_fan_at, hm, F.kp, F.bindsN fun _ _ _ _ _ _ us hl => match us, hl with | [_], _ => rfl⟩
end
end FF
/-! a board put between two chains: the plain law -/
namespace FF
open PySem PySem.Spec PyProof.Rows L2
def inP (lo n x : Nat) : Prop := lo ≤ x ∧ x < lo + n
instance (lo n x : Nat) : Decidable (inP lo n x) := inferInstanceAs (Decidable (lo ≤ x ∧ x < lo + n))
def bS (rs : List Str) (lo x y : Nat) : Bool := if inP lo rs.length x ∧ inP lo rs.length y then bit rs (x - lo) (y - lo) else decide (x ≤ y)
def sumR (lo : Nat) (rs : List Str) (hi : Nat) : List Str := (List.range (lo + rs.length + hi)).map fun x => digRow (lo + rs.length + hi) fun y => bS rs lo x y
theorem sum_len (lo : Nat) (rs : List Str) (hi : Nat) : (sumR lo rs hi).length = lo + rs.length + hi := by
  unfold sumR
  rw [List.length_map, List.length_range]
theorem sum_bit {lo hi : Nat} {rs : List Str} {x y : Nat} (hx : x < lo + rs.length + hi) (hy : y < lo + rs.length + hi) : bit (sumR lo rs hi) x y = bS rs lo x y := by
  have hr : (sumR lo rs hi)[x]? = some (digRow (lo + rs.length + hi) fun y => bS rs lo x y) := by
    unfold sumR
    rw [List.getElem?_map, List.getElem?_range hx] <;> rfl
  show (match (sumR lo rs hi)[x]? with | some r => (tl r)[y]? == some 49 | none => false) = _
  rw [hr]
  show ((((List.range (lo + rs.length + hi)).map fun y => if bS rs lo x y = true then 49 else 48).toArray.toList)[y]? == some 49) = _
  rw [List.toList_toArray, List.getElem?_map, List.getElem?_range hy, Option.map_some]
  generalize bS rs lo x y = q
  cases q <;> rfl
theorem sum_sq {lo hi : Nat} {rs : List Str} (h1 : 1 ≤ rs.length) (h : lo + rs.length + hi ≤ 60) : Sq (sumR lo rs hi) := by
  refine ⟨by rw [sum_len]; omega, by rw [sum_len]; exact h, fun r hr => ?_, fun r hr => ?_⟩
  · obtain ⟨i, _, rfl⟩ := List.mem_map.mp hr
    rw [dig_len, sum_len]
  · obtain ⟨i, _, rfl⟩ := List.mem_map.mp hr
    exact dig_bits _ _
section
variable {rs : List Str} {lo hi : Nat}
theorem bS_in {x y : Nat} (hx : inP lo rs.length x) (hy : inP lo rs.length y) : bS rs lo x y = bit rs (x - lo) (y - lo) := if_pos ⟨hx, hy⟩
theorem bS_out {x y : Nat} (h : ¬ (inP lo rs.length x ∧ inP lo rs.length y)) : bS rs lo x y = decide (x ≤ y) := if_neg h
theorem inP_sub {n x : Nat} (h : inP lo n x) : x - lo < n := by
  obtain ⟨h1, h2⟩ := h
  omega
/-- both inside: by the inner board; else by the numbers -/
def sumF (lo n : Nat) (f g : Nat → Nat → Nat) (x y : Nat) : Nat := if inP lo n x ∧ inP lo n y then lo + f (x - lo) (y - lo) else g x y
theorem sumF_in {n : Nat} {f g : Nat → Nat → Nat} {x y : Nat} (hx : inP lo n x) (hy : inP lo n y) : sumF lo n f g x y = lo + f (x - lo) (y - lo) := if_pos ⟨hx, hy⟩
theorem sumF_out {n : Nat} {f g : Nat → Nat → Nat} {x y : Nat} (h : ¬ (inP lo n x ∧ inP lo n y)) : sumF lo n f g x y = g x y := if_neg h
variable (L : Lat rs) (h60 : lo + rs.length + hi ≤ 60)
include L
theorem bS_refl (x : Nat) : bS rs lo x x = true := by
  by_cases h : inP lo rs.length x
  · rw [bS_in h h]
    exact L.ord.refl _ (inP_sub h)
  · rw [bS_out fun z => h z.1]
    exact decide_eq_true (Nat.le_refl _)
theorem bS_trans {x y z : Nat} (a : bS rs lo x y = true) (b : bS rs lo y z = true) : bS rs lo x z = true := by
  by_cases hx : inP lo rs.length x <;> by_cases hy : inP lo rs.length y <;> by_cases hz : inP lo rs.length z
  · rw [bS_in hx hy] at a
    rw [bS_in hy hz] at b
    rw [bS_in hx hz]
    exact L.ord.trans _ _ _ (inP_sub hx) (inP_sub hy) (inP_sub hz) a b
  all_goals
    first
    | rw [bS_in hx hy] at a
    | (rw [bS_out (by intro z; first | exact hx z.1 | exact hy z.2)] at a; have a := of_decide_eq_true a)
    first
    | rw [bS_in hy hz] at b
    | (rw [bS_out (by intro z; first | exact hy z.1 | exact hz z.2)] at b; have b := of_decide_eq_true b)
    first
    | (exfalso; unfold inP at hx hy hz; omega)
    | (rw [bS_out (by intro z; first | exact hx z.1 | exact hz z.2)]; refine decide_eq_true ?_; unfold inP at hx hy hz; omega)
theorem bS_anti {x y : Nat} (a : bS rs lo x y = true) (b : bS rs lo y x = true) : x = y := by
  by_cases h : inP lo rs.length x ∧ inP lo rs.length y
  · rw [bS_in h.1 h.2] at a
    rw [bS_in h.2 h.1] at b
    have := L.ord.anti _ _ (inP_sub h.1) (inP_sub h.2) a b
    obtain ⟨h1, h2⟩ := h
    unfold inP at h1 h2
    omega
  · rw [bS_out h] at a
    rw [bS_out fun z => h ⟨z.2, z.1⟩] at b
    exact Nat.le_antisymm (of_decide_eq_true a) (of_decide_eq_true b)
theorem sum_ord : Ord (lo + rs.length + hi) (bit (sumR lo rs hi)) := by
  refine ⟨fun i hi => ?_, fun i j k hi hj hk a b => ?_, fun i j hi hj a b => ?_⟩
  · rw [sum_bit hi hi]
    exact bS_refl L _
  · rw [sum_bit hi hj] at a
    rw [sum_bit hj hk] at b
    rw [sum_bit hi hk]
    exact bS_trans L a b
  · rw [sum_bit hi hj] at a
    rw [sum_bit hj hi] at b
    exact bS_anti L a b
theorem sumF_inP {x y : Nat} {f g : Nat → Nat → Nat} (hf : ∀ a b, a < rs.length → b < rs.length → f a b < rs.length) (hx : inP lo rs.length x) (hy : inP lo rs.length y) : inP lo rs.length (sumF lo rs.length f g x y) := by
  rw [sumF_in hx hy]
  have := hf _ _ (inP_sub hx) (inP_sub hy)
  unfold inP
  omega
theorem bS_low {x y : Nat} (w : Nat) : bS rs lo w (sumF lo rs.length (lowN rs) min x y) = true ↔ bS rs lo w x = true ∧ bS rs lo w y = true := by
  by_cases h : inP lo rs.length x ∧ inP lo rs.length y
  · obtain ⟨hx, hy⟩ := h
    have hl := sumF_inP L (f := lowN rs) (g := min) (fun a b ha hb => L.low_lt ha hb) hx hy
    by_cases hw : inP lo rs.length w
    · rw [bS_in hw hl, bS_in hw hx, bS_in hw hy, sumF_in hx hy, Nat.add_sub_cancel_left]
      exact L.low_iff (inP_sub hx) (inP_sub hy) (inP_sub hw)
    · rw [bS_out fun z => hw z.1, bS_out fun z => hw z.1, bS_out fun z => hw z.1, decide_eq_true_eq, decide_eq_true_eq, decide_eq_true_eq]
      unfold inP at hl hw hx hy
      omega
  · rw [sumF_out h]
    have key : bS rs lo x y = true ∨ bS rs lo y x = true := by
      rw [bS_out h, bS_out fun z => h ⟨z.2, z.1⟩, decide_eq_true_eq, decide_eq_true_eq]
      omega
    rcases key with k | k
    · have : min x y = x := by
        rw [bS_out h] at k
        exact Nat.min_eq_left (of_decide_eq_true k)
      rw [this]
      exact ⟨fun z => ⟨z, bS_trans L z k⟩, fun z => z.1⟩
    · have : min x y = y := by
        rw [bS_out fun z => h ⟨z.2, z.1⟩] at k
        exact Nat.min_eq_right (of_decide_eq_true k)
      rw [this]
      exact ⟨fun z => ⟨bS_trans L z k, z⟩, fun z => z.2⟩
theorem bS_up {x y : Nat} (w : Nat) : bS rs lo (sumF lo rs.length (upN rs) max x y) w = true ↔ bS rs lo x w = true ∧ bS rs lo y w = true := by
  by_cases h : inP lo rs.length x ∧ inP lo rs.length y
  · obtain ⟨hx, hy⟩ := h
    have hl := sumF_inP L (f := upN rs) (g := max) (fun a b ha hb => L.up_lt ha hb) hx hy
    by_cases hw : inP lo rs.length w
    · rw [bS_in hl hw, bS_in hx hw, bS_in hy hw, sumF_in hx hy, Nat.add_sub_cancel_left]
      exact L.up_iff (inP_sub hx) (inP_sub hy) (inP_sub hw)
    · rw [bS_out fun z => hw z.2, bS_out fun z => hw z.2, bS_out fun z => hw z.2, decide_eq_true_eq, decide_eq_true_eq, decide_eq_true_eq]
      unfold inP at hl hw hx hy
      omega
  · rw [sumF_out h]
    have key : bS rs lo x y = true ∨ bS rs lo y x = true := by
      rw [bS_out h, bS_out fun z => h ⟨z.2, z.1⟩, decide_eq_true_eq, decide_eq_true_eq]
      omega
    rcases key with k | k
    · have : max x y = y := by
        rw [bS_out h] at k
        exact Nat.max_eq_right (of_decide_eq_true k)
      rw [this]
      exact ⟨fun z => ⟨bS_trans L k z, z⟩, fun z => z.2⟩
    · have : max x y = x := by
        rw [bS_out fun z => h ⟨z.2, z.1⟩] at k
        exact Nat.max_eq_left (of_decide_eq_true k)
      rw [this]
      exact ⟨fun z => ⟨z, bS_trans L k z⟩, fun z => z.1⟩
theorem sumF_lt {x y : Nat} {f g : Nat → Nat → Nat} (hf : ∀ a b, a < rs.length → b < rs.length → f a b < rs.length) (hg : ∀ a b, g a b = a ∨ g a b = b) (hx : x < lo + rs.length + hi) (hy : y < lo + rs.length + hi) : sumF lo rs.length f g x y < lo + rs.length + hi := by
  by_cases h : inP lo rs.length x ∧ inP lo rs.length y
  · have := sumF_inP L (f := f) (g := g) hf h.1 h.2
    unfold inP at this
    omega
  · rw [sumF_out h]
    rcases hg x y with e | e <;> rw [e] <;> assumption
theorem sumlow_lt {x y : Nat} (hx : x < lo + rs.length + hi) (hy : y < lo + rs.length + hi) : sumF lo rs.length (lowN rs) min x y < lo + rs.length + hi := sumF_lt L (fun a b ha hb => L.low_lt ha hb) (fun a b => by omega) hx hy
theorem sumup_lt {x y : Nat} (hx : x < lo + rs.length + hi) (hy : y < lo + rs.length + hi) : sumF lo rs.length (upN rs) max x y < lo + rs.length + hi := sumF_lt L (fun a b ha hb => L.up_lt ha hb) (fun a b => by omega) hx hy
include h60
theorem sum_board : progBoard (sumR lo rs hi) = true := by
  have sq := sum_sq L.sq.pos h60
  have e := sum_len lo rs hi
  have o2 : Ord (sumR lo rs hi).length (bit (sumR lo rs hi)) := by
    rw [e]
    exact sum_ord L
  rw [board_alike]
  unfold lawBoard
  rw [sq_iff.mpr sq, orderL_iff.mpr o2, (bounds_iff o2).mpr ?_] <;> try rfl
  rw [e]
  refine ⟨fun i j hi' hj => ⟨_, sumlow_lt L hi' hj, fun w hw => ?_⟩, fun i j hi' hj => ⟨_, sumup_lt L hi' hj, fun w hw => ?_⟩⟩
  · rw [sum_bit hw (sumlow_lt L hi' hj), sum_bit hw hi', sum_bit hw hj]
    exact bS_low L w
  · show bit (sumR lo rs hi) _ w = true ↔ bit (sumR lo rs hi) i w = true ∧ bit (sumR lo rs hi) j w = true
    rw [sum_bit (sumup_lt L hi' hj) hw, sum_bit hi' hw, sum_bit hj hw]
    exact bS_up L w
theorem sum_lat : Lat (sumR lo rs hi) := lat_of (sum_board L h60)
theorem sumLow {x y : Nat} (hx : x < lo + rs.length + hi) (hy : y < lo + rs.length + hi) : lowN (sumR lo rs hi) x y = sumF lo rs.length (lowN rs) min x y := by
  have e := sum_len lo rs hi
  have hz := sumlow_lt L hx hy
  exact low_is (sum_lat L h60) (by omega) (by omega) (by omega) fun w hw => by
    rw [e] at hw
    rw [sum_bit hw hz, sum_bit hw hx, sum_bit hw hy]
    exact bS_low L w
theorem sumUp {x y : Nat} (hx : x < lo + rs.length + hi) (hy : y < lo + rs.length + hi) : upN (sumR lo rs hi) x y = sumF lo rs.length (upN rs) max x y := by
  have e := sum_len lo rs hi
  have hz := sumup_lt L hx hy
  exact up_is (sum_lat L h60) (by omega) (by omega) (by omega) fun w hw => by
    rw [e] at hw
    rw [sum_bit hz hw, sum_bit hx hw, sum_bit hy hw]
    exact bS_up L w
theorem in_low {x y : Nat} (hx : x < rs.length) (hy : y < rs.length) : lowN (sumR lo rs hi) (lo + x) (lo + y) = lo + lowN rs x y := by
  rw [sumLow L h60 (by omega) (by omega), sumF_in (by unfold inP; omega) (by unfold inP; omega), Nat.add_sub_cancel_left, Nat.add_sub_cancel_left]
theorem in_up {x y : Nat} (hx : x < rs.length) (hy : y < rs.length) : upN (sumR lo rs hi) (lo + x) (lo + y) = lo + upN rs x y := by
  rw [sumUp L h60 (by omega) (by omega), sumF_in (by unfold inP; omega) (by unfold inP; omega), Nat.add_sub_cancel_left, Nat.add_sub_cancel_left]
theorem sum_cmp {x y : Nat} (hx : x < lo + rs.length + hi) (hy : y < lo + rs.length + hi) (h : ¬ (inP lo rs.length x ∧ inP lo rs.length y)) : bit (sumR lo rs hi) x y = true ∨ bit (sumR lo rs hi) y x = true := by
  rw [sum_bit hx hy, sum_bit hy hx, bS_out h, bS_out fun z => h ⟨z.2, z.1⟩, decide_eq_true_eq, decide_eq_true_eq]
  omega
end
/-! ### what comparable places do -/
section
variable {α : Type} {le : α → α → Prop} {m j : α → α → α} (T : Ltc le m j)
include T
theorem Ltc.dis_yz {x y z : α} (h : le y z) : m x (j y z) = j (m x y) (m x z) := by
  rw [T.je h, T.je (T.mi.mpr ⟨T.ml, T.tr T.mr h⟩)]
theorem Ltc.dis_sym {x y z : α} (h : m x (j z y) = j (m x z) (m x y)) : m x (j y z) = j (m x y) (m x z) := by
  rw [T.jc, h, T.jc]
theorem Ltc.dis_xy {x y z : α} (h : le x y) : m x (j y z) = j (m x y) (m x z) := by
  rw [T.me (T.tr h T.jl), T.me h, T.jc, T.je T.ml]
theorem Ltc.dis_two {x y z : α} (h1 : le y x) (h2 : le z x) : m x (j y z) = j (m x y) (m x z) := by
  rw [T.mc, T.me (T.ji.mpr ⟨h1, h2⟩), T.mc (a := x) (b := y), T.me h1, T.mc (a := x) (b := z), T.me h2]
theorem Ltc.lad_cmp {x y z : α} (hl : le x y) (h1 : m x z = m y z) (h2 : j x z = j y z) (h : le x z ∨ le z x) : x = y := by
  rcases h with h | h
  · have a : le y z := by
      have : j y z = z := h2.symm.trans (T.je h)
      exact this ▸ T.jl
    have b : m y z = y := T.me a
    rw [← h1, T.me h] at b
    exact b
  · have a : j x z = x := by rw [T.jc]; exact T.je h
    have b : le y x := a ▸ h2 ▸ T.jl
    exact T.an hl b
theorem Ltc.lad_cmp2 {x y z : α} (hl : le x y) (h1 : m x z = m y z) (h2 : j x z = j y z) (h : le y z ∨ le z y) : x = y := by
  rcases h with h | h
  · have a : m x z = y := h1.trans (T.me h)
    have b : le y x := a ▸ T.ml
    exact T.an hl b
  · have a : j x z = y := h2.trans (by rw [T.jc]; exact T.je h)
    have c : m x z = z := by rw [h1, T.mc]; exact T.me h
    have d : le z x := c ▸ T.ml
    have e : j x z = x := by rw [T.jc]; exact T.je d
    exact e.symm.trans a
end
section
variable {rs : List Str} {lo hi : Nat} (L : Lat rs) (h60 : lo + rs.length + hi ≤ 60)
include L h60
theorem sum_spr : spreadsB (sumR lo rs hi) = spreadsB rs := by
  have e := sum_len lo rs hi
  have S := sum_lat L h60
  have T := S.ltc
  rw [Bool.eq_iff_iff]
  constructor
  · rw [spr_iff, spr_iff]
    intro h x y z hx hy hz
    have := h (lo + x) (lo + y) (lo + z) (by omega) (by omega) (by omega)
    rw [in_up L h60 hy hz, in_low L h60 hx (L.up_lt hy hz), in_low L h60 hx hy, in_low L h60 hx hz, in_up L h60 (L.low_lt hx hy) (L.low_lt hx hz)] at this
    omega
  · intro h
    rw [spr_dis S]
    have h := spr_iff.mp h
    rintro ⟨x, hx⟩ ⟨y, hy⟩ ⟨z, hz⟩
    have hx' := hx
    have hy' := hy
    have hz' := hz
    rw [e] at hx' hy' hz'
    by_cases ix : inP lo rs.length x
    · by_cases iy : inP lo rs.length y
      · by_cases iz : inP lo rs.length z
        · refine Subtype.ext ?_
          show lowN (sumR lo rs hi) x (upN (sumR lo rs hi) y z) = upN (sumR lo rs hi) (lowN (sumR lo rs hi) x y) (lowN (sumR lo rs hi) x z)
          have qx := inP_sub ix
          have qy := inP_sub iy
          have qz := inP_sub iz
          obtain ⟨ax, _⟩ := ix
          obtain ⟨ay, _⟩ := iy
          obtain ⟨az, _⟩ := iz
          obtain ⟨x, rfl⟩ := Nat.exists_eq_add_of_le ax
          obtain ⟨y, rfl⟩ := Nat.exists_eq_add_of_le ay
          obtain ⟨z, rfl⟩ := Nat.exists_eq_add_of_le az
          rw [Nat.add_sub_cancel_left] at qx qy qz
          rw [in_up L h60 qy qz, in_low L h60 qx (L.up_lt qy qz), in_low L h60 qx qy, in_low L h60 qx qz, in_up L h60 (L.low_lt qx qy) (L.low_lt qx qz), h x y z qx qy qz]
        · rcases sum_cmp L h60 hy' hz' (fun q => iz q.2) with c | c
          · exact T.dis_yz c
          · exact T.dis_sym (T.dis_yz c)
      · rcases sum_cmp L h60 hy' hz' (fun q => iy q.1) with c | c
        · exact T.dis_yz c
        · exact T.dis_sym (T.dis_yz c)
    · rcases sum_cmp L h60 hx' hy' (fun q => ix q.1) with c | c
      · exact T.dis_xy c
      · rcases sum_cmp L h60 hx' hz' (fun q => ix q.1) with d | d
        · exact T.dis_sym (T.dis_xy d)
        · exact T.dis_two c d
theorem sum_lad : HasLad (sumR lo rs hi) ↔ HasLad rs := by
  have e := sum_len lo rs hi
  have S := sum_lat L h60
  have T := S.ltc
  constructor
  · rintro ⟨x, y, z, hx, hy, hz, hb, hn, h1, h2⟩
    have hx' := hx
    have hy' := hy
    have hz' := hz
    rw [e] at hx' hy' hz'
    have c1 : ¬ (bit (sumR lo rs hi) x z = true ∨ bit (sumR lo rs hi) z x = true) := fun c => hn (congrArg Subtype.val (T.lad_cmp (x := ⟨x, hx⟩) (y := ⟨y, hy⟩) (z := ⟨z, hz⟩) hb (Subtype.ext h1) (Subtype.ext h2) c))
    have c2 : ¬ (bit (sumR lo rs hi) y z = true ∨ bit (sumR lo rs hi) z y = true) := fun c => hn (congrArg Subtype.val (T.lad_cmp2 (x := ⟨x, hx⟩) (y := ⟨y, hy⟩) (z := ⟨z, hz⟩) hb (Subtype.ext h1) (Subtype.ext h2) c))
    have i1 : inP lo rs.length x ∧ inP lo rs.length z := Classical.not_not.mp fun q => c1 (sum_cmp L h60 hx' hz' q)
    have i2 : inP lo rs.length y ∧ inP lo rs.length z := Classical.not_not.mp fun q => c2 (sum_cmp L h60 hy' hz' q)
    obtain ⟨ix, iz⟩ := i1
    obtain ⟨iy, _⟩ := i2
    have qx := inP_sub ix
    have qy := inP_sub iy
    have qz := inP_sub iz
    rw [sum_bit hx' hy', bS_in ix iy] at hb
    obtain ⟨ax, _⟩ := ix
    obtain ⟨ay, _⟩ := iy
    obtain ⟨az, _⟩ := iz
    obtain ⟨x, rfl⟩ := Nat.exists_eq_add_of_le ax
    obtain ⟨y, rfl⟩ := Nat.exists_eq_add_of_le ay
    obtain ⟨z, rfl⟩ := Nat.exists_eq_add_of_le az
    rw [Nat.add_sub_cancel_left] at qx qy qz
    rw [Nat.add_sub_cancel_left, Nat.add_sub_cancel_left] at hb
    rw [in_low L h60 qx qz, in_low L h60 qy qz] at h1
    rw [in_up L h60 qx qz, in_up L h60 qy qz] at h2
    exact ⟨x, y, z, qx, qy, qz, hb, fun z => hn (by rw [z]), by omega, by omega⟩
  · rintro ⟨x, y, z, hx, hy, hz, hb, hn, h1, h2⟩
    refine ⟨lo + x, lo + y, lo + z, by omega, by omega, by omega, ?_, by omega, ?_, ?_⟩
    · rw [sum_bit (by omega) (by omega), bS_in (by unfold inP; omega) (by unfold inP; omega), Nat.add_sub_cancel_left, Nat.add_sub_cancel_left]
      exact hb
    · rw [in_low L h60 hx hz, in_low L h60 hy hz, h1]
    · rw [in_up L h60 hx hz, in_up L h60 hy hz, h2]
end
/-! ### ladders of products, of what spreads -/
theorem spr_nolad {rs : List Str} (L : Lat rs) (h : spreadsB rs = true) : ¬ HasLad rs := fun ⟨x, y, z, hx, hy, hz, hb, hn, h1, h2⟩ =>
  hn (congrArg Subtype.val (L.ltc.no_lad ((spr_dis L).mp h) (p := ⟨x, hx⟩) (q := ⟨y, hy⟩) (y := ⟨z, hz⟩) hb rfl (Subtype.ext h1.symm) rfl (Subtype.ext h2.symm)))
theorem prod_lad {rs ts : List Str} (L : Lat rs) (M : Lat ts) (h60 : rs.length * ts.length ≤ 60) (h : HasLad (prodR rs ts)) : HasLad rs ∨ HasLad ts := by
  obtain ⟨x, y, z, hx, hy, hz, hb, hn, h1, h2⟩ := h
  have e := prod_len rs ts
  rw [e] at hx hy hz
  rw [prod_bit hx hy] at hb
  obtain ⟨b1, b2⟩ := Bool.and_eq_true_iff.mp hb
  rw [prodLow L M h60 hx hz, prodLow L M h60 hy hz] at h1
  rw [prodUp L M h60 hx hz, prodUp L M h60 hy hz] at h2
  have l1 := byP_div L M h60 (f := lowN rs) (g := lowN ts) (i := x) (j := z) (M.low_lt (mod_lt' hx) (mod_lt' hz))
  have l2 := byP_div L M h60 (f := lowN rs) (g := lowN ts) (i := y) (j := z) (M.low_lt (mod_lt' hy) (mod_lt' hz))
  have u1 := byP_div L M h60 (f := upN rs) (g := upN ts) (i := x) (j := z) (M.up_lt (mod_lt' hx) (mod_lt' hz))
  have u2 := byP_div L M h60 (f := upN rs) (g := upN ts) (i := y) (j := z) (M.up_lt (mod_lt' hy) (mod_lt' hz))
  rw [h1] at l1
  rw [h2] at u1
  by_cases c : x / ts.length = y / ts.length
  · refine .inr ⟨x % ts.length, y % ts.length, z % ts.length, mod_lt' hx, mod_lt' hy, mod_lt' hz, b2, fun q => hn ?_, l1.2.symm.trans l2.2, u1.2.symm.trans u2.2⟩
    rw [← pair_eq x ts.length, ← pair_eq y ts.length, c, q]
  · exact .inl ⟨x / ts.length, y / ts.length, z / ts.length, div_lt' hx, div_lt' hy, div_lt' hz, b1, c, l1.1.symm.trans l2.1, u1.1.symm.trans u2.1⟩
/-! ### the inner boards: five or four sets in any order -/
def sub2 (a b : Nat) : Prop := a &&& b = a
instance (a b : Nat) : Decidable (sub2 a b) := inferInstanceAs (Decidable (a &&& b = a))
def isLow (S : List Nat) (p a b : Nat) : Prop := ∀ w ∈ S, sub2 w p ↔ sub2 w a ∧ sub2 w b
def isUp (S : List Nat) (p a b : Nat) : Prop := ∀ w ∈ S, sub2 p w ↔ sub2 a w ∧ sub2 b w
instance (S : List Nat) (p a b : Nat) : Decidable (isLow S p a b) := inferInstanceAs (Decidable (∀ w ∈ S, sub2 w p ↔ sub2 w a ∧ sub2 w b))
instance (S : List Nat) (p a b : Nat) : Decidable (isUp S p a b) := inferInstanceAs (Decidable (∀ w ∈ S, sub2 p w ↔ sub2 a w ∧ sub2 b w))
section
variable {S ms : List Nat} (F : Fam S) (hp : ms.Perm S) (h60 : ms.length ≤ 60)
include F hp h60
theorem fam_lat : Lat (rowsOf ms) := lat_of (fam_board (F.perm hp) h60)
omit F h60 in
theorem fam_in {i : Nat} (hi : i < ms.length) : ms[i] ∈ S := hp.mem_iff.mp (List.getElem_mem hi)
omit F h60 in
theorem fam_at {a : Nat} (ha : a ∈ S) : ∃ i, ∃ hi : i < ms.length, ms[i] = a := List.getElem_of_mem (hp.mem_iff.mpr ha)
omit hp h60 in
theorem fam_low_lt {x y : Nat} (L : Lat (rowsOf ms)) (hx : x < ms.length) (hy : y < ms.length) : lowN (rowsOf ms) x y < ms.length := by
  have := L.low_lt (x := x) (y := y) (by rw [rowsOf_len]; exact hx) (by rw [rowsOf_len]; exact hy)
  rw [rowsOf_len] at this
  exact this
omit hp h60 in
theorem fam_up_lt {x y : Nat} (L : Lat (rowsOf ms)) (hx : x < ms.length) (hy : y < ms.length) : upN (rowsOf ms) x y < ms.length := by
  have := L.up_lt (x := x) (y := y) (by rw [rowsOf_len]; exact hx) (by rw [rowsOf_len]; exact hy)
  rw [rowsOf_len] at this
  exact this
theorem fam_low {x y p : Nat} (hx : x < ms.length) (hy : y < ms.length) (hpx : p < ms.length) (e : lowN (rowsOf ms) x y = p) : isLow S ms[p] ms[x] ms[y] := fun w hw => by
  obtain ⟨i, hi, rfl⟩ := fam_at hp hw
  have L := fam_lat F hp h60
  have := L.low_iff (x := x) (y := y) (w := i) (by rw [rowsOf_len]; exact hx) (by rw [rowsOf_len]; exact hy) (by rw [rowsOf_len]; exact hi)
  rw [e, bit_rowsOf hi hpx, bit_rowsOf hi hx, bit_rowsOf hi hy, decide_eq_true_eq, decide_eq_true_eq, decide_eq_true_eq] at this
  exact this
theorem fam_up {x y p : Nat} (hx : x < ms.length) (hy : y < ms.length) (hpx : p < ms.length) (e : upN (rowsOf ms) x y = p) : isUp S ms[p] ms[x] ms[y] := fun w hw => by
  obtain ⟨i, hi, rfl⟩ := fam_at hp hw
  have L := fam_lat F hp h60
  have := L.up_iff (x := x) (y := y) (w := i) (by rw [rowsOf_len]; exact hx) (by rw [rowsOf_len]; exact hy) (by rw [rowsOf_len]; exact hi)
  rw [e, bit_rowsOf hpx hi, bit_rowsOf hx hi, bit_rowsOf hy hi, decide_eq_true_eq, decide_eq_true_eq, decide_eq_true_eq] at this
  exact this
theorem fam_lad (h : HasLad (rowsOf ms)) : ∃ a ∈ S, ∃ b ∈ S, ∃ c ∈ S, sub2 a b ∧ a ≠ b ∧ (∃ p ∈ S, isLow S p a c ∧ isLow S p b c) ∧ ∃ p ∈ S, isUp S p a c ∧ isUp S p b c := by
  obtain ⟨x, y, z, hx, hy, hz, hb, hn, h1, h2⟩ := h
  rw [rowsOf_len] at hx hy hz
  have L := fam_lat F hp h60
  have l := fam_low_lt F L hx hz
  have u := fam_up_lt F L hx hz
  rw [bit_rowsOf hx hy, decide_eq_true_eq] at hb
  exact ⟨_, fam_in hp hx, _, fam_in hp hy, _, fam_in hp hz, hb, fun q => hn ((List.getElem_inj (F.perm hp).nd).mp q), ⟨_, fam_in hp l, fam_low F hp h60 hx hz l rfl, fam_low F hp h60 hy hz l h1.symm⟩, ⟨_, fam_in hp u, fam_up F hp h60 hx hz u rfl, fam_up F hp h60 hy hz u h2.symm⟩⟩
theorem lad_fam {a b c p q : Nat} (ha : a ∈ S) (hb : b ∈ S) (hc : c ∈ S) (hpm : p ∈ S) (hqm : q ∈ S) (hs : sub2 a b) (hn : a ≠ b) (k1 : ∀ r ∈ S, isLow S r a c → r = p) (k2 : ∀ r ∈ S, isLow S r b c → r = p) (k3 : ∀ r ∈ S, isUp S r a c → r = q) (k4 : ∀ r ∈ S, isUp S r b c → r = q) : HasLad (rowsOf ms) := by
  obtain ⟨x, hx, rfl⟩ := fam_at hp ha
  obtain ⟨y, hy, rfl⟩ := fam_at hp hb
  obtain ⟨z, hz, rfl⟩ := fam_at hp hc
  have L := fam_lat F hp h60
  have nd := (F.perm hp).nd
  have l1 := fam_low_lt F L hx hz
  have l2 := fam_low_lt F L hy hz
  have u1 := fam_up_lt F L hx hz
  have u2 := fam_up_lt F L hy hz
  refine ⟨x, y, z, by rw [rowsOf_len]; exact hx, by rw [rowsOf_len]; exact hy, by rw [rowsOf_len]; exact hz, ?_, fun e => hn (by subst e; rfl), ?_, ?_⟩
  · rw [bit_rowsOf hx hy]
    exact decide_eq_true hs
  · exact (List.getElem_inj (h₀ := l1) (h₁ := l2) nd).mp ((k1 _ (fam_in hp l1) (fam_low F hp h60 hx hz l1 rfl)).trans (k2 _ (fam_in hp l2) (fam_low F hp h60 hy hz l2 rfl)).symm)
  · exact (List.getElem_inj (h₀ := u1) (h₁ := u2) nd).mp ((k3 _ (fam_in hp u1) (fam_up F hp h60 hx hz u1 rfl)).trans (k4 _ (fam_in hp u2) (fam_up F hp h60 hy hz u2 rfl)).symm)
theorem fam_at3 {x y z : Nat} (hx : x < ms.length) (hy : y < ms.length) (hz : z < ms.length) : ∃ u ∈ S, ∃ p ∈ S, ∃ q ∈ S, ∃ r ∈ S, ∃ s ∈ S, isUp S u ms[y] ms[z] ∧ isLow S p ms[x] u ∧ isLow S q ms[x] ms[y] ∧ isLow S r ms[x] ms[z] ∧ isUp S s q r ∧ (lowN (rowsOf ms) x (upN (rowsOf ms) y z) = upN (rowsOf ms) (lowN (rowsOf ms) x y) (lowN (rowsOf ms) x z) ↔ p = s) := by
  have L := fam_lat F hp h60
  have nd := (F.perm hp).nd
  have u := fam_up_lt F L hy hz
  have p := fam_low_lt F L hx u
  have q := fam_low_lt F L hx hy
  have r := fam_low_lt F L hx hz
  have s := fam_up_lt F L q r
  exact ⟨_, fam_in hp u, _, fam_in hp p, _, fam_in hp q, _, fam_in hp r, _, fam_in hp s, fam_up F hp h60 hy hz u rfl, fam_low F hp h60 hx u p rfl, fam_low F hp h60 hx hy q rfl, fam_low F hp h60 hx hz r rfl, fam_up F hp h60 q r s rfl, (List.getElem_inj (h₀ := p) (h₁ := s) nd).symm⟩
end
def m3 : List Nat := [0, 1, 2, 4, 7]
def n5 : List Nat := [0, 1, 3, 4, 7]
def b4 : List Nat := [0, 1, 2, 3]
theorem fam_m3 : Fam m3 := ⟨by decide, by decide, by decide⟩
theorem fam_n5 : Fam n5 := ⟨by decide, by decide, by decide⟩
theorem fam_b4 : Fam b4 := ⟨by decide, by decide, by decide⟩
section
variable {ms : List Nat}
theorem m3_nolad (hp : ms.Perm m3) : ¬ HasLad (rowsOf ms) := fun h => by
  obtain ⟨a, ha, b, hb, c, hc, h1, h2, ⟨p, hp', h3, h4⟩, ⟨q, hq, h5, h6⟩⟩ := fam_lad fam_m3 hp (by rw [hp.length_eq]; decide) h
  have key : ∀ a ∈ m3, ∀ b ∈ m3, ∀ c ∈ m3, sub2 a b → a ≠ b → ∀ p ∈ m3, isLow m3 p a c → isLow m3 p b c → ∀ q ∈ m3, isUp m3 q a c → isUp m3 q b c → False := by decide +kernel
  exact key a ha b hb c hc h1 h2 p hp' h3 h4 q hq h5 h6
theorem n5_lad (hp : ms.Perm n5) : HasLad (rowsOf ms) := lad_fam fam_n5 hp (by rw [hp.length_eq]; decide) (a := 1) (b := 3) (c := 4) (p := 0) (q := 7) (by decide) (by decide) (by decide) (by decide) (by decide) (by decide) (by decide) (by decide +kernel) (by decide +kernel) (by decide +kernel) (by decide +kernel)
theorem m3_spr (hp : ms.Perm m3) : spreadsB (rowsOf ms) = false := by
  have h60 : ms.length ≤ 60 := by rw [hp.length_eq]; decide
  obtain ⟨x, hx, ex⟩ := fam_at hp (show 1 ∈ m3 by decide)
  obtain ⟨y, hy, ey⟩ := fam_at hp (show 2 ∈ m3 by decide)
  obtain ⟨z, hz, ez⟩ := fam_at hp (show 4 ∈ m3 by decide)
  obtain ⟨u, hu, p, hp', q, hq, r, hr, s, hs, h1, h2, h3, h4, h5, h6⟩ := fam_at3 fam_m3 hp h60 hx hy hz
  rw [ex] at h2 h3 h4
  rw [ey] at h1 h3
  rw [ez] at h1 h4
  have k1 : ∀ u ∈ m3, isUp m3 u 2 4 → u = 7 := by decide +kernel
  have k2 : ∀ p ∈ m3, isLow m3 p 1 7 → p = 1 := by decide +kernel
  have k3 : ∀ p ∈ m3, isLow m3 p 1 2 → p = 0 := by decide +kernel
  have k4 : ∀ p ∈ m3, isLow m3 p 1 4 → p = 0 := by decide +kernel
  have k5 : ∀ p ∈ m3, isUp m3 p 0 0 → p = 0 := by decide +kernel
  obtain rfl := k1 u hu h1
  obtain rfl := k2 p hp' h2
  obtain rfl := k3 q hq h3
  obtain rfl := k4 r hr h4
  obtain rfl := k5 s hs h5
  refine spr_false (x := x) (y := y) (z := z) (by rw [rowsOf_len]; exact hx) (by rw [rowsOf_len]; exact hy) (by rw [rowsOf_len]; exact hz) fun e => ?_
  exact absurd (h6.mp e) (by decide)
theorem b4_spr (hp : ms.Perm b4) : spreadsB (rowsOf ms) = true := by
  have h60 : ms.length ≤ 60 := by rw [hp.length_eq]; decide
  rw [spr_iff, rowsOf_len]
  intro x y z hx hy hz
  obtain ⟨u, hu, p, hp', q, hq, r, hr, s, hs, h1, h2, h3, h4, h5, h6⟩ := fam_at3 fam_b4 hp h60 hx hy hz
  have k1 : ∀ a ∈ b4, ∀ b ∈ b4, ∀ p ∈ b4, isUp b4 p a b → p = a ||| b := by decide +kernel
  have k2 : ∀ a ∈ b4, ∀ b ∈ b4, ∀ p ∈ b4, isLow b4 p a b → p = a &&& b := by decide +kernel
  have k3 : ∀ a ∈ b4, ∀ b ∈ b4, ∀ c ∈ b4, a &&& (b ||| c) = a &&& b ||| a &&& c := by decide +kernel
  have a := fam_in hp hx
  have b := fam_in hp hy
  have c := fam_in hp hz
  refine h6.mpr ?_
  rw [k2 _ a _ hu _ hp' h2, k1 _ b _ c _ hu h1, k1 _ hq _ hr _ hs h5, k2 _ a _ b _ hq h3, k2 _ a _ c _ hr h4]
  exact k3 _ a _ b _ c
end
/-! ### fans -/
theorem fan_bitX {n x y : Nat} (hx : x < n + 2) (hy : y < n + 2) : bit (fanR n) x y = decide (x = y ∨ x = 0 ∨ y = n + 1) := by
  have hr : (fanR n)[x]? = some (digRow (n + 2) fun y => decide (x = y ∨ x = 0 ∨ y = n + 1)) := by
    unfold fanR
    rw [List.getElem?_map, List.getElem?_range hx] <;> rfl
  rw [bit_at hr]
  show ((((List.range (n + 2)).map fun y => if decide (x = y ∨ x = 0 ∨ y = n + 1) = true then 49 else 48).toArray.toList)[y]? == some 49) = _
  rw [List.toList_toArray, List.getElem?_map, List.getElem?_range hy, Option.map_some]
  generalize decide (x = y ∨ x = 0 ∨ y = n + 1) = q
  cases q <;> rfl
theorem fan_noladX {n : Nat} (h2 : n ≤ 58) : ¬ HasLad (fanR n) := by
  rintro ⟨x, y, z, hx, hy, hz, hb, hn, h1, h2'⟩
  have L := lat_of (fan_board h2)
  have T := L.ltc
  have e := fan_len' n
  have le0 : ∀ w, w < (fanR n).length → bit (fanR n) 0 w = true := fun w hw => by rw [fan_bitX (by omega) (by omega)]; exact decide_eq_true (.inr (.inl rfl))
  have leT : ∀ w, w < (fanR n).length → bit (fanR n) w (n + 1) = true := fun w hw => by rw [fan_bitX (by omega) (by omega)]; exact decide_eq_true (.inr (.inr rfl))
  have go : (bit (fanR n) x z = true ∨ bit (fanR n) z x = true) → False := fun c => hn (congrArg Subtype.val (T.lad_cmp (x := ⟨x, hx⟩) (y := ⟨y, hy⟩) (z := ⟨z, hz⟩) hb (Subtype.ext h1) (Subtype.ext h2') c))
  have go2 : (bit (fanR n) y z = true ∨ bit (fanR n) z y = true) → False := fun c => hn (congrArg Subtype.val (T.lad_cmp2 (x := ⟨x, hx⟩) (y := ⟨y, hy⟩) (z := ⟨z, hz⟩) hb (Subtype.ext h1) (Subtype.ext h2') c))
  rw [fan_bitX (by omega) (by omega)] at hb
  rcases of_decide_eq_true hb with h | h | h
  · exact hn h
  · subst h
    exact go (.inl (le0 z hz))
  · subst h
    exact go2 (.inr (leT z hz))
theorem fan_not {n : Nat} (h1 : 3 ≤ n) (h2 : n ≤ 58) : spreadsB (fanR n) = false := by
  have L := lat_of (fan_board h2)
  have e := fan_len' n
  have lo : ∀ x y, 1 ≤ x → x ≤ n → 1 ≤ y → y ≤ n → x ≠ y → lowN (fanR n) x y = 0 := fun x y a1 a2 b1 b2 ne => low_is L (by omega) (by omega) (by omega) fun w hw => by
    rw [fan_bitX (by omega) (by omega), fan_bitX (by omega) (by omega), fan_bitX (by omega) (by omega), decide_eq_true_eq, decide_eq_true_eq, decide_eq_true_eq]
    omega
  have up : ∀ x y, 1 ≤ x → x ≤ n → 1 ≤ y → y ≤ n → x ≠ y → upN (fanR n) x y = n + 1 := fun x y a1 a2 b1 b2 ne => up_is L (by omega) (by omega) (by omega) fun w hw => by
    rw [fan_bitX (by omega) (by omega), fan_bitX (by omega) (by omega), fan_bitX (by omega) (by omega), decide_eq_true_eq, decide_eq_true_eq, decide_eq_true_eq]
    omega
  cases h : spreadsB (fanR n) with
  | false => rfl
  | true =>
    have := L.ltc.no_fan ((spr_dis L).mp h) (p := ⟨1, by omega⟩) (q := ⟨2, by omega⟩) (r := ⟨3, by omega⟩) (d := ⟨0, by omega⟩) (e := ⟨n + 1, by omega⟩) (Subtype.ext (lo 1 2 (by omega) (by omega) (by omega) (by omega) (by omega))) (Subtype.ext (lo 1 3 (by omega) (by omega) (by omega) (by omega) (by omega))) (Subtype.ext (up 1 2 (by omega) (by omega) (by omega) (by omega) (by omega))) (Subtype.ext (up 2 3 (by omega) (by omega) (by omega) (by omega) (by omega)))
    exact absurd (congrArg Subtype.val this) (fun z : 0 = 1 => by cases z)
/-! ### what find_fault finds -/
theorem find_fan {rs : List Str} (L : Lat rs) (h1 : spreadsB rs = false) (h2 : ¬ HasLad rs) : ∃ a x y z g, findD rs = some (mkF fanS a x y z g) ∧ a < rs.length ∧ x < rs.length ∧ y < rs.length ∧ z < rs.length ∧ g < rs.length ∧ faultD rs (mkF fanS a x y z g) = true := by
  cases h : findD rs with
  | none => exact absurd ((find_none L h).symm.trans h1) (by decide)
  | some d =>
    obtain ⟨⟨k, a, x, y, z, g, rfl, ha, hx, hy, hz, hg, hk, hl⟩, hf, _⟩ := find_some L h
    rcases hk with rfl | rfl
    · exact absurd (hl.mp rfl) h2
    · exact ⟨a, x, y, z, g, rfl, ha, hx, hy, hz, hg, hf⟩
theorem find_lad {rs : List Str} (L : Lat rs) (h2 : HasLad rs) : ∃ a x y z g, findD rs = some (mkF lad a x y z g) ∧ a < rs.length ∧ x < rs.length ∧ y < rs.length ∧ z < rs.length ∧ g < rs.length ∧ faultD rs (mkF lad a x y z g) = true := by
  cases h : findD rs with
  | none => exact absurd h2 (spr_nolad L (find_none L h))
  | some d =>
    obtain ⟨⟨k, a, x, y, z, g, rfl, ha, hx, hy, hz, hg, hk, hl⟩, hf, _⟩ := find_some L h
    have := hl.mpr h2
    subst this
    exact ⟨a, x, y, z, g, rfl, ha, hx, hy, hz, hg, hf⟩
theorem find_no {rs : List Str} (L : Lat rs) (h1 : spreadsB rs = true) : findD rs = none := by
  cases h : findD rs with
  | none => rfl
  | some d => exact absurd ((find_some L h).2.2.symm.trans h1) (by decide)
end FF
/-! the law's rows of a board between two chains; the law's walk over a fault -/
namespace FF
open PySem PySem.Spec PyProof.Rows L2
theorem low_row {lo hi n : Nat} {rs : List Str} {k : Nat} (hn : n = lo + rs.length + hi) (hk : k < lo) : repS "0" k ++ repS "1" (n - k) = digRow n fun y => bS rs lo k y := by
  rw [chain_text (by omega)]
  refine digRow_congr fun y _ => ?_
  rw [bS_out fun z => by have := z.1; unfold inP at this; omega]
theorem high_row {lo hi n : Nat} {rs : List Str} {k : Nat} (hn : n = lo + rs.length + hi) (hk : k < hi) : repS "0" (n - hi + k) ++ repS "1" (hi - k) = digRow n fun y => bS rs lo (lo + rs.length + k) y := by
  have e1 : n - hi + k = lo + rs.length + k := by omega
  have e2 : hi - k = n - (lo + rs.length + k) := by omega
  rw [e1, e2, chain_text (by omega)]
  refine digRow_congr fun y _ => ?_
  rw [bS_out fun z => by have := z.1; unfold inP at this; omega]
theorem mid_row {lo hi n : Nat} {rs : List Str} (sq : Sq rs) {k : Nat} {r : Str} (hn : n = lo + rs.length + hi) (hr : rs[k]? = some r) : repS "0" lo ++ r ++ repS "1" hi = digRow n fun y => bS rs lo (lo + k) y := by
  have hk : k < rs.length := (List.getElem?_eq_some_iff.mp hr).1
  have hrl : (tl r).length = rs.length := by
    have := sq.len r (List.mem_of_getElem? hr)
    exact this
  refine TL.ext_tl ?_
  show tl (repS "0" lo ++ r ++ repS "1" hi) = tl (digRow n fun y => bS rs lo (lo + k) y)
  rw [tl_app, tl_app, tl_rep0, tl_rep1, tl_dig]
  refine List.ext_getElem? fun y => ?_
  by_cases hy : y < n
  · rw [List.getElem?_map, List.getElem?_range hy]
    show _ = some (if bS rs lo (lo + k) y = true then 49 else 48)
    by_cases h1 : y < lo
    · rw [List.append_assoc, List.getElem?_append_left (by rw [List.length_replicate]; exact h1), List.getElem?_replicate, if_pos h1, bS_out (fun z => by have := z.2; unfold inP at this; omega), decide_eq_false (by omega)]
      rfl
    · by_cases h2 : y < lo + rs.length
      · rw [List.getElem?_append_left (by rw [List.length_append, List.length_replicate, hrl]; exact h2), List.getElem?_append_right (by rw [List.length_replicate]; omega), List.length_replicate, bS_in (by unfold inP; omega) (by unfold inP; omega), Nat.add_sub_cancel_left, bit_at hr]
        have hl : y - lo < (tl r).length := by omega
        have hb := sq.dig r (List.mem_of_getElem? hr) _ (List.getElem_mem hl)
        rw [List.getElem?_eq_getElem hl]
        generalize (tl r)[y - lo] = c at hb
        rcases hb with rfl | rfl <;> rfl
      · rw [List.getElem?_append_right (by rw [List.length_append, List.length_replicate, hrl]; omega), List.getElem?_replicate, List.length_append, List.length_replicate, hrl, if_pos (by omega), bS_out (fun z => by have := z.2; unfold inP at this; omega), decide_eq_true (by omega)]
        rfl
  · rw [List.getElem?_eq_none_iff.mpr (by rw [List.length_append, List.length_append, List.length_replicate, List.length_replicate, hrl]; omega), List.getElem?_eq_none_iff.mpr (by rw [List.length_map, List.length_range]; omega)]
theorem sum_rows {lo hi n : Nat} {rs : List Str} (sq : Sq rs) (hn : n = lo + rs.length + hi) : ((List.range lo).map (fun k => repS "0" k ++ repS "1" (n - k)) ++ rs.map fun r => repS "0" lo ++ r ++ repS "1" hi) ++ (List.range hi).map (fun k => repS "0" (n - hi + k) ++ repS "1" (hi - k)) = sumR lo rs hi := by
  refine List.ext_getElem? fun y => ?_
  unfold sumR
  rw [← hn]
  by_cases h1 : y < lo
  · rw [List.append_assoc, List.getElem?_append_left (by rw [List.length_map, List.length_range]; exact h1), List.getElem?_map, List.getElem?_range h1, List.getElem?_map, List.getElem?_range (by omega)]
    exact congrArg some (low_row hn h1)
  · by_cases h2 : y < lo + rs.length
    · rw [List.getElem?_append_left (by rw [List.length_append, List.length_map, List.length_range, List.length_map]; exact h2), List.getElem?_append_right (by rw [List.length_map, List.length_range]; omega), List.length_map, List.length_range, List.getElem?_map, List.getElem?_map, List.getElem?_range (by omega), List.getElem?_eq_getElem (by omega)]
      have := mid_row (hi := hi) sq hn (List.getElem?_eq_getElem (by omega : y - lo < rs.length))
      rw [show lo + (y - lo) = y by omega] at this
      exact congrArg some this
    · by_cases h3 : y < n
      · rw [List.getElem?_append_right (by rw [List.length_append, List.length_map, List.length_range, List.length_map]; omega), List.length_append, List.length_map, List.length_range, List.length_map, List.getElem?_map, List.getElem?_range (by omega), List.getElem?_map, List.getElem?_range h3]
        have := high_row (lo := lo) (rs := rs) hn (k := y - (lo + rs.length)) (by omega)
        rw [show lo + rs.length + (y - (lo + rs.length)) = y by omega] at this
        exact congrArg some this
      · rw [List.getElem?_eq_none_iff.mpr (by rw [List.length_append, List.length_append, List.length_map, List.length_range, List.length_map, List.length_map, List.length_range]; omega), List.getElem?_eq_none_iff.mpr (by rw [List.length_map, List.length_range]; omega)]
def spSummed (K : PySem.W.Frag) : Sp := fun vs H Q _ => ∃ (p : Addr) (rs : List Str) (lo hi : Nat), vs = [nV lo, .ref p, nV hi] ∧ SqL K H p (rs.map V.str) ∧ Sq rs ∧ lo + rs.length + hi ≤ 60 ∧ ∀ a H', H a = none → Same H H' → H' a = some (.lst ((sumR lo rs hi).map V.str)) → Q (.ref a) H'
section
variable {P : Program} {w : World} {K : PySem.W.Frag} {mg : Str → Option Value} {base : Heap}
theorem ok_summed {f : Addr} {fd : FuncData} (F : FunD K "_law_summed" "_law_summed" (defArgs s_law_summed) (defBody s_law_summed) (defScope s_law_summed) [] [] f fd) (hm : mg "_law_summed" = some (.ref f)) (T : Top K mg) : Def P w K mg base "_law_summed" 1 ["_law_low_here", "_law_rows_here", "_law_high"] (spSummed K) := by
  refine def_mk F hm (F.bindsN fun _ _ _ _ _ _ us hl => match us, hl with | [_, _, _], _ => rfl) sc_law_summed (fun vs H Q E h => ?_) (fun cdv A outer s H vs Q E hr h => ?_)
  · obtain ⟨p, rs, lo, hi, rfl, _⟩ := h
    rfl
  obtain ⟨p, rs, lo, hi, rfl, hS, sq, h60, q⟩ := h
  have sl := sq.len
  refine ⟨_, (pss_cons (ps_set (i := 3) sc_law_summed.nd rfl (Or.inr rfl) (pe_op op_add (pe_op op_add (pv 0) (pe_callB (call_lenK K) (by rfl) T.b_len (by decide +kernel) (pa_cons (pv 1) pa_nil))) (pv 2)))
  (pss_cons (ps_setLc (i := 4) (own := [("_law_k", 5)]) rfl sc_law_summed.nd rfl rfl (sw_true rfl rfl rfl (by kernel_rfl)) (pi_range1 (by rfl) T.b_range (pa_cons (pv 0) pa_nil)) (blkOk_by (by kernel_rfl)) (fun _ _ _ _ _ => (pg_name (i := 5) sc_law_summed.nd rfl (Or.inl rfl) (.inr rfl))) (fun _ _ _ _ _ => pts_nil) (fun _ _ _ _ _ => (pe_op op_add_str (pe_op op_rep_strX pe_str (pv 5)) (pe_op op_rep_strX pe_str (pe_op op_sub (pv 3) (pv 5))))))
  (pss_cons (ps_set (i := 4) sc_law_summed.nd rfl (Or.inl rfl) (pe_op op_cat (pv 4) (pe_lc (own := [("_law_row", 6)]) rfl sc_law_summed.nd (pi_listK K (pv 1)) (blkOk_by (by kernel_rfl)) (fun _ _ _ _ _ => (pg_name (i := 6) sc_law_summed.nd rfl (Or.inl rfl) (.inr rfl))) (fun _ _ _ _ _ => pts_nil) (fun _ _ _ _ _ => (pe_op op_add_str (pe_op op_add_str (pe_op op_rep_strX pe_str (pv 0)) (pv 6)) (pe_op op_rep_strX pe_str (pv 2)))))))
  (pss_one (ps_ret (pe_op op_cat (pv 4) (pe_lc (own := [("_law_k", 5)]) rfl sc_law_summed.nd (pi_range1 (by rfl) T.b_range (pa_cons (pv 2) pa_nil)) (blkOk_by (by kernel_rfl)) (fun _ _ _ _ _ => (pg_name (i := 5) sc_law_summed.nd rfl (Or.inl rfl) (.inr rfl))) (fun _ _ _ _ _ => pts_nil) (fun _ _ _ _ _ => (pe_op op_add_str (pe_op op_rep_strX pe_str (pe_op op_add (pe_op op_sub (pv 3) (pv 2)) (pv 5))) (pe_op op_rep_strX pe_str (pe_op op_sub (pv 2) (pv 5)))))))))))), ?_⟩
  refine ⟨_, rfl, _, rfl, .ref p, rs.length, rfl, .inl ⟨_, hS, (List.length_map _).symm⟩, _, _, rfl, rfl, _, rfl, _, _, rfl, rfl, ?_⟩
  obtain ⟨n, hn⟩ : ∃ n : Nat, n = lo + rs.length + hi := ⟨_, rfl⟩
  have hnI : (lo : Int) + (rs.length : Int) + (hi : Int) = (n : Int) := by omega
  have hadd : ∀ k : Nat, k < lo → ((n : Int) - (0 + (k : Int))).toNat = n - k := fun k hk => by omega
  rw [show (nV lo : V) = .int (lo : Int) from rfl]
  refine ⟨_, rfl, lo, rfl, by omega, by omega, fun D hD => ?_⟩
  refine lc_mapN (n := lo) (j := 5) (fun k => .str (repS "0" k ++ repS "1" (n - k))) hD (by omega) (fun _ => rfl) ?_ ?_
  · intro k H2 hk e2 Q' k'
    have k' := k' H2 (Same.refl _)
    have b1 := rep0_ok (n := 0 + (k : Int)) (by omega)
    have b2 := rep1_ok (n := (lo : Int) + (rs.length : Int) + (hi : Int) - (0 + (k : Int))) (by omega)
    refine ⟨_, rfl, _, _, rfl, rfl, b1.1, b1.2.1, b1.2.2, ?_⟩
    refine ⟨_, rfl, _, rfl, _, _, rfl, rfl, _, _, rfl, rfl, b2.1, b2.2.1, b2.2.2, ?_⟩
    have t1 : (0 + (k : Int)).toNat = k := by omega
    have t2 : ((lo : Int) + (rs.length : Int) + (hi : Int) - (0 + (k : Int))).toNat = n - k := by omega
    rw [t1, t2]
    refine ⟨_, _, rfl, rfl, le_line ?_, k'⟩
    rw [rep0_len, rep1_len]
    omega
  intro H2 e2 hD2
  have hS2 := up_l e2 hS
  refine ⟨_, rfl, _, rfl, p, rfl, ⟨_, hS2⟩, fun D2 hD2' => ?_⟩
  have hl60 : ∀ r ∈ rs, r.length ≤ 60 := fun r hr => by rw [sl r hr]; exact sq.le
  refine lc_mapX (j := 6) (f := V.str) (l := rs) (fun r => .str (repS "0" lo ++ r ++ repS "1" hi)) hD2' hS2 (by have := sq.le; omega) (fun _ => rfl) ?_ ?_
  · intro r H3 hr e3 Q' k'
    have k' := k' H3 (Same.refl _)
    have b1 := rep0_ok (n := (lo : Int)) (by omega)
    have b2 := rep1_ok (n := (hi : Int)) (by omega)
    have hr6 := hl60 r hr
    refine ⟨_, rfl, _, _, rfl, rfl, b1.1, b1.2.1, b1.2.2, ?_⟩
    refine ⟨_, rfl, _, _, rfl, rfl, le_line ?_, ?_⟩
    · rw [Int.toNat_natCast, rep0_len]
      omega
    refine ⟨_, rfl, _, _, rfl, rfl, b2.1, b2.2.1, b2.2.2, ?_⟩
    refine ⟨_, _, rfl, rfl, le_line ?_, ?_⟩
    · rw [str_len, Int.toNat_natCast, Int.toNat_natCast, rep0_len, rep1_len]
      omega
    rw [Int.toNat_natCast, Int.toNat_natCast]
    exact k'
  intro H3 e3 hD3
  refine ⟨D, D2, _, _, rfl, rfl, e3 _ _ hD2, hD3, le_line ?_, fun c1 hc1 => ?_⟩
  · rw [List.length_map, List.length_range, List.length_map]
    omega
  have e4 := same_new hc1 (.lst ((List.range lo).map (fun k => V.str (repS "0" k ++ repS "1" (n - k))) ++ rs.map fun r => V.str (repS "0" lo ++ r ++ repS "1" hi)))
  have h4 : (upd H3 c1 (.lst ((List.range lo).map (fun k => V.str (repS "0" k ++ repS "1" (n - k))) ++ rs.map fun r => V.str (repS "0" lo ++ r ++ repS "1" hi)))) c1 = some _ := upd_same
  generalize upd H3 c1 _ = H4 at e4 h4 ⊢
  refine ⟨_, rfl, _, rfl, hi, rfl, by omega, by omega, fun D3 hD3' => ?_⟩
  refine lc_mapN (n := hi) (j := 5) (fun k => .str (repS "0" (n - hi + k) ++ repS "1" (hi - k))) hD3' (by omega) (fun _ => rfl) ?_ ?_
  · intro k H5 hk e5 Q' k'
    have k' := k' H5 (Same.refl _)
    have b1 := rep0_ok (n := (lo : Int) + (rs.length : Int) + (hi : Int) - (hi : Int) + (0 + (k : Int))) (by omega)
    have b2 := rep1_ok (n := (hi : Int) - (0 + (k : Int))) (by omega)
    refine ⟨_, rfl, _, rfl, _, _, rfl, rfl, _, rfl, _, _, rfl, rfl, _, _, rfl, rfl, b1.1, b1.2.1, b1.2.2, ?_⟩
    refine ⟨_, rfl, _, rfl, _, _, rfl, rfl, _, _, rfl, rfl, b2.1, b2.2.1, b2.2.2, ?_⟩
    have t1 : ((lo : Int) + (rs.length : Int) + (hi : Int) - (hi : Int) + (0 + (k : Int))).toNat = n - hi + k := by omega
    have t2 : ((hi : Int) - (0 + (k : Int))).toNat = hi - k := by omega
    rw [t1, t2]
    refine ⟨_, _, rfl, rfl, le_line ?_, k'⟩
    rw [rep0_len, rep1_len]
    omega
  intro H5 e5 hD5
  refine ⟨c1, D3, _, _, rfl, rfl, e5 _ _ h4, hD5, le_line ?_, fun c2 hc2 => ?_⟩
  · rw [List.length_append, List.length_map, List.length_range, List.length_map, List.length_map, List.length_range]
    omega
  have e15 := ((e2.trans e3).trans e4).trans e5
  refine q c2 _ (e15.free hc2) (e15.trans (same_new hc2 _)) ?_
  rw [upd_same, ← sum_rows sq hn, List.map_append, List.map_append, List.map_map, List.map_map, List.map_map]
  rfl
def spWalked (K : PySem.W.Frag) : Sp := fun vs H Q _ => ∃ (p : Addr) (rs : List Str) (v : V) (k : Str) (a x y z g : Nat), vs = [.ref p, v, .str k] ∧ SqL K H p (rs.map V.str) ∧ Lat rs ∧ Dp K H v (mkF k a x y z g) ∧ a < rs.length ∧ x < rs.length ∧ y < rs.length ∧ z < rs.length ∧ g < rs.length ∧ (k = lad ∨ k = fanS) ∧ faultD rs (mkF k a x y z g) = true ∧ ∀ H', Same H H' → Q (.bl true) H'
theorem ok_walked {f : Addr} {fd : FuncData} (F : FunD K "_law_fault_walked" "_law_fault_walked" (defArgs s_law_fault_walked) (defBody s_law_fault_walked) (defScope s_law_fault_walked) [] [] f fd) (hm : mg "_law_fault_walked" = some (.ref f)) (T : Top K mg)
    (D_law_index : Def P w K mg base "_law_index" 1 ["_law_one", "_law_at"] (spIdx K)) (D_law_low : Def P w K mg base "_law_low" 1 ["_law_rows_here", "_law_x", "_law_y"] (spLowL K lowN)) (D_law_up : Def P w K mg base "_law_up" 1 ["_law_rows_here", "_law_x", "_law_y"] (spLowL K upN)) : Def P w K mg base "_law_fault_walked" 2 ["_law_rows_here", "_law_fault", "_law_kind"] (spWalked K) := by
  refine def_mk F hm (F.bindsN fun _ _ _ _ _ _ us hl => match us, hl with | [_, _, _], _ => rfl) sc_law_fault_walked (fun vs H Q E h => ?_) (fun cdv A outer s H vs Q E hr h => ?_)
  · obtain ⟨p, rs, v, k, a, x, y, z, g, rfl, _⟩ := h
    rfl
  obtain ⟨p, rs, v, k, a, x, y, z, g, rfl, hS, L, hv, ha, hx, hy, hz, hg, hk, hf, q⟩ := h
  have sq := L.sq
  have hok : okKind k = true := by rcases hk with rfl | rfl <;> decide +kernel
  unfold mkF at hf hv
  rw [faultD_tup, hok, restD_five, five_nodup ha hx hy hz hg, Bool.true_and, Bool.and_eq_true] at hf
  obtain ⟨nd, hfo⟩ := hf
  have nd : [(a : Int), x, y, z, g].Nodup := of_decide_eq_true nd
  unfold fiveOk at hfo
  obtain ⟨hl, hfo⟩ := (Bool.and_eq_true _ _).mp hfo
  have hall : ((pairsOf k x y z).map fun p => meets rs a g p.1 p.2).all id = true := by rw [meets_all]; exact hfo
  refine ⟨_, (pss_cons (ps_if (PW.pt (pw_or (pt_not (pt_val (pe_callB (call_isK K kb_tup) (by rfl) T.b_isinstance (by decide +kernel) (pa_cons (pv 1) (pa_cons (pe_bltn (v := .ty "tuple") (by rfl) T.b_tuple (by decide +kernel) rfl) pa_nil))))) (pw_or (pt_cmpR op_ne (pe_callB (call_lenK K) (by rfl) T.b_len (by decide +kernel) (pa_cons (pv 1) pa_nil)) pe_int (nomark _)) (pw_or (pt_cmpR (op_neK K hr.units) (pe_ix (ix_tupK K) (pv 1) pe_int (fun _ _ => rfl)) (pv 2) (nomark _)) (pw_or1 (pt_not (pt_val (pe_callB (call_isK K kb_tup) (by rfl) T.b_isinstance (by decide +kernel) (pa_cons (pe_ix (ix_tupK K) (pv 1) pe_int (fun _ _ => rfl)) (pa_cons (pe_bltn (v := .ty "tuple") (by rfl) T.b_tuple (by decide +kernel) rfl) pa_nil))))))))))
  (pss_one (ps_ret pe_bl))
  pss_nil)
  (pss_cons (ps_set (i := 3) sc_law_fault_walked.nd rfl (Or.inl rfl) (pe_ix (ix_tupK K) (pv 1) pe_int (fun _ _ => rfl)))
  (pss_cons (ps_if (PW.pt (pw_or (pt_cmpR op_ne (pe_callB (call_lenK K) (by rfl) T.b_len (by decide +kernel) (pa_cons (pv 3) pa_nil)) pe_int (nomark _)) (pw_or (pt_not (pt_val (pe_callB (cr_allK K rfl) (by rfl) T.b_all (by decide +kernel) (pa_cons (pe_lc (own := [("_law_x", 4)]) rfl sc_law_fault_walked.nd (pi_tupK K (pv 3)) (blkOk_by (by kernel_rfl)) (fun _ _ _ _ _ => (pg_name (i := 4) sc_law_fault_walked.nd rfl (Or.inl rfl) (.inr rfl))) (fun _ _ _ _ _ => pts_nil) (fun _ _ _ _ _ => (pe_def D_law_index hr (by first | decide | omega) (pa_cons (pv 4) (pa_cons (pe_callB (call_lenK K) (by rfl) T.b_len (by decide +kernel) (pa_cons (pv 0) pa_nil)) pa_nil))))) pa_nil)))) (pw_or1 (pt_cmpR op_lt (pe_callB cr_lenSetO (by rfl) T.b_len (by decide +kernel) (pa_cons (pe_callTy (cr_setI rfl) (by rfl) T.b_set (by decide +kernel) (pa_cons (pv 3) pa_nil)) pa_nil)) pe_int (nomark _))))))
  (pss_one (ps_ret pe_bl))
  pss_nil)
  (pss_cons (ps_asg (pv 3) (pg_tupK K (n := 5) rfl (pgs_cons (pg_name (i := 5) sc_law_fault_walked.nd rfl (Or.inr rfl) (.inl rfl)) (pgs_cons (pg_name (i := 4) sc_law_fault_walked.nd rfl (Or.inl rfl) (.inl rfl)) (pgs_cons (pg_name (i := 6) sc_law_fault_walked.nd rfl (Or.inl rfl) (.inl rfl)) (pgs_cons (pg_name (i := 7) sc_law_fault_walked.nd rfl (Or.inl rfl) (.inl rfl)) (pgs_cons (pg_name (i := 8) sc_law_fault_walked.nd rfl (Or.inr rfl) (.inl rfl)) pgs_nil)))))))
  (pss_cons (ps_set (i := 9) sc_law_fault_walked.nd rfl (Or.inl rfl) (pe_op op_cat (pe_lst (pa_cons (pe_tup (pa_cons (pv 4) (pa_cons (pv 7) pa_nil))) (pa_cons (pe_tup (pa_cons (pv 6) (pa_cons (pv 7) pa_nil))) pa_nil))) (pe_op op_rep (pe_lst (pa_cons (pe_tup (pa_cons (pv 4) (pa_cons (pv 6) pa_nil))) pa_nil)) (pe_callTy call_int1 (by rfl) T.b_int (by decide +kernel) (pa_cons (pe_cmpR op_eq (pv 2) pe_str (nomark _)) pa_nil)))))
  (C8.pss_cut (ps_if (PW.pt (pw_and (pt_cmpR op_eq (pv 2) pe_str (nomark _)) (pw_and1 (pt_cmpR op_ne (pe_ix ix_str (pe_ix (ix_listK K) (pv 0) (pv 4) (fun _ _ => rfl)) (pv 6) (fun _ _ => rfl)) pe_str (nomark _)))))
  (pss_one (ps_ret pe_bl))
  pss_nil)
  (pss_one (ps_ret (pe_callB (cr_allK K rfl) (by rfl) T.b_all (by decide +kernel) (pa_cons (pe_lc (own := [("_law_p", 10), ("_law_q", 11)]) rfl sc_law_fault_walked.nd (pi_listK K (pv 9)) (blkOk_by (by kernel_rfl)) (fun _ _ _ _ _ => (pg_tupK K (n := 2) rfl (pgs_cons (pg_name (i := 10) sc_law_fault_walked.nd rfl (Or.inl rfl) (.inr rfl)) (pgs_cons (pg_name (i := 11) sc_law_fault_walked.nd rfl (Or.inl rfl) (.inr rfl)) pgs_nil)))) (fun _ _ _ _ _ => pts_nil) (fun _ _ _ _ _ => (pe_and (pe_cmpR op_eq (pe_def D_law_low hr (by first | decide | omega) (pa_cons (pv 0) (pa_cons (pv 10) (pa_cons (pv 11) pa_nil)))) (pv 5) (nomark _)) (pe_one (pe_cmpR op_eq (pe_def D_law_up hr (by first | decide | omega) (pa_cons (pv 0) (pa_cons (pv 10) (pa_cons (pv 11) pa_nil)))) (pv 8) (nomark _)))))) pa_nil)))))))))), ?_⟩
  have hn0 : SeqAt.shaped (.str k) = true := by rcases hk with rfl | rfl <;> decide +kernel
  cases hv with
  | @tup ta vs ds hta hts =>
  cases hts with
  | @cons v0 _ _ _ hv0 hvr =>
  cases hvr with
  | @cons v1 _ _ _ hv1 hnil =>
  cases hnil
  cases hv0
  cases hv1 with
  | @tup tf fs _ htf hfs =>
  have hfe := dp_ints (xs := [a, x, y, z, g]) hfs
  subst hfe
  refine ⟨_, rfl, .ref ta, .tuple [.str k, .tuple [.int a, .int x, .int y, .int z, .int g]], rfl, .tup hta (.cons (.str k) (.cons (.tup htf hfs) .nil)), _, rfl, iteF ?_⟩
  refine ⟨_, rfl, _, _, rfl, .inr ⟨_, hta, rfl⟩, rfl, _, rfl, iteF ?_⟩
  refine ⟨_, rfl, ta, _, _, .str k, rfl, rfl, hta, at0, _, rfl, .str k, .str k, .str k, .str k, hn0, hn0, _, rfl, ?_⟩
  rw [SeqAt.eqv_refl _ (SeqAt.canLay_of_shaped hn0)]
  refine iteF ?_
  refine ⟨_, rfl, ta, _, _, .ref tf, rfl, rfl, hta, atI_nat (j := 1) rfl, .ref tf, .tuple [.int a, .int x, .int y, .int z, .int g], rfl, .tup htf hfs, _, rfl, iteF ?_⟩
  refine ⟨_, rfl, ta, _, _, .ref tf, rfl, rfl, hta, atI_nat (j := 1) rfl, ?_⟩
  refine ⟨_, rfl, _, _, rfl, .inr ⟨_, htf, rfl⟩, rfl, _, rfl, iteF ?_⟩
  refine ⟨_, rfl, tf, rfl, ⟨_, htf⟩, fun D hD => ?_⟩
  refine lc_mapT (j := 4) (fun _ u _ => u = .bl true) (fun _ _ _ _ _ h => h) hD htf (le_line (by show 5 ≤ 20000; decide)) (fun _ => rfl) ?_ ?_
  · intro i u H2 hu e2 Q' k'
    obtain ⟨m, rfl, hm⟩ : ∃ m : Nat, u = nV m ∧ m < rs.length := by
      have := List.mem_of_getElem? hu
      simp only [List.map_cons, List.map_nil, List.mem_cons, List.not_mem_nil, or_false] at this
      rcases this with rfl | rfl | rfl | rfl | rfl <;> exact ⟨_, rfl, by assumption⟩
    exact ⟨_, rfl, _, rfl, .ref p, rs.length, rfl, .inl ⟨_, up_l e2 hS, (List.length_map _).symm⟩, nV m, .int m, rs.length, rfl, .int m, by
      have : isPlaceD rs.length (.int m) = true := by
        show (decide ((0 : Int) ≤ m) && decide ((m : Int) < rs.length)) = true
        rw [decide_eq_true (by omega), decide_eq_true (by omega)] <;> rfl
      rw [this]
      exact k' _ _ (Same.refl _) rfl⟩
  intro H2 ys e2 hD2 hyl hy
  have hys : ys = ([true, true, true, true, true].map V.bl) := by
    refine List.ext_getElem? fun i => ?_
    by_cases hi : i < 5
    · have hi2 : i < ys.length := by rw [hyl]; exact hi
      have h1 := hy i _ (List.getElem?_eq_getElem hi2)
      rw [List.getElem?_eq_getElem hi2, h1]
      match i, hi with
      | 0, _ => rfl
      | 1, _ => rfl
      | 2, _ => rfl
      | 3, _ => rfl
      | 4, _ => rfl
    · rw [List.getElem?_eq_none_iff.mpr (by rw [hyl]; show 5 ≤ i; omega), List.getElem?_eq_none_iff.mpr (by show 5 ≤ i; omega)]
  subst hys
  refine ⟨D, _, rfl, SqL.of hD2, _, rfl, iteF ?_⟩
  have hta := up_t e2 hta
  have htf := up_t e2 htf
  have hS := up_l e2 hS
  have q := fun H' e => q H' (e2.trans e)
  clear hy hyl hD2 hD e2
  refine ⟨_, rfl, tf, _, rfl, htf, (by show 5 ≤ 1000; decide), fun D S n hD hSS hN => ?_⟩
  have hN : HasN [(a : Int), x, y, z, g] n := hN
  refine ⟨D, S, n, rfl, upd_same, by have h5 : n ≤ 5 := hN.le; omega, _, _, rfl, rfl, _, rfl, ?_⟩
  have n5 : n = 5 := hN.full.mpr nd
  refine if_dec (fun hlt => absurd hlt (by omega)) (fun _ => ?_)
  generalize hg1 : upd H2 D _ = Hn
  have e1 : Same H2 Hn := hg1 ▸ same_new hD _
  have htf := up_t e1 htf
  have hta := up_t e1 hta
  have hS := up_l e1 hS
  have q := fun H' e => q H' (e1.trans e)
  clear e1 hD hg1
  refine ⟨_, rfl, tf, _, rfl, htf, rfl, _, _, rfl, _, _, rfl, _, _, rfl, _, _, rfl, _, _, rfl, rfl, ?_⟩
  refine ⟨_, rfl, _, rfl, (by show 2 ≤ sizeLine; decide), fun p1 hp1 => ⟨_, rfl, _, rfl, (by show 2 ≤ sizeLine; decide), fun p2 hp2 => ⟨(by show 2 ≤ sizeLine; decide), fun l1 hl1 => ?_⟩⟩⟩
  generalize hg1 : upd Hn p1 _ = H3 at hp2 hl1 ⊢
  have e3 : Same Hn H3 := hg1 ▸ same_new hp1 _
  have a1 : H3 p1 = some (.tup [nV x, nV z]) := by rw [← hg1]; exact upd_same
  generalize hg2 : upd H3 p2 _ = H4 at hl1 ⊢
  have e4 : Same H3 H4 := hg2 ▸ same_new hp2 _
  have a2 : H4 p2 = some (.tup [nV y, nV z]) := by rw [← hg2]; exact upd_same
  generalize hg3 : upd H4 l1 _ = H5
  have e5 : Same H4 H5 := hg3 ▸ same_new hl1 _
  have a3 : H5 l1 = some (.lst [.ref p1, .ref p2]) := by rw [← hg3]; exact upd_same
  clear hg1 hg2 hg3
  refine ⟨_, rfl, _, rfl, (by show 2 ≤ sizeLine; decide), fun p3 hp3 => ⟨(by show 1 ≤ sizeLine; decide), fun l2 hl2 => ?_⟩⟩
  generalize hg1 : upd H5 p3 _ = H6 at hl2 ⊢
  have e6 : Same H5 H6 := hg1 ▸ same_new hp3 _
  have a4 : H6 p3 = some (.tup [nV x, nV y]) := by rw [← hg1]; exact upd_same
  generalize hg2 : upd H6 l2 _ = H7
  have e7 : Same H6 H7 := hg2 ▸ same_new hl2 _
  have a5 : H7 l2 = some (.lst [.ref p3]) := by rw [← hg2]; exact upd_same
  clear hg1 hg2
  refine ⟨_, rfl, rfl, ?_⟩
  generalize hb : decide (V.str k = V.str fanS) = bb
  refine .inr ⟨_, rfl, l2, _, _, rfl, rfl, a5, (by cases bb <;> decide), (by cases bb <;> decide), le_line (by cases bb <;> exact Nat.le_of_ble_eq_true rfl), fun l3 hl3 => ?_⟩
  generalize hg1 : upd H7 l3 _ = H8
  have e8 : Same H7 H8 := hg1 ▸ same_new hl3 _
  have a6 : H8 l3 = some (.lst (if bb = true then [.ref p3] else [])) := by
    rw [← hg1, upd_same]
    cases bb <;> rfl
  clear hg1
  refine ⟨l1, l3, _, _, rfl, rfl, e8 _ _ (e7 _ _ (e6 _ _ a3)), a6, le_line (by cases bb <;> exact Nat.le_of_ble_eq_true rfl), fun l4 hl4 => ?_⟩
  generalize hg1 : upd H8 l4 _ = H9
  have e9 : Same H8 H9 := hg1 ▸ same_new hl4 _
  have a7 : H9 l4 = some (.lst ([.ref p1, .ref p2] ++ (if bb = true then [.ref p3] else []))) := by rw [← hg1, upd_same]
  clear hg1
  have eS := (((((e3.trans e4).trans e5).trans e6).trans e7).trans e8).trans e9
  have a1 := e9 _ _ (e8 _ _ (e7 _ _ (e6 _ _ (e5 _ _ (e4 _ _ a1)))))
  have a2 := e9 _ _ (e8 _ _ (e7 _ _ (e6 _ _ (e5 _ _ a2))))
  have a4 := e9 _ _ (e8 _ _ (e7 _ _ a4))
  have q := fun H' e => q H' (eS.trans e)
  have hS := up_l eS hS
  have hpv : PairsV K H9 ([.ref p1, .ref p2] ++ (if bb = true then [.ref p3] else [])) (pairsOf k x y z) := by
    unfold pairsOf
    rw [hb]
    cases bb with
    | true =>
      refine ⟨rfl, fun i u hu => ?_⟩
      match i, hu with
      | 0, hu => cases hu; exact ⟨_, p1, rfl, rfl, SqT.of a1⟩
      | 1, hu => cases hu; exact ⟨_, p2, rfl, rfl, SqT.of a2⟩
      | 2, hu => cases hu; exact ⟨_, p3, rfl, rfl, SqT.of a4⟩
      | _ + 3, hu => simp at hu
    | false =>
      refine ⟨rfl, fun i u hu => ?_⟩
      match i, hu with
      | 0, hu => cases hu; exact ⟨_, p1, rfl, rfl, SqT.of a1⟩
      | 1, hu => cases hu; exact ⟨_, p2, rfl, rfl, SqT.of a2⟩
      | _ + 2, hu => simp at hu
  have hul : ([.ref p1, .ref p2] ++ (if bb = true then [.ref p3] else []) : List V).length ≤ 3 := by cases bb <;> exact Nat.le_of_ble_eq_true rfl
  generalize ([.ref p1, .ref p2] ++ (if bb = true then [.ref p3] else []) : List V) = us at a7 hpv hul
  clear e3 e4 e5 e6 e7 e8 e9 eS hp1 hp2 hl1 hp3 hl2 hl3 hl4 a1 a2 a3 a4 a5 a6 hb
  have mp : ∀ p ∈ pairsOf k x y z, p.1 < rs.length ∧ p.2 < rs.length := fun p hp => by
    unfold pairsOf at hp
    split at hp <;> simp at hp <;> rcases hp with rfl | rfl | rfl <;> simp_all
  refine ⟨fun σ' H' => σ' = [some (.ref p), some (.ref ta), some (.str k), some (.ref tf), some (nV x), some (nV a), some (nV y), some (nV z), some (nV g), some (.ref l4), none, none] ∧ H' = H9, ?_, ?_⟩
  · refine ⟨_, rfl, rfl, _, rfl, if_dec (fun h => ?_) (fun h => ⟨rfl, rfl⟩)⟩
    have hkl : k = lad := V.str.inj h
    have hbit : bit rs x y = true := by
      rw [decide_eq_false (fun z => z hkl), Bool.false_or] at hl
      exact hl
    refine ⟨_, rfl, _, rfl, p, _, _, _, rfl, rfl, hS, rowA hx rfl, _, rfl, _, _, _, rfl, rfl, lineA sq hx, signA sq hx hy rfl, rfl, _, rfl, ?_⟩
    rw [cell1 sq hx hy, hbit]
    exact iteF ⟨rfl, rfl⟩
  rintro σ' H' ⟨rfl, rfl⟩
  refine ⟨_, rfl, l4, rfl, ⟨_, SqL.of a7⟩, ?_⟩
  refine lc_pairs (fun p => meets rs a g p.1 p.2) (SqL.of a7) hpv (by omega) (fun _ _ => rfl) ?_ ?_
  · intro pp H7 hp e7 Q' k'
    obtain ⟨h1, h2⟩ := mp pp hp
    refine ⟨_, rfl, _, rfl, _, rfl, p, rs, pp.1, pp.2, rfl, up_l e7 hS, L, h1, h2, fun H8 e8 => ⟨_, rfl, rfl, _, rfl, ?_⟩⟩
    change (if decide (nV (lowN rs pp.1 pp.2) = nV a) = true then _ else _)
    rw [eqN]
    change ∀ H3, Same H7 H3 → Q' (.bl (decide (lowN rs pp.1 pp.2 = a) && decide (upN rs pp.1 pp.2 = g))) H3 at k'
    refine if_dec (fun h => ?_) (fun h => ?_)
    · refine ⟨_, rfl, _, rfl, _, rfl, p, rs, pp.1, pp.2, rfl, up_l (e7.trans e8) hS, L, h1, h2, fun H9 e9 => ⟨_, rfl, rfl, ?_⟩⟩
      change Q' (.bl (decide (nV (upN rs pp.1 pp.2) = nV g))) H9
      rw [eqN]
      have k8 := k' H9 (e8.trans e9)
      rw [decide_eq_true h, Bool.true_and] at k8
      exact k8
    · have k8 := k' H8 e8
      rw [decide_eq_false h, Bool.false_and] at k8
      exact k8
  · intro H7 D e7 hD7
    refine ⟨D, _, rfl, SqL.of hD7, ?_⟩
    rw [hall]
    exact q _ e7
end
end FF
namespace FF
open PySem PySem.Spec PyProof.Rows L2
def spLaw (K : PySem.W.Frag) : Sp := fun vs H Q _ => ∃ (a : Addr) (ns : List Int), vs = [.ref a] ∧ SqL K H a (ns.map V.int) ∧ ∀ H', Q (.bl true) H'
/-- a board whose class is told -/
structure Brd (K : PySem.W.Frag) (H : Hp) (b dx li bl bu : Addr) (rs : List Str) : Prop where
  brd : BoardAt K H b dx li rs
  ins : H b = some (.ins (He.ga K "Board") dx (brdF bl bu li (botN rs) (topN rs)))
theorem Brd.up_ {K : PySem.W.Frag} {H H' : Hp} {b dx li bl bu : Addr} {rs : List Str} (h : Brd K H b dx li bl bu rs) (e : Same H H') : Brd K H' b dx li bl bu rs := ⟨h.brd.up e, e _ _ h.ins⟩
theorem brd_of {K : PySem.W.Frag} {H : Hp} {b dx li : Addr} {rs : List Str} (h : BoardAt K H b dx li rs) : ∃ bl bu, Brd K H b dx li bl bu rs := by
  obtain ⟨_, bl, bu, hb, _⟩ := id h
  exact ⟨bl, bu, h, hb⟩
theorem spr_ok {K : PySem.W.Frag} {H : Hp} {b dx li : Addr} {rs : List Str} {Q : VK} {E : XK} (hB : BoardAt K H b dx li rs) (k : ∀ H', Same H H' → Q (.bl (spreadsB rs)) H') : spSpr K [.ref b] H Q E := ⟨b, dx, li, rs, rfl, hB, k⟩
theorem mkF_nice {k : Str} {a x y z g : Nat} (hk : k = lad ∨ k = fanS) : Nice 10 (mkF k a x y z g) := by
  have hs : Nice 0 (.str k) := by rcases hk with rfl | rfl <;> exact ⟨by decide +kernel, by rw [PyData.depth]; exact Nat.le_refl _⟩
  have h5 : Nice 1 (.tuple [.int (a : Int), .int (x : Int), .int (y : Int), .int (z : Int), .int (g : Int)]) := Nice.tuple (by show 5 ≤ 20000; decide) fun d hd => by
    simp only [List.mem_cons, List.not_mem_nil, or_false] at hd
    rcases hd with rfl | rfl | rfl | rfl | rfl <;> exact ⟨rfl, by rw [PyData.depth]; exact Nat.le_refl _⟩
  refine (Nice.tuple (n := 1) (by show 2 ≤ 20000; decide) fun d hd => ?_).mono (by decide : 2 ≤ 10)
  simp only [List.mem_cons, List.not_mem_nil, or_false] at hd
  rcases hd with rfl | rfl
  · exact hs.mono (by decide)
  · exact h5
def wayS (w : Nat) : List Nat := if w = 0 then m3 else if w = 1 then n5 else b4
def wayK (w : Nat) : Str := if w = 0 then fanS else lad
theorem way_len {w : Nat} {ks : List Nat} (hp : ks.Perm (wayS w)) : 4 ≤ ks.length ∧ ks.length ≤ 5 := by
  rw [hp.length_eq]
  unfold wayS
  split
  · decide
  · split <;> decide
theorem way_fam (w : Nat) : Fam (wayS w) := by
  unfold wayS
  split
  · exact fam_m3
  · split
    · exact fam_n5
    · exact fam_b4
theorem mayx_up {K : PySem.W.Frag} {H H' : Hp} {v : V} {o : Option PyData} (h : MayX K H v o) (e : Same H H') : MayX K H' v o := by
  cases o with
  | none => exact h
  | some d => exact ⟨h.1.up (Same.T e), h.2⟩
/-- what the law's board is -/
structure WayB (w : Nat) (rs : List Str) : Prop where
  good : progBoard rs = true
  lat : Lat rs
  spr : spreadsB rs = decide (w = 2)
  no : w = 2 → findD rs = none
  yes : w < 2 → ∃ a x y z g, findD rs = some (mkF (wayK w) a x y z g) ∧ a < rs.length ∧ x < rs.length ∧ y < rs.length ∧ z < rs.length ∧ g < rs.length ∧ faultD rs (mkF (wayK w) a x y z g) = true
theorem way_sum {w lo hi : Nat} {ks : List Nat} (hw : w < 3) (hp : ks.Perm (wayS w)) (h60 : lo + (rowsOf ks).length + hi ≤ 60) : WayB w (sumR lo (rowsOf ks) hi) := by
  have hl := way_len hp
  have L := fam_lat (way_fam w) hp (by omega)
  have G := sum_board L h60
  have S := sum_lat L h60
  have s1 := sum_spr L h60
  have s2 := sum_lad L h60
  rcases (show w = 0 ∨ w = 1 ∨ w = 2 by omega) with rfl | rfl | rfl
  · have hp : ks.Perm m3 := hp
    have a1 : spreadsB (sumR lo (rowsOf ks) hi) = false := s1.trans (m3_spr hp)
    exact ⟨G, S, a1, fun z => by omega, fun _ => find_fan S a1 fun h => m3_nolad hp (s2.mp h)⟩
  · have hp : ks.Perm n5 := hp
    have a2 : HasLad (sumR lo (rowsOf ks) hi) := s2.mpr (n5_lad hp)
    refine ⟨G, S, ?_, fun z => by omega, fun _ => find_lad S a2⟩
    cases e : spreadsB (sumR lo (rowsOf ks) hi) with
    | false => rfl
    | true => exact absurd a2 (spr_nolad S e)
  · have hp : ks.Perm b4 := hp
    have a1 : spreadsB (sumR lo (rowsOf ks) hi) = true := s1.trans (b4_spr hp)
    exact ⟨G, S, a1, fun _ => find_no S a1, fun z => by omega⟩
section
variable {P : Program} {w : World} {K : PySem.W.Frag} {mg : Str → Option Value} {base : Heap}
set_option maxHeartbeats 8000000 in
theorem ok_law {f : Addr} {fd : FuncData} (F : FunD K "law" "law" (defArgs s_law) (defBody s_law) (defScope s_law) [] [] f fd) (T : Top K mg)
    (M_Board : MakeX P w K mg base "Board" 4 ["self", "rows"] (spBoard K)) (D_Board_product : MethX P w K mg base "Board" "product" 6 ["self", "other"] (spProd K)) (D_Board_spreads : MethD P w K mg base "Board" "spreads" 1 ["self"] (spSpr K)) (D_Board_rows : MethD P w K mg base "Board" "rows" 1 ["self"] (spRowsB K))
    (D_Board_turned : MethD P w K mg base "Board" "turned" 6 ["self"] (spTurnB K)) (D_Board___len__ : MethD P w K mg base "Board" "__len__" 1 ["self"] (spLenB K))
    (D_Board_chain : ClsX P w K mg base "Board" "chain" 6 (spChain K)) (D_Board_fan : StatX P w K mg base "Board" "fan" 6 ["size"] (spFan K))
    (D_law_source : Def P w K mg base "_law_source" 1 ["_law_script"] (spSource K)) (D_law_take : Def P w K mg base "_law_take" 1 ["_law_source_here", "_law_many"] spTake) (D_law_pick : Def P w K mg base "_law_pick" 2 ["_law_source_here", "_law_row"] (spPick K))
    (D_law_mixed : Def P w K mg base "_law_mixed" 2 ["_law_source_here", "_law_row"] (spMixed K)) (D_law_rows : Def P w K mg base "_law_rows" 1 ["_law_masks"] (spRowsV K)) (D_law_summed : Def P w K mg base "_law_summed" 1 ["_law_low_here", "_law_rows_here", "_law_high"] (spSummed K))
    (D_find_fault : Def P w K mg base "find_fault" 6 ["board"] (spFindX K)) (D_is_fault : Def P w K mg base "is_fault" 6 ["board", "fault"] (spIsF K)) (D_law_fault_walked : Def P w K mg base "_law_fault_walked" 2 ["_law_rows_here", "_law_fault", "_law_kind"] (spWalked K)) :
    FnOk P w K mg base CX0 42 f fd ["_law_script"] (spLaw K) := by
  refine fn_mk F sc_law (fun vs H Q E h => ?_) (fun cdv A outer s0 H vs Q E hr h => ?_)
  · obtain ⟨a, ns, rfl, _⟩ := h
    rfl
  obtain ⟨a, ns, rfl, hS, q⟩ := h
  refine ⟨_, (pss_cons (ps_set (i := 1) sc_law.nd rfl (Or.inl rfl) (pe_def D_law_source hr (by first | decide | omega) (pa_cons (pv 0) pa_nil)))
  (pss_cons (ps_set (i := 2) sc_law.nd rfl (Or.inl rfl) (pe_def D_law_take hr (by first | decide | omega) (pa_cons (pv 1) (pa_cons pe_int pa_nil))))
  (pss_cons (ps_set (i := 3) sc_law.nd rfl (Or.inl rfl) (pe_def D_law_rows hr (by first | decide | omega) (pa_cons (pe_def D_law_mixed hr (by first | decide | omega) (pa_cons (pv 1) (pa_cons (pe_ix (ix_listK K) (pe_lst (pa_cons (pe_lst (pa_cons pe_int (pa_cons pe_int (pa_cons pe_int (pa_cons pe_int (pa_cons pe_int pa_nil)))))) (pa_cons (pe_lst (pa_cons pe_int (pa_cons pe_int (pa_cons pe_int (pa_cons pe_int (pa_cons pe_int pa_nil)))))) (pa_cons (pe_lst (pa_cons pe_int (pa_cons pe_int (pa_cons pe_int (pa_cons pe_int pa_nil))))) pa_nil)))) (pv 2) (fun _ _ => rfl)) pa_nil))) pa_nil)))
  (pss_cons (ps_set (i := 4) sc_law.nd rfl (Or.inl rfl) (pe_op op_sub (pe_def D_law_pick hr (by first | decide | omega) (pa_cons (pv 1) (pa_cons (pe_lst (pa_cons pe_int (pa_cons pe_int (pa_cons pe_int pa_nil)))) pa_nil))) (pe_callB (call_lenK K) (by rfl) T.b_len (by decide +kernel) (pa_cons (pv 3) pa_nil))))
  (pss_cons (ps_set (i := 5) sc_law.nd rfl (Or.inl rfl) (pe_def D_law_pick hr (by first | decide | omega) (pa_cons (pv 1) (pa_cons (pe_lst (pa_cons pe_int (pa_cons (pv 4) (pa_cons (pe_def D_law_take hr (by first | decide | omega) (pa_cons (pv 1) (pa_cons (pe_op op_add (pv 4) pe_int) pa_nil))) pa_nil)))) pa_nil))))
  (pss_cons (ps_set (i := 6) sc_law.nd rfl (Or.inr rfl) (pe_def D_law_summed hr (by first | decide | omega) (pa_cons (pv 5) (pa_cons (pv 3) (pa_cons (pe_op op_sub (pv 4) (pv 5)) pa_nil)))))
  (pss_cons (ps_set (i := 7) sc_law.nd rfl (Or.inl rfl) (pe_mkxN M_Board hr (by first | decide | omega) (pa_cons (pv 6) pa_nil)))
  (C8.pss_cut (ps_if (PW.pt (pw_or (pt_cmpR op_ne (pe_methd0 D_Board_spreads hr (by first | decide | omega) (pv 7)) (pe_cmpR op_eq (pv 2) pe_int (nomark _)) (nomark _)) (pw_or1 (pt_cmpR op_ne (pe_callB (call_lenD D_Board___len__ hr (by first | decide | omega)) (by rfl) T.b_len (by decide +kernel) (pa_cons (pv 7) pa_nil)) (pe_callB (call_lenK K) (by rfl) T.b_len (by decide +kernel) (pa_cons (pv 6) pa_nil)) (nomark _)))))
  (pss_one (ps_ret pe_bl))
  pss_nil)
  (pss_cons (ps_set (i := 8) sc_law.nd rfl (Or.inl rfl) (pe_def D_find_fault hr (by first | decide | omega) (pa_cons (pv 7) pa_nil)))
  (C8.pss_cut (ps_if (PW.pt (pw_or (PW.pt (pw_and (pt_cmpR op_eq (pv 2) pe_int (nomark _)) (pw_and1 (pt_cmp (pc_notN (pv 8)) (by rfl))))) (pw_or1 (PW.pt (pw_and (pt_cmpR op_lt (pv 2) pe_int (nomark _)) (pw_and1 (pt_not (pt_val (pe_def D_law_fault_walked hr (by first | decide | omega) (pa_cons (pv 6) (pa_cons (pv 8) (pa_cons (pe_ix (ix_listK K) (pe_lst (pa_cons pe_str (pa_cons pe_str pa_nil))) (pv 2) (fun _ _ => rfl)) pa_nil))))))))))))
  (pss_one (ps_ret pe_bl))
  pss_nil)
  (pss_cons (ps_set (i := 9) sc_law.nd rfl (Or.inl rfl) (pe_methd0 D_Board_turned hr (by first | decide | omega) (pv 7)))
  (C8.pss_cut (ps_if (pt_cmpR (op_neK K hr.units) (pe_methd0 D_Board_rows hr (by first | decide | omega) (pv 9)) (pe_lc (own := [("_law_x", 11)]) rfl sc_law.nd (pi_range1 (by rfl) T.b_range (pa_cons (pe_callB (call_lenK K) (by rfl) T.b_len (by decide +kernel) (pa_cons (pv 6) pa_nil)) pa_nil)) (blkOk_by (by kernel_rfl)) (fun _ _ _ _ _ => (pg_name (i := 11) sc_law.nd rfl (Or.inr rfl) (.inl rfl))) (fun _ _ _ _ _ => pts_nil) (fun _ _ _ _ _ => (pe_joinK K pe_str (pe_lc (own := [("_law_row", 10)]) rfl sc_law.nd (pi_listK K (pv 6)) (blkOk_by (by kernel_rfl)) (fun _ _ _ _ _ => (pg_name (i := 10) sc_law.nd rfl (Or.inl rfl) (.inr rfl))) (fun _ _ _ _ _ => pts_nil) (fun _ _ _ _ _ => (pe_ix ix_str (pv 10) (pv 11) (fun _ _ => rfl))))))) (nomark _))
  (pss_one (ps_ret pe_bl))
  pss_nil)
  (C8.pss_cut (ps_if (PW.pt (pw_and (pt_cmpR op_lt (pv 2) pe_int (nomark _)) (pw_and1 (pt_cmpR op_notBl (pe_def D_is_fault hr (by first | decide | omega) (pa_cons (pv 7) (pa_cons (pv 8) pa_nil))) pe_bl (nomark _)))))
  (pss_one (ps_ret pe_bl))
  pss_nil)
  (pss_cons (ps_set (i := 12) sc_law.nd rfl (Or.inl rfl) (pe_def D_law_pick hr (by first | decide | omega) (pa_cons (pv 1) (pa_cons (pe_lst (pa_cons (pe_statN D_Board_fan hr (by first | decide | omega) (pa_cons pe_int pa_nil)) (pa_cons (pe_methxN D_Board_product hr (by first | decide | omega) (pe_clsN D_Board_chain T.c_Board hr (by first | decide | omega) (pa_cons pe_int pa_nil)) (pa_cons (pe_statN D_Board_fan hr (by first | decide | omega) (pa_cons pe_int pa_nil)) pa_nil)) (pa_cons (pe_methxN D_Board_product hr (by first | decide | omega) (pe_statN D_Board_fan hr (by first | decide | omega) (pa_cons pe_int pa_nil)) (pa_cons (pe_clsN D_Board_chain T.c_Board hr (by first | decide | omega) (pa_cons pe_int pa_nil)) pa_nil)) pa_nil)))) pa_nil))))
  (pss_one (ps_ret (pe_and (pe_cmpR op_eq (pe_callB (call_lenD D_Board___len__ hr (by first | decide | omega)) (by rfl) T.b_len (by decide +kernel) (pa_cons (pv 12) pa_nil)) pe_int (nomark _)) (pe_one (pe_def D_law_fault_walked hr (by first | decide | omega) (pa_cons (pe_methd0 D_Board_rows hr (by first | decide | omega) (pv 12)) (pa_cons (pe_def D_find_fault hr (by first | decide | omega) (pa_cons (pv 12) pa_nil)) (pa_cons pe_str pa_nil)))))))))))))))))))))), ?_⟩
  refine ⟨_, rfl, a, ns, rfl, hS, fun s H1 e1 hs => ?_⟩
  clear hS e1
  refine ⟨_, rfl, s, 3, rfl, by omega, by omega, hs, fun n n0 n1 => ?_⟩
  obtain ⟨w3, rfl⟩ : ∃ m : Nat, n = m := ⟨n.toNat, by omega⟩
  have hw : w3 < 3 := by omega
  refine ⟨_, rfl, (by show 5 ≤ sizeLine; decide), fun p1 hp1 => ⟨(by show 5 ≤ sizeLine; decide), fun p2 hp2 => ⟨(by show 4 ≤ sizeLine; decide), fun p3 hp3 => ⟨(by show 3 ≤ sizeLine; decide), fun p4 hp4 => ?_⟩⟩⟩⟩
  have f1 := same_new hp1 (.lst [.int 0, .int 1, .int 2, .int 4, .int 7])
  have f2 := same_new hp2 (.lst [.int 0, .int 1, .int 3, .int 4, .int 7])
  have f3 := same_new hp3 (.lst [.int 0, .int 1, .int 2, .int 3])
  have f4 := same_new hp4 (.lst [.ref p1, .ref p2, .ref p3])
  obtain ⟨p5, h5, h6⟩ : ∃ p5, atI [V.ref p1, V.ref p2, V.ref p3] (w3 : Int) = some (.ref p5) ∧ (upd (upd (upd (upd H1 p1 (.lst [.int 0, .int 1, .int 2, .int 4, .int 7])) p2 (.lst [.int 0, .int 1, .int 3, .int 4, .int 7])) p3 (.lst [.int 0, .int 1, .int 2, .int 3])) p4 (.lst [.ref p1, .ref p2, .ref p3])) p5 = some (.lst ((wayS w3).map nV)) := by
    rcases (show w3 = 0 ∨ w3 = 1 ∨ w3 = 2 by omega) with rfl | rfl | rfl
    · exact ⟨p1, at0, f4 _ _ (f3 _ _ (f2 _ _ upd_same))⟩
    · exact ⟨p2, atI_nat (j := 1) rfl, f4 _ _ (f3 _ _ upd_same)⟩
    · exact ⟨p3, atI_nat (j := 2) rfl, f4 _ _ upd_same⟩
  have f := ((f1.trans f2).trans f3).trans f4
  have hs := hs.up f
  have h4 : (upd (upd (upd (upd H1 p1 (.lst [.int 0, .int 1, .int 2, .int 4, .int 7])) p2 (.lst [.int 0, .int 1, .int 3, .int 4, .int 7])) p3 (.lst [.int 0, .int 1, .int 2, .int 3])) p4 (.lst [.ref p1, .ref p2, .ref p3])) p4 = some (.lst [.ref p1, .ref p2, .ref p3]) := upd_same
  generalize upd (upd (upd (upd H1 p1 (.lst [.int 0, .int 1, .int 2, .int 4, .int 7])) p2 (.lst [.int 0, .int 1, .int 3, .int 4, .int 7])) p3 (.lst [.int 0, .int 1, .int 2, .int 3])) p4 (.lst [.ref p1, .ref p2, .ref p3]) = H2 at h4 h6 hs ⊢
  clear f f1 f2 f3 f4 hp1 hp2 hp3 hp4
  refine ⟨_, rfl, p4, _, _, .ref p5, rfl, rfl, SqL.of h4, h5, ?_⟩
  have w5 : (wayS w3).length ≤ 5 := (way_len (List.Perm.refl _)).2
  refine ⟨s, p5, _, rfl, hs, SqL.of h6, by rw [List.length_map]; omega, fun p6 H3 ys _ e3 hp6 hperm => ?_⟩
  obtain ⟨ks, rfl, hkp⟩ := perm_nats hperm
  obtain ⟨k4, k5⟩ := way_len hkp
  refine ⟨p6, ks, rfl, SqL.of hp6, by omega, fun p7 H4 _ e4 hp7 => ?_⟩
  have hs := (hs.up e3).up e4
  have hrl := rowsOf_len ks
  have sq := rowsOf_sq (ms := ks) (by omega) (by omega)
  have way := fun {lo hi : Nat} (h : lo + (rowsOf ks).length + hi ≤ 60) => way_sum (lo := lo) (hi := hi) hw hkp h
  generalize rowsOf ks = rs0 at hp7 hrl sq way ⊢
  clear h4 h5 h6 hp6 hperm hkp e3 e4
  refine ⟨_, rfl, (by show 3 ≤ sizeLine; decide), fun p8 hp8 => ?_⟩
  have f8 := same_new hp8 (.lst [.int 31, .int 47, .int 60])
  refine ⟨s, p8, _, rfl, hs.up f8, SqL.of upd_same, by simp, by simp, fun v hv => ?_⟩
  obtain ⟨m, rfl, hm1, hm2⟩ : ∃ m : Nat, v = .int m ∧ 31 ≤ m ∧ m ≤ 60 := by
    simp only [List.mem_cons, List.not_mem_nil, or_false] at hv
    rcases hv with rfl | rfl | rfl
    · exact ⟨31, rfl, by decide, by decide⟩
    · exact ⟨47, rfl, by decide, by decide⟩
    · exact ⟨60, rfl, by decide, by decide⟩
  have hs := hs.up f8
  have hp7 := f8 _ _ hp7
  generalize upd H4 p8 _ = H5 at hs hp7 ⊢
  clear f8 hp8 hv
  refine ⟨_, rfl, .ref p7, rs0.length, rfl, .inl ⟨_, SqL.of hp7, (List.length_map _).symm⟩, _, _, rfl, rfl, ?_⟩
  obtain ⟨d, hd⟩ : ∃ d : Nat, (m : Int) - (rs0.length : Int) = d := ⟨m - rs0.length, by omega⟩
  dsimp only
  rw [hd]
  refine ⟨_, rfl, _, rfl, _, rfl, _, rfl, _, _, rfl, rfl, s, d + 1, rfl, by omega, by omega, hs, fun t t0 t1 => ⟨(by show 3 ≤ sizeLine; decide), fun p9 hp9 => ?_⟩⟩
  have f9 := same_new hp9 (.lst [.int 0, .int (d : Int), .int t])
  refine ⟨s, p9, _, rfl, hs.up f9, SqL.of upd_same, by simp, by simp, fun v hv => ?_⟩
  obtain ⟨lo, rfl, hlo⟩ : ∃ lo : Nat, v = nV lo ∧ lo ≤ d := by
    simp only [List.mem_cons, List.not_mem_nil, or_false] at hv
    rcases hv with rfl | rfl | rfl
    · exact ⟨0, rfl, Nat.zero_le _⟩
    · exact ⟨d, rfl, Nat.le_refl _⟩
    · exact ⟨t.toNat, congrArg V.int (by omega), by omega⟩
  have hs := hs.up f9
  have hp7 := f9 _ _ hp7
  generalize upd H5 p9 _ = H6 at hs hp7 ⊢
  clear f9 hp9 hv
  obtain ⟨hi, hhi⟩ : ∃ hi : Nat, (d : Int) - (lo : Int) = hi := ⟨d - lo, by omega⟩
  have h60 : lo + rs0.length + hi ≤ 60 := by omega
  have W := way h60
  refine ⟨_, rfl, _, rfl, _, rfl, _, rfl, _, _, rfl, rfl, p7, rs0, lo, hi, by show [nV lo, V.ref p7, V.int ((d : Int) - (lo : Int))] = [nV lo, V.ref p7, V.int (hi : Int)]; rw [hhi], SqL.of hp7, sq, h60, fun pa H7 _ e7 hpa => ?_⟩
  have hs := hs.up e7
  clear way hp7
  generalize sumR lo rs0 hi = rs at W hpa
  have L := W.lat
  refine ⟨_, rfl, accept W.good (SqL.of hpa) fun b dx li H8 _ _ e8 hB => ?_⟩
  obtain ⟨bl, bu, B⟩ := brd_of hB
  have hs := hs.up e8
  have hpa := e8 _ _ hpa
  clear e7 e8 hB
  refine ⟨fun σ' H' => σ' = [some (.ref a), some (.ref s), some (nV w3), some (.ref p7), some (nV d), some (nV lo), some (.ref pa), some (.ref b), none, none, none, none, none] ∧ Src H' s ∧ H' pa = some (.lst (rs.map V.str)) ∧ Brd K H' b dx li bl bu rs, ?_, ?_⟩
  · refine ⟨_, rfl, b, dx, _, rfl, B.ins, rfl, ?_⟩
    dsimp only [tNil]
    refine spr_ok B.brd fun H9 e9 => ?_
    rw [W.spr, show decide (w3 = 2) = decide (nV w3 = V.int 2) from decide_eq_decide.mpr ⟨fun e => by rw [e]; rfl, fun e => by have := V.int.inj e; omega⟩]
    refine ⟨_, rfl, rfl, rfl, _, rfl, ?_⟩
    rw [decide_eq_true rfl]
    refine iteF ?_
    have B9 := B.up_ e9
    refine ⟨_, rfl, b, dx, _, rfl, B9.ins, b, dx, li, rs, rfl, B9.brd.lines, ?_⟩
    refine ⟨_, rfl, by have := L.sq.le; omega, _, rfl, .ref pa, rs.length, rfl, .inl ⟨_, SqL.of (e9 _ _ hpa), (List.length_map _).symm⟩, rfl, _, rfl, ?_⟩
    rw [decide_eq_true rfl]
    exact iteF ⟨rfl, hs.up e9, e9 _ _ hpa, B9⟩
  clear hs hpa B
  rintro σ H9 ⟨rfl, hs, hpa, B⟩
  refine ⟨_, rfl, b, dx, li, rs, rfl, B.brd, fun v H10 e10 hv => ?_⟩
  have hs := hs.up e10
  have hpa := e10 _ _ hpa
  have B := B.up_ e10
  clear e10
  refine ⟨fun σ' H' => σ' = [some (.ref a), some (.ref s), some (nV w3), some (.ref p7), some (nV d), some (nV lo), some (.ref pa), some (.ref b), some v, none, none, none, none] ∧ Src H' s ∧ H' pa = some (.lst (rs.map V.str)) ∧ Brd K H' b dx li bl bu rs ∧ MayX K H' v (findD rs), ?_, ?_⟩
  · rcases (show w3 = 2 ∨ w3 < 2 by omega) with h2 | h2
    · have hn := W.no h2
      rw [hn] at hv
      obtain rfl := hv
      refine ⟨_, rfl, rfl, _, rfl, if_dec (fun h => ?_) (fun h => absurd (by rw [h2]; rfl) h)⟩
      refine ⟨_, rfl, _, rfl, iteF ?_⟩
      refine ⟨_, rfl, _, _, rfl, rfl, _, rfl, if_dec (fun h => by omega) (fun _ => ⟨rfl, hs, hpa, B, ?_⟩)⟩
      rw [hn]
      rfl
    · obtain ⟨fa, fx, fy, fz, fg, hf, b1, b2, b3, b4, b5, hfd⟩ := W.yes h2
      rw [hf] at hv
      refine ⟨_, rfl, rfl, _, rfl, if_dec (fun h => by have := V.int.inj h; omega) (fun _ => ?_)⟩
      refine ⟨_, rfl, _, _, rfl, rfl, _, rfl, if_dec (fun _ => ?_) (fun h => absurd (by omega) h)⟩
      refine ⟨_, rfl, _, rfl, (by show 2 ≤ sizeLine; decide), fun p8 hp8 => ?_⟩
      have f8 := same_new hp8 (.lst [.str fanS, .str lad])
      refine ⟨_, rfl, p8, _, _, .str (wayK w3), rfl, rfl, SqL.of upd_same, ?_, ?_⟩
      · rcases (show w3 = 0 ∨ w3 = 1 by omega) with rfl | rfl
        · exact at0
        · exact atI_nat (j := 1) rfl
      refine ⟨pa, rs, v, wayK w3, fa, fx, fy, fz, fg, rfl, SqL.of (f8 _ _ hpa), L, (hv.1.up (Same.T f8)).dp, b1, b2, b3, b4, b5, ?_, hfd, fun H12 e12 => ⟨_, rfl, iteF ⟨rfl, (hs.up f8).up e12, e12 _ _ (f8 _ _ hpa), (B.up_ f8).up_ e12, ?_⟩⟩⟩
      · rcases (show w3 = 0 ∨ w3 = 1 by omega) with rfl | rfl
        · exact .inr rfl
        · exact .inl rfl
      · rw [hf]
        exact ⟨hv.1.up (Same.T (f8.trans e12)), hv.2⟩
  clear hs hpa B hv
  rintro σ H11 ⟨rfl, hs, hpa, B, hv⟩
  refine ⟨_, rfl, b, dx, _, rfl, B.ins, rfl, ?_⟩
  dsimp only [tNil]
  refine ⟨b, dx, li, rs, rfl, B.brd, fun b2 dx2 li2 H12 e12 hB2 => ?_⟩
  obtain ⟨bl2, bu2, B2⟩ := brd_of hB2
  have hs := hs.up e12
  have hpa := e12 _ _ hpa
  have B := B.up_ e12
  have hv := mayx_up hv e12
  clear e12 hB2
  have rl := L.sq.le
  have sq2 := L.sq
  have cl := cols_len rs
  refine ⟨fun σ' H' => σ' = [some (.ref a), some (.ref s), some (nV w3), some (.ref p7), some (nV d), some (nV lo), some (.ref pa), some (.ref b), some v, some (.ref b2), none, none, none] ∧ Src H' s ∧ Brd K H' b dx li bl bu rs ∧ MayX K H' v (findD rs), ?_, ?_⟩
  · refine ⟨_, rfl, b2, dx2, _, rfl, B2.ins, rfl, ?_⟩
    dsimp only [tNil]
    refine ⟨b2, dx2, li2, cols rs, rfl, B2.brd.lines, fun p1 hp1 => ?_⟩
    have e1 := same_new hp1 (.lst ((cols rs).map V.str))
    have h1 : (upd H12 p1 (.lst ((cols rs).map V.str))) p1 = some (.lst ((cols rs).map V.str)) := upd_same
    generalize upd H12 p1 (.lst ((cols rs).map V.str)) = H13 at e1 h1 ⊢
    have hs := hs.up e1
    have hpa := e1 _ _ hpa
    have B := B.up_ e1
    have hv := mayx_up hv e1
    clear e1 hp1
    refine ⟨_, rfl, .ref pa, rs.length, rfl, .inl ⟨_, SqL.of hpa, (List.length_map _).symm⟩, _, rfl, by omega, by omega, fun D hD => ?_⟩
    rw [Int.toNat_natCast]
    refine lc_mapR (j := 11) (R := fun i y _ => y = .str (colS rs i)) (fun _ _ _ _ _ h => h) hD (le_line (by omega)) (fun _ => rfl) ?_ ?_
    · intro i H14 hi e14 Q' k'
      have hS := e14 _ _ hpa
      refine ⟨⟨_, rfl⟩, _, rfl, pa, rfl, ⟨_, SqL.of hS⟩, fun D2 hD2 => ?_⟩
      refine lc_mapL (j := 10) (R := fun m y _ => ∃ r, rs[m]? = some r ∧ y = .str ⟨#[(tl r).getD i 0]⟩) (fun _ _ _ _ _ h => h) hD2 (SqL.of hS) (le_line (by rw [List.length_map]; omega)) (fun _ => rfl) ?_ ?_
      · intro m x H15 hx e15 Q'' kk
        obtain ⟨r, hr, rfl⟩ := map_get hx
        have hl := sq2.len r (List.mem_of_getElem? hr)
        have hil : i < (tl r).length := by
          show i < r.length
          omega
        refine ⟨_, rfl, _, rfl, r, _, (tl r).getD i 0, rfl, rfl, le_line (by omega), ?_, kk _ _ (Same.refl _) ⟨r, hr, rfl⟩⟩
        rw [Int.zero_add]
        refine atI_nat ?_
        rw [List.getD_eq_getElem?_getD, List.getElem?_eq_getElem hil] <;> rfl
      · intro H15 ys e15 hD15 hl15 hy
        have hys : ys = (rs.map fun r => (⟨#[(tl r).getD i 0]⟩ : Str)).map V.str := by
          refine eq_map_of (by rw [hl15, List.length_map, List.length_map]) fun m y h => ?_
          obtain ⟨r, hr, rfl⟩ := hy m y h
          exact ⟨_, by rw [List.getElem?_map, hr] <;> rfl, rfl⟩
        subst hys
        refine ⟨_, D2, _, rfl, rfl, .inl (SqL.of hD15), ?_, k' _ _ e15 (by rw [join_one] <;> rfl)⟩
        rw [sum_one, List.length_map, show ("" : Str).length = 0 from rfl]
        omega
    intro H14 ys e14 hD14 hl14 hy
    have hys : ys = (cols rs).map V.str := by
      refine eq_map_of (by rw [hl14, cl]) fun i y h => ?_
      have hi : i < rs.length := by
        have := (List.getElem?_eq_some_iff.mp h).1
        omega
      exact ⟨_, cols_get hi, hy i y h⟩
    subst hys
    have dsh := dig_shaped (cols_sq sq2)
    refine ⟨.list ((cols rs).map .str), .list ((cols rs).map .str), .lst (SqL.of (e14 _ _ h1)) (strs_dp _), .lst (SqL.of hD14) (strs_dp _), dsh, dsh, _, rfl, ?_⟩
    rw [SeqAt.eqv_refl _ (nice_lay _ (digs_ok (cols_sq sq2)))]
    exact iteF ⟨rfl, hs.up e14, B.up_ e14, mayx_up hv e14⟩
  clear hs hpa B hv B2
  rintro σ H13 ⟨rfl, hs, B, hv⟩
  refine ⟨fun σ' H' => σ' = [some (.ref a), some (.ref s), some (nV w3), some (.ref p7), some (nV d), some (nV lo), some (.ref pa), some (.ref b), some v, some (.ref b2), none, none, none] ∧ Src H' s, ?_, ?_⟩
  · refine ⟨_, rfl, _, _, rfl, rfl, _, rfl, if_dec (fun h => ?_) (fun _ => ⟨rfl, hs⟩)⟩
    have h2 : w3 < 2 := by omega
    obtain ⟨fa, fx, fy, fz, fg, hf, b1, b2', b3, b4, b5, hfd⟩ := W.yes h2
    rw [hf] at hv
    have hk : wayK w3 = lad ∨ wayK w3 = fanS := by
      rcases (show w3 = 0 ∨ w3 = 1 by omega) with rfl | rfl
      · exact .inr rfl
      · exact .inl rfl
    refine ⟨_, rfl, _, rfl, b, dx, li, rs, v, _, rfl, B.brd, hv.1.dp, (mkF_nice hk).ok, fun H14 e14 => ?_⟩
    rw [hfd]
    exact ⟨true, true, rfl, rfl, _, rfl, iteF ⟨rfl, hs.up e14⟩⟩
  clear hs B hv
  rintro σ H14 ⟨rfl, hs⟩
  refine ⟨_, rfl, 58, rfl, fun m em _ _ c1 dc1 lc1 J1 j1 hC1 => ?_, fun z => absurd ⟨by decide, by decide⟩ z⟩
  obtain rfl : m = 58 := by omega
  refine ⟨12, rfl, fun m em _ _ c2 dc2 lc2 J2 j2 hC2 => ?_, fun z => absurd ⟨by decide, by decide⟩ z⟩
  obtain rfl : m = 12 := by omega
  obtain ⟨u2, v2, B2⟩ := brd_of hC2
  refine ⟨c2, dc2, _, rfl, B2.ins, rfl, 3, rfl, fun m em _ _ c3 dc3 lc3 J3 j3 hC3 => ?_, fun z => absurd ⟨by decide, by decide⟩ z⟩
  obtain rfl : m = 3 := by omega
  have n1 : (chainR 12).length * (fanR 3).length ≤ 60 := by rw [chain_len', fan_len']; decide
  have n2 : (fanR 3).length * (chainR 12).length ≤ 60 := by rw [chain_len', fan_len']; decide
  refine ⟨c2, dc2, lc2, c3, dc3, lc3, chainR 12, fanR 3, rfl, hC2.up j3, hC3, fun _ c4 dc4 lc4 J4 j4 hC4 => ?_, fun h => absurd n1 h⟩
  refine ⟨3, rfl, fun m em _ _ c5 dc5 lc5 J5 j5 hC5 => ?_, fun z => absurd ⟨by decide, by decide⟩ z⟩
  obtain rfl : m = 3 := by omega
  obtain ⟨u5, v5, B5⟩ := brd_of hC5
  refine ⟨c5, dc5, _, rfl, B5.ins, rfl, 12, rfl, fun m em _ _ c6 dc6 lc6 J6 j6 hC6 => ?_, fun z => absurd ⟨by decide, by decide⟩ z⟩
  obtain rfl : m = 12 := by omega
  refine ⟨c5, dc5, lc5, c6, dc6, lc6, fanR 3, chainR 12, rfl, hC5.up j6, hC6, fun _ c7 dc7 lc7 J7 j7 hC7 => ⟨(by show 3 ≤ sizeLine; decide), fun l hl => ?_⟩, fun h => absurd n2 h⟩
  have j8 := same_new hl (.lst [.ref c1, .ref c4, .ref c7])
  have hs := ((((((((hs.up j1).up j2).up j3).up j4).up j5).up j6).up j7).up j8)
  have hC1 := ((((((hC1.up j2).up j3).up j4).up j5).up j6).up j7).up j8
  have hC4 := (((hC4.up j5).up j6).up j7).up j8
  have hC7 := hC7.up j8
  have hll : (upd J7 l (.lst [.ref c1, .ref c4, .ref c7])) l = some (.lst [.ref c1, .ref c4, .ref c7]) := upd_same
  generalize upd J7 l (.lst [.ref c1, .ref c4, .ref c7]) = J8 at hs hC1 hC4 hC7 hll ⊢
  clear hl hC2 hC3 hC5 hC6 B2 B5 j1 j2 j3 j4 j5 j6 j7 j8
  refine ⟨s, l, _, rfl, hs, SqL.of hll, by simp, by simp, fun o ho => ?_⟩
  obtain ⟨c, dc, lc, ts, rfl, hC, t1, t2, t3⟩ : ∃ (c dc lc : Addr) (ts : List Str), o = .ref c ∧ BoardAt K J8 c dc lc ts ∧ ts.length = 60 ∧ spreadsB ts = false ∧ ¬ HasLad ts := by
    have l1 := lat_of (chain_board (n := 12) (by decide) (by decide))
    have l2 := lat_of (fan_board (n := 3) (by decide))
    have sc := chain_spr (n := 12) (by decide) (by decide)
    have sf := fan_not (n := 3) (by decide) (by decide)
    simp only [List.mem_cons, List.not_mem_nil, or_false] at ho
    rcases ho with rfl | rfl | rfl
    · exact ⟨c1, dc1, lc1, _, rfl, hC1, fan_len' 58, fan_not (by decide) (by decide), fan_noladX (by decide)⟩
    · refine ⟨c4, dc4, lc4, _, rfl, hC4, by rw [prod_len, chain_len', fan_len'], by rw [spr_prod l1 l2 n1, sf, Bool.and_false], fun h => ?_⟩
      rcases prod_lad l1 l2 n1 h with h | h
      · exact spr_nolad l1 sc h
      · exact fan_noladX (by decide) h
    · refine ⟨c7, dc7, lc7, _, rfl, hC7, by rw [prod_len, chain_len', fan_len'], by rw [spr_prod l2 l1 n2, sf, Bool.false_and], fun h => ?_⟩
      rcases prod_lad l2 l1 n2 h with h | h
      · exact fan_noladX (by decide) h
      · exact spr_nolad l1 sc h
  clear hs hC1 hC4 hC7 hll ho
  have Lt := lat_of hC.1
  obtain ⟨uc, vc, Bc⟩ := brd_of hC
  refine ⟨_, rfl, c, dc, _, rfl, Bc.ins, c, dc, lc, ts, rfl, hC.lines, ?_⟩
  refine ⟨_, rfl, by omega, rfl, _, rfl, if_dec (fun _ => ?_) (fun h => absurd (by rw [t1]; rfl) h)⟩
  refine ⟨_, rfl, c, dc, _, rfl, Bc.ins, rfl, ?_⟩
  dsimp only [tNil]
  refine ⟨c, dc, lc, ts, rfl, hC.lines, fun pz hpz => ?_⟩
  have e1 := same_new hpz (.lst (ts.map V.str))
  have h1 : (upd J8 pz (.lst (ts.map V.str))) pz = some (.lst (ts.map V.str)) := upd_same
  generalize upd J8 pz (.lst (ts.map V.str)) = J9 at e1 h1 ⊢
  refine ⟨_, rfl, c, dc, lc, ts, rfl, hC.up e1, fun v2 J10 e2 hv => ?_⟩
  obtain ⟨fa, fx, fy, fz, fg, hf, b1, b2', b3, b4, b5, hfd⟩ := find_fan Lt t2 t3
  rw [hf] at hv
  exact ⟨pz, ts, v2, fanS, fa, fx, fy, fz, fg, rfl, SqL.of (e2 _ _ h1), Lt, hv.1.dp, b1, b2', b3, b4, b5, .inr rfl, hfd, fun J11 e11 => q _⟩
end
end FF

namespace FF
open PySem PySem.Spec PyProof.Rows L2
theorem facts {P : Program} {w : World} {K : PySem.W.Frag} {h : Heap} {mg : Str → Option Value} {f : Addr} (X : K.In h) (G : h.Ns mainGlobals mg) (hfa : mg ("law" : Str) = some (.ref f)) (cx : SaysZ fa fn fp [] ex w h K) :
    ∃ fd : FuncData, (∀ (s : Shared) (v : Value), BindsTo s fd ⟨[v], []⟩ [("_law_script", v)]) ∧ ∀ base : Heap, K.In base → base.Ns mainGlobals mg → FnOk P w K mg base CX0 42 f fd ["_law_script"] (spLaw K) := by
  have c := cx.x.t.d
  have T := top_of X G c cx.x.more
  obtain ⟨fd_wall, F_wall⟩ := c.def_ 0 (d := d_wall) rfl
  have m_wall := He.glo_ok X G (c.fact 51 (f := .glo "_wall") rfl)
  obtain ⟨fd_ladder_at, F_ladder_at⟩ := c.def_ 1 (d := d_ladder_at) rfl
  have m_ladder_at := He.glo_ok X G (c.fact 52 (f := .glo "ladder_at") rfl)
  obtain ⟨fd_fan_at, F_fan_at⟩ := c.def_ 2 (d := d_fan_at) rfl
  have m_fan_at := He.glo_ok X G (c.fact 53 (f := .glo "fan_at") rfl)
  obtain ⟨fd_find_fault, F_find_fault⟩ := c.def_ 3 (d := d_find_fault) rfl
  have m_find_fault := He.glo_ok X G (c.fact 54 (f := .glo "find_fault") rfl)
  obtain ⟨fd_are_places, F_are_places⟩ := c.def_ 4 (d := d_are_places) rfl
  have m_are_places := He.glo_ok X G (c.fact 55 (f := .glo "are_places") rfl)
  obtain ⟨fd_is_fault, F_is_fault⟩ := c.def_ 5 (d := d_is_fault) rfl
  have m_is_fault := He.glo_ok X G (c.fact 56 (f := .glo "is_fault") rfl)
  obtain ⟨fd_is_letter, F_is_letter⟩ := c.def_ 6 (d := d_is_letter) rfl
  have m_is_letter := He.glo_ok X G (c.fact 57 (f := .glo "is_letter") rfl)
  obtain ⟨fd_measured, F_measured⟩ := c.def_ 7 (d := d_measured) rfl
  have m_measured := He.glo_ok X G (c.fact 58 (f := .glo "measured") rfl)
  obtain ⟨fd_is_term, F_is_term⟩ := c.def_ 8 (d := d_is_term) rfl
  have m_is_term := He.glo_ok X G (c.fact 59 (f := .glo "is_term") rfl)
  obtain ⟨fd_is_long_term, F_is_long_term⟩ := c.def_ 9 (d := d_is_long_term) rfl
  have m_is_long_term := He.glo_ok X G (c.fact 60 (f := .glo "is_long_term") rfl)
  obtain ⟨fd_need_long_term, F_need_long_term⟩ := c.def_ 10 (d := d_need_long_term) rfl
  have m_need_long_term := He.glo_ok X G (c.fact 61 (f := .glo "need_long_term") rfl)
  obtain ⟨fd_parts_of, F_parts_of⟩ := c.def_ 11 (d := d_parts_of) rfl
  have m_parts_of := He.glo_ok X G (c.fact 62 (f := .glo "parts_of") rfl)
  obtain ⟨fd_walked, F_walked⟩ := c.def_ 12 (d := d_walked) rfl
  have m_walked := He.glo_ok X G (c.fact 63 (f := .glo "walked") rfl)
  obtain ⟨fd_letters_in, F_letters_in⟩ := c.def_ 13 (d := d_letters_in) rfl
  have m_letters_in := He.glo_ok X G (c.fact 64 (f := .glo "letters_in") rfl)
  obtain ⟨fd_turned_rows, F_turned_rows⟩ := c.def_ 14 (d := d_turned_rows) rfl
  have m_turned_rows := He.glo_ok X G (c.fact 65 (f := .glo "turned_rows") rfl)
  obtain ⟨fd_mask_of, F_mask_of⟩ := c.def_ 15 (d := d_mask_of) rfl
  have m_mask_of := He.glo_ok X G (c.fact 66 (f := .glo "mask_of") rfl)
  obtain ⟨fd_is_square, F_is_square⟩ := c.def_ 16 (d := d_is_square) rfl
  have m_is_square := He.glo_ok X G (c.fact 67 (f := .glo "is_square") rfl)
  obtain ⟨fd_is_order, F_is_order⟩ := c.def_ 17 (d := d_is_order) rfl
  have m_is_order := He.glo_ok X G (c.fact 68 (f := .glo "is_order") rfl)
  obtain ⟨fd_meeting_places, F_meeting_places⟩ := c.def_ 18 (d := d_meeting_places) rfl
  have m_meeting_places := He.glo_ok X G (c.fact 69 (f := .glo "meeting_places") rfl)
  obtain ⟨fd_gathered, F_gathered⟩ := c.def_ 19 (d := d_gathered) rfl
  have m_gathered := He.glo_ok X G (c.fact 70 (f := .glo "gathered") rfl)
  obtain ⟨fd_law_source, F_law_source⟩ := c.def_ 20 (d := d_law_source) rfl
  have m_law_source := He.glo_ok X G (c.fact 71 (f := .glo "_law_source") rfl)
  obtain ⟨fd_law_take, F_law_take⟩ := c.def_ 21 (d := d_law_take) rfl
  have m_law_take := He.glo_ok X G (c.fact 72 (f := .glo "_law_take") rfl)
  obtain ⟨fd_law_pick, F_law_pick⟩ := c.def_ 22 (d := d_law_pick) rfl
  have m_law_pick := He.glo_ok X G (c.fact 73 (f := .glo "_law_pick") rfl)
  obtain ⟨fd_law_mixed, F_law_mixed⟩ := c.def_ 23 (d := d_law_mixed) rfl
  have m_law_mixed := He.glo_ok X G (c.fact 74 (f := .glo "_law_mixed") rfl)
  obtain ⟨fd_law_index, F_law_index⟩ := c.def_ 24 (d := d_law_index) rfl
  have m_law_index := He.glo_ok X G (c.fact 75 (f := .glo "_law_index") rfl)
  obtain ⟨fd_law_rows, F_law_rows⟩ := c.def_ 25 (d := d_law_rows) rfl
  have m_law_rows := He.glo_ok X G (c.fact 76 (f := .glo "_law_rows") rfl)
  obtain ⟨fd_law_low, F_law_low⟩ := c.def_ 26 (d := d_law_low) rfl
  have m_law_low := He.glo_ok X G (c.fact 77 (f := .glo "_law_low") rfl)
  obtain ⟨fd_law_up, F_law_up⟩ := c.def_ 27 (d := d_law_up) rfl
  have m_law_up := He.glo_ok X G (c.fact 78 (f := .glo "_law_up") rfl)
  obtain ⟨fd_law_summed, F_law_summed⟩ := c.def_ 28 (d := d_law_summed) rfl
  have m_law_summed := He.glo_ok X G (c.fact 79 (f := .glo "_law_summed") rfl)
  obtain ⟨fd_law_fault_walked, F_law_fault_walked⟩ := c.def_ 29 (d := d_law_fault_walked) rfl
  have m_law_fault_walked := He.glo_ok X G (c.fact 80 (f := .glo "_law_fault_walked") rfl)
  obtain ⟨fd_law, F_law⟩ := c.def_ 30 (d := d_law) rfl
  have m_law := He.glo_ok X G (c.fact 81 (f := .glo "law") rfl)
  obtain ⟨fd_FaultError_init, F_FaultError_init⟩ := c.def_ 31 (d := d_FaultError_init) rfl
  obtain ⟨fd_InvalidBoard_init, F_InvalidBoard_init⟩ := c.def_ 32 (d := d_InvalidBoard_init) rfl
  obtain ⟨fd_InvalidPlace_init, F_InvalidPlace_init⟩ := c.def_ 33 (d := d_InvalidPlace_init) rfl
  obtain ⟨fd_TooManyPlaces_init, F_TooManyPlaces_init⟩ := c.def_ 34 (d := d_TooManyPlaces_init) rfl
  obtain ⟨fd_Board_chain, F_Board_chain⟩ := cx.get 0 (g := g_Board_chain) rfl
  obtain ⟨fd_Board_fan, F_Board_fan⟩ := cx.get 1 (g := g_Board_fan) rfl
  obtain ⟨fd_Board___init__, F_Board___init__⟩ := c.def_ 35 (d := d_Board___init__) rfl
  obtain ⟨fd_Board_rows, F_Board_rows⟩ := c.def_ 36 (d := d_Board_rows) rfl
  obtain ⟨fd_Board_is_place, F_Board_is_place⟩ := c.def_ 37 (d := d_Board_is_place) rfl
  obtain ⟨fd_Board_need_places, F_Board_need_places⟩ := c.def_ 38 (d := d_Board_need_places) rfl
  obtain ⟨fd_Board_is_below, F_Board_is_below⟩ := c.def_ 39 (d := d_Board_is_below) rfl
  obtain ⟨fd_Board_low, F_Board_low⟩ := c.def_ 40 (d := d_Board_low) rfl
  obtain ⟨fd_Board_up, F_Board_up⟩ := c.def_ 41 (d := d_Board_up) rfl
  obtain ⟨fd_Board_spreads, F_Board_spreads⟩ := c.def_ 42 (d := d_Board_spreads) rfl
  obtain ⟨fd_Board_turned, F_Board_turned⟩ := c.def_ 43 (d := d_Board_turned) rfl
  obtain ⟨fd_Board_product, F_Board_product⟩ := c.def_ 44 (d := d_Board_product) rfl
  obtain ⟨fd_Board___len__, F_Board___len__⟩ := c.def_ 45 (d := d_Board___len__) rfl
  have e := hfa.symm.trans m_law
  cases e
  have b := FunD.bindsA (ps := ["_law_script"]) F_law fun _ _ _ _ _ _ us hl => match us, hl with | [_], _ => rfl
  refine ⟨fd_law, fun s v => b s [v] rfl, fun base _ _ => ?_⟩
  have D_take : Def P w K mg base "_law_take" 1 ["_law_source_here", "_law_many"] spTake := take_hid (ok_take F_law_take m_law_take T)
  have D_source : Def P w K mg base "_law_source" 1 ["_law_script"] (spSource K) := ok_source F_law_source m_law_source T
  have D_pick : Def P w K mg base "_law_pick" 2 ["_law_source_here", "_law_row"] (spPick K) := ok_pick F_law_pick m_law_pick T D_take
  have D_mixed : Def P w K mg base "_law_mixed" 2 ["_law_source_here", "_law_row"] (spMixed K) := ok_mixed F_law_mixed m_law_mixed T D_take
  have b_fe : Binds K fd_FaultError_init ["self", "code"] [] := F_FaultError_init.bindsN fun _ _ _ _ _ _ us hl => match us, hl with | [_, _], _ => rfl
  have FE : FnOk P w K mg base CX0 1 (He.ma K (He.ga K "FaultError") "__init__") fd_FaultError_init ["self", "code"] (spFE K) := fn_fe F_FaultError_init T
  have R_ib : RaiseD P w K mg base "InvalidBoard" "FaultError" 2 "InvalidBoard" := ⟨T.x_InvalidBoard, T.c_InvalidBoard, fd_InvalidBoard_init, fn_InvalidBoard F_InvalidBoard_init T FE b_fe, F_InvalidBoard_init.bindsN fun _ _ _ _ _ _ us hl => match us, hl with | [_], _ => rfl⟩
  have R_ip : RaiseD1 P w K mg base "InvalidPlace" "FaultError" 2 "InvalidPlace" "place" := ⟨T.x_InvalidPlace, T.n_InvalidPlace_place, T.c_InvalidPlace, fd_InvalidPlace_init, fn_InvalidPlace F_InvalidPlace_init T FE b_fe, F_InvalidPlace_init.bindsN fun _ _ _ _ _ _ us hl => match us, hl with | [_, _], _ => rfl⟩
  have R_tm : RaiseD1 P w K mg base "TooManyPlaces" "FaultError" 2 "TooManyPlaces" "limit" := ⟨T.x_TooManyPlaces, T.n_TooManyPlaces_limit, T.c_TooManyPlaces, fd_TooManyPlaces_init, fn_TooManyPlaces F_TooManyPlaces_init T FE b_fe, F_TooManyPlaces_init.bindsN fun _ _ _ _ _ _ us hl => match us, hl with | [_, _], _ => rfl⟩
  have D_ga := ok_gathered (P := P) (w := w) (base := base) F_gathered m_gathered T
  have FB := ok_board_init (P := P) (w := w) (base := base) F_Board___init__ T (ok_square F_is_square m_is_square T) (ok_mask F_mask_of m_mask_of T) (ok_turned F_turned_rows m_turned_rows T) (ok_order F_is_order m_is_order T) (ok_meet F_meeting_places m_meeting_places T) D_ga R_ib
  have M_Board : MakeX P w K mg base "Board" 4 ["self", "rows"] (spBoard K) := ⟨⟨fd_Board___init__, FB, F_Board___init__.bindsN fun _ _ _ _ _ _ us hl => match us, hl with | [_, _], _ => rfl⟩, T.mk_Board, T.c_Board⟩
  have D_np := ok_needPl (P := P) (w := w) (base := base) F_Board_need_places T (ok_isPlace F_Board_is_place T) R_ip
  have D_be := ok_below (P := P) (w := w) (base := base) F_Board_is_below T D_np
  have D_rowsV := ok_rowsV (P := P) (w := w) (base := base) F_law_rows m_law_rows T
  have C_chain : ClsX P w K mg base "Board" "chain" 6 (spChain K) := clsx_of (fn_chain (P := P) (w := w) (base := base) F_Board_chain T M_Board R_ib) (F_Board_chain.bindsN fun _ _ _ _ _ _ us hl => match us, hl with | [_, _], _ => rfl) T.r_Board T.m_Board_chain
  have D_ln := ok_lenB (P := P) (w := w) (base := base) F_Board___len__ T
  have D_la := ok_ladderX (P := P) (w := w) (base := base) F_ladder_at m_ladder_at T
  have D_fa := ok_fan_atX (P := P) (w := w) (base := base) F_fan_at m_fan_at T
  have D_sl := ok_lowT (P := P) (w := w) (base := base) F_Board_low T D_np D_ga
  have D_su := ok_upT (P := P) (w := w) (base := base) F_Board_up T D_np D_ga
  have D_isF : Def P w K mg base "is_fault" 6 ["board", "fault"] (spIsF K) := ⟨_, _, fn_isF F_is_fault T (ok_are F_are_places m_are_places T (ok_isPlace F_Board_is_place T)) D_be D_sl D_su, m_is_fault, F_is_fault.kp, F_is_fault.bindsN fun _ _ _ _ _ _ us hl => match us, hl with | [_, _], _ => rfl⟩
  exact ok_law F_law T M_Board (ok_prod F_Board_product T M_Board R_tm) (ok_spr F_Board_spreads T) (ok_rowsB F_Board_rows T) (ok_turnB F_Board_turned T M_Board (ok_turned F_turned_rows m_turned_rows T)) D_ln C_chain (ok_fan F_Board_fan T M_Board R_ib)
    D_source D_take D_pick D_mixed D_rowsV (ok_summed F_law_summed m_law_summed T) (ok_findX F_find_fault m_find_fault T D_ln D_be D_la D_fa) D_isF (ok_walked F_law_fault_walked m_law_fault_walked T (ok_idx F_law_index m_law_index T) (ok_lowL F_law_low m_law_low T) (ok_upL F_law_up m_law_up T))
end FF
open PySem PySem.W PySem.Calls PyProof.Rows
set_option maxRecDepth 100000 in
set_option maxHeartbeats 0 in
theorem PySem.Challenge.cw_fivefault_k73_whole_large_boards_spread_holds : PySem.Challenge.rw_fivefault_k73_whole_large_boards_spread.Holds := by
  w_on; o_law
  refine HandSHeadRun.head_any (r := PySem.W.OpenLaw.row PySem.Challenge.rw_fivefault_k73_whole_large_boards_spread) (q := PySem.W.view (PySem.W.OpenLaw.row PySem.Challenge.rw_fivefault_k73_whole_large_boards_spread).prog [50]) (H := FF.hk) (ob := FF.ob) (M := 20000) (loose := FF.loose) (d := HandSHeadRun.topDef (PySem.W.OpenLaw.row PySem.Challenge.rw_fivefault_k73_whole_large_boards_spread).prog 50) (kwd := []) FF.ob_eq
    (by kernel_rfl) (fun s => by kernel_rfl) FF.run (by kernel_rfl) (by kernel_rfl) (by kernel_rfl) (by rfl) (by first | assumption | decide +kernel) (by decide +kernel) ⟨rfl, rfl, rfl, rfl, rfl, by decide +kernel⟩ ?hw ?hc
  case hw => w_witness2
  case hc =>
    refine L2.walk_ofE (l := PySem.Challenge.rw_fivefault_k73_whole_large_boards_spread) (n := 63) (k := 42) (x := "_law_script") (CX := L2.CX0) rfl (by decide) (by kernel_rfl) ⟨rfl, by decide, by decide⟩ ?F (fun _ _ _ _ z => z)
    intro w mg fa h Y G hmg0
    obtain ⟨K, KX, c⟩ := Y
    have hmg : mg ("law" : PySem.Str) = some (.ref fa) := by
      have e : (HandSHeadRun.topDef (PySem.W.OpenLaw.row PySem.Challenge.rw_fivefault_k73_whole_large_boards_spread).prog 50).name = ("law" : PySem.Str) := by kernel_rfl
      rw [← e]
      exact hmg0
    obtain ⟨fd, hb, hF⟩ := FF.facts (P := (PySem.Challenge.rw_fivefault_k73_whole_large_boards_spread).prog) (w := w) KX G hmg c
    exact ⟨K, fd, FF.spLaw K, KX, hb, fun H a ns hl _ hS => ⟨a, ns, rfl, hS, fun _ => rfl⟩, hF⟩

