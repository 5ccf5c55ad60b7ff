import PyProof.Rows.All
import Wide.All
import OpenK.AllK
import Wide.FinOn
import HandS.ForMost
import HandS.IsInst
import HandS.Deep
import HandS.Zip
import HandS.Defaults
import HandS.More
import HandS.Conv
import HandS.Style
import HandS.Codes
import HandS.ExcInit
import HandS.ExcField
import HandS.TryMany
import HandS.ClsMeth
import HandS.Lambda
import HandS.EndTab
import HandS.HeadWalk
import HandS.WordsExc
import PyProof.P3Eq
import HandS.HeadHook4
import HandS.Head2
import HandS.HeadEnd
import PyProof.P3In
import PyProof.ListStr
import HandS.Star
import HandS.DictComp
import HandS.FStr
import HandS.StrMore
import PyProof.Rows.SortShellSt
import KE.GoesMore
import HandS.Walk
import HandS.SetKeys
import KE.DataCmp
import PySem.Challenge.RW_fivefault_k42_order_of_terms_without_rul
set_option Elab.async false
set_option linter.all false
set_option maxRecDepth 100000
set_option maxHeartbeats 2000000
/-! Fivefault, part 1: heaps that grow, data, the draws' source. -/
namespace FF
open PySem PySem.Spec PyProof.Rows L2

/-! ### heaps that grow -/
theorem same_new {H : Hp} {p : Addr} (h : H p = none) (o : HO) : Same H (upd H p o) := fun b u q => by rw [upd_ne (ne_of_none q h)]; exact q
theorem same_rd {H H' : Hp} {a : Addr} {u : HO} (e : Same H H') (h : Rd H a u) : Rd H' a u := by
  rcases h with h | ⟨o, h⟩
  · exact .inl (e _ _ h)
  · exact .inr ⟨o, e _ _ h⟩
theorem up_l {K : PySem.W.Frag} {H H' : Hp} {a : Addr} {xs : List V} (e : Same H H') (h : SqL K H a xs) : SqL K H' a xs := by
  rcases h with h | h
  · exact .inl (same_rd e h)
  · exact .inr h
theorem up_t {K : PySem.W.Frag} {H H' : Hp} {a : Addr} {xs : List V} (e : Same H H') (h : SqT K H a xs) : SqT K H' a xs := by
  rcases h with h | h
  · exact .inl (same_rd e h)
  · exact .inr h
mutual
theorem up_d {K : PySem.W.Frag} {H H' : Hp} (e : Same H H') : ∀ {v : V} {d : PyData}, Dp K H v d → Dp K H' v d
  | _, _, .non => .non
  | _, _, .bl b => .bl b
  | _, _, .int i => .int i
  | _, _, .str x => .str x
  | _, _, .lst h a => .lst (up_l e h) (up_da e a)
  | _, _, .tup h a => .tup (up_t e h) (up_da e a)
theorem up_da {K : PySem.W.Frag} {H H' : Hp} (e : Same H H') : ∀ {vs : List V} {ds : List PyData}, DpAll K H vs ds → DpAll K H' vs ds
  | _, _, .nil => .nil
  | _, _, .cons h a => .cons (up_d e h) (up_da e a)
end
theorem da_get {K : PySem.W.Frag} {H : Hp} : ∀ {vs : List V} {ds : List PyData} {i : Nat} {v : V}, DpAll K H vs ds → vs[i]? = some v → ∃ d, ds[i]? = some d ∧ Dp K H v d
  | _, _, 0, _, .cons h _, e => by cases e; exact ⟨_, rfl, h⟩
  | _, _, i + 1, _, .cons _ t, e => da_get (i := i) t e
theorem da_len {K : PySem.W.Frag} {H : Hp} : ∀ {vs : List V} {ds : List PyData}, DpAll K H vs ds → vs.length = ds.length
  | _, _, .nil => rfl
  | _, _, .cons _ t => congrArg Nat.succ (da_len t)
theorem da_app {K : PySem.W.Frag} {H : Hp} : ∀ {vs ws : List V} {ds es : List PyData}, DpAll K H vs ds → DpAll K H ws es → DpAll K H (vs ++ ws) (ds ++ es)
  | _, _, _, _, .nil, r => r
  | _, _, _, _, .cons h t, r => .cons h (da_app t r)
theorem da_drop {K : PySem.W.Frag} {H : Hp} : ∀ (n : Nat) {vs : List V} {ds : List PyData}, DpAll K H vs ds → DpAll K H (vs.drop n) (ds.drop n)
  | 0, _, _, r => r
  | _ + 1, _, _, .nil => .nil
  | n + 1, _, _, .cons _ t => da_drop n t
theorem da_take {K : PySem.W.Frag} {H : Hp} : ∀ (n : Nat) {vs : List V} {ds : List PyData}, DpAll K H vs ds → DpAll K H (vs.take n) (ds.take n)
  | 0, _, _, _ => .nil
  | _ + 1, _, _, .nil => .nil
  | n + 1, _, _, .cons h t => .cons h (da_take n t)

/-! ### what data is -/
def tyN : PyData → String
  | .none => "NoneType"
  | .bool _ => "bool"
  | .int _ => "int"
  | .str _ => "str"
  | .list _ => "list"
  | .tuple _ => "tuple"
  | .dict _ => "dict"
theorem dp_ty {K : PySem.W.Frag} {H : Hp} {v : V} {d : PyData} (h : Dp K H v d) : TyX K H v (.type (tyN d)) := by
  cases h with
  | non => exact .base .non
  | bl b => exact .base (.bl b)
  | int i => exact .base (.int i)
  | str x => exact .base (.str x)
  | lst h _ =>
    rcases h with (h | ⟨o, h⟩) | ⟨o, _, _, h, c, _⟩
    · exact .base (.lst h)
    · exact .base (.frz h)
    · exact .kList h c
  | tup h _ =>
    rcases h with (h | ⟨o, h⟩) | ⟨o, _, _, h, c, _⟩
    · exact .base (.tup h)
    · exact .fTuple h
    · exact .kTuple h c
def isStr : PyData → Bool
  | .str _ => true
  | _ => false
def isTup : PyData → Bool
  | .tuple _ => true
  | _ => false
def isLst : PyData → Bool
  | .list _ => true
  | _ => false
def isBool : PyData → Bool
  | .bool _ => true
  | _ => false
def isInt : PyData → Bool
  | .bool _ => true
  | .int _ => true
  | _ => false
def isDict : PyData → Bool
  | .dict _ => true
  | _ => false
theorem kb_str (d : PyData) : kitB (tyN d) "str" = some (isStr d) := by cases d <;> kernel_rfl
theorem kb_tup (d : PyData) : kitB (tyN d) "tuple" = some (isTup d) := by cases d <;> kernel_rfl
theorem kb_lst (d : PyData) : kitB (tyN d) "list" = some (isLst d) := by cases d <;> kernel_rfl
theorem kb_bool (d : PyData) : kitB (tyN d) "bool" = some (isBool d) := by cases d <;> kernel_rfl
theorem kb_int (d : PyData) : kitB (tyN d) "int" = some (isInt d) := by cases d <;> kernel_rfl
theorem kb_dict (d : PyData) : kitB (tyN d) "dict" = some (isDict d) := by cases d <;> kernel_rfl
/-- isinstance(x, T) over data -/
def rIsD (K : PySem.W.Frag) (T : String) (f : PyData → Bool) : List V → Hp → VK → Prop := fun xs H Q => ∃ (x : V) (d : PyData), xs = [x, .ty T] ∧ Dp K H x d ∧ Q (.bl (f d)) H
theorem call_isD {X : Cx} {T : String} {f : PyData → Bool} (hk : ∀ d, kitB (tyN d) T = some (f d)) : CallR X (.builtin "isinstance") (rIsD X.K T f) := by
  intro pins s σ H xs us Q I r h
  obtain ⟨x, d, rfl, hd, q⟩ := h
  exact call_isi pins s σ H _ us Q I r ⟨x, .ty T, _, _, _, rfl, .ty T, dp_ty hd, kit_ty (hk d), q⟩

/-! ### defs of the text -/
/-- the def x of the top keeps the promise sp at level k -/
structure Def (P : Program) (w : World) (K : PySem.W.Frag) (mg : Str → Option Value) (base : Heap) (x : Str) (k : Nat) (ps : List Str) (sp : Sp) : Prop where
  ex : ∃ (f : Addr) (fd : FuncData), FnOk P w K mg base CX0 k f fd ps sp ∧ mg x = some (.ref f) ∧ PySem.W.keepIn K (.ref f) = true ∧ Binds K fd ps []
theorem pe_def {X : Cx} {x : Str} {k j : Nat} {ps : List Str} {sp : Sp} {e : Expr} {es : List Expr} {p pos : Pos} {t : TA} (D : Def X.prog X.w X.K X.mg X.base x k ps sp) (hr : Room j X.A) (hkj : k ≤ j) (ha : PA X (e :: es) t)
    (hg : Gl X x := by rfl) (hdb : (x == ("__debug__" : Str)) = false := by decide) (he : starEach (e :: es) X.env = (false, eval e X.env) :: starEach es X.env := by rfl) (hpl : (backTo pos (starEach es X.env)).any (·.1) = false := by rfl) :
    PE X (.Call (.Name x p) (e :: es) [] pos) (tCall sp [] E0 t) := by
  obtain ⟨f, fd, F, hm, hk, hb⟩ := D.ex
  exact pe_call F (hr.mono hkj) hg hm hk hb .nil pass0 ha hdb he hpl
theorem pe_def0 {X : Cx} {x : Str} {k j : Nat} {ps : List Str} {sp : Sp} {p pos : Pos} (D : Def X.prog X.w X.K X.mg X.base x k ps sp) (hr : Room j X.A) (hkj : k ≤ j)
    (hg : Gl X x := by rfl) (hdb : (x == ("__debug__" : Str)) = false := by decide) :
    PE X (.Call (.Name x p) [] [] pos) (tCall sp [] E0 tNil) := by
  obtain ⟨f, fd, F, hm, hk, hb⟩ := D.ex
  exact pe_call0 F (hr.mono hkj) hg hm hk hb .nil pass0 hdb
theorem Def.imp {P : Program} {w : World} {K : PySem.W.Frag} {mg : Str → Option Value} {base : Heap} {x : Str} {k : Nat} {ps : List Str} {sp sp' : Sp} (D : Def P w K mg base x k ps sp) (h : ∀ vs H Q E, sp' vs H Q E → sp vs H Q E) : Def P w K mg base x k ps sp' := by
  obtain ⟨f, fd, F, r⟩ := D.ex
  exact ⟨f, fd, F.imp h, r⟩
theorem Def.mono {P : Program} {w : World} {K : PySem.W.Frag} {mg : Str → Option Value} {base : Heap} {x : Str} {j k : Nat} {ps : List Str} {sp : Sp} (D : Def P w K mg base x j ps sp) (h : j ≤ k) : Def P w K mg base x k ps sp := by
  obtain ⟨f, fd, F, r⟩ := D.ex
  exact ⟨f, fd, F.mono h, r⟩

/-! ### a list that is hidden: its state is some good one -/
/-- at a stands a list whose items are good -/
def hid (good : List V → Prop) (a : Addr) : HO := .ext fun h => ∃ (xs : List V) (its : List Value) (n : Nat), good xs ∧ xs.length ≤ sizeLine ∧ Vals xs its ∧ h.get? a = some { cls := .type "list", data := .seq its.toArray n }
section
variable {P : Program} {w : World} {K : PySem.W.Frag} {mg : Str → Option Value} {base : Heap}
theorem upd_back {H : Hp} {a : Addr} {o u : HO} (h : H a = some u) : upd (upd H a o) a u = H := by
  funext b
  unfold upd
  split
  · next e => rw [e, h]
  · rfl
theorem hok_open {H : Hp} {h : Heap} {a : Addr} {good : List V → Prop} (hs : H a = some (hid good a)) (ok : HOk P w H h) : ∃ xs, good xs ∧ HOk P w (upd H a (.lst xs)) h := by
  obtain ⟨⟨xs, its, n, hg, hz, hv, he⟩, _, _⟩ := ok a _ hs
  refine ⟨xs, hg, fun b o e => ?_⟩
  by_cases hb : b = a
  · subst hb
    rw [upd_same] at e
    cases e
    exact ⟨hz, its, n, hv, he⟩
  · rw [upd_ne hb] at e
    refine (ok b o e).stay (fun _ _ _ q => q) (fun c q => ?_) (fun c ys q => ?_)
    · have hc : c ≠ a := by
        intro z
        rw [z, hs] at q
        cases q
      rw [upd_ne hc]
      exact q
    · have hc : c ≠ a := by
        intro z
        rw [z, hs] at q
        cases q
      rw [upd_ne hc]
      exact q
theorem hok_shut {H : Hp} {h : Heap} {a : Addr} {good : List V → Prop} {xs : List V} (hs : H a = some (.lst xs)) (hg : good xs) (ok : HOk P w H h) : HOk P w (upd H a (hid good a)) h := by
  obtain ⟨hz, its, n, hv, he⟩ := ok a _ hs
  intro b o e
  by_cases hb : b = a
  · subst hb
    rw [upd_same] at e
    cases e
    refine ⟨⟨xs, its, n, hg, hz, hv, he⟩, ⟨_, he⟩, fun h1 h2 ⟨xs1, its1, n1, g1, z1, v1, e1⟩ hk => ⟨xs1, its1, n1, g1, z1, v1, hk _ e1⟩⟩
  · rw [upd_ne hb] at e
    refine (ok b o e).stay (fun _ _ _ q => q) (fun c q => ?_) (fun c ys q => ?_)
    · have hc : c ≠ a := by
        intro z
        rw [z, hs] at q
        cases q
      rw [upd_ne hc]
      exact q
    · have hc : c ≠ a := by
        intro z
        rw [z, hs] at q
        cases q
      rw [upd_ne hc]
      exact q
/-- the list at a opened: what its items are the body may read and change; behind it the list is hidden again -/
theorem FnOk.open_ {k : Nat} {f : Addr} {fd : FuncData} {ps : List Str} {sp sp' : Sp} (F : FnOk P w K mg base CX0 k f fd ps sp) (len : ∀ vs H Q E, sp' vs H Q E → vs.length = ps.length)
    (h : ∀ vs H Q E, sp' vs H Q E → ∃ (a : Addr) (good : List V → Prop), H a = some (hid good a) ∧
      ∀ xs, good xs → sp vs (upd H a (.lst xs)) (fun v H' => ∃ ys, H' a = some (.lst ys) ∧ good ys ∧ Q v (upd H' a (hid good a))) E) : FnOk P w K mg base CX0 k f fd ps sp' := by
  refine ⟨len, fun A outer s H args us vs Q E hr e0 hb hv hsp => ?_⟩
  obtain ⟨a, good, ha, hq⟩ := h vs H Q E hsp
  obtain ⟨xs, hg, ok⟩ := hok_open ha e0.hok
  have dom : ∀ {b}, H b = none → (upd H a (.lst xs)) b = none := fun {b} n => by
    rw [upd_ne (fun z => by rw [z, ha] at n; cases n)]
    exact n
  have e1 : Env0 P w K mg base A outer s (upd H a (.lst xs)) := ⟨e0.frames, e0.mod, fun b o e => ⟨(e0.bs b o e).1, dom (e0.bs b o e).2⟩, e0.bsz, e0.funs, fun b hb => dom (e0.frf b hb), ok, e0.bare⟩
  refine codeAny_mono (F.run A outer s _ args us vs _ E hr e1 hb hv (hq xs hg)) fun r s' hc => ?_
  cases r with
  | error e => exact hc
  | ok fl =>
    cases fl with
    | ret u =>
      obtain ⟨v, H', os, bare, un, hok, rv, ys, hy, gy, q⟩ := hc
      refine ⟨v, _, os, bare, ?_, hok_shut hy gy hok, rv, q⟩
      have back : ∀ {b o}, H b = some o → b ≠ a → (upd H a (.lst xs)) b = some o := fun {b o} e hb => by rw [upd_ne hb]; exact e
      have notA : ∀ {b}, H b = none → b ≠ a := fun {b} n z => by rw [z, ha] at n; cases n
      refine ⟨fun b o e n h1 h2 => un.keep b o e (dom n) h1 h2, fun b o e n h1 h2 => un.slot b o e (dom n) h1 h2, fun b o e n h1 => ?_, un.there, fun b ys' e => ?_, fun b o u' e => ?_, fun b ps' e => ?_⟩
      · rw [upd_ne (notA n)]
        exact un.free b o e (dom n) h1
      · have hb : b ≠ a := fun z => by rw [z, ha] at e; cases e
        rw [upd_ne hb]
        exact un.tups b ys' (back e hb)
      · have hb : b ≠ a := fun z => by rw [z, ha] at e; cases e
        rw [upd_ne hb]
        exact un.frzs b o u' (back e hb)
      · have hb : b ≠ a := fun z => by rw [z, ha] at e; cases e
        rw [upd_ne hb]
        exact un.tbls b ps' (back e hb)
    | next => exact hc
    | brk => exact hc
    | cont => exact hc
/-- behind the body the list at a is hidden -/
theorem FnOk.shut_ {k : Nat} {f : Addr} {fd : FuncData} {ps : List Str} {sp sp' : Sp} (F : FnOk P w K mg base CX0 k f fd ps sp) (len : ∀ vs H Q E, sp' vs H Q E → vs.length = ps.length)
    (h : ∀ vs H Q E, sp' vs H Q E → sp vs H (fun v H' => ∃ (a : Addr) (good : List V → Prop) (ys : List V), H a = none ∧ H' a = some (.lst ys) ∧ good ys ∧ Q v (upd H' a (hid good a))) E) : FnOk P w K mg base CX0 k f fd ps sp' := by
  refine ⟨len, fun A outer s H args us vs Q E hr e0 hb hv hsp => ?_⟩
  refine codeAny_mono (F.run A outer s _ args us vs _ E hr e0 hb hv (h vs H Q E hsp)) fun r s' hc => ?_
  cases r with
  | error e => exact hc
  | ok fl =>
    cases fl with
    | ret u =>
      obtain ⟨v, H', os, bare, un, hok, rv, a, good, ys, hn, hy, gy, q⟩ := hc
      refine ⟨v, _, os, bare, ?_, hok_shut hy gy hok, rv, q⟩
      refine ⟨un.keep, un.slot, fun b o e n h1 => ?_, un.there, fun b ys' e => ?_, fun b o u' e => ?_, fun b ps' e => ?_⟩
      · have hb : b ≠ a := fun z => by
          have q1 := un.free b o e n h1
          rw [z, hy] at q1
          cases q1
        rw [upd_ne hb]
        exact un.free b o e n h1
      · rw [upd_ne (ne_of_none e hn)]
        exact un.tups b ys' e
      · rw [upd_ne (ne_of_none e hn)]
        exact un.frzs b o u' e
      · rw [upd_ne (ne_of_none e hn)]
        exact un.tbls b ps' e
    | next => exact hc
    | brk => exact hc
    | cont => exact hc
end
end FF
/-! Fivefault, part 2: defs by their bodies, names of the top, the draws' source. -/
namespace FF
open PySem PySem.Spec PyProof.Rows L2

/-! ### names of the top -/
section
variable {X : Cx} {x : Str} {pos : Pos}
theorem pe_gi {i : Int} (h : ∃ t, X.mg x = some (.int i t)) (hg : Gl X x := by rfl) (hd : (x == ("__debug__" : Str)) = false := by decide) : PE X (.Name x pos) (tC (.int i)) := by
  obtain ⟨t, h⟩ := h
  exact pe_glob hg h ⟨t, rfl⟩ hd
theorem pe_gs {z : Str} (h : ∃ t, X.mg x = some (.str z t)) (hg : Gl X x := by rfl) (hd : (x == ("__debug__" : Str)) = false := by decide) : PE X (.Name x pos) (tC (.str z)) := by
  obtain ⟨t, h⟩ := h
  exact pe_glob hg h ⟨t, rfl⟩ hd
theorem pe_gT {a : Addr} (h : X.mg x = some (.ref a)) (hg : Gl X x := by rfl) (hd : (x == ("__debug__" : Str)) = false := by decide) : PE X (.Name x pos) (tC (.ref a)) := pe_glob (v := .ref a) hg h rfl hd
end
/-! ### a def by its body -/
section
variable {P : Program} {w : World} {K : PySem.W.Frag} {mg : Str → Option Value} {base : Heap}
theorem def_mk {x : Str} {st : Stmt} {f : Addr} {fd : FuncData} {dvs : List V} {kws : List (Str × V)} {N ps : List Str} {k : Nat} {sp : Sp} (F : FunD K x x (defArgs st) (defBody st) (defScope st) dvs kws f fd) (hm : mg x = some (.ref f)) (hb : Binds K fd ps [])
    (S : FnScope N ps (defScope st)) (len : ∀ vs H Q E, sp vs H Q E → vs.length = ps.length)
    (body : ∀ (cdv : Value) (A : Around) (outer : List Env) (s : Shared) (H : Hp) (vs : List V) (Q : VK) (E : XK), Room k (A.deeper (envOfC x (defScope st) s.heap.objs.size f cdv)) → sp vs H Q E →
      ∃ t, PSs (cxOf CX0 P w K mg base N x (defScope st) f cdv A outer s H E).nox (defBody st) t ∧ t { nx := fun _ H' => Q .non H', rt := Q } (start N vs) H) : Def P w K mg base x (k + 1) ps sp :=
  ⟨f, fd, FunD.ok F S len (fun cdv A outer s H vs Q E hr h => let ⟨t, a, b⟩ := body cdv A outer s H vs Q E hr h; ⟨t, PSs.nox a, b⟩), hm, F.kp, hb⟩
/-- two more ways to say it: the list at an address hidden -/
theorem Def.open_ {x : Str} {k : Nat} {ps : List Str} {sp sp' : Sp} (D : Def P w K mg base x k ps sp) (len : ∀ vs H Q E, sp' vs H Q E → vs.length = ps.length)
    (h : ∀ vs H Q E, sp' vs H Q E → ∃ (a : Addr) (good : List V → Prop), H a = some (hid good a) ∧
      ∀ xs, good xs → sp vs (upd H a (.lst xs)) (fun v H' => ∃ ys, H' a = some (.lst ys) ∧ good ys ∧ Q v (upd H' a (hid good a))) E) : Def P w K mg base x k ps sp' := by
  obtain ⟨f, fd, F, r⟩ := D.ex
  exact ⟨f, fd, FnOk.open_ F len h, r⟩
theorem Def.shut_ {x : Str} {k : Nat} {ps : List Str} {sp sp' : Sp} (D : Def P w K mg base x k ps sp) (len : ∀ vs H Q E, sp' vs H Q E → vs.length = ps.length)
    (h : ∀ vs H Q E, sp' vs H Q E → sp vs H (fun v H' => ∃ (a : Addr) (good : List V → Prop) (ys : List V), H a = none ∧ H' a = some (.lst ys) ∧ good ys ∧ Q v (upd H' a (hid good a))) E) : Def P w K mg base x k ps sp' := by
  obtain ⟨f, fd, F, r⟩ := D.ex
  exact ⟨f, fd, FnOk.shut_ F len h, r⟩
end
/-! ### list of a text -/
theorem vals_at : ∀ {xs : List V} {us : List Value}, xs.length = us.length → (∀ (i : Nat) (x : V), xs[i]? = some x → ∃ u, us[i]? = some u ∧ RelV x u) → Vals xs us
  | [], [], _, _ => .nil
  | [], _ :: _, h, _ => by cases h
  | _ :: _, [], h, _ => by cases h
  | x :: xs, u :: us, h, k => by
    obtain ⟨u', e, r⟩ := k 0 x rfl
    cases e
    exact .cons r (vals_at (Nat.succ.inj h) fun i y hy => k (i + 1) y hy)
theorem items_signs {z : Str} {us : Array Value} (h : ItemsOf (SignAt z) us z.cps.size) : Vals (z.cps.toList.map fun c => V.str ⟨#[c]⟩) us.toList := by
  obtain ⟨h1, h2⟩ := h
  refine vals_at (by simp [h1]) fun i x hx => ?_
  rw [List.getElem?_map] at hx
  cases e : z.cps.toList[i]? with
  | none => rw [e] at hx; cases hx
  | some c =>
    rw [e] at hx
    cases hx
    have hi : i < us.size := by
      have := (List.getElem?_eq_some_iff.mp e).1
      simp at this
      omega
    obtain ⟨c', u, e1, e2⟩ := h2 i us[i] (Array.getElem?_eq_getElem hi)
    have e3 : z.cps.toList[i]? = some c' := by simpa using e1
    rw [e] at e3
    cases e3
    exact ⟨us[i], by simp [hi], u, e2⟩
def rListS : List V → Hp → VK → Prop := fun xs H Q => ∃ z : Str, xs = [.str z] ∧ z.length ≤ sizeLine ∧ ∀ l, H l = none → Q (.ref l) (upd H l (.lst (z.cps.toList.map fun c => V.str ⟨#[c]⟩)))
theorem call_list_s {X : Cx} (hc : X.calm = true) : CallR X (.type "list") rListS := by
  intro pins s σ H xs us Q I r h
  obtain ⟨z, rfl, hz, q⟩ := h
  obtain ⟨u, rfl, t, rfl⟩ := Vals.one r
  refine call_list_str (I.ok.hd hc) z t (fun h' tk acc' c' hk hl hi => ?_) hz
  have hv := items_signs hi
  exact ⟨.ref _, _, I.laid (t' := tk) (o := .lst (z.cps.toList.map fun c => V.str ⟨#[c]⟩)) hk (Nat.le_refl _) ⟨by rw [List.length_map]; exact hz, acc'.toList, c', hv, by simpa using hl⟩, rfl, q _ (I.hok.fresh (Nat.le_refl _))⟩
end FF
/-! Fivefault, part 3: data that is well formed; in, not in; measures of values. -/
namespace FF
open PySem PySem.Spec PyProof.Rows L2

/-! ### data that is well formed: texts are short, nested at most 60 deep -/
mutual
def nice : PyData → Bool
  | .none => true
  | .bool _ => true
  | .int _ => true
  | .str x => decide (x.length ≤ 20000) && PyData.strOk x
  | .list xs => decide (xs.length ≤ 20000) && niceAll xs
  | .tuple xs => decide (xs.length ≤ 20000) && niceAll xs
  | .dict _ => false
def niceAll : List PyData → Bool
  | [] => true
  | x :: xs => nice x && niceAll xs
end
mutual
theorem nice_lay : ∀ d : PyData, nice d = true → d.canLay0 = true
  | .none, _ => rfl
  | .bool _, _ => rfl
  | .int _, _ => rfl
  | .str x, h => by
    simp only [nice, Bool.and_eq_true] at h
    simp only [PyData.canLay0]
    exact h.2
  | .list xs, h => by
    simp only [nice, Bool.and_eq_true] at h
    simp only [PyData.canLay0]
    exact niceAll_lay xs h.2
  | .tuple xs, h => by
    simp only [nice, Bool.and_eq_true] at h
    simp only [PyData.canLay0]
    exact niceAll_lay xs h.2
  | .dict _, h => by simp [nice] at h
theorem niceAll_lay : ∀ ds : List PyData, niceAll ds = true → PyData.canLayAll0 ds = true
  | [], _ => rfl
  | x :: xs, h => by
    simp only [niceAll, Bool.and_eq_true] at h
    simp only [PyData.canLayAll0, nice_lay x h.1, niceAll_lay xs h.2, Bool.and_self]
end
theorem niceAll_mem : ∀ {ds : List PyData} {d : PyData}, niceAll ds = true → d ∈ ds → nice d = true
  | x :: xs, d, h, m => by
    simp only [niceAll, Bool.and_eq_true] at h
    rcases List.mem_cons.mp m with e | m
    · rw [e]; exact h.1
    · exact niceAll_mem h.2 m
theorem niceAll_of : ∀ {ds : List PyData}, (∀ d ∈ ds, nice d = true) → niceAll ds = true
  | [], _ => rfl
  | x :: xs, h => by
    simp only [niceAll, Bool.and_eq_true]
    exact ⟨h x (List.mem_cons_self ..), niceAll_of fun d m => h d (List.mem_cons_of_mem _ m)⟩
theorem depthAll_mem : ∀ {ds : List PyData} {d : PyData}, d ∈ ds → d.depth ≤ PyData.depthAll ds
  | x :: xs, d, m => by
    rw [PyData.depthAll]
    rcases List.mem_cons.mp m with e | m
    · rw [e]; omega
    · have := depthAll_mem m; omega
theorem depthAll_of : ∀ {ds : List PyData} {n : Nat}, (∀ d ∈ ds, d.depth ≤ n) → PyData.depthAll ds ≤ n
  | [], _, _ => by rw [PyData.depthAll]; omega
  | x :: xs, n, h => by
    rw [PyData.depthAll]
    have h1 := h x (List.mem_cons_self ..)
    have h2 := depthAll_of fun d m => h d (List.mem_cons_of_mem x m)
    omega
/-- nested at most n deep, with short texts -/
structure Nice (n : Nat) (d : PyData) : Prop where
  ok : nice d = true
  dp : d.depth ≤ n
theorem Nice.shaped {n : Nat} {d : PyData} (h : Nice n d) (hn : n ≤ 64 := by decide) : SeqAt.shaped d = true := by
  have h1 := nice_lay d h.ok
  have h2 : d.depth ≤ 64 := Nat.le_trans h.dp hn
  show (d.canLay0 && decide (d.depth ≤ 64)) = true
  rw [h1, decide_eq_true h2] <;> rfl
theorem Nice.mono {m n : Nat} {d : PyData} (h : Nice m d) (hm : m ≤ n) : Nice n d := ⟨h.ok, Nat.le_trans h.dp hm⟩
theorem Nice.itemT {n : Nat} {ds : List PyData} {d : PyData} (h : Nice n (.tuple ds)) (m : d ∈ ds) : Nice n d := by
  obtain ⟨h1, h2⟩ := h
  simp only [nice, Bool.and_eq_true] at h1
  simp only [PyData.depth] at h2
  have := depthAll_mem m
  exact ⟨niceAll_mem h1.2 m, by omega⟩
theorem Nice.itemL {n : Nat} {ds : List PyData} {d : PyData} (h : Nice n (.list ds)) (m : d ∈ ds) : Nice n d := by
  obtain ⟨h1, h2⟩ := h
  simp only [nice, Bool.and_eq_true] at h1
  simp only [PyData.depth] at h2
  have := depthAll_mem m
  exact ⟨niceAll_mem h1.2 m, by omega⟩
theorem Nice.tuple {n : Nat} {ds : List PyData} (hl : ds.length ≤ 20000) (h : ∀ d ∈ ds, Nice n d) : Nice (n + 1) (.tuple ds) := by
  refine ⟨by simp only [nice, Bool.and_eq_true, decide_eq_true_eq]; exact ⟨hl, niceAll_of fun d m => (h d m).ok⟩, ?_⟩
  simp only [PyData.depth]
  have := depthAll_of (n := n) fun d m => (h d m).dp
  omega
theorem Nice.list {n : Nat} {ds : List PyData} (hl : ds.length ≤ 20000) (h : ∀ d ∈ ds, Nice n d) : Nice (n + 1) (.list ds) := by
  refine ⟨by simp only [nice, Bool.and_eq_true, decide_eq_true_eq]; exact ⟨hl, niceAll_of fun d m => (h d m).ok⟩, ?_⟩
  simp only [PyData.depth]
  have := depthAll_of (n := n) fun d m => (h d m).dp
  omega
theorem nice_str {z : Str} (h : nice (.str z) = true) : z.length ≤ sizeLine := by
  simp only [nice, Bool.and_eq_true, decide_eq_true_eq] at h
  exact Nat.le_trans h.1 (by decide)

theorem nice_tl {ds : List PyData} (h : nice (.tuple ds) = true) : ds.length ≤ 20000 := by
  simp only [nice, Bool.and_eq_true, decide_eq_true_eq] at h
  exact h.1
theorem nice_ll {ds : List PyData} (h : nice (.list ds) = true) : ds.length ≤ 20000 := by
  simp only [nice, Bool.and_eq_true, decide_eq_true_eq] at h
  exact h.1
theorem nice_ti {ds : List PyData} {d : PyData} (h : nice (.tuple ds) = true) (m : d ∈ ds) : nice d = true := by
  simp only [nice, Bool.and_eq_true, decide_eq_true_eq] at h
  exact niceAll_mem h.2 m
theorem nice_li {ds : List PyData} {d : PyData} (h : nice (.list ds) = true) (m : d ∈ ds) : nice d = true := by
  simp only [nice, Bool.and_eq_true, decide_eq_true_eq] at h
  exact niceAll_mem h.2 m
theorem le_line {n : Nat} (h : n ≤ 20000) : n ≤ sizeLine := Nat.le_trans h (by decide)
theorem lt_line {n : Nat} (h : n ≤ 20000) : n < sizeLine := Nat.lt_of_le_of_lt h (by decide)

/-! ### x in a written tuple or list, for any data -/
def rInDs (K : PySem.W.Frag) (neg : Bool) : R2 := fun x y H Q => ∃ d ds, Dp K H x d ∧ (Dp K H y (.list ds) ∨ Dp K H y (.tuple ds)) ∧ SeqAt.shaped d = true ∧ SeqAt.shaped (.list ds) = true ∧ Q (.bl (if neg then !(ds.any fun z => PyData.eqv z d) else (ds.any fun z => PyData.eqv z d))) H
theorem op_inDs {X : Cx} (hu : X.A.units + 65 < cLine) : OpR X (compareOp .In) (rInDs X.K false) := by
  intro pins s σ H x y v u Q I rx ry h
  obtain ⟨d, ds, hd, he | he, sd, se, q⟩ := h
  · obtain ⟨as, r1⟩ := Dp.reads I d x v hd rx
    obtain ⟨bs, r2⟩ := Dp.reads I (.list ds) y u he ry
    exact SeqAt.in_list_reads r2 r1 (SeqAt.canLay_of_shaped se) (SeqAt.canLay_of_shaped sd) (room_in_shaped sd hu) ⟨.bl _, H, I, rfl, q⟩
  · obtain ⟨as, r1⟩ := Dp.reads I d x v hd rx
    obtain ⟨bs, r2⟩ := Dp.reads I (.tuple ds) y u he ry
    exact SeqAt.in_tuple_reads r2 r1 (SeqAt.canLay_of_shaped se) (SeqAt.canLay_of_shaped sd) (room_in_shaped sd hu) ⟨.bl _, H, I, rfl, q⟩
theorem op_notInDs {X : Cx} (hu : X.A.units + 65 < cLine) : OpR X (compareOp .NotIn) (rInDs X.K true) := by
  intro pins s σ H x y v u Q I rx ry h
  obtain ⟨d, ds, hd, he | he, sd, se, q⟩ := h
  · obtain ⟨as, r1⟩ := Dp.reads I d x v hd rx
    obtain ⟨bs, r2⟩ := Dp.reads I (.list ds) y u he ry
    exact SeqAt.notIn_list_reads r2 r1 (SeqAt.canLay_of_shaped se) (SeqAt.canLay_of_shaped sd) (room_in_shaped sd hu) ⟨.bl _, H, I, rfl, q⟩
  · obtain ⟨as, r1⟩ := Dp.reads I d x v hd rx
    obtain ⟨bs, r2⟩ := Dp.reads I (.tuple ds) y u he ry
    exact SeqAt.notIn_tuple_reads r2 r1 (SeqAt.canLay_of_shaped se) (SeqAt.canLay_of_shaped sd) (room_in_shaped sd hu) ⟨.bl _, H, I, rfl, q⟩

/-! ### letters and measures -/
abbrev lettersS : Str := "abcdefgh"
def isLetS (z : Str) : Bool := match z.cps.toList with
  | [c] => decide (c ∈ lettersS.cps.toList)
  | _ => false
def isLet : PyData → Bool
  | .str z => isLetS z
  | _ => false
def isOp : PyData → Bool
  | .str z => decide (z = ("&" : Str)) || decide (z = ("|" : Str))
  | _ => false
theorem len1 {z : Str} (h : z.length = 1) : ∃ c, z = ⟨#[c]⟩ := by
  obtain ⟨⟨l⟩⟩ := z
  match l, h with
  | [c], _ => exact ⟨c, rfl⟩
theorem isLetS_one {c : Nat} : isLetS ⟨#[c]⟩ = decide (c ∈ lettersS.cps.toList) := rfl
theorem isLetS_no {z : Str} (h : z.length ≠ 1) : isLetS z = false := by
  obtain ⟨⟨l⟩⟩ := z
  match l, h with
  | [], _ => rfl
  | [c], h => exact absurd rfl h
  | _ :: _ :: _, _ => rfl
/-- what stands in a tuple of the form of a term -/
def measP (f : PyData → Int) : PyData → Int
  | .tuple (x :: y :: z :: r) => if isOp x = true then (if (0 : Int) ∈ ((y :: z :: r).map f) then 0 else ((y :: z :: r).map f).sum) else 0
  | _ => 0
/-- the size of a value of the form of a term, at most n deep, or 0 -/
def meas : Nat → PyData → Int
  | 0, _ => 0
  | n + 1, d => if isLet d = true then 1 else if n = 0 then 0 else measP (meas n) d
theorem meas_let {n : Nat} {d : PyData} (h : isLet d = true) : meas n d = if 0 < n then 1 else 0 := by
  cases n with
  | zero => rfl
  | succ n =>
    show (if isLet d = true then (1 : Int) else _) = _
    rw [if_pos h, if_pos (Nat.succ_pos n)]
theorem meas_low {n : Nat} {d : PyData} (h : isLet d = false) (hn : n < 2) : meas n d = 0 := by
  match n, hn with
  | 0, _ => rfl
  | 1, _ =>
    show (if isLet d = true then (1 : Int) else if 0 = 0 then 0 else _) = _
    rw [if_neg (by rw [h]; decide), if_pos rfl]
theorem meas_up {n : Nat} {d : PyData} (h : isLet d = false) (hn : 0 < n) : meas (n + 1) d = measP (meas n) d := by
  show (if isLet d = true then (1 : Int) else if n = 0 then 0 else measP (meas n) d) = _
  rw [if_neg (by rw [h]; decide), if_neg (by omega)]
end FF
/-! Fivefault, part 4: hidden lists read and stored; calls with keywords; tests. -/
namespace FF
open PySem PySem.Spec PyProof.Rows L2

section
variable {X : Cx} {pins : List (Addr × Obj)} {σ : L2.St} {H : Hp} {s : Shared} {a : Addr} {good : List V → Prop}
theorem inv_open (ha : H a = some (hid good a)) (I : Inv X pins σ H s) : ∃ xs, good xs ∧ Inv X pins σ (upd H a (.lst xs)) s := by
  obtain ⟨xs, hg, ok⟩ := hok_open ha I.hok
  have dom : ∀ {b}, H b = none → (upd H a (.lst xs)) b = none := fun {b} n => by
    rw [upd_ne (fun z => by rw [z, ha] at n; cases n)]
    exact n
  have back : ∀ {b o}, H b = some o → (∀ φ, o ≠ .ext φ) → (upd H a (.lst xs)) b = some o := fun {b o} e hb => by
    rw [upd_ne (fun z => by rw [z, ha] at e; cases e; exact hb _ rfl)]
    exact e
  refine ⟨xs, hg, I.ok, I.os, I.bare, ⟨I.base.keep, I.base.slot, fun b o e n x => dom (I.base.free b o e n x), I.base.there, fun b ys e => back (I.base.tups b ys e) (fun _ z => nomatch z), fun b o u e => back (I.base.frzs b o u e) (fun _ z => nomatch z), fun b ps e => ?_⟩, I.loc, I.cell, dom I.free, fun x c e => dom (I.freeC x c e), fun p hp => ?_, ok, I.len⟩
  · obtain ⟨m, q⟩ := I.base.tbls b ps e
    exact ⟨m, back q (fun _ z => nomatch z)⟩
  · obtain ⟨h1, h2, h3⟩ := I.pin p hp
    exact ⟨h1, dom h2, h3⟩
theorem inv_shut {xs : List V} (ha : H a = some (.lst xs)) (hg : good xs) (I : Inv X pins σ H s) : Inv X pins σ (upd H a (hid good a)) s := by
  have dom : ∀ {b}, H b = none → (upd H a (hid good a)) b = none := fun {b} n => by
    rw [upd_ne (fun z => by rw [z, ha] at n; cases n)]
    exact n
  have back : ∀ {b o}, H b = some o → (∀ ys, o ≠ .lst ys) → (upd H a (hid good a)) b = some o := fun {b o} e hb => by
    rw [upd_ne (fun z => by rw [z, ha] at e; cases e; exact hb _ rfl)]
    exact e
  refine ⟨I.ok, I.os, I.bare, ⟨I.base.keep, I.base.slot, fun b o e n x => dom (I.base.free b o e n x), I.base.there, fun b ys e => back (I.base.tups b ys e) (fun _ z => nomatch z), fun b o u e => back (I.base.frzs b o u e) (fun _ z => nomatch z), fun b ps e => ?_⟩, I.loc, I.cell, dom I.free, fun x c e => dom (I.freeC x c e), fun p hp => ?_, hok_shut ha hg I.hok, I.len⟩
  · obtain ⟨m, q⟩ := I.base.tbls b ps e
    exact ⟨m, back q (fun _ z => nomatch z)⟩
  · obtain ⟨h1, h2, h3⟩ := I.pin p hp
    exact ⟨h1, dom h2, h3⟩
end
/-- xs[i] of a hidden list -/
def rIxH : R2 := fun x y H Q => ∃ (a : Addr) (good : List V → Prop) (i : Int), x = .ref a ∧ y = .int i ∧ H a = some (hid good a) ∧ ∀ xs, good xs → ∃ v, atI xs i = some v ∧ Q v H
theorem ix_hid {X : Cx} : IxR X rIxH := by
  intro value slice pins s σ H x y v u Q I rx ry h hs
  obtain ⟨a, good, i, rfl, rfl, ha, q⟩ := h
  obtain ⟨xs, hg, I1⟩ := inv_open ha I
  obtain ⟨z, hz, q⟩ := q xs hg
  refine thn (ix_list value slice pins s σ _ _ _ v u (fun v H' => H' = upd H a (.lst xs) ∧ v = z) I1 rx ry ⟨a, xs, i, z, rfl, rfl, SqL.of upd_same, hz, rfl, rfl⟩ hs) fun v s1 ⟨v', H', I2, r, e1, e2⟩ => ?_
  subst e1 e2
  have I3 := inv_shut (good := good) upd_same hg I2
  rw [upd_back ha] at I3
  exact ⟨_, H, I3, r, q⟩
/-- xs[i] = v of a hidden list -/
def rSetH : V → V → V → Hp → (Hp → Prop) → Prop := fun o i v H Q => ∃ (a : Addr) (good : List V → Prop) (k : Int), o = .ref a ∧ i = .int k ∧ H a = some (hid good a) ∧ (∀ xs, good xs → ∃ j, ixN xs.length k = some j ∧ good (xs.set j v)) ∧ Q H
theorem set_hid {X : Cx} : PSet X rSetH := by
  intro pins s σ H o i v u1 u2 u3 Q I r1 r2 r3 h
  obtain ⟨a, good, k, rfl, rfl, ha, hj, q⟩ := h
  obtain ⟨xs, hg, I1⟩ := inv_open ha I
  obtain ⟨j, e, hg2⟩ := hj xs hg
  refine thn (set_list pins s σ _ _ _ v u1 u2 u3 (fun H' => H' = upd (upd H a (.lst xs)) a (.lst (xs.set j v))) I1 r1 r2 r3 ⟨a, xs, k, j, rfl, rfl, upd_same, e, rfl⟩) fun _ s1 ⟨H', I2, e1⟩ => ?_
  subst e1
  rw [upd_upd] at I2
  have I3 : Inv X pins σ (upd (upd H a (.lst (xs.set j v))) a (hid good a)) s1 := inv_shut (good := good) upd_same hg2 I2
  rw [upd_back ha] at I3
  exact ⟨H, I3, q⟩
/-- a list that is made, hidden: the rule for a display -/
def tHide (good : List V → Prop) (te : TE) : TE := fun σ H Q => te σ H fun v H' => ∃ a xs, v = .ref a ∧ H' a = some (.lst xs) ∧ good xs ∧ Q (.ref a) (upd H' a (hid good a))
theorem pe_hide {X : Cx} {e : Expr} {te : TE} {good : List V → Prop} (h : PE X e te) : PE X e (tHide good te) := by
  refine ⟨fun pins s σ H Q I hw => ?_⟩
  refine thn (h.run pins s σ H _ I hw) fun v s1 ⟨v', H', I1, r, a, xs, e, ha, hg, q⟩ => ?_
  subst e
  exact ⟨_, _, inv_shut ha hg I1, r, q⟩

/-! ### calls with keywords -/
section
variable {K : PySem.W.Frag} {x qual : Str} {params : Arguments} {body : List Stmt} {scope : Scope} {kws : List (Str × V)} {f : Addr} {fd : FuncData} {ps : List Str}
theorem kbinds0 (F : FunD K x qual params body scope [] kws f fd) (n : Nat) (ks : List Str) (ms : List (Str × V)) (g : {α : Type} → List α → List α → List α → List α) (hk : kws ≠ []) (hms : ∀ q ∈ ms, q ∈ kws)
    (hrel : ∀ {vs mz zs : List V} {us mv ws : List Value}, Vals vs us → Vals mz mv → Vals zs ws → Vals (g vs mz zs) (g us mv ws))
    (h : ∀ (D : Addr) (doc pm : Value) (an : Option Addr) (cdv ct : Value) (us mv ws : List Value), us.length = n → mv.length = ms.length → ws.length = ks.length →
      KwChain D ((ms.map (·.1)).zip mv) (bindArgs (PySem.W.fnOf x qual params body scope .none (.ref D) doc pm an cdv ct) ⟨us, ks.zip ws⟩) (ps.zip (g us mv ws))) :
    ∃ mv : List Value, KBn K fd ps n ks (fun us ws => g us mv ws) (fun vs zs => g vs (ms.map (·.2)) zs) := by
  obtain ⟨oc, od, dV, kV, doc, pm, an, cdv, ct, osl, rfl, lk, hcd, hD, hK⟩ := F.ex
  rcases hD with ⟨_, rfl⟩ | ⟨e, _⟩
  · rcases hK with e | ⟨D, rfl, hq⟩
    · exact absurd e hk
    · obtain ⟨mv, hl, rk, hks⟩ := kwd_vals (ms := ms) fun q hm => hq q (hms q hm)
      exact ⟨mv, ⟨fun s us ws X l1 l2 => BindsTo.of_looks fun M => KwChain.looks X hks (h D doc pm an cdv ct us mv ws l1 hl l2), fun r1 r2 => hrel r1 rk r2⟩⟩
  · exact absurd rfl e
end
section
variable {X : Cx} {CX : CXT} {k n : Nat} {f : Addr} {fd : FuncData} {ps ks : List Str} {sp : Sp} {E : XK} {x : Str} {p pos : Pos} {kws : List Keyword} {tk : TA} {g : List Value → List Value → List Value} {gV : List V → List V → List V}
def tCallN0 (m : Nat) (sp : Sp) (gV : List V → List V → List V) (E : XK) (tk : TA) : TE := fun σ H Q => tk σ H fun zs H2 => zs.length = m ∧ sp (gV [] zs) H2 Q E
theorem pe_callN0 (F : FnOk X.prog X.w X.K X.mg X.base CX k f fd ps sp) (hr : Room k X.A) (hg : Gl X x) (hm : X.mg x = some (.ref f)) (hk : PySem.W.keepIn X.K (.ref f) = true) (hb : KBn X.K fd ps 0 ks g gV) (hx : Passes CX X E)
    (hkw : PK X kws tk) (hall : (backToKw pos (keywordEach kws X.env)).all (·.1.isSome) = true := by rfl) (hks : (backToKw pos (keywordEach kws X.env)).filterMap (·.1) = ks := by rfl)
    (hdb : (x == ("__debug__" : Str)) = false := by decide)
    (hpl : ((backTo pos (starEach [] X.env)).any (·.1) || (backToKw pos (keywordEach kws X.env)).any (·.1.isNone)) = false := by rfl) :
    PE X (.Call (.Name x p) [] kws pos) (tCallN0 ks.length sp gV E tk) := by
  refine ⟨fun pins s σ H Q I h => ?_⟩
  refine wpAny_Call_Name_kw (ld_glob I hg hm ?_ hdb)
  refine PySem.W.callWith_KW0 (h₀ := X.base) I.ok.mod.kin hk hall ?_ hpl
  refine thn (hkw.run pos pins s σ H _ I h) fun ws s2 ⟨zs, H2, I2, rz, l2, q2⟩ => ⟨I2.kIn, ?_⟩
  rw [hks]
  exact run_fnN F hr hb hx I2 .nil rz rfl l2 q2
end

/-! ### tests -/
theorem if_int {a b : Int} {A B : Prop} (h1 : a = b → A) (h2 : a ≠ b → B) : if decide (V.int a = V.int b) = true then A else B := by
  by_cases h : a = b
  · rw [decide_eq_true (congrArg V.int h)]
    exact iteT (h1 h)
  · rw [decide_eq_false (fun z => h (V.int.inj z))]
    exact iteF (h2 h)
theorem if_dec {p : Prop} [Decidable p] {A B : Prop} (h1 : p → A) (h2 : ¬ p → B) : if decide p = true then A else B := by
  by_cases h : p
  · rw [decide_eq_true h]
    exact iteT (h1 h)
  · rw [decide_eq_false h]
    exact iteF (h2 h)
theorem if_b {b : Bool} {A B : Prop} (h1 : b = true → A) (h2 : b = false → B) : if b = true then A else B := by
  cases b
  · exact iteF (h2 rfl)
  · exact iteT (h1 rfl)
theorem if_nb {b : Bool} {A B : Prop} (h1 : b = false → A) (h2 : b = true → B) : if (!b) = true then A else B := by
  cases b
  · exact iteT (h1 rfl)
  · exact iteF (h2 rfl)
theorem qi {Q : VK} {H : Hp} {a b : Int} (h : Q (.int a) H) (e : a = b) : Q (.int b) H := e ▸ h
theorem qb {Q : VK} {H : Hp} {a b : Bool} (h : Q (.bl a) H) (e : a = b) : Q (.bl b) H := e ▸ h
theorem r65 {k : Nat} {A : Around} (hr : Room k A) : A.units + 65 < cLine := by have := hr.un; omega
theorem at0 {α : Type} {x : α} {xs : List α} : atI (x :: xs) 0 = some x := atI_nat (j := 0) rfl
end FF
/-! Fivefault, part 5: tuples never change; comprehensions that map; slices. -/
namespace FF
open PySem PySem.Spec PyProof.Rows L2

/-! ### tuples stay -/
def SameT (H H' : Hp) : Prop := ∀ b xs, H b = some (.tup xs) → H' b = some (.tup xs)
theorem SameT.refl (H : Hp) : SameT H H := fun _ _ h => h
theorem SameT.trans {H H1 H2 : Hp} (a : SameT H H1) (b : SameT H1 H2) : SameT H H2 := fun c o h => b c o (a c o h)
theorem Same.T {H H' : Hp} (e : Same H H') : SameT H H' := fun b xs h => e b _ h
theorem SameT.upd {H H' : Hp} {p : Addr} {o : HO} (e : SameT H H') (h : ∀ xs, H' p ≠ some (.tup xs)) : SameT H (upd H' p o) := fun b xs q => by
  have := e b xs q
  rw [upd_ne (fun z => h xs (by rw [← z]; exact this))]
  exact this
theorem SameT.updL {H H' : Hp} {p : Addr} {o : HO} {ys : List V} (e : SameT H H') (h : H' p = some (.lst ys)) : SameT H (L2.upd H' p o) := e.upd fun xs z => by rw [h] at z; cases z
def SqU (K : PySem.W.Frag) (H : Hp) (a : Addr) (xs : List V) : Prop :=
  H a = some (.tup xs) ∨ ∃ (o : Obj) (its : Array Value) (n : Nat), K.lookup a = some o ∧ o.cls = .type "tuple" ∧ o.data = .seq its n ∧ its.size ≤ sizeLine ∧ Vals xs its.toList
theorem SqU.sqT {K : PySem.W.Frag} {H : Hp} {a : Addr} {xs : List V} (h : SqU K H a xs) : SqT K H a xs := by
  rcases h with h | h
  · exact .inl (.inl h)
  · exact .inr h
theorem SqU.up {K : PySem.W.Frag} {H H' : Hp} {a : Addr} {xs : List V} (e : SameT H H') (h : SqU K H a xs) : SqU K H' a xs := by
  rcases h with h | h
  · exact .inl (e _ _ h)
  · exact .inr h
mutual
/-- data of tuples, texts and the like: no lists -/
inductive Tp (K : PySem.W.Frag) (H : Hp) : V → PyData → Prop
  | non : Tp K H .non .none
  | bl (b : Bool) : Tp K H (.bl b) (.bool b)
  | int (i : Int) : Tp K H (.int i) (.int i)
  | str (x : Str) : Tp K H (.str x) (.str x)
  | tup {a : Addr} {xs : List V} {ds : List PyData} : SqU K H a xs → TpAll K H xs ds → Tp K H (.ref a) (.tuple ds)
inductive TpAll (K : PySem.W.Frag) (H : Hp) : List V → List PyData → Prop
  | nil : TpAll K H [] []
  | cons {v : V} {vs : List V} {d : PyData} {ds : List PyData} : Tp K H v d → TpAll K H vs ds → TpAll K H (v :: vs) (d :: ds)
end
section
variable {K : PySem.W.Frag} {H H' : Hp}
mutual
theorem Tp.dp : ∀ {v : V} {d : PyData}, Tp K H v d → Dp K H v d
  | _, _, .non => .non
  | _, _, .bl b => .bl b
  | _, _, .int i => .int i
  | _, _, .str x => .str x
  | _, _, .tup h a => .tup h.sqT a.dp
theorem TpAll.dp : ∀ {vs : List V} {ds : List PyData}, TpAll K H vs ds → DpAll K H vs ds
  | _, _, .nil => .nil
  | _, _, .cons h a => .cons h.dp a.dp
end
mutual
theorem Tp.up (e : SameT H H') : ∀ {v : V} {d : PyData}, Tp K H v d → Tp K H' v d
  | _, _, .non => .non
  | _, _, .bl b => .bl b
  | _, _, .int i => .int i
  | _, _, .str x => .str x
  | _, _, .tup h a => .tup (h.up e) (a.up e)
theorem TpAll.up (e : SameT H H') : ∀ {vs : List V} {ds : List PyData}, TpAll K H vs ds → TpAll K H' vs ds
  | _, _, .nil => .nil
  | _, _, .cons h a => .cons (h.up e) (a.up e)
end
theorem TpAll.len : ∀ {vs : List V} {ds : List PyData}, TpAll K H vs ds → vs.length = ds.length
  | _, _, .nil => rfl
  | _, _, .cons _ t => congrArg Nat.succ (TpAll.len t)
theorem TpAll.get : ∀ {vs : List V} {ds : List PyData} {i : Nat} {v : V}, TpAll K H vs ds → vs[i]? = some v → ∃ d, ds[i]? = some d ∧ Tp K H v d
  | _, _, 0, _, .cons h _, e => by cases e; exact ⟨_, rfl, h⟩
  | _, _, i + 1, _, .cons _ t, e => TpAll.get (i := i) t e
theorem TpAll.app : ∀ {vs ws : List V} {ds es : List PyData}, TpAll K H vs ds → TpAll K H ws es → TpAll K H (vs ++ ws) (ds ++ es)
  | _, _, _, _, .nil, r => r
  | _, _, _, _, .cons h t, r => .cons h (t.app r)
theorem TpAll.of_get : ∀ {vs : List V} {ds : List PyData}, vs.length = ds.length → (∀ (i : Nat) (v : V) (d : PyData), vs[i]? = some v → ds[i]? = some d → Tp K H v d) → TpAll K H vs ds
  | [], [], _, _ => .nil
  | [], _ :: _, h, _ => by cases h
  | _ :: _, [], h, _ => by cases h
  | v :: vs, d :: ds, h, k => .cons (k 0 v d rfl rfl) (TpAll.of_get (Nat.succ.inj h) fun i v d h1 h2 => k (i + 1) v d h1 h2)
end

/-! ### slices t[1:] -/
theorem cut1 {x : V} {xs : List V} : cutV (x :: xs) (some 1) none = xs := by
  show (((x :: xs).drop (HT.sIx (xs.length + 1) 0 (some ((1 : Nat) : Int)))).take (HT.sIx (xs.length + 1) (xs.length + 1) none - HT.sIx (xs.length + 1) 0 (some ((1 : Nat) : Int)))) = xs
  rw [HT.sIx_nat, HT.sIx_none, show min 1 (xs.length + 1) = 1 by omega]
  show xs.take (xs.length + 1 - 1) = xs
  rw [Nat.add_sub_cancel, List.take_length]
theorem notWhole1 {x : V} {xs : List V} : ¬ (HT.sIx (x :: xs).length 0 (some 1) = 0 ∧ HT.sIx (x :: xs).length (x :: xs).length none = (x :: xs).length) := by
  rintro ⟨h, _⟩
  have : HT.sIx (xs.length + 1) 0 (some ((1 : Nat) : Int)) = 0 := h
  rw [HT.sIx_nat] at this
  omega

/-! ### [e for x in xs] -/
section
variable {K : PySem.W.Frag} {a : Addr} {xs : List V} {te : TE} {vs : List Nat} {σ : L2.St} {H1 : Hp} {D : Addr} {Qd : Hp → Prop} {j : Nat}
/-- what a step of the loop over the list gives -/
theorem lc_turn {i : Nat} {H : Hp} {x : V} {R : Nat → V → Hp → Prop} (mono : ∀ i y H H', SameT H H' → R i y H → R i y H') (hD : H1 D = none)
    (p : Same H1 H ∧ ∃ ys, H D = some (.lst ys) ∧ ys.length = i ∧ ∀ m y, ys[m]? = some y → R m y H) (hi : i < sizeLine)
    (st : ∀ Q' : VK, (∀ y H3, Same H H3 → R i y H3 → Q' y H3) → te ((wipe σ vs).set j (some x)) H Q') :
    te ((wipe σ vs).set j (some x)) H fun y H4 => ∃ acc, H4 D = some (.lst acc) ∧ acc.length < sizeLine ∧ (Same H1 (upd H4 D (.lst (acc ++ [y]))) ∧ ∃ ys, (upd H4 D (.lst (acc ++ [y]))) D = some (.lst ys) ∧ ys.length = i + 1 ∧ ∀ m y', ys[m]? = some y' → R m y' (upd H4 D (.lst (acc ++ [y])))) := by
  obtain ⟨e1, ys, h2, h3, h4⟩ := p
  refine st _ fun y H3 e3 r => ?_
  have hd := e3 _ _ h2
  refine ⟨ys, hd, by omega, fun b o q => ?_, ys ++ [y], upd_same, by simp [h3], fun m y' q => ?_⟩
  · rw [upd_ne (ne_of_none q hD)]
    exact e3 _ _ (e1 _ _ q)
  · have eT : SameT H3 (upd H3 D (.lst (ys ++ [y]))) := (SameT.refl H3).updL hd
    by_cases hm : m < ys.length
    · rw [List.getElem?_append_left hm] at q
      exact mono _ _ _ _ ((Same.T e3).trans eT) (h4 m y' q)
    · have : m = ys.length := by
        have := (List.getElem?_eq_some_iff.mp q).1
        simp at this
        omega
      subst this
      rw [List.getElem?_append_right (Nat.le_refl _), Nat.sub_self] at q
      cases q
      rw [h3]
      exact mono _ _ _ _ eT r
theorem lc_mapT (R : Nat → V → Hp → Prop) (mono : ∀ i y H H', SameT H H' → R i y H → R i y H') (hD : H1 D = none) (hs : SqT K H1 a xs) (hz : xs.length ≤ sizeLine)
    (hw : ∀ x, wipe ((wipe σ vs).set j (some x)) vs = wipe σ vs)
    (step : ∀ i x H2, xs[i]? = some x → Same H1 H2 → ∀ Q' : VK, (∀ y H3, Same H2 H3 → R i y H3 → Q' y H3) → te ((wipe σ vs).set j (some x)) H2 Q')
    (done : ∀ H2 ys, Same H1 H2 → H2 D = some (.lst ys) → ys.length = xs.length → (∀ (i : Nat) (y : V), ys[i]? = some y → R i y H2) → Qd H2) :
    ∃ W : Nat → Nat → Hp → Prop, (∃ m, W 0 m (upd H1 D (.lst []))) ∧ ∀ i m H, W i m H →
      ((Itt K a).stop i H ∧ Qd H) ∨ ((Itt K a).go i H ∧ ∃ Nx : Hp → Prop, (∀ H', Nx H' → ∃ m', m' < m ∧ W (i + 1) m' H') ∧ ∀ x H', (Itt K a).yld i H x H' → gName j x (wipe σ vs) H' fun σ2 H2 => wipe σ2 vs = wipe σ vs ∧ tYes σ2 H2 fun b H3 =>
        if b = true then te σ2 H3 fun y H4 => ∃ acc, H4 D = some (.lst acc) ∧ acc.length < sizeLine ∧ Nx (upd H4 D (.lst (acc ++ [y]))) else Nx H3) :=
  lc_tup (fun i H => Same H1 H ∧ ∃ ys, H D = some (.lst ys) ∧ ys.length = i ∧ ∀ m y, ys[m]? = some y → R m y H)
    ⟨same_new hD _, [], upd_same, rfl, fun m y q => by simp at q⟩ (fun i H _ p => up_t p.1 hs)
    (fun i x H hx p => ⟨hw x, lc_turn mono hD p (Nat.lt_of_lt_of_le (List.getElem?_eq_some_iff.mp hx).1 hz) (step i x H hx p.1)⟩)
    fun H ⟨e, ys, h1, h2, h3⟩ => done H ys e h1 h2 h3
theorem lc_mapL (R : Nat → V → Hp → Prop) (mono : ∀ i y H H', SameT H H' → R i y H → R i y H') (hD : H1 D = none) (hs : SqL K H1 a xs) (hz : xs.length ≤ sizeLine)
    (hw : ∀ x, wipe ((wipe σ vs).set j (some x)) vs = wipe σ vs)
    (step : ∀ i x H2, xs[i]? = some x → Same H1 H2 → ∀ Q' : VK, (∀ y H3, Same H2 H3 → R i y H3 → Q' y H3) → te ((wipe σ vs).set j (some x)) H2 Q')
    (done : ∀ H2 ys, Same H1 H2 → H2 D = some (.lst ys) → ys.length = xs.length → (∀ (i : Nat) (y : V), ys[i]? = some y → R i y H2) → Qd H2) :
    ∃ W : Nat → Nat → Hp → Prop, (∃ m, W 0 m (upd H1 D (.lst []))) ∧ ∀ i m H, W i m H →
      ((Itl K a).stop i H ∧ Qd H) ∨ ((Itl K a).go i H ∧ ∃ Nx : Hp → Prop, (∀ H', Nx H' → ∃ m', m' < m ∧ W (i + 1) m' H') ∧ ∀ x H', (Itl K a).yld i H x H' → gName j x (wipe σ vs) H' fun σ2 H2 => wipe σ2 vs = wipe σ vs ∧ tYes σ2 H2 fun b H3 =>
        if b = true then te σ2 H3 fun y H4 => ∃ acc, H4 D = some (.lst acc) ∧ acc.length < sizeLine ∧ Nx (upd H4 D (.lst (acc ++ [y]))) else Nx H3) :=
  lc_list (fun i H => Same H1 H ∧ ∃ ys, H D = some (.lst ys) ∧ ys.length = i ∧ ∀ m y, ys[m]? = some y → R m y H)
    ⟨same_new hD _, [], upd_same, rfl, fun m y q => by simp at q⟩ (fun i H _ p => up_l p.1 hs)
    (fun i x H hx p => ⟨hw x, lc_turn mono hD p (Nat.lt_of_lt_of_le (List.getElem?_eq_some_iff.mp hx).1 hz) (step i x H hx p.1)⟩)
    fun H ⟨e, ys, h1, h2, h3⟩ => done H ys e h1 h2 h3
theorem lc_mapR {n : Nat} {lo : Int} (R : Nat → V → Hp → Prop) (mono : ∀ i y H H', SameT H H' → R i y H → R i y H') (hD : H1 D = none) (hz : n ≤ sizeLine)
    (hw : ∀ x, wipe ((wipe σ vs).set j (some x)) vs = wipe σ vs)
    (step : ∀ i H2, i < n → Same H1 H2 → ∀ Q' : VK, (∀ y H3, Same H2 H3 → R i y H3 → Q' y H3) → te ((wipe σ vs).set j (some (.int (lo + i)))) H2 Q')
    (done : ∀ H2 ys, Same H1 H2 → H2 D = some (.lst ys) → ys.length = n → (∀ (i : Nat) (y : V), ys[i]? = some y → R i y H2) → Qd H2) :
    ∃ W : Nat → Nat → Hp → Prop, (∃ m, W 0 m (upd H1 D (.lst []))) ∧ ∀ i m H, W i m H →
      ((Itr lo n).stop i H ∧ Qd H) ∨ ((Itr lo n).go i H ∧ ∃ Nx : Hp → Prop, (∀ H', Nx H' → ∃ m', m' < m ∧ W (i + 1) m' H') ∧ ∀ x H', (Itr lo n).yld i H x H' → gName j x (wipe σ vs) H' fun σ2 H2 => wipe σ2 vs = wipe σ vs ∧ tYes σ2 H2 fun b H3 =>
        if b = true then te σ2 H3 fun y H4 => ∃ acc, H4 D = some (.lst acc) ∧ acc.length < sizeLine ∧ Nx (upd H4 D (.lst (acc ++ [y]))) else Nx H3) :=
  lc_range (fun i H => Same H1 H ∧ ∃ ys, H D = some (.lst ys) ∧ ys.length = i ∧ ∀ m y, ys[m]? = some y → R m y H)
    ⟨same_new hD _, [], upd_same, rfl, fun m y q => by simp at q⟩
    (fun i H hx p => ⟨hw _, lc_turn mono hD p (Nat.lt_of_lt_of_le hx hz) (step i H hx p.1)⟩)
    fun H ⟨e, ys, h1, h2, h3⟩ => done H ys e h1 h2 h3
/-- the lists' items told by a function of the place -/
theorem eq_map_of {α : Type} {ys : List V} {ds : List α} {f : α → V} (hl : ys.length = ds.length) (h : ∀ (i : Nat) (y : V), ys[i]? = some y → ∃ d, ds[i]? = some d ∧ y = f d) : ys = ds.map f := by
  refine List.ext_getElem? fun i => ?_
  rw [List.getElem?_map]
  cases e : ys[i]? with
  | none =>
    have : ds.length ≤ i := by rw [← hl]; exact List.getElem?_eq_none_iff.mp e
    rw [List.getElem?_eq_none_iff.mpr this] <;> rfl
  | some y =>
    obtain ⟨d, h1, h2⟩ := h i y e
    rw [h1, h2] <;> rfl
end
end FF
/-! Fivefault, part 6: comprehensions over zip. -/
namespace FF
open PySem PySem.Spec PyProof.Rows L2
def ItS (S : Hp → Addr → List V → Prop) (a b : Addr) : It :=
  ⟨fun i H => ∃ (xs ys : List V) (x y : V), S H a xs ∧ S H b ys ∧ xs[i]? = some x ∧ ys[i]? = some y,
    fun i H v H' => ∃ T x y, v = .ref T ∧ H T = none ∧ H' = upd H T (.tup [x, y]) ∧ (∀ xs, S H a xs → xs[i]? = some x) ∧ ∀ ys, S H b ys → ys[i]? = some y,
    fun i H => ∃ xs ys : List V, S H a xs ∧ S H b ys ∧ (xs.length ≤ i ∨ ys.length ≤ i)⟩
section
variable {K : PySem.W.Frag} {S : Hp → Addr → List V → Prop} {a b : Addr} {xs ys : List V} {te : TE} {vs : List Nat} {σ : L2.St} {H1 : Hp} {D : Addr} {Qd : Hp → Prop} {j k : Nat}
theorem lc_zipS (up : ∀ {H H' a xs}, Same H H' → S H a xs → S H' a xs) (R : Nat → V → Hp → Prop) (mono : ∀ i y H H', SameT H H' → R i y H → R i y H') (hD : H1 D = none) (hx : S H1 a xs) (hy : S H1 b ys) (hl : xs.length = ys.length) (hz : xs.length ≤ sizeLine)
    (hw : ∀ x y, wipe (((wipe σ vs).set j (some x)).set k (some y)) vs = wipe σ vs)
    (step : ∀ i x y H2, xs[i]? = some x → ys[i]? = some y → Same H1 H2 → ∀ Q' : VK, (∀ u H3, Same H2 H3 → R i u H3 → Q' u H3) → te (((wipe σ vs).set j (some x)).set k (some y)) H2 Q')
    (done : ∀ H2 us, Same H1 H2 → H2 D = some (.lst us) → us.length = xs.length → (∀ (i : Nat) (u : V), us[i]? = some u → R i u H2) → Qd H2) :
    ∃ W : Nat → Nat → Hp → Prop, (∃ m, W 0 m (upd H1 D (.lst []))) ∧ ∀ i m H, W i m H →
      ((ItS S a b).stop i H ∧ Qd H) ∨ ((ItS S a b).go i H ∧ ∃ Nx : Hp → Prop, (∀ H', Nx H' → ∃ m', m' < m ∧ W (i + 1) m' H') ∧ ∀ x H', (ItS S a b).yld i H x H' → gTup K 2 (gCons (gName j) (gCons (gName k) gNil)) x (wipe σ vs) H' fun σ2 H2 => wipe σ2 vs = wipe σ vs ∧ tYes σ2 H2 fun b H3 =>
        if b = true then te σ2 H3 fun y H4 => ∃ acc, H4 D = some (.lst acc) ∧ acc.length < sizeLine ∧ Nx (upd H4 D (.lst (acc ++ [y]))) else Nx H3) := by
  let Pv : Nat → Hp → Prop := fun i H => Same H1 H ∧ ∃ us, H D = some (.lst us) ∧ us.length = i ∧ ∀ (m : Nat) (u : V), us[m]? = some u → R m u H
  refine ⟨fun i m H => m = xs.length - i ∧ i ≤ xs.length ∧ Pv i H, ⟨xs.length, by simp, Nat.zero_le _, same_new hD _, [], upd_same, rfl, fun m u q => by simp at q⟩, ?_⟩
  rintro i m H ⟨rfl, hi, e, us, h2, h3, h4⟩
  by_cases hlt : i < xs.length
  · refine .inr ⟨⟨xs, ys, xs[i], ys[i]'(by omega), up e hx, up e hy, by simp [hlt], by simp [show i < ys.length by omega]⟩, Pv (i + 1), fun H' p' => ⟨xs.length - (i + 1), by omega, rfl, hlt, p'⟩, ?_⟩
    rintro v H' ⟨T, x, y, rfl, nT, rfl, qx, qy⟩
    refine ⟨T, [x, y], rfl, SqT.of upd_same, rfl, x, [y], rfl, y, [], rfl, rfl, hw x y, ?_⟩
    have eT := same_new nT (.tup [x, y])
    have e' := e.trans eT
    show te (((wipe σ vs).set j (some x)).set k (some y)) (upd H T (.tup [x, y])) _
    refine step i x y _ (qx xs (up e hx)) (qy ys (up e hy)) e' _ fun u H3 e3 r => ?_
    have hd := e3 _ _ (eT _ _ h2)
    refine ⟨us, hd, by omega, fun b o q => ?_, us ++ [u], upd_same, by simp [h3], fun m u' q => ?_⟩
    · rw [upd_ne (ne_of_none q hD)]
      exact e3 _ _ (e' _ _ q)
    · have eD : SameT H3 (upd H3 D (.lst (us ++ [u]))) := (SameT.refl H3).updL hd
      by_cases hm : m < us.length
      · rw [List.getElem?_append_left hm] at q
        exact mono _ _ _ _ (((Same.T eT).trans (Same.T e3)).trans eD) (h4 m u' q)
      · have : m = us.length := by
          have := (List.getElem?_eq_some_iff.mp q).1
          simp at this
          omega
        subst this
        rw [List.getElem?_append_right (Nat.le_refl _), Nat.sub_self] at q
        cases q
        rw [h3]
        exact mono _ _ _ _ eD r
  · have hi2 : i = xs.length := by omega
    exact .inl ⟨⟨xs, ys, up e hx, up e hy, .inl (by omega)⟩, done H us e h2 (by omega) h4⟩
end
theorem all_true : ∀ (n : Nat), (List.replicate n true).all id = true
  | 0 => rfl
  | n + 1 => by rw [List.replicate_succ, List.all_cons, all_true n]; rfl
end FF
/-! Fivefault, part 7: what an expression over data gives (displays of constants and names). -/
namespace FF
open PySem PySem.Spec PyProof.Rows L2
section
variable {K : PySem.W.Frag} {σ : L2.St} {H : Hp}
def EvD (K : PySem.W.Frag) (te : TE) (σ : L2.St) (H : Hp) (d : PyData) : Prop := ∀ H1, Same H H1 → ∀ Q : VK, (∀ v H2, Same H1 H2 → Dp K H2 v d → Q v H2) → te σ H1 Q
def EvDs (K : PySem.W.Frag) (ta : TA) (σ : L2.St) (H : Hp) (ds : List PyData) : Prop := ∀ H1, Same H H1 → ∀ Q : List V → Hp → Prop, (∀ vs H2, Same H1 H2 → DpAll K H2 vs ds → Q vs H2) → ta σ H1 Q
def EvDl (K : PySem.W.Frag) (te : TE) (σ : L2.St) (H : Hp) (ds : List PyData) : Prop := ∀ H1, Same H H1 → ∀ Q : VK, (∀ p vs H2, H1 p = none → Same H1 H2 → H2 p = some (.lst vs) → DpAll K H2 vs ds → Q (.ref p) H2) → te σ H1 Q
theorem ev_non : EvD K (tC .non) σ H .none := fun H1 _ Q q => q .non H1 (Same.refl H1) .non
theorem ev_bl {b : Bool} : EvD K (tC (.bl b)) σ H (.bool b) := fun H1 _ Q q => q _ H1 (Same.refl H1) (.bl b)
theorem ev_int {i : Int} : EvD K (tC (.int i)) σ H (.int i) := fun H1 _ Q q => q _ H1 (Same.refl H1) (.int i)
theorem ev_str {z : Str} : EvD K (tC (.str z)) σ H (.str z) := fun H1 _ Q q => q _ H1 (Same.refl H1) (.str z)
theorem ev_var {i : Nat} {v : V} {d : PyData} (h : σ[i]? = some (some v)) (hd : Dp K H v d) : EvD K (tVar i) σ H d := fun H1 e Q q => ⟨v, h, q v H1 (Same.refl H1) (up_d e hd)⟩
theorem evs_nil : EvDs K tNil σ H [] := fun H1 _ Q q => q [] H1 (Same.refl H1) .nil
theorem evs_cons {te : TE} {ta : TA} {d : PyData} {ds : List PyData} (h : EvD K te σ H d) (t : EvDs K ta σ H ds) : EvDs K (tCons te ta) σ H (d :: ds) := fun H1 e Q q =>
  h H1 e _ fun v H2 e2 hd => t H2 (e.trans e2) _ fun vs H3 e3 hs => q (v :: vs) H3 (e2.trans e3) (.cons (up_d e3 hd) hs)
theorem ev_tup {ta : TA} {ds : List PyData} (h : EvDs K ta σ H ds) (hl : ds.length ≤ 20000) : EvD K (tTup ta) σ H (.tuple ds) := fun H1 e Q q =>
  h H1 e _ fun vs H2 e2 hs => ⟨by rw [da_len hs]; exact le_line hl, fun p hp => q _ _ (e2.trans (same_new hp _)) (.tup (SqT.of upd_same) (up_da (same_new hp _) hs))⟩
theorem ev_lst {ta : TA} {ds : List PyData} (h : EvDs K ta σ H ds) (hl : ds.length ≤ 20000) : EvD K (tLst ta) σ H (.list ds) := fun H1 e Q q =>
  h H1 e _ fun vs H2 e2 hs => ⟨by rw [da_len hs]; exact le_line hl, fun p hp => q _ _ (e2.trans (same_new hp _)) (.lst (SqL.of upd_same) (up_da (same_new hp _) hs))⟩
theorem evl_lst {ta : TA} {ds : List PyData} (h : EvDs K ta σ H ds) (hl : ds.length ≤ 20000) : EvDl K (tLst ta) σ H ds := fun H1 e Q q =>
  h H1 e _ fun vs H2 e2 hs => ⟨by rw [da_len hs]; exact le_line hl, fun p hp => q p vs _ ((Same.trans e2 (Same.refl _)).free hp) (e2.trans (same_new hp _)) upd_same (up_da (same_new hp _) hs)⟩
end
theorem da_mem {K : PySem.W.Frag} {H : Hp} : ∀ {vs : List V} {ds : List PyData} {v : V}, DpAll K H vs ds → v ∈ vs → ∃ d, d ∈ ds ∧ Dp K H v d
  | _, _, _, .cons h t, m => by
    rcases List.mem_cons.mp m with e | m
    · rw [e]; exact ⟨_, List.mem_cons_self .., h⟩
    · obtain ⟨d, h1, h2⟩ := da_mem t m
      exact ⟨d, List.mem_cons_of_mem _ h1, h2⟩
end FF
/-! Fivefault, part 8: the rules that name the written part, with K said outright (for comprehensions' blocks). -/
namespace FF
open PySem PySem.Spec PyProof.Rows L2
section
variable (K : PySem.W.Frag) {X : Cx}
theorem ix_listK (h : X.K = K := by rfl) : IxR X (rIxL K) := by subst h; exact ix_list
theorem ix_tupK (h : X.K = K := by rfl) : IxR X (rIxT K) := by subst h; exact ix_tup
theorem call_lenK (h : X.K = K := by rfl) : CallR X (.builtin "len") (fun xs H Q => ∃ x n, xs = [x] ∧ LenV K x H n ∧ Q (.int n) H) := by subst h; exact call_len
theorem call_isK {T : String} {f : PyData → Bool} (hk : ∀ d, kitB (tyN d) T = some (f d)) (h : X.K = K := by rfl) : CallR X (.builtin "isinstance") (rIsD K T f) := by subst h; exact call_isD hk
theorem op_eqK (hu : X.A.units + 64 < cLine) (h : X.K = K := by rfl) : OpR X (compareOp .Eq) (rEqD K) := by subst h; exact op_eqD hu
theorem op_neK (hu : X.A.units + 64 < cLine) (h : X.K = K := by rfl) : OpR X (compareOp .NotEq) (rNeD K) := by subst h; exact op_neD hu
theorem op_inK (hu : X.A.units + 65 < cLine) (h : X.K = K := by rfl) : OpR X (compareOp .In) (rInDs K false) := by subst h; exact op_inDs hu
theorem op_notInK (hu : X.A.units + 65 < cLine) (h : X.K = K := by rfl) : OpR X (compareOp .NotIn) (rInDs K true) := by subst h; exact op_notInDs hu
theorem op_in_seqK (h : X.K = K := by rfl) : OpR X (compareOp .In) (rIn K false) := by subst h; exact op_in_seq
theorem op_notIn_seqK (h : X.K = K := by rfl) : OpR X (compareOp .NotIn) (rIn K true) := by subst h; exact op_notIn_seq
theorem sl_tupK (h : X.K = K := by rfl) : SlR X (rSlT K) := by subst h; exact sl_tup
theorem sl_listK (h : X.K = K := by rfl) : SlR X (rSlL K) := by subst h; exact sl_list
theorem call_list_ofK (h : X.K = K := by rfl) : CallR X (.type "list") (fun xs H Q => ∃ p ys, xs = [.ref p] ∧ (SqL K H p ys ∨ SqT K H p ys) ∧ ∀ l, H l = none → Q (.ref l) (upd H l (.lst ys))) := by subst h; exact call_list_of
theorem call_tuple_ofK (h : X.K = K := by rfl) : CallR X (.type "tuple") (fun xs H Q => ∃ p ys, xs = [.ref p] ∧ ((SqL K H p ys ∧ ∀ l, H l = none → Q (.ref l) (upd H l (.tup ys))) ∨ (SqT K H p ys ∧ Q (.ref p) H))) := by subst h; exact call_tuple_of
theorem cr_sumK (hc : X.calm = true) (h : X.K = K := by rfl) : CallR X (.builtin "sum") (rSum K) := by subst h; exact cr_sum hc
theorem cr_allK (hc : X.calm = true) (h : X.K = K := by rfl) : CallR X (.builtin "all") (rAll K) := by subst h; exact cr_all hc
theorem cr_anyK (hc : X.calm = true) (h : X.K = K := by rfl) : CallR X (.builtin "any") (rAny K) := by subst h; exact cr_any hc
theorem cr_sortedK (h : X.K = K := by rfl) : CallR X (.builtin "sorted") (rSorted K) := by subst h; exact cr_sorted
theorem cr_sortedSK (h : X.K = K := by rfl) : CallR X (.builtin "sorted") (rSortedS K) := by subst h; exact cr_sortedS
theorem pg_tupK {es : List Expr} {k : Nat} {t : TGs} {n : Nat} {pos : Pos} (hc : X.calm = true) (h : PGs X es t) (hk : X.K = K := by rfl)
    (hn : (assignEach es X.env).length = n := by rfl) (hst : (assignEach es X.env).findIdx? (·.1) = none := by rfl) : PG X (.Tuple es k pos) (gTup K n t) := by subst hk; exact pg_tup hc h hn hst
theorem pi_listK {tg l : Expr} {tl : TE} (hl : PE X l tl) (h : X.K = K := by rfl) : PI X tg l (iList K tl) := by subst h; exact pi_list hl
theorem pi_tupK {tg l : Expr} {tl : TE} (hl : PE X l tl) (h : X.K = K := by rfl) : PI X tg l (iTup K tl) := by subst h; exact pi_tup hl
theorem pi_zipK {e e2 : Expr} {ta : TA} {p pos tpos : Pos} {elts : List Expr} {kk : Nat} (hg : Gl X "zip") (hm : X.mg "zip" = none) (ha : PA X [e, e2] ta) (h : X.K = K := by rfl)
    (hs : starEach [e, e2] X.env = (false, eval e X.env) :: starEach [e2] X.env := by rfl) (hpl : (backTo pos (starEach [e2] X.env)).any (·.1) = false := by rfl) :
    PI X (.Tuple elts kk tpos) (.Call (.Name "zip" p) [e, e2] [] pos) (RZ.iZipA K ta) := by subst h; exact RZ.pi_zipA hg hm ha hs hpl
theorem pi_enumK {e : Expr} {ta : TA} {p pos tpos : Pos} {elts : List Expr} {kk : Nat} (hg : Gl X "enumerate") (hm : X.mg "enumerate" = none) (ha : PA X [e] ta) (h : X.K = K := by rfl) (hs : starEach [e] X.env = [(false, eval e X.env)] := by rfl) :
    PI X (.Tuple elts kk tpos) (.Call (.Name "enumerate" p) [e] [] pos) (iEnum K ta) := by subst h; exact pi_enum hg hm ha hs
theorem pe_bm0K {T name id : String} {r : V → List V → Hp → VK → Prop} {o : Expr} {to : TE} {apos cpos : Pos} (pa : PlainAttrs T) (slot : Slot T name id) (hty : typeOf (.builtin id) = pure (.type "method_descriptor")) (hm : MtR X id r) (ho : PE X o to) (h : X.K = K := by rfl)
    (hbase : attributeBase o name X.env (eval o X.env) = eval o X.env := by rfl) (hline : (apos.endLine == cpos.line) = true := by rfl) : PE X (.Call (.Attribute o name apos) [] [] cpos) (tBM0 K T r to) := by subst h; exact pe_bm0 pa slot hty hm ho hbase hline
theorem pe_bmK {T name id : String} {r : V → List V → Hp → VK → Prop} {o e : Expr} {es : List Expr} {to : TE} {t : TA} {apos cpos : Pos} (pa : PlainAttrs T) (slot : Slot T name id) (hty : typeOf (.builtin id) = pure (.type "method_descriptor")) (hm : MtR X id r) (ho : PE X o to) (ha : PA X (e :: es) t) (h : X.K = K := by rfl)
    (hbase : attributeBase o name X.env (eval o X.env) = eval o X.env := by rfl)
    (hfew : ((backTo cpos (starEach (e :: es) X.env)).all (fun x => !x.1) && (backToKw cpos (keywordEach [] X.env)).all (fun x => x.1.isSome)
      && decide ((e :: es).length + ([] : List Keyword).length + (if ([] : List Keyword).isEmpty then 0 else 1) < 30)) = true := by rfl)
    (hline : (apos.endLine == cpos.line) = true := by rfl) (hs : starEach (e :: es) X.env = (false, eval e X.env) :: starEach es X.env := by rfl) (hplain : (backTo cpos (starEach es X.env)).any (·.1) = false := by rfl) :
    PE X (.Call (.Attribute o name apos) (e :: es) [] cpos) (tBM K T r to t) := by subst h; exact pe_bm pa slot hty hm ho ha hbase hfew hline hs hplain
end
end FF
namespace FF
open L2
theorem seq_asg {te : TE} {i : Nat} {u : TS} {D : Ends} {σ : L2.St} {H : Hp} (h : te σ H fun x H1 => u D (σ.set i (some x)) H1) : tSeq (tAsg te (gName i)) u D σ H := h
theorem ret_of {te : TE} {D : Ends} {σ : L2.St} {H : Hp} (h : te σ H D.rt) : tRet te D σ H := h
theorem op_of {r : R2} {ta tb : TE} {σ : L2.St} {H : Hp} {Q : VK} (h : ta σ H fun x H1 => tb σ H1 fun y H2 => r x y H2 Q) : tOp r ta tb σ H Q := h
end FF
namespace FF
open PySem PySem.Spec PyProof.Rows L2
theorem fn_mk {P : Program} {w : World} {K : PySem.W.Frag} {mg : Str → Option Value} {base : Heap} {x : Str} {st : Stmt} {f : Addr} {fd : FuncData} {dvs : List V} {kws : List (Str × V)} {N ps : List Str} {k : Nat} {sp : Sp} (F : FunD K x x (defArgs st) (defBody st) (defScope st) dvs kws f fd)
    (S : FnScope N ps (defScope st)) (len : ∀ vs H Q E, sp vs H Q E → vs.length = ps.length)
    (body : ∀ (cdv : Value) (A : Around) (outer : List Env) (s : Shared) (H : Hp) (vs : List V) (Q : VK) (E : XK), Room k (A.deeper (envOfC x (defScope st) s.heap.objs.size f cdv)) → sp vs H Q E →
      ∃ t, PSs (cxOf CX0 P w K mg base N x (defScope st) f cdv A outer s H E).nox (defBody st) t ∧ t { nx := fun _ H' => Q .non H', rt := Q } (start N vs) H) : FnOk P w K mg base CX0 (k + 1) f fd ps sp :=
  FunD.ok F S len fun cdv A outer s H vs Q E hr h => let ⟨t, a, b⟩ := body cdv A outer s H vs Q E hr h; ⟨t, PSs.nox a, b⟩
theorem da_rep {K : PySem.W.Frag} {H : Hp} {v : V} {d : PyData} (h : Dp K H v d) : ∀ n : Nat, DpAll K H (List.replicate n [v]).flatten (List.replicate n d)
  | 0 => .nil
  | n + 1 => by
    rw [List.replicate_succ, List.replicate_succ, List.flatten_cons]
    exact .cons h (da_rep h n)
theorem flat_len {v : V} : ∀ n : Nat, (List.replicate n [v]).flatten.length = n
  | 0 => rfl
  | n + 1 => by rw [List.replicate_succ, List.flatten_cons, List.length_append, flat_len n, List.length_singleton]; omega
end FF
namespace FF
open PySem PySem.Spec PyProof.Rows L2
/-- a <= b <= c, both answers at once -/
theorem chain_le {a b c : Int} {tc : TE} {σ : L2.St} {H : Hp} {Q : VK} (hc : ∀ Q' : VK, Q' (.int c) H → tc σ H Q') (h : Q (.bl (decide (a ≤ b) && decide (b ≤ c))) H) :
    rI0 (fun i j => .bl (decide (i ≤ j))) (.int a) (.int b) H fun z H3 => ∃ k, z = .bl k ∧ if k = true then tc σ H3 fun w H4 => rI0 (fun i j => .bl (decide (i ≤ j))) (.int b) w H4 Q else Q (.bl false) H3 := by
  refine ⟨_, _, rfl, rfl, _, rfl, ?_⟩
  refine if_dec (fun h1 => ?_) (fun h1 => ?_)
  · rw [decide_eq_true h1, Bool.true_and] at h
    exact hc _ ⟨_, _, rfl, rfl, h⟩
  · rw [decide_eq_false h1, Bool.false_and] at h
    exact h
end FF
namespace FF
open PySem PySem.Spec PyProof.Rows L2
/-- a promise that is never asked -/
theorem def_none {P : Program} {w : World} {K : PySem.W.Frag} {mg : Str → Option Value} {base : Heap} {x qual : Str} {params : Arguments} {body : List Stmt} {scope : Scope} {dvs : List V} {kws : List (Str × V)} {f : Addr} {fd : FuncData} {ps : List Str} {sp : Sp}
    (F : FunD K x qual params body scope dvs kws f fd) (hm : mg x = some (.ref f)) (hb : Binds K fd ps []) (no : ∀ vs H Q E, ¬ sp vs H Q E) : Def P w K mg base x 0 ps sp :=
  ⟨f, fd, ⟨fun vs H Q E h => absurd h (no vs H Q E), fun A outer s H args us vs Q E _ _ _ _ h => absurd h (no vs H Q E)⟩, hm, F.kp, hb⟩
end FF
/-! Fivefault, part 9: exceptions with own __init__s that call the base's; clauses with names; f(lambda: ..). -/
namespace FF
open PySem PySem.Spec PyProof.Rows L2
/-! ### C.m(self, ..), m a def of the class C -/
section
variable {X : Cx} {CX : CXT} {k : Nat} {C g : Addr} {mc : Value} {fd : FuncData} {ps : List Str} {sp : Sp} {E : XK} {x m : Str} {p1 p2 pos : Pos} {e : Expr} {es : List Expr} {t : TA}
theorem pe_clsfn {pl : Sem Bool} (hg : Gl X x) (hm : X.mg x = some (.ref C)) (r : ClX.CRead X.K C mc) (c : ClX.CVal X.K C mc m (.ref g) (.ref g)) (F : FnOk X.prog X.w X.K X.mg X.base CX k g fd ps sp) (hr : Room k X.A) (hk : PySem.W.keepIn X.K (.ref g) = true) (hb : Binds X.K fd ps []) (hx : Passes CX X E)
    (ha : PA X (e :: es) t) (hd : (x == ("__debug__" : Str)) = false := by decide)
    (hc : eval (.Call (.Attribute (.Name x p1) m p2) (e :: es) [] pos) X.env = (do
      let ov ← eval (.Name x p1) X.env
      standAt p2.atName
      let (f, first) ← holding [ov] (getMethod ov m pl)
      callWith pos f first (backTo pos (starEach (e :: es) X.env)) (backToKw pos (keywordEach [] X.env))) := by rfl)
    (he : starEach (e :: es) X.env = (false, eval e X.env) :: starEach es X.env := by rfl) (hpl : (backTo pos (starEach es X.env)).any (·.1) = false := by rfl) :
    PE X (.Call (.Attribute (.Name x p1) m p2) (e :: es) [] pos) (tCall sp [] E t) := by
  refine ⟨fun pins s σ H Q I h => ?_⟩
  refine PySem.W.methodCall_KW (pl := pl) (ld_glob I hg hm ?_ hd) hc
  refine PySem.W.method_cls I.kIn r.ga (ClX.getcval_ok I r c fun s' I' => ?_)
  refine PySem.W.callWith_K (h₀ := X.base) I.ok.mod.kin hk (thn (ha.run pos pins s' σ H _ I' h) fun us s1 ⟨vs, H1, I1, r1, q⟩ => ⟨I1.kIn, ?_⟩) he hpl
  exact run_fn F hr hb .nil hx I1 r1 q
end
/-! ### C(): an own exception without arguments -/
section
variable {X : Cx} {p pos : Pos}
theorem pmk_oex0 {CX : CXT} {x : Str} {C fI : Addr} {k : Nat} {fd : FuncData} {ps : List Str} {sp : Sp} (T : OexC X.K C) (iC : PySem.W.findIn X.K (.ref C) "__init__" = some (some (.ref fI))) (tI : PySem.W.typeIn X.K (.ref fI) = some (.type "function"))
    (F1 : FnOk X.prog X.w X.K X.mg X.base CX k fI fd ps sp) (hr : Room (k + 1) X.A) (hb : Binds X.K fd ps []) (hx : Passes CX X (fun _ _ _ => False)) (hg : Gl X x) (hm : X.mg x = some (.ref C)) (hdb : (x == ("__debug__" : Str)) = false := by decide) :
    PMk X (.Call (.Name x p) [] [] pos) (tMkO C sp [] tNil) := by
  intro pins s σ H Q I h
  obtain ⟨nm, q, N, bs, bm, sn, sub, ab, col, dd, k0, k1, k2, k3, k5, hC, hbm⟩ := T.cls
  refine wpAny_Call_Name_kw (ld_glob I hg hm ?_ hdb)
  refine PySem.W.callWith_K0 (first := []) I.kIn T.kC ?_
  obtain ⟨hz, q1⟩ := h
  show wpAny _ _ (call (.ref C) []) _ _ _
  obtain ⟨hp, g, dr, tk, os⟩ := s
  have hsz : hp.objs.size ≤ hp.objs.size + 1 := Nat.le_succ _
  have hn : H (hp.objs.size + 1) = none := I.hok.fresh hsz
  have hq := q1 (hp.objs.size + 1) hn
  have kk : ∀ b o, hp.get? b = some o → ((hp.push (PySem.W.kdv_tup [])).push (PySem.HandSPX.excO C hp.objs.size)).get? b = some o := fun b o e => Heap.get?_push_of_some _ (Heap.get?_push_of_some _ e)
  have hget : ((hp.push (PySem.W.kdv_tup [])).push (PySem.HandSPX.excO C hp.objs.size)).get? (hp.objs.size + 1) = some (PySem.HandSPX.excO C hp.objs.size) := by heap_get
  have I2 : Inv X pins σ (upd H (hp.objs.size + 1) (exo (hp.objs.size + 1) C none)) ⟨(hp.push (PySem.W.kdv_tup [])).push (PySem.HandSPX.excO C hp.objs.size), g, dr, tk, os⟩ :=
    I.laid (t' := tk) (a := hp.objs.size + 1) (o := exo (hp.objs.size + 1) C none) (h' := (hp.push (PySem.W.kdv_tup [])).push (PySem.HandSPX.excO C hp.objs.size)) kk hsz (exo_ok hget)
  have r2 : Vals [V.ref (hp.objs.size + 1)] [Value.ref (hp.objs.size + 1)] := .cons rfl .nil
  have hl : ([Value.ref (hp.objs.size + 1)] ++ ([] : List Value)).length = ps.length := by
    have e := F1.len _ _ _ _ hq
    show 1 = ps.length
    exact e
  refine wpAny_call (PySem.HandSPX.call_own F.excBase_ValueError (fun Y => PySem.HandSPX.refsVE_contains Y bm hbm) (I.kIn _ _ hC) (PySem.W.looks_findIn I.kIn iC) (fun self => PySem.W.bind_fn I.kIn self tI) (Nat.zero_le _)
    (codeAny_mono (F1.run _ X.stack _ _ ⟨[Value.ref (hp.objs.size + 1)], []⟩ [Value.ref (hp.objs.size + 1)] _ _ (fun _ _ _ => False) (hr.make C [] []) (I2.env0.make C [] []) (hb _ [Value.ref (hp.objs.size + 1)] I2.kIn hl) r2 hq) fun r s' hq' => ?_))
  cases r with
  | error er => exact hx pins σ _ _ er s' I2 hq'
  | ok fl =>
    cases fl with
    | ret u =>
      obtain ⟨v, H2, os2, bare2, un2, hok2, rv, ev, d, fs, ea, ed, hd1, q2⟩ := hq'
      subst ev
      obtain ⟨h2, g2, d2, t2, os'⟩ := s'
      exact ⟨rv, mk_end (raises_own T.exC T.tyC) I hsz kk un2 hok2 os2 bare2 ea ed hd1 q2⟩
    | next => exact False.elim hq'
    | brk => exact False.elim hq'
    | cont => exact False.elim hq'
end
/-! ### try .. except A as e: .. except B as e: .. -/
abbrev asEnds (i : Nat) (D : Ends) : Ends := { nx := fun σ' H' => D.nx (σ'.set i none) H', rt := D.rt, bk := fun σ' H' => D.bk (σ'.set i none) H', ct := fun σ' H' => D.ct (σ'.set i none) H' }
def wManyA (K : PySem.W.Frag) (i : Nat) (Wout : WX) (D : Ends) : List (Value × (Addr → Value → Option Addr → TS)) → WX
  | [] => Wout
  | (c, ts) :: r => fun cls d σ H => ∃ b, PySem.W.exmOne K cls c = some b ∧ (b = true → ∀ a, H a = none → ts a cls d (asEnds i D) (σ.set i (some (.ref a))) H) ∧ (b = false → wManyA K i Wout D r cls d σ H)
inductive HdsA (X : Cx) (n : Str) : List ExceptHandler → List (Value × (Addr → Value → Option Addr → TS)) → Prop
  | nil : HdsA X n [] []
  | cons {x : Str} {c : Value} {ts : Addr → Value → Option Addr → TS} {b₀ : Stmt} {suite : List Stmt} {np pos' : Pos} {hds : List ExceptHandler} {l : List (Value × (Addr → Value → Option Addr → TS))} (hc : Names X x c)
      (hsu : ∀ (a : Addr) (oe : Obj) (cls : Value) (d : Option Addr) (pn : List (Addr × Obj)), Zc cls d oe → (∃ vs, oe.data = .fields vs) → PSs (X.suite a ((a, oe) :: pn)) (b₀ :: suite) (ts a cls d)) (r : HdsA X n hds l) :
      HdsA X n (.ExceptHandler (some (.Name x np)) (some n) (b₀ :: suite) pos' :: hds) ((c, ts) :: l)
section
variable {X : Cx} {n : Str} {i : Nat} {body : List Stmt} {h₀ : ExceptHandler} {hds : List ExceptHandler} {l : List (Value × (Addr → Value → Option Addr → TS))} {pos : Pos} {tb : WX → TS} {Wout : WX}
theorem ps_try_manyA (hs : X.stack = X.env :: X.outer) (hf : X.env.frame = some X.env.locals) (hN : X.N.Nodup) (hi : X.N[i]? = some n) (hln : X.env.kindOf n = some .local) (tk : Takes X Wout)
    (hb : ∀ (W : WX) (pn : List (Addr × Obj)) (xe : Value → Shared → Prop), Takes (X.tr pn xe) W → PassesOwn (model X.prog X.w) X.A X.env xe → PSs (X.tr pn xe) body (tb W))
    (hh : HdsA X n (h₀ :: hds) l) : PS X (.Try body (h₀ :: hds) [] [] pos) (fun D σ H => tb (wManyA X.K i Wout D l) D σ H) := by
  refine ⟨fun pins s σ H D I h => ?_⟩
  have ok := I.ok
  have hfr : X.A.frames = some (X.env :: X.outer) := by rw [ok.frames, hs]
  have hloc : Loc X.env.scope n := .inl hln
  refine wpAny_Try_except ?_
  refine wpAny_mono ((hb (wManyA X.K i Wout D l) (X.pn ++ pins) (fun e s₁ => wpAny (model X.prog X.w) X.A (noteFrame e X.env) (fun _ s₂ => wpAny (model X.prog X.w) X.A (setFlight e none) (fun _ s₃ =>
    wpAny (model X.prog X.w) X.A (handleBy e X.env (h₀ :: hds)) (SP X pins D) X.xe s₃) X.xe s₂) X.xe s₁) (fun u s' xx => ?_) PassesOwn.looking).run [] s σ H D (I.toTry _) h) (fun f s1 hsp => ?_) (fun e s1 he => he)
  · obtain ⟨a, B, sI, pins', σ', H', cls, d, rfl, J', nb, up, sky, na, os, ag, w⟩ := xx
    have J : Inv X pins σ' H' sI := J'.ofTry ok
    have sky' : Sky B (X.env :: X.outer) a (Zc cls d) X.env.locals s'.heap := by rw [← hs]; exact sky
    show wpAny (model X.prog X.w) X.A (noteFrame (.ref a) X.env) _ _ _
    refine Sky.land Zc.steady hfr hf sky' fun h3 fl3 up3 => ?_
    have J3 : Inv X pins σ' H' { s' with heap := h3 } := J.landed nb fl3.1 (up.trans up3) os ag
    obtain ⟨oe3, vs3, he3, hz3, hd3⟩ := fl3.there
    have notFr : ∀ {h : Heap} {o : Obj} {vs : Array Value}, h.FunFrames B (X.env :: X.outer) → h.get? a = some o → o.data = .fields vs → a ∉ frs (X.env :: X.outer) := fun {h o vs} ff e dd hm => by
      obtain ⟨_, o', e', hnf⟩ := ff.mem hm
      rw [e] at e'; cases e'
      exact hnf _ dd
    have nfr := notFr fl3.2.2.1 he3 hd3
    have nL : a ≠ X.env.locals := fun z => nfr (List.mem_filterMap.mpr ⟨X.env, List.mem_cons_self, by rw [hf, z]⟩)
    have nF : a ∉ X.fs := fun hm => by
      obtain ⟨e, he, q⟩ := List.mem_filterMap.mp hm
      exact nfr (List.mem_filterMap.mpr ⟨e, List.mem_cons_of_mem _ he, q⟩)
    have S3 := J3.suite he3 hd3 na nL nF
    have go : ∀ {hds' : List ExceptHandler} {l' : List (Value × (Addr → Value → Option Addr → TS))}, HdsA X n hds' l' → wManyA X.K i Wout D l' cls d σ' H' →
        wpAny (model X.prog X.w) X.A (handleBy (.ref a) X.env hds') (SP X pins D) X.xe { s' with heap := h3 } := by
      intro hds' l' hk
      induction hk with
      | nil =>
        intro w
        refine wpAny_handleBy_nil ?_
        obtain ⟨k1, k2, k3, oe, vs, T, oT, ts', he, hz, hd, h1, hr⟩ := id fl3
        unfold PySem.passOn
        refine wpAny_bind (wpAny_field he hd h1 ?_)
        rw [if_neg (show ¬ ((Value.ref T == Value.none) = true) from by simp)]
        have fin : wpAny (model X.prog X.w) X.A (setFlight (.ref a) X.env.frame) (fun _ s4 => wpAny (model X.prog X.w) X.A (throw (.ref a) : Sem Flow) (SP X pins D) X.xe s4) X.xe { s' with heap := h3 } := by
          rw [hf]
          refine HandSPX.setFlight_upZ fl3 fun h4 hh4 up4 => wpAny_throw (tk _ _ ?_)
          exact ⟨a, B, sI, pins, σ', H', cls, d, rfl, J, nb, (up.trans up3).trans up4, .inr (.inr (by rw [hs]; exact hh4)), na, os, ag, w⟩
        first
          | exact wpAny_bind (wpAny_pure (wpAny_bind fin))
          | exact wpAny_bind fin
      | @cons x c ts b₀ suite np pos' hds2 l2 hc hsu r ih =>
        intro w
        obtain ⟨b, hb1, hyes, hno⟩ := w
        refine wpAny_handleBy_cons (codeAny_handlers_test ?_) (by intro q; cases q)
        have LT : PySem.W.Looks (model X.prog X.w) h3 (typeOf (.ref a)) cls := fun A Q E s k q => wpAny_typeOf_ref (k _ _ he3) (by rw [hz3.1]; exact q)
        have LM := PySem.W.exm_one (M := model X.prog X.w) (J3.kIn) LT hb1
        have test : ∀ {Q : Value → Shared → Prop} {E : Value → Shared → Prop}, Q c { s' with heap := h3 } → wpAny (model X.prog X.w) (X.A.mark (some (.ref a))) (eval (.Name x np) X.env) Q E { s' with heap := h3 } := fun {Q E} q => by
          obtain ⟨hg, hdbg, hm | ⟨hm, hv, hnn⟩⟩ := hc
          · exact ld_glob (X := X.suite a ((a, oe3) :: (X.pn ++ pins))) S3 hg hm q hdbg
          · exact ld_blt (X := X.suite a ((a, oe3) :: (X.pn ++ pins))) S3 hg hm hv q hnn hdbg
        refine test (LM.here ?_)
        cases b with
        | true =>
          refine codeAny_handlers_suite_as ?_
          refine HandSPX.lands_againZ fl3 fun h4 fl4 up4 => ?_
          have J4 : Inv X pins σ' H' { s' with heap := h4 } := J.landed nb fl4.1 ((up.trans up3).trans up4) os ag
          obtain ⟨oe4, vs4, he4, hz4, hd4⟩ := fl4.there
          have S4 := J4.suite he4 hd4 na nL nF
          refine store_ok (X := X.suite a ((a, oe4) :: (X.pn ++ pins))) (v := .ref a) S4 hN hi hloc rfl (fun s5 S5 => ?_) (.inr hln)
          refine wpAny_mono ((hsu a oe4 cls d (X.pn ++ pins) hz4 ⟨_, hd4⟩).run [] s5 _ H' _ S5 (hyes rfl a na)) (fun f s6 hsp => ?_) (fun _ _ z => False.elim z)
          have end_ : ∀ {σ6 : L2.St} {H6 : Hp} {Q : Shared → Prop}, Inv (X.suite a ((a, oe4) :: (X.pn ++ pins))) [] σ6 H6 s6 → (∀ s7, Inv X pins (σ6.set i none) H6 s7 → Q s7) →
              wpAny (model X.prog X.w) X.A (do bindName X.env n .none; unbindBehindTheSuite X.env n pos') (fun _ s7 => Q s7) X.xe s6 := fun {σ6 H6 Q} S6 hq => gone_ok (S6.unsuite ok) hN hi hln hq
          cases f with
          | next =>
            obtain ⟨σ6, H6, S6, q6⟩ := hsp
            exact end_ S6 fun s7 J7 => ⟨_, _, J7, q6⟩
          | brk =>
            obtain ⟨σ6, H6, S6, q6⟩ := hsp
            exact end_ S6 fun s7 J7 => ⟨_, _, J7, q6⟩
          | cont =>
            obtain ⟨σ6, H6, S6, q6⟩ := hsp
            exact end_ S6 fun s7 J7 => ⟨_, _, J7, q6⟩
          | ret u =>
            obtain ⟨v6, σ6, H6, S6, r6, q6⟩ := hsp
            exact end_ S6 fun s7 J7 => ⟨_, _, _, J7, r6, q6⟩
        | false =>
          show wpAny _ X.A (handleBy (.ref a) X.env hds2) _ _ _
          exact ih (hno rfl)
    exact go hh w
  · cases f with
    | next =>
      obtain ⟨σ', H', J', q⟩ := hsp
      exact wpAny_execs_nil ⟨σ', H', J'.ofTry ok, q⟩
    | brk =>
      obtain ⟨σ', H', J', q⟩ := hsp
      exact ⟨σ', H', J'.ofTry ok, q⟩
    | cont =>
      obtain ⟨σ', H', J', q⟩ := hsp
      exact ⟨σ', H', J'.ofTry ok, q⟩
    | ret u =>
      obtain ⟨v, σ', H', J', r, q⟩ := hsp
      exact ⟨v, σ', H', J'.ofTry ok, r, q⟩
end
theorem pss_ex {X : Cx} {st : List Stmt} {α : Type} {p : α → Prop} {t : α → TS} (h : ∀ c, p c → PSs X st (t c)) : PSs X st (fun D σ H => ∃ c, p c ∧ t c D σ H) :=
  ⟨fun pins s σ H D I ⟨c, hc, q⟩ => (h c hc).run pins s σ H D I q⟩
end FF
/-! Fivefault, part 10: own exceptions told of, defs that raise, f(lambda: ..) caught by clauses. -/
namespace FF
open PySem PySem.Spec PyProof.Rows L2
/-! ### what the written part says of an own class of exceptions, by a Bool -/
def oexB (K : PySem.W.Frag) (C : Addr) : Bool := match K.lookup C with
  | some ⟨.type "type", _, .cls cd, sl⟩ => (match cd.mro, sl.toList with
    | .ref C' :: bm, [_, _, _, _, some (.builtin n), _] => C' == C && n == "ValueError.__new__" && !cd.hasDel && cd.hasDict && PySem.HandSPX.refsVE bm
    | _, _ => false)
  | _ => false
theorem oexB_ok {K : PySem.W.Frag} {C : Addr} (q : oexB K C = true) : ∃ nm q N bs bm sn sub ab col dd k0 k1 k2 k3 k5, K.lookup C = some (excClassObj nm q C N bs bm true sn sub ab col dd k0 k1 k2 k3 k5 "ValueError.__new__") ∧ PySem.HandSPX.refsVE bm = true := by
  unfold oexB at q
  split at q
  · rename_i dd cd sl ho
    split at q
    · rename_i C' bm k0 k1 k2 k3 n k5 hm hs
      simp only [Bool.and_eq_true, beq_iff_eq, Bool.not_eq_true'] at q
      obtain ⟨⟨⟨⟨rfl, rfl⟩, hdel⟩, hdict⟩, ht⟩ := q
      obtain ⟨nm, bs, mro, ns, qn, hd, sn, sub, ab, col, del⟩ := cd
      dsimp only at hm hdel hdict
      subst hm hdel hdict
      have hsl : sl = #[k0, k1, k2, k3, some (.builtin "ValueError.__new__"), k5] := by
        obtain ⟨l⟩ := sl
        simp only at hs
        rw [hs]
      subst hsl
      exact ⟨nm, qn, ns, bs, bm, sn, sub, ab, col, dd, k0, k1, k2, k3, k5, ho, ht⟩
    · cases q
  · cases q
/-- an own class C of exceptions: raised, caught, its code read -/
structure OwnC (K : PySem.W.Frag) (C : Addr) : Prop where
  o : OexC K C
  xf : XfC K C
  noc : PySem.W.findIn K (.ref C) "code" = some none
def ownCB (K : PySem.W.Frag) (C : Addr) : Bool := oexB K C && (He.eqO (PySem.W.findIn K (.ref C) "__setattr__") (some (some (.builtin "object.__setattr__"))) && (decide (PySem.W.subIn K (.ref C) (.type "BaseException") = some true) && (decide (PySem.W.typeIn K (.ref C) = some (.type "type")) &&
  (PySem.W.keepIn K (.ref C) && (xfB K C && He.eqO (PySem.W.findIn K (.ref C) "code") (some none))))))
theorem ownCB_ok {K : PySem.W.Frag} {C : Addr} (h : ownCB K C = true) : OwnC K C := by
  obtain ⟨h1, h⟩ := He.ba h
  obtain ⟨h2, h⟩ := He.ba h
  obtain ⟨h3, h⟩ := He.ba h
  obtain ⟨h4, h⟩ := He.ba h
  obtain ⟨h5, h⟩ := He.ba h
  obtain ⟨h6, h7⟩ := He.ba h
  exact ⟨⟨oexB_ok h1, He.eqO_ok h2, of_decide_eq_true h3, of_decide_eq_true h4, h5⟩, xfB_ok h6, He.eqO_ok h7⟩
/-- the class x: an own class whose own __init__ is a def; caught as y -/
structure OwnX (K : PySem.W.Frag) (x y : Str) : Prop where
  c : OwnC K (He.ga K x)
  ini : PySem.W.findIn K (.ref (He.ga K x)) "__init__" = some (some (.ref (He.ma K (He.ga K x) "__init__")))
  tyI : PySem.W.typeIn K (.ref (He.ma K (He.ga K x) "__init__")) = some (.type "function")
  exm : PySem.W.exmOne K (.ref (He.ga K x)) (.ref (He.ga K y)) = some true
def ownXB (K : PySem.W.Frag) (x y : Str) : Bool := ownCB K (He.ga K x) && (He.eqO (PySem.W.findIn K (.ref (He.ga K x)) "__init__") (some (some (.ref (He.ma K (He.ga K x) "__init__")))) && (decide (PySem.W.typeIn K (.ref (He.ma K (He.ga K x) "__init__")) = some (.type "function")) &&
  decide (PySem.W.exmOne K (.ref (He.ga K x)) (.ref (He.ga K y)) = some true)))
theorem ownXB_ok {K : PySem.W.Frag} {x y : Str} (h : ownXB K x y = true) : OwnX K x y := by
  obtain ⟨h1, h⟩ := He.ba h
  obtain ⟨h2, h⟩ := He.ba h
  obtain ⟨h3, h4⟩ := He.ba h
  exact ⟨ownCB_ok h1, He.eqO_ok h2, of_decide_eq_true h3, of_decide_eq_true h4⟩
/-- x.__init__ read from the class x; ValueError.__init__ -/
structure FeC (K : PySem.W.Frag) (x : Str) : Prop where
  rd : ClX.CRead K (He.ga K x) (.type "type")
  at_ : PySem.W.findCls K (.ref (He.ga K x)) (.type "type") "__init__" = some (.val (.ref (He.ma K (He.ga K x) "__init__")))
  kp : PySem.W.keepIn K (.ref (He.ma K (He.ga K x) "__init__")) = true
  ve : PySem.W.findCls K (.type "ValueError") (.type "type") "__init__" = some (.val (.builtin "ValueError.__init__"))
def fcl (o : Option PySem.W.CFound) (v : Value) : Bool := match o with
  | some (.val u) => decide (u = v)
  | _ => false
theorem fcl_ok {o : Option PySem.W.CFound} {v : Value} (h : fcl o v = true) : o = some (.val v) := by
  cases o with
  | none => cases h
  | some f =>
    cases f with
    | val u => rw [of_decide_eq_true (show decide (u = v) = true from h)]
    | _ => cases h
def feCB (K : PySem.W.Frag) (x : Str) : Bool := PySem.W.readsIn K (He.ga K x) (.type "type") && (He.eqO (PySem.W.specialIn K (.ref (He.ga K x)) "__getattribute__") (some (some (.builtin "type.__getattribute__"))) && (fcl (PySem.W.findCls K (.ref (He.ga K x)) (.type "type") "__init__") (.ref (He.ma K (He.ga K x) "__init__")) &&
  (PySem.W.keepIn K (.ref (He.ma K (He.ga K x) "__init__")) && fcl (PySem.W.findCls K (.type "ValueError") (.type "type") "__init__") (.builtin "ValueError.__init__"))))
theorem feCB_ok {K : PySem.W.Frag} {x : Str} (h : feCB K x = true) : FeC K x := by
  obtain ⟨h1, h⟩ := He.ba h
  obtain ⟨h2, h⟩ := He.ba h
  obtain ⟨h3, h⟩ := He.ba h
  obtain ⟨h4, h5⟩ := He.ba h
  exact ⟨⟨h1, He.eqO_ok h2⟩, fcl_ok h3, h4, fcl_ok h5⟩
/-! ### the __init__s -/
def spFE (K : PySem.W.Frag) : Sp := fun vs H Q _ => ∃ (a C : Addr) (z : V), vs = [.ref a, z] ∧ OexC K C ∧ PySem.W.findIn K (.ref C) "code" = some none ∧ H a = some (exo a C none) ∧
  ∀ dx, H dx = none → dx ≠ a → Q .non (upd (upd H dx (exd dx [("code", z)])) a (exo a C (some dx)))
def spIni (K : PySem.W.Frag) (z : Str) : Sp := fun vs H Q _ => ∃ (a C : Addr), vs = [.ref a] ∧ OexC K C ∧ PySem.W.findIn K (.ref C) "code" = some none ∧ H a = some (exo a C none) ∧
  ∀ dx, H dx = none → dx ≠ a → Q .non (upd (upd H dx (exd dx [("code", .str z)])) a (exo a C (some dx)))
/-- an exception in the air: its dict d, its code z -/
def Thr (z : Str) (d : Option Addr) (H : Hp) : Prop := ∃ (dd : Addr) (fs : List (Str × V)), d = some dd ∧ H dd = some (.xd fs) ∧ fs.lookup ("code" : Str) = some (V.str z)
/-- the class x raised: x() makes an exception with the code z -/
structure RaiseD (P : Program) (w : World) (K : PySem.W.Frag) (mg : Str → Option Value) (base : Heap) (x y : Str) (k : Nat) (z : Str) : Prop where
  own : OwnX K x y
  hm : mg x = some (.ref (He.ga K x))
  ini : ∃ fd, FnOk P w K mg base CX0 k (He.ma K (He.ga K x) "__init__") fd ["self"] (spIni K z) ∧ Binds K fd ["self"] []
def tOwn (K : PySem.W.Frag) (x z : Str) : L2.St → Hp → XK → Prop := fun _ H Q => ∀ d H', Same H H' → Thr z d H' → Q (.ref (He.ga K x)) d H'
theorem pmk_imp {X : Cx} {e : Expr} {t t' : L2.St → Hp → XK → Prop} (h : PMk X e t) (i : ∀ σ H Q, t' σ H Q → t σ H Q) : PMk X e t' := fun pins s σ H Q I q => h pins s σ H Q I (i _ _ _ q)
theorem pmk_raise {X : Cx} {x y z : Str} {k j : Nat} {p pos : Pos} (D : RaiseD X.prog X.w X.K X.mg X.base x y k z) (hr : Room j X.A) (hkj : k + 1 ≤ j) (hg : Gl X x := by rfl) (hdb : (x == ("__debug__" : Str)) = false := by decide) : PMk X (.Call (.Name x p) [] [] pos) (tOwn X.K x z) := by
  obtain ⟨fd, F, hb⟩ := D.ini
  refine pmk_imp (pmk_oex0 D.own.c.o D.own.ini D.own.tyI F (hr.mono hkj) hb pass0 hg D.hm hdb) fun σ H Q q => ?_
  refine ⟨by simp [sizeLine], fun a ha => ⟨a, He.ga X.K x, rfl, D.own.c.o, D.own.c.noc, upd_same, fun dx hdx hne => ⟨rfl, dx, [("code", .str z)], upd_same, ?_, ?_, ?_⟩⟩⟩
  · rw [upd_ne hne, upd_same]
  · rwa [upd_ne hne] at hdx
  · have hdx2 : H dx = none := by rwa [upd_ne hne] at hdx
    refine q _ _ (fun b u hb => ?_) ⟨dx, _, rfl, upd_same, rfl⟩
    have b1 : b ≠ dx := ne_of_none hb hdx2
    have b2 : b ≠ a := ne_of_none hb ha
    rw [upd_ne b1, del_ne b2, upd_ne b2, upd_ne b1, upd_ne b2]
    exact hb
/-! ### defs that may raise -/
structure DefX (P : Program) (w : World) (K : PySem.W.Frag) (mg : Str → Option Value) (base : Heap) (x : Str) (k : Nat) (ps : List Str) (sp : Sp) : Prop where
  ex : ∃ (f : Addr) (fd : FuncData), FnOk P w K mg base (L2.CX P w) k f fd ps sp ∧ mg x = some (.ref f) ∧ PySem.W.keepIn K (.ref f) = true ∧ Binds K fd ps []
theorem DefX.mono {P : Program} {w : World} {K : PySem.W.Frag} {mg : Str → Option Value} {base : Heap} {x : Str} {j k : Nat} {ps : List Str} {sp : Sp} (D : DefX P w K mg base x j ps sp) (h : j ≤ k) : DefX P w K mg base x k ps sp := by
  obtain ⟨f, fd, F, r⟩ := D.ex
  exact ⟨f, fd, F.mono h, r⟩
/-- called where an exception is taken -/
theorem pe_defx {X : Cx} {W : WX} {E : XK} {x : Str} {k j : Nat} {ps : List Str} {sp : Sp} {e : Expr} {es : List Expr} {p pos : Pos} {t : TA} (D : DefX X.prog X.w X.K X.mg X.base x k ps sp) (tk : Takes X W) (hW : ∀ cls d σ' H', E cls d H' → W cls d σ' H') (hr : Room j X.A) (hkj : k ≤ j) (ha : PA X (e :: es) t)
    (hg : Gl X x := by rfl) (hdb : (x == ("__debug__" : Str)) = false := by decide) (he : starEach (e :: es) X.env = (false, eval e X.env) :: starEach es X.env := by rfl) (hpl : (backTo pos (starEach es X.env)).any (·.1) = false := by rfl) :
    PE X (.Call (.Name x p) (e :: es) [] pos) (tCall sp [] E t) := by
  obtain ⟨f, fd, F, hm, hk, hb⟩ := D.ex
  exact pe_call F (hr.mono hkj) hg hm hk hb .nil (passes_call tk hW) ha hdb he hpl
theorem passN {X : Cx} : Passes (L2.CX X.prog X.w) X (fun _ _ _ => False) := fun _ _ _ _ _ _ _ h => by
  obtain ⟨_, _, _, _, _, _, _, _, _, _, _, _, z⟩ := h
  exact z.elim
/-- called where none comes -/
theorem pe_defN {X : Cx} {x : Str} {k j : Nat} {ps : List Str} {sp : Sp} {e : Expr} {es : List Expr} {p pos : Pos} {t : TA} (D : DefX X.prog X.w X.K X.mg X.base x k ps sp) (hr : Room j X.A) (hkj : k ≤ j) (ha : PA X (e :: es) t)
    (hg : Gl X x := by rfl) (hdb : (x == ("__debug__" : Str)) = false := by decide) (he : starEach (e :: es) X.env = (false, eval e X.env) :: starEach es X.env := by rfl) (hpl : (backTo pos (starEach es X.env)).any (·.1) = false := by rfl) :
    PE X (.Call (.Name x p) (e :: es) [] pos) (tCall sp [] (fun _ _ _ => False) t) := by
  obtain ⟨f, fd, F, hm, hk, hb⟩ := D.ex
  exact pe_call F (hr.mono hkj) hg hm hk hb .nil passN ha hdb he hpl
theorem defx_mk {P : Program} {w : World} {K : PySem.W.Frag} {mg : Str → Option Value} {base : Heap} {x : Str} {st : Stmt} {f : Addr} {fd : FuncData} {dvs : List V} {kws : List (Str × V)} {N ps : List Str} {k : Nat} {sp : Sp} (F : FunD K x x (defArgs st) (defBody st) (defScope st) dvs kws f fd) (hm : mg x = some (.ref f)) (hb : Binds K fd ps [])
    (S : FnScope N ps (defScope st)) (len : ∀ vs H Q E, sp vs H Q E → vs.length = ps.length)
    (body : ∀ (cdv : Value) (A : Around) (outer : List Env) (s : Shared) (H : Hp) (vs : List V) (Q : VK) (E : XK), Room k (A.deeper (envOfC x (defScope st) s.heap.objs.size f cdv)) → sp vs H Q E →
      (Takes (cxOf (L2.CX P w) P w K mg base N x (defScope st) f cdv A outer s H E) fun cls d _ H => E cls d H) →
      ∃ t, PSs (cxOf (L2.CX P w) P w K mg base N x (defScope st) f cdv A outer s H E) (defBody st) t ∧ t { nx := fun _ H' => Q .non H', rt := Q } (start N vs) H) : DefX P w K mg base x (k + 1) ps sp :=
  ⟨f, fd, FunD.ok F S len (fun cdv A outer s H vs Q E hr h => body cdv A outer s H vs Q E hr h (takes_of rfl rfl rfl rfl)), hm, F.kp, hb⟩
/-! ### _law_call -/
/-- the first clause's class is FE -/
def TTc (K : PySem.W.Frag) (FE : Addr) : (XK → Hp → VK → Prop) → Hp → VK → Prop := fun tl H Q =>
  tl (fun cls d H' => ∃ (C : Addr) (z : Str), cls = .ref C ∧ OwnC K C ∧ PySem.W.exmOne K (.ref C) (.ref FE) = some true ∧ Thr z d H' ∧ ∀ p, H' p = none → Q (.ref p) (upd H' p (.tup [.non, .str z])))
    H (fun v H' => ∀ p, H' p = none → Q (.ref p) (upd H' p (.tup [v, .str ""])))
end FF
/-! Fivefault, part 11: f(lambda: ..), the promise of an exception told of the slots at the call. -/
namespace FF
open PySem PySem.Spec PyProof.Rows L2 LamX
section
variable {X : Cx} {pins : List (Addr × Obj)} {σ : L2.St} {H HZ : Hp} {s s1 : Shared}
theorem pe_actS {CXg : CXT} {Eg : XK} {Ng : List Str} {qg : Str} {sg : Scope} {g f c' : Addr} {cdg pm ctv : Value} {params : Arguments} {body : Expr} {scope : Scope} {k i : Nat} {a : Str} {pn : List (Addr × Obj)} {xe : Value → Shared → Prop} {W : WX} {tb : XK → TE} {p1 p2 : Pos}
    (I : Inv X pins σ H s) (L : LamS X.env.scope scope) (hf : s.heap.get? f = some (PySem.W.kla_obj "<lambda>" (X.env.qual ++ "<lambda>") params body scope (cloFrom X.env.cells scope.names []) pm c' ctv)) (hfn : H f = none) (hfr : f ∉ frs X.stack)
    (hbind : bindArgs (PySem.W.kla_fn "<lambda>" (X.env.qual ++ "<lambda>") params body scope (cloFrom X.env.cells scope.names []) pm (.ref c') ctv) ⟨[], []⟩ = pure [])
    (tk : Takes ((cxOf CXg X.prog X.w X.K X.mg X.base Ng qg sg g cdg X.A X.stack s H Eg).tr pn xe) W) (hr : Room (k + 1) (X.A.deeper (envOfC qg sg s.heap.objs.size g cdg)))
    (hbody : ∀ (A : Around) (outer : List Env) (s : Shared) (H : Hp) (E : XK), Room k (A.deeper (lamEnv X scope s.heap.objs.size f c')) → PE (lamCx X A outer s H E scope f c') body (tb E))
    (hN : Ng[i]? = some a) (hv : Vis sg a) (hd : (a == ("__debug__" : Str)) = false := by decide) (hcd : (a == ("__classdict__" : Str)) = false := by decide) :
    PE ((cxOf CXg X.prog X.w X.K X.mg X.base Ng qg sg g cdg X.A X.stack s H Eg).tr pn xe) (.Call (.Name a p1) [] [] p2)
      (fun σZ HZ Q => σZ[i]? = some (some (.ref f)) ∧ HZ c' = some (CodeO c' (X.env.qual ++ "<lambda>")) ∧ ∃ E : XK, (∀ cls d H', E cls d H' → W cls d σZ H') ∧ tb E σ HZ Q) := by
  refine ⟨fun pinsZ sZ σZ HZ Q IZ h => ?_⟩
  obtain ⟨hs, hc, E, hW, ht⟩ := h
  refine wpAny_Call_Name_kw (thn ((pe_var (pos := p1) (i := i) hN hv hd hcd).run pinsZ sZ σZ HZ (fun v H1 => v = .ref f ∧ H1 = HZ) IZ ⟨.ref f, hs, rfl, rfl⟩) fun u s1 ⟨v, H1, I1, r1, q1⟩ => ?_)
  obtain ⟨ev, eH⟩ := q1
  subst ev
  rw [eH] at I1
  obtain rfl : u = Value.ref f := r1
  have of1 := I1.base.keep f _ hf hfn hfr (fun z => nomatch (show f ∈ ([] : List Addr) from z))
  refine PySem.W.callWith_F0 ⟨_, _, _, _, of1⟩ ?_
  have un : Un (frs X.stack) [] H HZ s.heap s1.heap := I1.base
  obtain ⟨⟨oc, vs, t, hoc, hdc, hvc⟩, _, _⟩ := I1.hok c' _ hc
  have rc : codeAny (model X.prog X.w) (X.A.deeper (envOfC qg sg s.heap.objs.size g cdg)) (.call (.ref f) ⟨[], []⟩) (CR (L2.CX X.prog X.w) (envOfC qg sg s.heap.objs.size g cdg :: X.stack) X.prog X.w HZ s1 Q E) s1 := by
    refine PySem.W.kla_callFunE hr.depth of1 rfl L.co L.gen rfl ⟨c', oc, vs, t, rfl, hoc, hdc, hvc⟩ ?_
    rw [hbind]
    refine wpAny_pure (wpAny_newFunctionEnv (fun y hy => (L.own y hy).2) (fun y hy => absurd hy (by simp)) (fun h₁ hns hsb => ⟨I1.nolimit.fresh _ hsb, ?_⟩) L.kind)
    show codeAny _ _ (.expr body (lamEnv X scope s1.heap.objs.size f c')) _ _
    have kp : ∀ b o, s1.heap.get? b = some o → h₁.get? b = some o := fun b o e => hsb.extBut b o (Nat.ne_of_lt (Heap.lt_size e)) (Heap.get?_push_of_some _ e)
    have J := lam_start2 (f := f) (c' := c') (E := E) (tk := s1.toks + ([] : List (Str × Value)).length) I L I1.env0 hr.hd un hns kp
    refine PySem.W.kla_codeExpr (wpAny_mono ((hbody _ _ s1 HZ E (hr.deeper _)).run [] _ _ HZ Q J ht) (fun v s' hq => ?_) fun e s' hq => hq)
    obtain ⟨w', H', J', rv, q⟩ := hq
    exact ⟨w', H', J'.os, J'.bare, J'.base, J'.hok, rv, q⟩
  refine wpAny_call (codeAny_mono rc fun r s' hq => ?_)
  cases r with
  | error e => exact tk e s' (XE.of_call I1 (fun cls d H' h => hW cls d H' h) hq)
  | ok fl =>
    cases fl with
    | ret u => exact I1.after hq
    | next => exact False.elim hq
    | brk => exact False.elim hq
    | cont => exact False.elim hq
end
/-- the def that calls what it got -/
def GivesS (X : Cx) (Ng : List Str) (x : Str) (sg : Scope) (g : Addr) (cdg : Value) (bg : List Stmt) (a : Str) (q : Str) (TT : (XK → Hp → VK → Prop) → Hp → VK → Prop) : Prop :=
  ∀ (f c' : Addr) (s : Shared) (H : Hp) (Q : VK) (tl : XK → Hp → VK → Prop),
    (∀ (W : WX) (pn : List (Addr × Obj)) (xe : Value → Shared → Prop) (p1 p2 : Pos), Takes ((cxOf C8.CX0 X.prog X.w X.K X.mg X.base Ng x sg g cdg X.A X.stack s H C8.E0).tr pn xe) W →
      PE ((cxOf C8.CX0 X.prog X.w X.K X.mg X.base Ng x sg g cdg X.A X.stack s H C8.E0).tr pn xe) (.Call (.Name a p1) [] [] p2) (fun σZ HZ Q => σZ[0]? = some (some (.ref f)) ∧ HZ c' = some (CodeO c' q) ∧ ∃ E : XK, (∀ cls d H', E cls d H' → W cls d σZ H') ∧ tl E HZ Q)) →
    H c' = some (CodeO c' q) → TT tl H Q →
    ∃ t, PSs (cxOf C8.CX0 X.prog X.w X.K X.mg X.base Ng x sg g cdg X.A X.stack s H C8.E0).nox bg t ∧ t { nx := fun _ H' => Q .non H', rt := Q } (L2.start Ng [.ref f]) H
/-- x(lambda: body), x a def of the top -/
theorem pe_lamS {X : Cx} {T : List (Addr × Str)} {TT : (XK → Hp → VK → Prop) → Hp → VK → Prop} {x a : Str} {g c P : Addr} {k : Nat} {st : Stmt} {fd : FuncData} {Ng : List Str} {params : Arguments} {body : Expr} {scope : Scope} {t : XK → TE} {p lpos pos : Pos}
    (hg : Gl X x) (hm : X.mg x = some (.ref g)) (F : FunD X.K x x (defArgs st) (defBody st) (defScope st) [] [] g fd) (hb : L2.Binds X.K fd [a] []) (Sg : FnScope Ng [a] (defScope st)) (hNg : Ng[0]? = some a) (hva : Vis (defScope st) a)
    (hG : ∀ cdg, GivesS X Ng x (defScope st) g cdg (defBody st) a (X.env.qual ++ "<lambda>") TT)
    (TB : TabB X.base X.mg c P) (hcode : X.env.code = .ref c) (hT : T = [(P, X.env.qual ++ "<lambda>")]) (hr : Room (k + 2) X.A) (L : LamS X.env.scope scope) (hdef : defaultsOf params X.env = ([], []))
    (hbind : ∀ (q : Str) (cl : List (Str × Addr)) (pm cv ctv : Value), bindArgs (PySem.W.kla_fn "<lambda>" q params body scope cl pm cv ctv) ⟨[], []⟩ = pure [])
    (hbody : ∀ (A : Around) (outer : List Env) (s : Shared) (H : Hp) (E : XK) (f c' : Addr), Room k (A.deeper (lamEnv X scope s.heap.objs.size f c')) → PE (lamCx X A outer s H E scope f c') body (t E))
    (hdb : (x == ("__debug__" : Str)) = false := by decide) (hd : (a == ("__debug__" : Str)) = false := by decide) (hcd : (a == ("__classdict__" : Str)) = false := by decide) :
    PE X (.Call (.Name x p) [.Lambda params body scope lpos] [] pos) (tLam T TT t) := by
  obtain ⟨oc, od, dV, kV, doc, pm, an, cdv, ct, osl, rfl, lk, hcg, _, _⟩ := F.ex
  refine ⟨fun pins s σ H Q I h => ?_⟩
  obtain ⟨hTs, h⟩ := h
  refine wpAny_Call_Name_kw (ld_glob I hg hm ?_ hdb)
  refine PySem.W.callWith_K (h₀ := X.base) I.ok.mod.kin F.kp ?_ (by rfl) (by rfl)
  show wpAny _ _ (spliced ((false, eval (.Lambda params body scope lpos) X.env) :: backTo pos (starEach [] X.env))) _ _ s
  have hmT : (P, X.env.qual ++ "<lambda>") ∈ T := by rw [hT]; exact List.mem_singleton.mpr rfl
  have hu : ∀ p ∈ T, p.1 = P → p.2 = X.env.qual ++ "<lambda>" := fun p hp _ => by rw [hT] at hp; rw [List.mem_singleton.mp hp]
  refine Calls.spliced_cons (lam_make2 I TB hcode hmT hu hTs hdef (L.has I.ok) fun f c' pm' ctv H1 s' I1 eN T1 hf hfn hfr hco => ?_)
  refine Calls.spliced_nil ⟨I1.kIn, ?_⟩
  have rc : codeAny (model X.prog X.w) X.A (.call (.ref g) ⟨[.ref f], []⟩) (CR C8.CX0 X.stack X.prog X.w H1 s' Q C8.E0) s' := by
    refine run_ofS (N := Ng) (ps := [a]) (us := [.ref f]) (vs := [.ref f]) lk hcg Sg hr I1.env0 (hb s' [.ref f] I1.kIn rfl) (.cons rfl .nil) rfl fun hr' => ?_
    obtain ⟨t', ht', hq'⟩ := hG cdv f c' s' H1 Q (fun E H' Q' => t E σ H' Q') (fun W pn xe p1 p2 tk => pe_actS (i := 0) I1 L hf hfn hfr (hbind _ _ _ _ _) tk hr' (fun A outer s H E hr2 => hbody A outer s H E f c' hr2) hNg hva hd hcd) hco (h H1 eN T1)
    exact ⟨t', ht'.nox, hq'⟩
  refine wpAny_call (codeAny_mono rc fun r s2 hq => ?_)
  cases r with
  | error e => exact (show False from hq).elim
  | ok fl =>
    cases fl with
    | ret u => exact I1.after hq
    | next => exact False.elim hq
    | brk => exact False.elim hq
    | cont => exact False.elim hq
/-- a def told with its code object -/
theorem fn_mkC {P : Program} {w : World} {K : PySem.W.Frag} {mg : Str → Option Value} {base : Heap} {x : Str} {st : Stmt} {fd : FuncData} {dvs : List V} {kws : List (Str × V)} {N ps : List Str} {k : Nat} {sp : Sp} {p : He.Defn} (F : FunD K x x (defArgs st) (defBody st) (defScope st) dvs kws (He.fAd K p) fd)
    (S : FnScope N ps (defScope st)) (len : ∀ vs H Q E, sp vs H Q E → vs.length = ps.length)
    (body : ∀ (cdv : Value) (A : Around) (outer : List Env) (s : Shared) (H : Hp) (vs : List V) (Q : VK) (E : XK), cdv = .ref (He.codeOf K p) → Room k (A.deeper (envOfC x (defScope st) s.heap.objs.size (He.fAd K p) cdv)) → sp vs H Q E →
      ∃ t, PSs (cxOf CX0 P w K mg base N x (defScope st) (He.fAd K p) cdv A outer s H E).nox (defBody st) t ∧ t { nx := fun _ H' => Q .non H', rt := Q } (start N vs) H) : FnOk P w K mg base CX0 (k + 1) (He.fAd K p) fd ps sp := by
  obtain ⟨oc, od, dV, kV, doc, pm, an, cdv, ct, osl, rfl, lk, hcd, _, _⟩ := F.ex
  obtain ⟨c, ec⟩ := He.codeIn_ref hcd
  have e : cdv = .ref (He.codeOf K p) := by rw [ec, He.codeOf_eq lk (show (PySem.W.fnOf x x (defArgs st) (defBody st) (defScope st) dV kV doc pm an cdv ct).code = .ref c from ec)]
  exact fn_of lk hcd S len fun A outer s H vs Q E hr hsp => let ⟨t, a, b⟩ := body cdv A outer s H vs Q E e hr hsp; ⟨t, PSs.nox a, b⟩
/-! ### heaps in which all but the tables stay -/
theorem sn_rd {H H' : Hp} {a : Addr} {u : HO} (e : ExtN H H') (h : Rd H a u) (n : ∀ ps, u ≠ .tbl ps) : Rd H' a u := by
  rcases h with h | ⟨o, h⟩
  · exact .inl (e _ _ h n)
  · exact .inr ⟨o, e _ _ h fun ps z => by cases z⟩
theorem sn_l {K : PySem.W.Frag} {H H' : Hp} {a : Addr} {xs : List V} (e : ExtN H H') (h : SqL K H a xs) : SqL K H' a xs := by
  rcases h with h | h
  · exact .inl (sn_rd e h fun ps z => by cases z)
  · exact .inr h
theorem sn_t {K : PySem.W.Frag} {H H' : Hp} {a : Addr} {xs : List V} (e : ExtN H H') (h : SqT K H a xs) : SqT K H' a xs := by
  rcases h with h | h
  · exact .inl (sn_rd e h fun ps z => by cases z)
  · exact .inr h
mutual
theorem sn_d {K : PySem.W.Frag} {H H' : Hp} (e : ExtN H H') : ∀ {v : V} {d : PyData}, Dp K H v d → Dp K H' v d
  | _, _, .non => .non
  | _, _, .bl b => .bl b
  | _, _, .int i => .int i
  | _, _, .str x => .str x
  | _, _, .lst h a => .lst (sn_l e h) (sn_da e a)
  | _, _, .tup h a => .tup (sn_t e h) (sn_da e a)
theorem sn_da {K : PySem.W.Frag} {H H' : Hp} (e : ExtN H H') : ∀ {vs : List V} {ds : List PyData}, DpAll K H vs ds → DpAll K H' vs ds
  | _, _, .nil => .nil
  | _, _, .cons h a => .cons (sn_d e h) (sn_da e a)
end
theorem sn_of {H H' : Hp} (e : Same H H') : ExtN H H' := ExtN.of e
end FF
/-! Fivefault, part 12: defs with *v alone. -/
namespace FF
open PySem PySem.Spec PyProof.Rows L2 StX
structure DefS (P : Program) (w : World) (K : PySem.W.Frag) (mg : Str → Option Value) (base : Heap) (x : Str) (k : Nat) (sp : Sp) : Prop where
  ex : ∃ f : Addr, FnR P w K mg base (L2.CX P w) k f sp ∧ mg x = some (.ref f) ∧ PySem.W.keepIn K (.ref f) = true
section
variable {X : Cx} {W : WX} {E : XK} {x : Str} {k j : Nat} {sp : Sp} {e : Expr} {es : List Expr} {p pos : Pos} {t : TA}
theorem pe_defs (D : DefS X.prog X.w X.K X.mg X.base x k sp) (tk : Takes X W) (hW : ∀ cls d σ' H', E cls d H' → W cls d σ' H') (hr : Room j X.A) (hkj : k ≤ j) (ha : PA X (e :: es) t)
    (hg : Gl X x := by rfl) (hd : (x == ("__debug__" : Str)) = false := by decide) (he : starEach (e :: es) X.env = (false, eval e X.env) :: starEach es X.env := by rfl) (hpl : (backTo pos (starEach es X.env)).any (·.1) = false := by rfl) :
    PE X (.Call (.Name x p) (e :: es) [] pos) (tCall sp [] E t) := by
  obtain ⟨f, F, hm, hk⟩ := D.ex
  refine ⟨fun pins s σ H Q I h => ?_⟩
  refine wpAny_Call_Name_kw (ld_glob I hg hm ?_ hd)
  refine PySem.W.callWith_K (h₀ := X.base) I.ok.mod.kin hk (thn (ha.run pos pins s σ H _ I h) fun us s1 ⟨vs, H1, I1, r, q⟩ => ⟨I1.kIn, ?_⟩) he hpl
  have q2 : sp (vs ++ []) H1 Q E := q
  rw [List.append_nil] at q2
  exact wpAny_call (run_fnR F (hr.mono hkj) (passes_call tk hW) I1 r q2)
theorem pe_defs0 (D : DefS X.prog X.w X.K X.mg X.base x k sp) (tk : Takes X W) (hW : ∀ cls d σ' H', E cls d H' → W cls d σ' H') (hr : Room j X.A) (hkj : k ≤ j)
    (hg : Gl X x := by rfl) (hd : (x == ("__debug__" : Str)) = false := by decide) :
    PE X (.Call (.Name x p) [] [] pos) (fun _ H Q => sp [] H Q E) := by
  obtain ⟨f, F, hm, hk⟩ := D.ex
  refine ⟨fun pins s σ H Q I h => ?_⟩
  refine wpAny_Call_Name_kw (ld_glob I hg hm ?_ hd)
  refine PySem.W.callWith_K0 I.kIn hk ?_
  exact wpAny_call (run_fnR F (hr.mono hkj) (passes_call tk hW) I .nil h)
end
/-- a reading with a wish that is stronger -/
theorem pe_mono {X : Cx} {e : Expr} {t : TE} (h : PE X e t) : PE X e (fun σ H Q => ∃ Q' : VK, (∀ v H', Q' v H' → Q v H') ∧ t σ H Q') :=
  ⟨fun pins s σ H Q I ⟨Q', hq, ht⟩ => thn (h.run pins s σ H Q' I ht) fun u s1 ⟨v, H1, I1, r, q⟩ => ⟨v, H1, I1, r, hq v H1 q⟩⟩
theorem lam_by {X : Cx} {scope : Scope} (st : Stmt) (h : X.env.scope = defScope st) (hb : LamX.lamSB (defScope st) scope = true) : LamX.LamS X.env.scope scope := by
  rw [h]
  exact LamX.lamS_by hb
theorem bind_star0 {B : List Value → Sem (List (Str × Value))} {pv : Str} (h0 : B [] = (newTuple [] >>= fun t => pure [(pv, t)])) (h1 : ∀ r rs, B (r :: rs) = (newTuple (r :: rs) >>= fun t => pure [(pv, t)])) :
    ∀ us rest : List Value, us.length = ([] : List Str).length → B (us ++ rest) = (newTuple rest >>= fun t => pure (([] : List Str).zip us ++ [(pv, t)]))
  | [], [], _ => h0
  | [], r :: rs, _ => h1 r rs
theorem defs_mk {P : Program} {w : World} {K : PySem.W.Frag} {mg : Str → Option Value} {base : Heap} {x pv : Str} {st : Stmt} {f : Addr} {fd : FuncData} {N : List Str} {k : Nat} {sp : Sp} (F : FunD K x x (defArgs st) (defBody st) (defScope st) [] [] f fd) (hm : mg x = some (.ref f))
    (S : FnScope N [pv] (defScope st)) (h0 : ∀ (kV doc pm : Value) (an : Option Addr) (cdv ct : Value), bindArgs (PySem.W.fnOf x x (defArgs st) (defBody st) (defScope st) .none kV doc pm an cdv ct) ⟨[], []⟩ = (newTuple [] >>= fun t => pure [(pv, t)]))
    (h1 : ∀ (kV doc pm : Value) (an : Option Addr) (cdv ct : Value) (r : Value) (rs : List Value), bindArgs (PySem.W.fnOf x x (defArgs st) (defBody st) (defScope st) .none kV doc pm an cdv ct) ⟨r :: rs, []⟩ = (newTuple (r :: rs) >>= fun t => pure [(pv, t)]))
    (body : ∀ (cdv : Value) (A : Around) (outer : List Env) (s : Shared) (H : Hp) (vs : List V) (Q : VK) (E : XK), Room k (A.deeper (envOfC x (defScope st) s.heap.objs.size f cdv)) → sp vs H Q E →
      (Takes (cxOf (L2.CX P w) P w K mg base N x (defScope st) f cdv A outer s H E) fun cls d _ H => E cls d H) →
      ∃ t, PSs (cxOf (L2.CX P w) P w K mg base N x (defScope st) f cdv A outer s H E) (defBody st) t ∧ t { nx := fun _ H' => Q .non H', rt := Q } (start N vs) H) :
    DefS P w K mg base x (k + 1) (fun vs H Q E => vs.length ≤ sizeLine ∧ ∀ p, H p = none → sp [V.ref p] (upd H p (.tup vs)) Q E) := by
  have kp := F.kp
  obtain ⟨oc, od, dV, kV, doc, pm, an, cdv, ct, osl, rfl, lk, hcd, hD, _⟩ := F.ex
  obtain rfl : dV = .none := by
    rcases hD with ⟨_, e⟩ | ⟨e, _⟩
    · exact e
    · exact absurd rfl e
  refine ⟨f, FnR.imp (fn_star (ps := []) (sp := sp) lk hcd S cxUp (bind_star0 (B := fun us => bindArgs (PySem.W.fnOf x x (defArgs st) (defBody st) (defScope st) .none kV doc pm an cdv ct) ⟨us, []⟩) (h0 _ _ _ _ _ _) (h1 _ _ _ _ _ _))
    fun A outer s H vs Q E hr h => body cdv A outer s H vs Q E hr h (takes_of rfl rfl rfl rfl)) fun vs H Q E ⟨hz, h⟩ => ⟨[], vs, rfl, rfl, hz, h⟩, hm, kp⟩
end FF
/-! Fivefault, part 13: a list that stands aside during a call. -/
namespace FF
open PySem PySem.Spec PyProof.Rows L2
section
variable {P : Program} {w : World} {K : PySem.W.Frag} {mg : Str → Option Value} {base : Heap}
abbrev veil (H : Hp) (a : Addr) (xs : List V) : Hp := upd H a (hid (fun ys => ys = xs) a)
/-- the list at a is not seen by the body; it stays as it is -/
theorem FnOk.veil_ {k : Nat} {f : Addr} {fd : FuncData} {ps : List Str} {sp sp' : Sp} (F : FnOk P w K mg base CX0 k f fd ps sp) (len : ∀ vs H Q E, sp' vs H Q E → vs.length = ps.length)
    (h : ∀ vs H Q E, sp' vs H Q E → ∃ (a : Addr) (xs : List V), H a = some (.lst xs) ∧ sp vs (veil H a xs) (fun v H' => H' a = some (hid (fun ys => ys = xs) a) ∧ Q v (upd H' a (.lst xs))) E) : FnOk P w K mg base CX0 k f fd ps sp' := by
  refine ⟨len, fun A outer s H args us vs Q E hr e0 hb hv hsp => ?_⟩
  obtain ⟨a, xs, ha, hq⟩ := h vs H Q E hsp
  have ok := hok_shut (good := fun ys => ys = xs) ha rfl e0.hok
  have dom : ∀ {b}, H b = none → (veil H a xs) b = none := fun {b} n => by
    show upd _ _ _ _ = _
    rw [upd_ne (fun z => by rw [z, ha] at n; cases n)]
    exact n
  have e1 : Env0 P w K mg base A outer s (veil H a xs) := ⟨e0.frames, e0.mod, fun b o e => ⟨(e0.bs b o e).1, dom (e0.bs b o e).2⟩, e0.bsz, e0.funs, fun b hb => dom (e0.frf b hb), ok, e0.bare⟩
  refine codeAny_mono (F.run A outer s _ args us vs _ E hr e1 hb hv hq) fun r s' hc => ?_
  cases r with
  | error e => exact hc
  | ok fl =>
    cases fl with
    | ret u =>
      obtain ⟨v, H', os, bare, un, hok, rv, hy, q⟩ := hc
      obtain ⟨zs, rfl, hok2⟩ := hok_open hy hok
      refine ⟨v, _, os, bare, ?_, hok2, rv, q⟩
      have back : ∀ {b o}, H b = some o → b ≠ a → (veil H a zs) b = some o := fun {b o} e hb => by
        show upd _ _ _ _ = _
        rw [upd_ne hb]
        exact e
      have notA : ∀ {b}, H b = none → b ≠ a := fun {b} n z => by rw [z, ha] at n; cases n
      refine ⟨fun b o e n h1 h2 => un.keep b o e (dom n) h1 h2, fun b o e n h1 h2 => un.slot b o e (dom n) h1 h2, fun b o e n h1 => ?_, un.there, fun b ys' e => ?_, fun b o u' e => ?_, fun b ps' e => ?_⟩
      · rw [upd_ne (notA n)]
        exact un.free b o e (dom n) h1
      · have hb : b ≠ a := fun z => by rw [z, ha] at e; cases e
        rw [upd_ne hb]
        exact un.tups b ys' (back e hb)
      · have hb : b ≠ a := fun z => by rw [z, ha] at e; cases e
        rw [upd_ne hb]
        exact un.frzs b o u' (back e hb)
      · have hb : b ≠ a := fun z => by rw [z, ha] at e; cases e
        rw [upd_ne hb]
        exact un.tbls b ps' (back e hb)
    | next => exact hc
    | brk => exact hc
    | cont => exact hc
theorem Def.veil_ {x : Str} {k : Nat} {ps : List Str} {sp sp' : Sp} (D : Def P w K mg base x k ps sp) (len : ∀ vs H Q E, sp' vs H Q E → vs.length = ps.length)
    (h : ∀ vs H Q E, sp' vs H Q E → ∃ (a : Addr) (xs : List V), H a = some (.lst xs) ∧ sp vs (veil H a xs) (fun v H' => H' a = some (hid (fun ys => ys = xs) a) ∧ Q v (upd H' a (.lst xs))) E) : Def P w K mg base x k ps sp' := by
  obtain ⟨f, fd, F, r⟩ := D.ex
  exact ⟨f, fd, FnOk.veil_ F len h, r⟩
end
theorem hid_lst {good : List V → Prop} {a : Addr} {xs : List V} : hid good a ≠ .lst xs := fun z => by unfold hid at z; cases z
theorem hid_tup {good : List V → Prop} {a : Addr} {xs : List V} : hid good a ≠ .tup xs := fun z => by unfold hid at z; cases z
theorem hid_frz {good : List V → Prop} {a : Addr} {o : Obj} {u : HO} : hid good a ≠ .frz o u := fun z => by unfold hid at z; cases z
theorem rd_off {H : Hp} {a b : Addr} {good : List V → Prop} {u o : HO} (h : H a = some (hid good a)) (r : Rd H b u) (n : hid good a ≠ u) : Rd (upd H a o) b u := by
  have hb : b ≠ a := fun z => by
    subst z
    rcases r with r | ⟨p, r⟩
    · rw [h] at r
      exact n (Option.some.inj r)
    · rw [h] at r
      exact hid_frz (Option.some.inj r)
  rcases r with r | ⟨p, r⟩
  · exact .inl (by rw [upd_ne hb]; exact r)
  · exact .inr ⟨p, by rw [upd_ne hb]; exact r⟩
mutual
/-- data that does not pass the hidden list -/
theorem off_d {K : PySem.W.Frag} {H : Hp} {a : Addr} {good : List V → Prop} {o : HO} (h : H a = some (hid good a)) : ∀ {v : V} {d : PyData}, Dp K H v d → Dp K (upd H a o) v d
  | _, _, .non => .non
  | _, _, .bl b => .bl b
  | _, _, .int i => .int i
  | _, _, .str x => .str x
  | _, _, .lst hs ds => .lst (hs.elim (fun r => .inl (rd_off h r hid_lst)) .inr) (off_da h ds)
  | _, _, .tup hs ds => .tup (hs.elim (fun r => .inl (rd_off h r hid_tup)) .inr) (off_da h ds)
theorem off_da {K : PySem.W.Frag} {H : Hp} {a : Addr} {good : List V → Prop} {o : HO} (h : H a = some (hid good a)) : ∀ {vs : List V} {ds : List PyData}, DpAll K H vs ds → DpAll K (upd H a o) vs ds
  | _, _, .nil => .nil
  | _, _, .cons x r => .cons (off_d h x) (off_da h r)
end
theorem da_set {K : PySem.W.Frag} {H : Hp} {v : V} {d : PyData} (h : Dp K H v d) : ∀ {vs : List V} {ds : List PyData} (j : Nat), DpAll K H vs ds → DpAll K H (vs.set j v) (ds.set j d)
  | _, _, _, .nil => .nil
  | _, _, 0, .cons _ r => .cons h r
  | _, _, j + 1, .cons x r => .cons x (da_set h j r)
/-- all but the object at a stays -/
def SameB (a : Addr) (H H' : Hp) : Prop := ∀ b u, b ≠ a → H b = some u → H' b = some u
theorem tabs_b {T : List (Addr × Str)} {a : Addr} {H H' : Hp} {xs : List V} (t : LamX.Tabs T H) (ha : H a = some (.lst xs)) (e : SameB a H H') : LamX.Tabs T H' := fun p hp => by
  obtain ⟨ps, h1, h2, h3⟩ := t p hp
  refine ⟨ps, e _ _ (fun z => by rw [z, ha] at h1; cases h1) h1, h2, fun pos cv hc => ?_⟩
  obtain ⟨c, e1, e2⟩ := h3 pos cv hc
  exact ⟨c, e1, e _ _ (fun z => by rw [z, ha] at e2; unfold LamX.CodeO at e2; cases e2) e2⟩
theorem sameT_b {a : Addr} {H H' : Hp} {xs : List V} (ha : H a = some (.lst xs)) (e : SameB a H H') : SameT H H' := fun b ys h => e b _ (fun z => by rw [z, ha] at h; cases h) h
end FF
/-! Fivefault, part 14: the Hook, with the interpreter's own statics in sight. -/
namespace FF
open PySem PySem.Spec PyProof.Rows L2
def obsY (n : Nat) (fa : List He.Fa) (fn : List He.DefD) (tf : List He.Defn) (ex : PySem.W.Frag → Bool) (g : Addr → Option Obj) : He.AlX :=
  (He.obsT fa fn [] (He.frT g (He.asD g n ++ [PySem.cStatics])), ex (He.frT g (He.asD g n ++ [PySem.cStatics])) && He.tabsB g tf (He.frT g (He.asD g n ++ [PySem.cStatics])))
theorem saysY_of {fa : List He.Fa} {fn : List He.DefD} {tf : List He.Defn} {ex : PySem.W.Frag → Bool} {w : World} {h : Heap} {l : List Addr} (e : ((He.obsT fa fn [] (He.frT h.get? l), ex (He.frT h.get? l) && He.tabsB h.get? tf (He.frT h.get? l)) : He.AlX) = He.valX fn [] w) : He.SaysX fa fn [] tf ex w h (He.frT h.get? l) := by
  have e1 : He.obsT fa fn [] (He.frT h.get? l) = He.valT fn [] w := congrArg (fun z : He.AlX => z.1) e
  have e2 : (ex (He.frT h.get? l) && He.tabsB h.get? tf (He.frT h.get? l)) = true := congrArg (fun z : He.AlX => z.2) e
  obtain ⟨h1, h2⟩ := He.ba e2
  have key := fun p hp => He.ba (List.all_eq_true.mp h2 p hp)
  have tab : ∀ p ∈ tf, ∃ o, h.get? (He.cT (He.frT h.get? l) p).2 = some o ∧ He.emptyTab o = true := fun p hp => by
    have h4 := (key p hp).2
    cases q : h.get? (He.cT (He.frT h.get? l) p).2 with
    | none =>
      rw [q] at h4
      cases h4
    | some o =>
      rw [q] at h4
      exact ⟨o, rfl, h4⟩
  exact ⟨e1, h1, fun p hp => (key p hp).1, fun p hp => let ⟨_, q, z⟩ := tab p hp; He.frT_none q z, fun p hp => by
    obtain ⟨_, q, z⟩ := tab p hp
    rw [q, He.emptyTab_eq z]⟩
def hookY (n : Nat) (fa : List He.Fa) (fn : List He.DefD) (tf : List He.Defn) (ex : PySem.W.Frag → Bool) : PySem.W.Hook where
  α := He.AlX
  obs := fun s => obsY n fa fn tf ex s.heap.get?
  val := fun w => He.valX fn [] w
  says := fun w h => ∃ K : PySem.W.Frag, K.In h ∧ He.SaysX fa fn [] tf ex w h K
  of := fun _ _ e => ⟨_, He.frT_in, saysY_of e⟩
  keeps := fun _ _ _ ⟨K, hK, c⟩ k => ⟨K, PySem.W.Frag.In.keeps hK k, ⟨c.t, c.more, c.hd, c.out, fun p hp => k _ _ (c.empty p hp)⟩⟩
theorem obsY_eq {n : Nat} {fa : List He.Fa} {fn : List He.DefD} {tf : List He.Defn} {ex : PySem.W.Frag → Bool} {g : Addr → Option Obj} {s : Shared} (h : ∀ a, g a = s.heap.get? a) : obsY n fa fn tf ex g = (hookY n fa fn tf ex).obs s := by
  have e : g = s.heap.get? := funext h
  rw [e] <;> rfl
end FF
/-! Fivefault, part 15: comprehensions with a test, over a text; dicts made of pairs. -/
namespace FF
open PySem PySem.Spec PyProof.Rows L2
section
variable {K : PySem.W.Frag} {a D : Addr} {xs : List V} {tt : TT} {te : TE} {vs : List Nat} {j : Nat} {σ : L2.St} {H1 : Hp} {Qd : Hp → Prop}
theorem same_at {H H1 : Hp} {D : Addr} {o : HO} (hD : H1 D = none) (e : Same H1 H) : Same H1 (upd H D o) := fun b u hb => by
  rw [upd_ne (ne_of_none hb hD)]
  exact e _ _ hb
theorem lc_filtL (hD : H1 D = none) (hs : SqL K H1 a xs) (hz : xs.length ≤ sizeLine)
    (hw : ∀ x, wipe ((wipe σ vs).set j (some x)) vs = wipe σ vs)
    (test : ∀ (i : Nat) (x : V) (H2 : Hp), xs[i]? = some x → Same H1 H2 → ∀ Qb : Bool → Hp → Prop, (∀ b H3, Same H2 H3 → Qb b H3) → tt ((wipe σ vs).set j (some x)) H2 Qb)
    (elt : ∀ x H2 (Q' : VK), Q' x H2 → te ((wipe σ vs).set j (some x)) H2 Q')
    (done : ∀ H2 ys, Same H1 H2 → H2 D = some (.lst ys) → ys.length ≤ xs.length → (∀ y ∈ ys, y ∈ xs) → Qd H2) :
    ∃ W : Nat → Nat → Hp → Prop, (∃ m, W 0 m (upd H1 D (.lst []))) ∧ ∀ i m H, W i m H →
      ((Itl K a).stop i H ∧ Qd H) ∨ ((Itl K a).go i H ∧ ∃ Nx : Hp → Prop, (∀ H', Nx H' → ∃ m', m' < m ∧ W (i + 1) m' H') ∧ ∀ x H', (Itl K a).yld i H x H' → gName j x (wipe σ vs) H' fun σ2 H2 => wipe σ2 vs = wipe σ vs ∧ tt σ2 H2 fun b H3 =>
        if b = true then te σ2 H3 fun y H4 => ∃ acc, H4 D = some (.lst acc) ∧ acc.length < sizeLine ∧ Nx (upd H4 D (.lst (acc ++ [y]))) else Nx H3) :=
  lc_list (fun i H => Same H1 H ∧ ∃ ys, H D = some (.lst ys) ∧ ys.length ≤ i ∧ ∀ y ∈ ys, y ∈ xs)
    ⟨same_new hD _, [], upd_same, Nat.le_refl _, fun y h => by cases h⟩ (fun i H _ p => up_l p.1 hs)
    (fun i x H hx ⟨e, ys, h1, h2, h3⟩ => ⟨hw x, test i x H hx e _ fun b H3 e3 => by
      cases b with
      | false => exact ⟨e.trans e3, ys, e3 _ _ h1, Nat.le_succ_of_le h2, h3⟩
      | true =>
        refine elt x H3 _ ⟨ys, e3 _ _ h1, ?_, same_at hD (e.trans e3), _, upd_same, ?_, fun y hy => ?_⟩
        · exact Nat.lt_of_le_of_lt h2 (Nat.lt_of_lt_of_le (List.getElem?_eq_some_iff.mp hx).1 hz)
        · rw [List.length_append, List.length_singleton]
          exact Nat.succ_le_succ h2
        · rcases List.mem_append.mp hy with hy | hy
          · exact h3 y hy
          · rw [List.mem_singleton.mp hy]
            exact List.mem_of_getElem? hx⟩)
    fun H ⟨e, ys, h1, h2, h3⟩ => done H ys e h1 h2 h3
theorem lc_str {x : Str} (R : V → Hp → Prop) (mono : ∀ y H H', SameT H H' → R y H → R y H') (hD : H1 D = none) (hz : x.cps.size ≤ sizeLine)
    (hw : ∀ v, wipe ((wipe σ vs).set j (some v)) vs = wipe σ vs)
    (step : ∀ (i c : Nat) (H2 : Hp), x.cps[i]? = some c → Same H1 H2 → ∀ Q' : VK, (∀ y H3, Same H2 H3 → R y H3 → Q' y H3) → te ((wipe σ vs).set j (some (.str ⟨#[c]⟩))) H2 Q')
    (done : ∀ H2 ys, Same H1 H2 → H2 D = some (.lst ys) → ys.length ≤ x.cps.size → (∀ y ∈ ys, R y H2) → Qd H2) :
    ∃ W : Nat → Nat → Hp → Prop, (∃ m, W 0 m (upd H1 D (.lst []))) ∧ ∀ i m H, W i m H →
      ((Its x).stop i H ∧ Qd H) ∨ ((Its x).go i H ∧ ∃ Nx : Hp → Prop, (∀ H', Nx H' → ∃ m', m' < m ∧ W (i + 1) m' H') ∧ ∀ v H', (Its x).yld i H v H' → gName j v (wipe σ vs) H' fun σ2 H2 => wipe σ2 vs = wipe σ vs ∧ tYes σ2 H2 fun b H3 =>
        if b = true then te σ2 H3 fun y H4 => ∃ acc, H4 D = some (.lst acc) ∧ acc.length < sizeLine ∧ Nx (upd H4 D (.lst (acc ++ [y]))) else Nx H3) := by
  refine ⟨fun i m H => m = x.cps.size - i ∧ i ≤ x.cps.size ∧ Same H1 H ∧ ∃ ys, H D = some (.lst ys) ∧ ys.length ≤ i ∧ ∀ y ∈ ys, R y H, ⟨_, rfl, Nat.zero_le _, same_new hD _, [], upd_same, Nat.le_refl _, fun y h => by cases h⟩, ?_⟩
  rintro i m H ⟨rfl, hi, e, ys, h1, h2, h3⟩
  by_cases hlt : i < x.cps.size
  · refine .inr ⟨hlt, fun H' => i + 1 ≤ x.cps.size ∧ Same H1 H' ∧ ∃ ys, H' D = some (.lst ys) ∧ ys.length ≤ i + 1 ∧ ∀ y ∈ ys, R y H', fun H' p' => ⟨x.cps.size - (i + 1), by omega, rfl, p'⟩, fun v H' y => ?_⟩
    obtain ⟨rfl, c, hc, rfl⟩ := y
    refine ⟨hw _, ?_⟩
    unfold tYes
    dsimp only
    rw [if_pos rfl]
    refine step i c _ hc e _ fun y H3 e3 r => ⟨ys, e3 _ _ h1, Nat.lt_of_le_of_lt h2 (Nat.lt_of_lt_of_le hlt hz), hlt, same_at hD (e.trans e3), _, upd_same, ?_, fun z hz => ?_⟩
    · rw [List.length_append, List.length_singleton]
      exact Nat.succ_le_succ h2
    · have eT : ∀ {H : Hp}, H D = some (.lst ys) → ∀ o, SameT H (upd H D o) := fun hl o b xs hb => by
        rw [upd_ne (fun z => by rw [z, hl] at hb; cases hb)]
        exact hb
      rcases List.mem_append.mp hz with hz | hz
      · exact mono _ _ _ (eT (e3 _ _ h1) _) (mono _ _ _ (Same.T e3) (h3 z hz))
      · rw [List.mem_singleton.mp hz]
        exact mono _ _ _ (eT (e3 _ _ h1) _) r
  · exact .inl ⟨Nat.le_of_not_lt hlt, done H ys e h1 (Nat.le_trans h2 hi) h3⟩
end
/-- every parameter by name or place, no defaults -/
theorem kb_plain {K : PySem.W.Frag} {x qual : Str} {params : Arguments} {body : List Stmt} {scope : Scope} {kws : List (Str × V)} {f : Addr} {fd : FuncData} {ps : List Str} {n : Nat} {ks : List Str} (F : FunD K x qual params body scope [] kws f fd)
    (h : ∀ (kV doc pm : Value) (an : Option Addr) (cdv ct : Value) (us ws : List Value), us.length = n → ws.length = ks.length → bindArgs (PySem.W.fnOf x qual params body scope .none kV doc pm an cdv ct) ⟨us, ks.zip ws⟩ = pure (ps.zip (us ++ ws))) :
    KBn K fd ps n ks (fun us ws => us ++ ws) (fun vs zs => vs ++ zs) := by
  obtain ⟨oc, od, dV, kV, doc, pm, an, cdv, ct, osl, rfl, lk, hcd, hD, hK⟩ := F.ex
  rcases hD with ⟨_, rfl⟩ | ⟨e, _⟩
  · exact ⟨fun s us ws _ l1 l2 => .of_eq (h kV doc pm an cdv ct us ws l1 l2), fun r1 r2 => r1.append r2⟩
  · exact absurd rfl e
/-! ### dicts made of pairs -/
def BlK (kvs : List (Key × V)) : Prop := (kvs.map (·.1)).Nodup ∧ ∀ p ∈ kvs, ∃ b, p.2 = V.bl b
theorem putK_bl {kvs : List (Key × V)} {k : Key} {b : Bool} (h : BlK kvs) : BlK (putK kvs k (.bl b)) := by
  unfold putK
  by_cases e : (kvs.any fun kv => decide (kv.1 = k)) = true
  · rw [if_pos e]
    refine ⟨?_, fun p hp => ?_⟩
    · rw [List.map_map, show ((fun x : Key × V => x.1) ∘ fun kv : Key × V => if kv.1 = k then (kv.1, V.bl b) else kv) = fun x => x.1 from funext fun x => by
        show (if x.1 = k then (x.1, V.bl b) else x).1 = x.1
        split <;> rfl]
      exact h.1
    · obtain ⟨q, hq, rfl⟩ := List.mem_map.mp hp
      by_cases z : q.1 = k
      · rw [if_pos z]
        exact ⟨b, rfl⟩
      · rw [if_neg z]
        exact h.2 q hq
  · rw [if_neg e]
    refine ⟨?_, fun p hp => ?_⟩
    · rw [List.map_append]
      refine List.nodup_append.mpr ⟨h.1, by simp, fun x hx y hy z => ?_⟩
      obtain ⟨q, hq, rfl⟩ := List.mem_map.mp hx
      have hy2 : y = k := by simpa using hy
      exact e (List.any_eq_true.mpr ⟨q, hq, decide_eq_true (z.trans hy2)⟩)
    · rcases List.mem_append.mp hp with hp | hp
      · exact h.2 p hp
      · rw [List.mem_singleton.mp hp]
        exact ⟨b, rfl⟩
theorem mergeK_bl : ∀ {more kvs : List (Key × V)}, BlK kvs → (∀ p ∈ more, ∃ b, p.2 = V.bl b) → BlK (mergeK kvs more)
  | [], _, h, _ => h
  | (k, v) :: r, kvs, h, hm => by
    obtain ⟨b, hb⟩ := hm (k, v) List.mem_cons_self
    have hb' : v = .bl b := hb
    subst hb'
    exact mergeK_bl (more := r) (putK_bl h) fun p hp => hm p (List.mem_cons_of_mem _ hp)
theorem blK_nil : BlK [] := ⟨.nil, fun p h => by cases h⟩
end FF
/-! Fivefault, part 16: keywords gathered in a dict (def f(a, .., **d), called with keywords). -/
namespace FF
open PySem PySem.Spec PyProof.Rows L2
section
variable {prog : Program} {w : World} {A : Around} {E : Value → Shared → Prop} {d : Addr}
theorem kw_set {s : Shared} {es : List DictEntry} {n : Nat} {k : Str} {v : Value} {Q : Unit → Shared → Prop} (D : s.heap.get? d = some (PySem.W.dictOf es n)) (hs : ∀ e ∈ es, e.key.isStr k = false) (hr : ∀ e ∈ es, e.refKey = false)
    (h : ∀ h', h'.get? d = some (PySem.W.dictOf (es ++ [⟨PyData.keyHash w.params k, .str k s.toks, v⟩]) (n + 1)) → (∀ b, b ≠ d → h'.get? b = s.heap.get? b) → h'.objs.size = s.heap.objs.size → Q () { s with heap := h', toks := s.toks + 1 }) :
    wpAny (model prog w) A (nsSet d k v) Q E s := by
  have e1 : es.any (·.key.isStr k) = false := by
    rw [Bool.eq_false_iff]
    intro q
    obtain ⟨e, he, z⟩ := List.any_eq_true.mp q
    rw [hs e he] at z
    cases z
  have e2 : es.any (·.refKey) = false := by
    rw [Bool.eq_false_iff]
    intro q
    obtain ⟨e, he, z⟩ := List.any_eq_true.mp q
    rw [hr e he] at z
    cases z
  have e : Obj.putName k (PyData.keyHash w.params k) (.str k s.toks) v (PySem.W.dictOf es n) = PySem.W.dictOf (es ++ [⟨PyData.keyHash w.params k, .str k s.toks, v⟩]) (n + 1) := by
    rw [PySem.W.putName_dict, PySem.W.putL_new hs]
    show PySem.W.dictOf _ (if es.any (·.key.isStr k) then n else n + 1) = _
    rw [e1, if_neg Bool.false_ne_true]
  have c : aRefKeyMayBeTheName k es.toArray = false := by
    rw [aRefKeyMayBeTheName_at, ← Array.any_toList, ← Array.any_toList]
    show (!es.any (·.key.isStr k) && es.any (·.refKey)) = false
    rw [e2, Bool.and_false]
  unfold nsSet
  refine wpAny_bind (wpAny_bind (wpAny_askSetting (wpAny_pure (wpAny_bind (wpAny_mkText (wpAny_bind (wpAny_loadPart D ?_)))))))
  dsimp only
  rw [c]
  refine wpAny_updatePart D (h _ ?_ (fun b hb => Heap.get?_update_other _ _ (Ne.symm hb)) (Heap.size_update ..))
  have U := Heap.get?_update_self (Obj.putName k (PyData.keyHash w.params k) (.str k s.toks) v) D (by rw [e] <;> rfl)
  rw [e] at U
  exact U
theorem kw_fill {Q : PUnit → Shared → Prop} : ∀ (ex : List (Str × Value)) (s : Shared) (es : List DictEntry) (n : Nat), s.heap.get? d = some (PySem.W.dictOf es n) →
    (∀ e ∈ es, ∀ x ∈ ex, e.key.isStr x.1 = false) → (∀ e ∈ es, e.refKey = false) → (ex.map (·.1)).Nodup →
    (∀ h', h'.get? d = some (PySem.W.dictOf (es ++ PySem.W.kwEs w.params s.toks ex) (n + ex.length)) → (∀ b, b ≠ d → h'.get? b = s.heap.get? b) → h'.objs.size = s.heap.objs.size → Q ⟨⟩ { s with heap := h', toks := s.toks + ex.length }) →
    wpAny (model prog w) A (forIn ex PUnit.unit fun x _ => (nsSet d x.1 x.2 >>= fun _ => pure (ForInStep.yield PUnit.unit))) Q E s
  | [], s, es, n, D, _, _, _, h => by
    rw [List.forIn_nil]
    refine wpAny_pure (h s.heap ?_ (fun _ _ => rfl) rfl)
    show s.heap.get? d = some (PySem.W.dictOf (es ++ []) n)
    rw [List.append_nil]
    exact D
  | x :: r, s, es, n, D, hs, hr, hn, h => by
    obtain ⟨hn1, hn2⟩ := List.nodup_cons.mp (show (x.1 :: r.map (·.1)).Nodup from hn)
    rw [List.forIn_cons]
    refine wpAny_bind (wpAny_bind (kw_set D (fun e he => hs e he x List.mem_cons_self) hr fun h' D' k1 z1 => wpAny_pure ?_))
    show wpAny (model prog w) A (forIn r PUnit.unit fun x _ => (nsSet d x.1 x.2 >>= fun _ => pure (ForInStep.yield PUnit.unit))) Q E { s with heap := h', toks := s.toks + 1 }
    refine kw_fill r { s with heap := h', toks := s.toks + 1 } _ _ D' (fun e he y hy => ?_) (fun e he => ?_) hn2 fun h'' D'' k2 z2 => ?_
    · rcases List.mem_append.mp he with he | he
      · exact hs e he y (List.mem_cons_of_mem _ hy)
      · obtain rfl := List.mem_singleton.mp he
        show (x.1 == y.1) = false
        exact beq_eq_false_iff_ne.mpr fun q => hn1 (by rw [q]; exact List.mem_map_of_mem hy)
    · rcases List.mem_append.mp he with he | he
      · exact hr e he
      · obtain rfl := List.mem_singleton.mp he
        rfl
    · have t1 : s.toks + 1 + r.length = s.toks + (r.length + 1) := by omega
      have t2 : n + 1 + r.length = n + (r.length + 1) := by omega
      show Q ⟨⟩ { s with heap := h'', toks := s.toks + 1 + r.length }
      rw [t1]
      refine h h'' ?_ (fun b hb => (k2 b hb).trans (k1 b hb)) (z2.trans z1)
      rw [t2, List.append_assoc] at D''
      exact D''
theorem kwEs_mix : ∀ (ex : List (Str × Value)) (t : Tok), Pairs (mixKind prog w) (PySem.W.kwEs w.params t ex) (ex.map fun x => ((.inr x.1 : Key), x.2))
  | [], _ => Pairs.nil
  | x :: r, t => Pairs.cons (by show decide _ = true; exact decide_eq_true rfl) rfl (kwEs_mix r (t + 1))
theorem kwEs_dict {h : Heap} {ex : List (Str × Value)} {t : Tok} {n : Nat} (D : h.get? d = some (PySem.W.dictOf (PySem.W.kwEs w.params t ex) n)) (hn : (ex.map (·.1)).Nodup) : h.DictOf (mixKind prog w) d (ex.map fun x => ((.inr x.1 : Key), x.2)) := by
  refine ⟨_, _, n, D, ⟨rfl, rfl, rfl⟩, rfl, fun e he => ?_, kwEs_mix ex t, ?_⟩
  · obtain ⟨k, u, hk, hh⟩ := PySem.W.kwEs_key ex t e (List.mem_toArray.mp he)
    exact ⟨.inr k, by rw [hk]; show decide _ = true; exact decide_eq_true rfl, hh.trans rfl⟩
  · rw [List.map_map]
    have e : ((fun x : Key × Value => x.1) ∘ fun x : Str × Value => ((.inr x.1 : Key), x.2)) = fun x : Str × Value => (.inr x.1 : Key) := rfl
    rw [e]
    have : (ex.map fun x : Str × Value => (.inr x.1 : Key)) = (ex.map (·.1)).map Sum.inr := by rw [List.map_map] <;> rfl
    rw [this]
    exact hn.map Sum.inr fun a b h z => h (Sum.inr.inj z)
end
end FF
/-! Fivefault, part 17: defs with **d, called with keywords. -/
namespace FF
open PySem PySem.Spec PyProof.Rows L2 StX
/-- the entries that keywords make -/
def kwK (ks : List Str) (zs : List V) : List (Key × V) := (ks.zip zs).map fun x => (.inr x.1, x.2)
theorem kv_of : ∀ {ks : List Str} {zs : List V} {ws : List Value}, Vals zs ws → KV (kwK ks zs) ((ks.zip ws).map fun x => ((.inr x.1 : Key), x.2))
  | [], _, _, _ => by
    simp only [kwK, List.zip_nil_left, List.map_nil]
    exact .nil
  | k :: ks, [], _, .nil => .nil
  | k :: ks, z :: zs, w :: ws, .cons a r => .cons ⟨rfl, a⟩ (kv_of r)
def FnKw (P : Program) (w : World) (K : PySem.W.Frag) (mg : Str → Option Value) (base : Heap) (CX : CXT) (k : Nat) (f : Addr) (n : Nat) (ks : List Str) (sp : Sp) : Prop :=
  ∀ (A : Around) (outer : List Env) (s : Shared) (H : Hp) (us ws : List Value) (vs zs : List V) (Q : VK) (E : XK), Room k A → Env0 P w K mg base A outer s H → Vals vs us → Vals zs ws → vs.length = n → zs.length = ks.length → sp (vs ++ zs) H Q E →
    codeAny (model P w) A (.call (.ref f) ⟨us, ks.zip ws⟩) (CR CX outer P w H s Q E) s
structure DefK (P : Program) (w : World) (K : PySem.W.Frag) (mg : Str → Option Value) (base : Heap) (x : Str) (k n : Nat) (ks : List Str) (sp : Sp) : Prop where
  ex : ∃ f : Addr, FnKw P w K mg base (L2.CX P w) k f n ks sp ∧ mg x = some (.ref f) ∧ PySem.W.keepIn K (.ref f) = true
theorem defk_mk {P : Program} {w : World} {K : PySem.W.Frag} {mg : Str → Option Value} {base : Heap} {x pd : Str} {st : Stmt} {f : Addr} {fd : FuncData} {N ps ks : List Str} {k : Nat} {sp : Sp} (F : FunD K x x (defArgs st) (defBody st) (defScope st) [] [] f fd) (hm : mg x = some (.ref f))
    (S : FnScope N (ps ++ [pd]) (defScope st)) (hnd : ks.Nodup) (hsm : ks.length ≤ 1000)
    (hb : ∀ (kV doc pm : Value) (an : Option Addr) (cdv ct : Value) (us ws : List Value), us.length = ps.length → ws.length = ks.length → bindArgs (PySem.W.fnOf x x (defArgs st) (defBody st) (defScope st) .none kV doc pm an cdv ct) ⟨us, ks.zip ws⟩ =
      ((alloc ({ cls := .type "dict", data := .dict #[] } : Obj) : Sem Addr) >>= fun d => (forIn (ks.zip ws) PUnit.unit fun x _ => (nsSet d x.1 x.2 >>= fun _ => pure (ForInStep.yield PUnit.unit))) >>= fun _ => pure (ps.zip us ++ [(pd, Value.ref d)])))
    (body : ∀ (cdv : Value) (A : Around) (outer : List Env) (s : Shared) (H : Hp) (vs : List V) (Q : VK) (E : XK), Room k (A.deeper (envOfC x (defScope st) s.heap.objs.size f cdv)) → sp vs H Q E →
      (Takes (cxOf (L2.CX P w) P w K mg base N x (defScope st) f cdv A outer s H E) fun cls d _ H => E cls d H) →
      ∃ t, PSs (cxOf (L2.CX P w) P w K mg base N x (defScope st) f cdv A outer s H E) (defBody st) t ∧ t { nx := fun _ H' => Q .non H', rt := Q } (start N vs) H) :
    DefK P w K mg base x (k + 1) ps.length ks (fun xs H Q E => ∃ vs zs, xs = vs ++ zs ∧ vs.length = ps.length ∧ ∀ p, H p = none → sp (vs ++ [V.ref p]) (upd H p (.dK (kwK ks zs))) Q E) := by
  have kp := F.kp
  obtain ⟨oc, od, dV, kV, doc, pm, an, cdv, ct, osl, rfl, lk, hcd, hD, _⟩ := F.ex
  obtain rfl : dV = .none := by
    rcases hD with ⟨_, e⟩ | ⟨e, _⟩
    · exact e
    · exact absurd rfl e
  refine ⟨f, fun A outer s H us ws vs zs Q E hr e0 r rz l1 l2 ⟨vs', zs', ev, lv, hq⟩ => ?_, hm, kp⟩
  obtain ⟨rfl, rfl⟩ : vs = vs' ∧ zs = zs' := List.append_inj ev (l1.trans lv.symm)
  have hn : H s.heap.objs.size = none := e0.hok.fresh (Nat.le_refl _)
  have lu : us.length = ps.length := r.length.symm.trans l1
  have lw : ws.length = ks.length := rz.length.symm.trans l2
  refine run_bnd lk hcd S hr e0 (G := fun xs H2 => ∃ p, H p = none ∧ xs = vs ++ [V.ref p] ∧ H2 = upd H p (.dK (kwK ks zs))) (fun A' Ex Q' h => ?_) fun s2 H2 xs ⟨p, hp, ex, eH⟩ hr' => ?_
  · rw [hb kV doc pm an cdv ct us ws lu lw]
    refine wpAny_bind (wpAny_alloc (wpAny_bind ?_))
    have nd : ((ks.zip ws).map (·.1)).Nodup := by
      have : (ks.zip ws).map (·.1) = ks := by
        rw [List.map_fst_zip]
        omega
      rw [this]
      exact hnd
    refine kw_fill (ks.zip ws) _ [] 0 (Heap.get?_push_size _ rfl) (fun _ he => nomatch he) (fun _ he => nomatch he) nd fun h' D' k1 z1 => wpAny_pure ?_
    have k2 : ∀ b o, s.heap.get? b = some o → h'.get? b = some o := fun b o e => (k1 b (Nat.ne_of_lt (Heap.lt_size e))).trans (Heap.get?_push_of_some _ e)
    have dd := kwEs_dict (prog := P) (w := w) (ex := ks.zip ws) (by rw [List.nil_append] at D'; exact D') nd
    have new : ObjOk P w (upd H s.heap.objs.size (.dK (kwK ks zs))) h' s.heap.objs.size (.dK (kwK ks zs)) := dk_new (le_line (by unfold kwK; rw [List.length_map, List.length_zip]; omega)) (beq_eq_false_iff_ne.mpr (Ne.symm (Nat.ne_of_lt (env0_big e0)))) (kv_of rz) dd
    have un : Un (frs outer) [] H (upd H s.heap.objs.size (.dK (kwK ks zs))) s.heap h' := Un.laid k2 (Nat.le_refl _) hn
    have e1 : Env0 P w K mg base A outer { s with heap := h', toks := s.toks + (ks.zip ws).length } (upd H s.heap.objs.size (.dK (kwK ks zs))) := by
      refine ⟨e0.frames, e0.mod, fun b x e => ⟨k2 b x (e0.bs b x e).1, ?_⟩, ?_, Heap.FunFrames.of_keeps (fun b x e _ => ⟨x, k2 b x e, rfl⟩) e0.funs, fun b hb => ?_, e0.hok.laid k2 (Nat.le_refl _) new, e0.bare⟩
      · rw [upd_ne (Nat.ne_of_lt (Heap.lt_size (e0.bs b x e).1))]
        exact (e0.bs b x e).2
      · show base.objs.size ≤ h'.objs.size
        rw [z1]
        show base.objs.size ≤ (s.heap.push _).objs.size
        rw [Heap.size_push]
        exact Nat.le_succ_of_le e0.bsz
      · obtain ⟨_, x, hx, _⟩ := e0.funs.mem hb
        rw [upd_ne (Nat.ne_of_lt (Heap.lt_size hx))]
        exact e0.frf b hb
    have z := h _ _ (vs ++ [V.ref s.heap.objs.size]) (us ++ [Value.ref s.heap.objs.size]) e1 un rfl (fun e s' => cxUp outer s H _ _ E e s' un k2 rfl) (r.append (.cons rfl .nil)) (by rw [List.length_append, List.length_append, l1] <;> rfl) ⟨_, hn, rfl, rfl⟩
    rw [List.zip_append lu.symm] at z
    exact z
  · subst ex eH
    exact body cdv A outer s2 _ _ Q E hr' (hq p hp) (takes_of rfl rfl rfl rfl)
/-- x(e, .., k = v, ..) of such a def -/
theorem pe_defk {X : Cx} {E : XK} {x : Str} {k j n : Nat} {ks : List Str} {sp : Sp} {e : Expr} {es : List Expr} {kws : List Keyword} {p pos : Pos} {t tk : TA} (D : DefK X.prog X.w X.K X.mg X.base x k n ks sp) (hx : Passes (L2.CX X.prog X.w) X E) (hr : Room j X.A) (hkj : k ≤ j)
    (ha : PA X (e :: es) t) (hkw : PK X kws tk) (hg : Gl X x := by rfl) (hall : (backToKw pos (keywordEach kws X.env)).all (·.1.isSome) = true := by rfl) (hks : (backToKw pos (keywordEach kws X.env)).filterMap (·.1) = ks := by rfl)
    (hdb : (x == ("__debug__" : Str)) = false := by decide) (he : starEach (e :: es) X.env = (false, eval e X.env) :: starEach es X.env := by rfl)
    (hpl : ((backTo pos (starEach (e :: es) X.env)).any (·.1) || (backToKw pos (keywordEach kws X.env)).any (·.1.isNone)) = false := by rfl) :
    PE X (.Call (.Name x p) (e :: es) kws pos) (tCallN n ks.length sp (fun vs zs => vs ++ zs) E t tk) := by
  obtain ⟨f, F, hm, hk⟩ := D.ex
  refine ⟨fun pins s σ H Q I h => ?_⟩
  refine wpAny_Call_Name_kw (ld_glob I hg hm ?_ hdb)
  refine PySem.W.callWith_KW (h₀ := X.base) I.ok.mod.kin hk hall (thn (ha.run pos pins s σ H _ I h) fun us s1 ⟨vs, H1, I1, r, q⟩ => ?_) hpl he
  refine thn (hkw.run pos pins s1 σ H1 _ I1 q) fun ws s2 ⟨zs, H2, I2, rz, l1, l2, q2⟩ => ⟨I2.kIn, ?_⟩
  rw [hks]
  refine wpAny_call (codeAny_mono (F X.A X.stack s2 H2 us ws vs zs Q E (hr.mono hkj) I2.env0 r rz l1 l2 q2) fun r s' hq => ?_)
  cases r with
  | error e => exact hx pins σ H2 s2 e s' I2 hq
  | ok fl =>
    cases fl with
    | ret u => exact I2.after hq
    | next => exact False.elim hq
    | brk => exact False.elim hq
    | cont => exact False.elim hq
theorem pe_defk0 {X : Cx} {E : XK} {x : Str} {k j n : Nat} {sp : Sp} {e : Expr} {es : List Expr} {p pos : Pos} {t : TA} (D : DefK X.prog X.w X.K X.mg X.base x k n [] sp) (hx : Passes (L2.CX X.prog X.w) X E) (hr : Room j X.A) (hkj : k ≤ j)
    (ha : PA X (e :: es) t) (hg : Gl X x := by rfl) (hd : (x == ("__debug__" : Str)) = false := by decide) (he : starEach (e :: es) X.env = (false, eval e X.env) :: starEach es X.env := by rfl) (hpl : (backTo pos (starEach es X.env)).any (·.1) = false := by rfl) :
    PE X (.Call (.Name x p) (e :: es) [] pos) (fun σ H Q => t σ H fun vs H1 => vs.length = n ∧ sp (vs ++ []) H1 Q E) := by
  obtain ⟨f, F, hm, hk⟩ := D.ex
  refine ⟨fun pins s σ H Q I h => ?_⟩
  refine wpAny_Call_Name_kw (ld_glob I hg hm ?_ hd)
  refine PySem.W.callWith_K (h₀ := X.base) I.ok.mod.kin hk (thn (ha.run pos pins s σ H _ I h) fun us s1 ⟨vs, H1, I1, r, l1, q⟩ => ⟨I1.kIn, ?_⟩) he hpl
  refine wpAny_call (codeAny_mono (F X.A X.stack s1 H1 us [] vs [] Q E (hr.mono hkj) I1.env0 r .nil l1 rfl q) fun r s' hq => ?_)
  cases r with
  | error e => exact hx pins σ H1 s1 e s' I1 hq
  | ok fl =>
    cases fl with
    | ret u => exact I1.after hq
    | next => exact False.elim hq
    | brk => exact False.elim hq
    | cont => exact False.elim hq
end FF
/-! Fivefault, part 18: own exceptions with one field. -/
namespace FF
open PySem PySem.Spec PyProof.Rows L2
/-- C.__init__(self, y): the code z, the field f -/
def spIni1 (K : PySem.W.Frag) (z f : Str) : Sp := fun vs H Q _ => ∃ (a C : Addr) (y : V), vs = [.ref a, y] ∧ OexC K C ∧ PySem.W.findIn K (.ref C) "code" = some none ∧ PySem.W.findIn K (.ref C) f = some none ∧ H a = some (exo a C none) ∧
  ∀ dx, H dx = none → dx ≠ a → Q .non (upd (upd (upd H dx (exd dx [("code", .str z)])) a (exo a C (some dx))) dx (exd dx [(f, y), ("code", .str z)]))
structure RaiseD1 (P : Program) (w : World) (K : PySem.W.Frag) (mg : Str → Option Value) (base : Heap) (x y : Str) (k : Nat) (z f : Str) : Prop where
  own : OwnX K x y
  nof : PySem.W.findIn K (.ref (He.ga K x)) f = some none
  hm : mg x = some (.ref (He.ga K x))
  ini : ∃ fd, FnOk P w K mg base CX0 k (He.ma K (He.ga K x) "__init__") fd ["self", f] (spIni1 K z f) ∧ Binds K fd ["self", f] []
def tOwn1 (K : PySem.W.Frag) (x z f : Str) (ta : TA) : L2.St → Hp → XK → Prop := fun σ H Q => ta σ H fun vs H1 => ∃ y, vs = [y] ∧ ∀ dd H', Same H1 H' → H' dd = some (.xd [(f, y), ("code", .str z)]) → Q (.ref (He.ga K x)) (some dd) H'
theorem pmk_raise1 {X : Cx} {x y z f : Str} {k j : Nat} {e : Expr} {p pos : Pos} {ta : TA} (D : RaiseD1 X.prog X.w X.K X.mg X.base x y k z f) (hr : Room j X.A) (hkj : k + 1 ≤ j) (ha : PA X [e] ta) (hg : Gl X x := by rfl) (hdb : (x == ("__debug__" : Str)) = false := by decide)
    (he : starEach [e] X.env = (false, eval e X.env) :: starEach [] X.env := by rfl) (hpl : (backTo pos (starEach [] X.env)).any (·.1) = false := by rfl) (mono : ∀ σ H (Q Q' : List V → Hp → Prop), (∀ vs H1, Q vs H1 → Q' vs H1) → ta σ H Q → ta σ H Q') :
    PMk X (.Call (.Name x p) [e] [] pos) (tOwn1 X.K x z f ta) := by
  obtain ⟨fd, F, hb⟩ := D.ini
  refine pmk_imp (pmk_oex D.own.c.o D.own.ini D.own.tyI F (hr.mono hkj) hb .nil pass0 hg D.hm ha hdb he hpl) fun σ H Q q => ?_
  refine mono σ H _ _ (fun vs H1 ⟨y, ev, q⟩ => ?_) q
  subst ev
  refine ⟨by simp, fun a ha => ⟨a, He.ga X.K x, y, rfl, D.own.c.o, D.own.c.noc, D.nof, upd_same, fun dx hdx hne => ⟨rfl, dx, [(f, y), ("code", .str z)], ?_, upd_same, ?_, ?_⟩⟩⟩
  · rw [upd_ne (Ne.symm hne), upd_same]
  · rwa [upd_ne hne] at hdx
  · have hdx2 : H1 dx = none := by rwa [upd_ne hne] at hdx
    refine q dx _ (fun b u hb => ?_) upd_same
    have b1 : b ≠ dx := ne_of_none hb hdx2
    have b2 : b ≠ a := ne_of_none hb ha
    rw [upd_ne b1, del_ne b2, upd_ne b1, upd_ne b2, upd_ne b1, upd_ne b2]
    exact hb
end FF
/-! Fivefault, part 19: a, *b = t. -/
namespace FF
open PySem PySem.Spec PyProof.Rows L2
theorem tup_tail {prog : Program} {w : World} {A : Around} (hh : A.handled = none) (I ax : Addr) (hne : ax ≠ I) (x : Value) (items : List Value) :
    Walks prog w A I [I, ax] [I] items.length (fun i v => items[i]? = some v) (fun i h => h.IsTupleIter I ax (i + 1) ∧ h.IsTuple ax (x :: items).toArray) :=
  let W := Walks.tuple (prog := prog) (w := w) hh I ax hne (x :: items).toArray
  { sub := W.sub
    frame := fun i h h' st hk => W.frame (i + 1) h h' st hk
    item := fun i s Q E hi st hQ => W.item (i + 1) s Q E (by simpa using hi) st fun v h' tk hP st' hk => hQ v h' tk (by simpa using hP) st' hk
    done := fun s Q E st hQ => W.done s Q E (by simpa using st) hQ
    self := fun i s Q E st hQ => W.self (i + 1) s Q E st hQ }
theorem unpack_star {prog : Program} {w : World} {A : Around} {E : Value → Shared → Prop} {s : Shared} {t : Addr} {x : Value} {items : List Value} {Q : List Value → Shared → Prop} (hh : A.handled = none) (ht : s.heap.IsTuple t (x :: items).toArray) (hz : items.length ≤ sizeLine)
    (hQ : ∀ (h' : Heap) (tk : Nat), (∀ b o, s.heap.get? b = some o → h'.get? b = some o) → Q [x, .ref h'.objs.size] { s with heap := h'.push { cls := .type "list", data := .seq items.toArray }, toks := tk }) :
    wpAny (model prog w) A (unpackItems (.ref t) 2 (some 1)) Q E s := by
  have hlt : t ≠ s.heap.objs.size := by obtain ⟨o, ho, _⟩ := ht; exact Nat.ne_of_lt (Heap.lt_size ho)
  unfold unpackItems
  refine wpAny_bind ?_
  unfold notIterableAtAll
  refine wpAny_bind (wpAny_specialOf ht.typeIs PySem.F.slot_tuple_iter.lookup ?_)
  refine wpAny_pure ?_
  simp only [Bool.false_eq_true, if_false]
  refine wpAny_bind (wpAny_holding (wpAny_pyIter_tuple ht ?_))
  refine wpAny_bind (wpAny_holding (wpAny_draw_tuple hlt 1 0 _ _ ⟨_, Heap.get?_push_size _ rfl, rfl, rfl⟩ (ht.push _) (by simp) fun h₁ hit₁ hs₁ => ?_))
  have e1 : List.take 1 (List.drop 0 (x :: items).toArray.toList) = [x] := by simp
  rw [e1, if_neg (by simp)]
  have ht₁ : h₁.IsTuple t (x :: items).toArray := (ht.push _).extBut hs₁.extBut hlt
  have k1 : ∀ b o, s.heap.get? b = some o → h₁.get? b = some o := fun b o e => hs₁.extBut b o (Nat.ne_of_lt (Heap.lt_size e)) (Heap.get?_push_of_some _ e)
  have hin : s.heap.objs.size < h₁.objs.size := by
    obtain ⟨o, ho, _⟩ := hit₁
    exact Heap.lt_size ho
  have htn : t < h₁.objs.size := by
    obtain ⟨o, ho, _⟩ := ht₁
    exact Heap.lt_size ho
  refine wpAny_bind (wpAny_holding (wpAny_collect_iter (T := "tuple_iterator") (.inr (.inr (.inr rfl))) (Walks.toS (tup_tail (A := A.in1) hh s.heap.objs.size t hlt x items)) (fun i s st => st.1.typeIs) ⟨hit₁, ht₁⟩ (fun b hb => ?_) (by simp) (fun s' acc mv it => ?_) hz))
  · simp only [List.mem_cons, List.not_mem_nil, or_false] at hb
    rcases hb with rfl | rfl
    · exact hin
    · exact htn
  have ea : acc.toList = items := by
    apply List.ext_getElem?
    intro j
    rw [Array.getElem?_toList]
    cases h : acc[j]? with
    | some v => exact (it.2 j v h).symm
    | none =>
      have := Array.getElem?_eq_none_iff.mp h
      rw [it.1] at this
      exact (List.getElem?_eq_none this).symm
  rw [ea, if_neg (by omega)]
  have em : List.take (items.length - (2 - 1 - 1)) items = items := by simp
  have ed : List.drop (items.length - (2 - 1 - 1)) items = [] := by simp
  rw [em, ed]
  obtain ⟨h2, g2, d2, t2, o2⟩ := s'
  obtain ⟨mh, mg, md, mo, mt⟩ := mv
  have mg : g2 = s.gens := mg
  have md : d2 = s.drawn := md
  have mo : o2 = s.os := mo
  subst mg md mo
  refine wpAny_bind (wpAny_newList (wpAny_pure (hQ h2 t2 fun b o e => mh b o (fun hm => ?_) (k1 b o e))) hz)
  rw [List.mem_singleton.mp hm] at e
  exact Nat.lt_irrefl _ (Heap.lt_size e)
/-- a, *b = t -/
theorem pg_star2 {X : Cx} {e1 e2 : Expr} {p3 pos : Pos} {k : Nat} {t : TGs} (hc : X.calm = true) (h : PGs X [e1, e2] t) (hm : (assignEach [e1, .Starred e2 p3] X.env).map (·.2) = (assignEach [e1, e2] X.env).map (·.2) := by rfl)
    (hn : (assignEach [e1, .Starred e2 p3] X.env).length = 2 := by rfl) (hst : (assignEach [e1, .Starred e2 p3] X.env).findIdx? (·.1) = some 1 := by rfl) :
    PG X (.Tuple [e1, .Starred e2 p3] k pos) (fun v σ H Q => ∃ a x0 xs, v = .ref a ∧ SqT X.K H a (x0 :: xs) ∧ ∀ p, H p = none → t [x0, .ref p] σ (upd H p (.lst xs)) Q) := by
  refine ⟨fun pins s σ H v u Q I r hw => ?_⟩
  obtain ⟨a, x0, xs, rfl, hq, hw⟩ := hw
  cases r
  obtain ⟨its, rv, ht, hz⟩ := I.tuple hq
  cases rv with
  | @cons _ u0 _ us r0 rs =>
  have hl : us.length ≤ sizeLine := by
    have := rs.length
    rw [List.length_cons] at hz
    omega
  rw [PyProof.Rows.assign_Tuple]
  refine wpAny_bind (wpAny_standAt ?_)
  unfold unpack
  rw [hn, hst, hm]
  refine wpAny_bind (wpAny_holding (unpack_star (I.ok.hd hc) ht hl fun h' tk kp => ?_))
  have I1 : Inv X pins σ H { s with heap := h', toks := tk } := I.kept kp
  have hf : H h'.objs.size = none := I1.hok.fresh (Nat.le_refl _)
  have I2 : Inv X pins σ (upd H h'.objs.size (.lst xs)) { s with heap := h'.push { cls := .type "list", data := .seq us.toArray }, toks := tk } :=
    I1.laid (t' := tk) (fun b u e => Heap.get?_push_of_some _ e) (Nat.le_refl _) ⟨by rw [rs.length]; exact hl, us, 0, rs, Heap.get?_push_size _ rfl⟩
  exact h.run pins _ σ _ [x0, .ref h'.objs.size] [u0, .ref h'.objs.size] Q I2 (.cons r0 (.cons rfl .nil)) (hw _ hf)
end FF
/-! Fivefault, part 20: methods of own classes, some of which raise; instances whose fields change. -/
namespace FF
open PySem PySem.Spec PyProof.Rows L2
structure MethX (P : Program) (w : World) (K : PySem.W.Frag) (mg : Str → Option Value) (base : Heap) (C m : Str) (k : Nat) (ps : List Str) (sp : Sp) : Prop where
  ex : ∃ fd, FnOk P w K mg base (L2.CX P w) k (He.ma K (He.ga K C) m) fd ps sp ∧ Binds K fd ps []
  cl : Cls K (He.ga K C)
  me : Meth K (He.ga K C) m (He.ma K (He.ga K C) m)
structure MethD (P : Program) (w : World) (K : PySem.W.Frag) (mg : Str → Option Value) (base : Heap) (C m : Str) (k : Nat) (ps : List Str) (sp : Sp) : Prop where
  ex : ∃ fd, FnOk P w K mg base CX0 k (He.ma K (He.ga K C) m) fd ps sp ∧ Binds K fd ps []
  cl : Cls K (He.ga K C)
  me : Meth K (He.ga K C) m (He.ma K (He.ga K C) m)
section
variable {X : Cx} {W : WX} {E : XK} {C m : Str} {k j : Nat} {ps : List Str} {sp : Sp} {o e : Expr} {es : List Expr} {apos pos : Pos} {to : TE} {t : TA} {pl : Sem Bool}
theorem pe_methx (D : MethX X.prog X.w X.K X.mg X.base C m k ps sp) (tk : Takes X W) (hW : ∀ cls d σ' H', E cls d H' → W cls d σ' H') (hr : Room j X.A) (hkj : k ≤ j) (ho : PE X o to) (ha : PA X (e :: es) t)
    (hst : starEach (e :: es) X.env = (false, eval e X.env) :: starEach es X.env := by rfl) (hpl : (backTo pos (starEach es X.env)).any (·.1) = false := by rfl)
    (ht : eval (.Call (.Attribute o m apos) (e :: es) [] pos) X.env = (do
      let ov ← eval o X.env
      standAt apos.atName
      let (f, first) ← holding [ov] (getMethod ov m pl)
      callWith pos f first (backTo pos (starEach (e :: es) X.env)) (backToKw pos (keywordEach [] X.env))) := by rfl) :
    PE X (.Call (.Attribute o m apos) (e :: es) [] pos) (tMeth (He.ga X.K C) m sp [] E to t) := by
  obtain ⟨fd, F, hb⟩ := D.ex
  exact pe_meth ho D.cl D.me F (hr.mono hkj) hb .nil (passes_call tk hW) ha hst hpl ht
theorem pe_methd (D : MethD X.prog X.w X.K X.mg X.base C m k ps sp) (hr : Room j X.A) (hkj : k ≤ j) (ho : PE X o to) (ha : PA X (e :: es) t)
    (hst : starEach (e :: es) X.env = (false, eval e X.env) :: starEach es X.env := by rfl) (hpl : (backTo pos (starEach es X.env)).any (·.1) = false := by rfl)
    (ht : eval (.Call (.Attribute o m apos) (e :: es) [] pos) X.env = (do
      let ov ← eval o X.env
      standAt apos.atName
      let (f, first) ← holding [ov] (getMethod ov m pl)
      callWith pos f first (backTo pos (starEach (e :: es) X.env)) (backToKw pos (keywordEach [] X.env))) := by rfl) :
    PE X (.Call (.Attribute o m apos) (e :: es) [] pos) (tMeth (He.ga X.K C) m sp [] E0 to t) := by
  obtain ⟨fd, F, hb⟩ := D.ex
  exact pe_meth ho D.cl D.me F (hr.mono hkj) hb .nil pass0 ha hst hpl ht
theorem pe_methd0 (D : MethD X.prog X.w X.K X.mg X.base C m k ps sp) (hr : Room j X.A) (hkj : k ≤ j) (ho : PE X o to)
    (ht : eval (.Call (.Attribute o m apos) [] [] pos) X.env = (do
      let ov ← eval o X.env
      standAt apos.atName
      let (f, first) ← holding [ov] (getMethod ov m pl)
      callWith pos f first (backTo pos (starEach [] X.env)) (backToKw pos (keywordEach [] X.env))) := by rfl) :
    PE X (.Call (.Attribute o m apos) [] [] pos) (tMeth (He.ga X.K C) m sp [] E0 to tNil) := by
  obtain ⟨fd, F, hb⟩ := D.ex
  exact pe_meth0 ho D.cl D.me F (hr.mono hkj) hb .nil pass0 ht
end
/-- C(..): the class C with an own __init__ that raises nothing -/
structure MakeD (P : Program) (w : World) (K : PySem.W.Frag) (mg : Str → Option Value) (base : Heap) (C : Str) (k : Nat) (ps : List Str) (sp : Sp) : Prop where
  ex : ∃ fd, FnOk P w K mg base CX0 k (He.ma K (He.ga K C) "__init__") fd ps sp ∧ Binds K fd ps []
  mkr : Mk K (He.ga K C) (He.ma K (He.ga K C) "__init__")
  hm : mg C = some (.ref (He.ga K C))
theorem pe_mkd {X : Cx} {C : Str} {k j : Nat} {ps : List Str} {sp : Sp} {e : Expr} {es : List Expr} {p pos : Pos} {t : TA} (D : MakeD X.prog X.w X.K X.mg X.base C k ps sp) (hr : Room j X.A) (hkj : k + 1 ≤ j) (ha : PA X (e :: es) t)
    (hg : Gl X C := by rfl) (hdb : (C == ("__debug__" : Str)) = false := by decide) (he : starEach (e :: es) X.env = (false, eval e X.env) :: starEach es X.env := by rfl) (hpl : (backTo pos (starEach es X.env)).any (·.1) = false := by rfl) :
    PE X (.Call (.Name C p) (e :: es) [] pos) (tMake (He.ga X.K C) sp [] E0 t) := by
  obtain ⟨fd, F, hb⟩ := D.ex
  exact pe_make D.mkr F (hr.mono hkj) hg D.hm hb .nil pass0 ha hdb he hpl
section
variable {P : Program} {w : World} {K : PySem.W.Frag} {mg : Str → Option Value} {base : Heap}
theorem methx_mk {C m qual : Str} {st : Stmt} {fd : FuncData} {dvs : List V} {kws : List (Str × V)} {N ps : List Str} {k : Nat} {sp : Sp} (F : FunD K m qual (defArgs st) (defBody st) (defScope st) dvs kws (He.ma K (He.ga K C) m) fd) (hb : Binds K fd ps [])
    (cl : Cls K (He.ga K C)) (me : Meth K (He.ga K C) m (He.ma K (He.ga K C) m)) (S : FnScope N ps (defScope st)) (len : ∀ vs H Q E, sp vs H Q E → vs.length = ps.length)
    (body : ∀ (cdv : Value) (A : Around) (outer : List Env) (s : Shared) (H : Hp) (vs : List V) (Q : VK) (E : XK), Room k (A.deeper (envOfC qual (defScope st) s.heap.objs.size (He.ma K (He.ga K C) m) cdv)) → sp vs H Q E →
      (Takes (cxOf (L2.CX P w) P w K mg base N qual (defScope st) (He.ma K (He.ga K C) m) cdv A outer s H E) fun cls d _ H => E cls d H) →
      ∃ t, PSs (cxOf (L2.CX P w) P w K mg base N qual (defScope st) (He.ma K (He.ga K C) m) cdv A outer s H E) (defBody st) t ∧ t { nx := fun _ H' => Q .non H', rt := Q } (start N vs) H) : MethX P w K mg base C m (k + 1) ps sp :=
  ⟨⟨fd, FunD.ok F S len (fun cdv A outer s H vs Q E hr h => body cdv A outer s H vs Q E hr h (takes_of rfl rfl rfl rfl)), hb⟩, cl, me⟩
theorem fnm_mk {C m qual : Str} {st : Stmt} {fd : FuncData} {dvs : List V} {kws : List (Str × V)} {N ps : List Str} {k : Nat} {sp : Sp} (F : FunD K m qual (defArgs st) (defBody st) (defScope st) dvs kws (He.ma K (He.ga K C) m) fd)
    (S : FnScope N ps (defScope st)) (len : ∀ vs H Q E, sp vs H Q E → vs.length = ps.length)
    (body : ∀ (cdv : Value) (A : Around) (outer : List Env) (s : Shared) (H : Hp) (vs : List V) (Q : VK) (E : XK), Room k (A.deeper (envOfC qual (defScope st) s.heap.objs.size (He.ma K (He.ga K C) m) cdv)) → sp vs H Q E →
      ∃ t, PSs (cxOf CX0 P w K mg base N qual (defScope st) (He.ma K (He.ga K C) m) cdv A outer s H E).nox (defBody st) t ∧ t { nx := fun _ H' => Q .non H', rt := Q } (start N vs) H) : FnOk P w K mg base CX0 (k + 1) (He.ma K (He.ga K C) m) fd ps sp :=
  FunD.ok F S len fun cdv A outer s H vs Q E hr h => let ⟨t, a, b⟩ := body cdv A outer s H vs Q E hr h; ⟨t, PSs.nox a, b⟩
theorem methd_mk {C m qual : Str} {st : Stmt} {fd : FuncData} {dvs : List V} {kws : List (Str × V)} {N ps : List Str} {k : Nat} {sp : Sp} (F : FunD K m qual (defArgs st) (defBody st) (defScope st) dvs kws (He.ma K (He.ga K C) m) fd) (hb : Binds K fd ps [])
    (cl : Cls K (He.ga K C)) (me : Meth K (He.ga K C) m (He.ma K (He.ga K C) m)) (S : FnScope N ps (defScope st)) (len : ∀ vs H Q E, sp vs H Q E → vs.length = ps.length)
    (body : ∀ (cdv : Value) (A : Around) (outer : List Env) (s : Shared) (H : Hp) (vs : List V) (Q : VK) (E : XK), Room k (A.deeper (envOfC qual (defScope st) s.heap.objs.size (He.ma K (He.ga K C) m) cdv)) → sp vs H Q E →
      ∃ t, PSs (cxOf CX0 P w K mg base N qual (defScope st) (He.ma K (He.ga K C) m) cdv A outer s H E).nox (defBody st) t ∧ t { nx := fun _ H' => Q .non H', rt := Q } (start N vs) H) : MethD P w K mg base C m (k + 1) ps sp :=
  ⟨⟨fd, fnm_mk F S len body, hb⟩, cl, me⟩
theorem MethX.mono {C m : Str} {j k : Nat} {ps : List Str} {sp : Sp} (D : MethX P w K mg base C m j ps sp) (h : j ≤ k) : MethX P w K mg base C m k ps sp := by
  obtain ⟨fd, F, r⟩ := D.ex
  exact ⟨⟨fd, F.mono h, r⟩, D.cl, D.me⟩
theorem MethD.mono {C m : Str} {j k : Nat} {ps : List Str} {sp : Sp} (D : MethD P w K mg base C m j ps sp) (h : j ≤ k) : MethD P w K mg base C m k ps sp := by
  obtain ⟨fd, F, r⟩ := D.ex
  exact ⟨⟨fd, F.mono h, r⟩, D.cl, D.me⟩
/-- a promise that is never asked -/
theorem methx_none {C m qual : Str} {params : Arguments} {body : List Stmt} {scope : Scope} {fd : FuncData} {dvs : List V} {kws : List (Str × V)} {ps : List Str} {sp : Sp} (_F : FunD K m qual params body scope dvs kws (He.ma K (He.ga K C) m) fd) (hb : Binds K fd ps [])
    (cl : Cls K (He.ga K C)) (me : Meth K (He.ga K C) m (He.ma K (He.ga K C) m)) (no : ∀ vs H Q E, ¬ sp vs H Q E) : MethX P w K mg base C m 0 ps sp :=
  ⟨⟨fd, ⟨fun vs H Q E h => absurd h (no vs H Q E), fun A outer s H args us vs Q E _ _ _ _ h => absurd h (no vs H Q E)⟩, hb⟩, cl, me⟩
end
/-! ### all but one object stays -/
theorem sameT_i {a C dx : Addr} {fs : List (Str × V)} {H H' : Hp} (ha : H a = some (.ins C dx fs)) (e : SameB a H H') : SameT H H' := fun b ys h => e b _ (fun z => by rw [z, ha] at h; cases h) h
theorem sb_refl {a : Addr} {H : Hp} : SameB a H H := fun _ _ _ h => h
theorem SameB.tr {a : Addr} {H H1 H2 : Hp} (x : SameB a H H1) (y : SameB a H1 H2) : SameB a H H2 := fun b u n h => y b u n (x b u n h)
theorem sb_of {a : Addr} {H H1 : Hp} (x : Same H H1) : SameB a H H1 := fun b u _ h => x b u h
theorem sb_upd {a : Addr} {H : Hp} {o : HO} : SameB a H (upd H a o) := fun b u n h => by rw [upd_ne n]; exact h
theorem sb_same {a : Addr} {H H1 : Hp} (ha : H a = none) (x : SameB a H H1) : Same H H1 := fun b u h => x b u (ne_of_none h ha) h
end FF
/-! Fivefault, part 21: {k: v for a in xs for b in ys}. -/
namespace FF
open PySem PySem.Spec PyProof.Rows L2
section
variable {prog : Program} {w : World} {A : Around} {R : Result → Shared → Prop} {s : Shared} {ek ev ga ia gb ib : Expr} {cs ds : List Expr} {scope : Scope} {pos : Pos} {it : Value} {D : Addr} {env : Env}
abbrev dcE (ek ev ga ia gb ib : Expr) (cs ds : List Expr) (scope : Scope) (pos : Pos) : Expr := .DictComp ek ev [⟨ga, ia, cs, 0⟩, ⟨gb, ib, ds, 0⟩] scope pos
abbrev okE (A : Around) (prog : Program) (w : World) (env : Env) (R : Result → Shared → Prop) : Value → Shared → Prop := notedBy (model prog w) A env fun e s' => R (.error e) s'
abbrev testsOf (cs : List Expr) (env : Env) : Sem Bool := forIn cs true fun c r => if r = true then do let ok ← isTrue c env (eval c env); pure (ForInStep.yield ok) else pure (ForInStep.yield r)
theorem dturn_out : compTurn (dcE ek ev ga ia gb ib cs ds scope pos) 0 it (.ref D) env = (do
      standAt ia.pos
      match ← pyNext it with
      | none => pure (.done .next)
      | some v =>
        letOwnedTupleGo ga it v
        assign ga env v
        let mut ok := true
        for c in cs do
          if ok then ok ← isTrue c env (eval c env)
        if ok then
          let x ← eval ib env
          standAt ib.pos
          let x ← foldedSetIterable ib env x
          let _ ← runOwn (.compStart (dcE ek ev ga ia gb ib cs ds scope pos) 1 (← holding [x] (pyIter x)) (.ref D) env) env
        again (.compLoop (dcE ek ev ga ia gb ib cs ds scope pos) 0 it (.ref D) env)) := by rfl
theorem dturn_in : compTurn (dcE ek ev ga ia gb ib cs ds scope pos) 1 it (.ref D) env = (do
      standAt ib.pos
      match ← pyNext it with
      | none => pure (.done .next)
      | some v =>
        letOwnedTupleGo gb it v
        assign gb env v
        let mut ok := true
        for c in ds do
          if ok then ok ← isTrue c env (eval c env)
        if ok then
          (do
            let kv ← eval ek env
            let vv ← holding [kv] (eval ev env)
            standAt { ek.pos with endLine := ev.pos.endLine, endCol := ev.pos.endCol }
            holding [kv, vv] (dictSet D kv vv))
        again (.compLoop (dcE ek ev ga ia gb ib cs ds scope pos) 1 it (.ref D) env)) := by rfl
/-- the loop over the first source -/
theorem dloop_out (hs : ∀ x, foldedSetIterable ib env x = pure x) (J : Nat → Shared → Prop)
    (turn : ∀ n s, J n s → wpAny (model prog w) A (pyNext it) (fun r s₁ => match r with
      | none => R (.ok .next) s₁
      | some v => wpAny (model prog w) A (letOwnedTupleGo ga it v) (fun _ sa => wpAny (model prog w) A (assign ga env v) (fun _ sb => wpAny (model prog w) A (testsOf cs env) (fun ok sc =>
          if ok = true then wpAny (model prog w) A (eval ib env) (fun x sd => wpAny (model prog w) A (pyIter x) (fun i2 se => codeAny (model prog w) A (.compStart (dcE ek ev ga ia gb ib cs ds scope pos) 1 i2 (.ref D) env) (fun r s' => match r with
            | .ok _ => ∃ m, m < n ∧ J m s'
            | .error _ => False) se) (okE A prog w env R) sd) (okE A prog w env R) sc
          else ∃ m, m < n ∧ J m sc) (okE A prog w env R) sb) (okE A prog w env R) sa) (okE A prog w env R) s₁) (okE A prog w env R) s)
    (n : Nat) (h : J n s) : codeAny (model prog w) A (.compLoop (dcE ek ev ga ia gb ib cs ds scope pos) 0 it (.ref D) env) R s := by
  refine codeAny_loop rfl J (fun n s hJ => ?_) n h
  show wpAny _ A ((compTurn (dcE ek ev ga ia gb ib cs ds scope pos) 0 it (.ref D) env).onRaise (fun x => do noteFrame x env; theTreesLotGoes x)) _ _ s
  refine wpAny_noted ?_
  rw [dturn_out]
  refine wpAny_bind (wpAny_standAt (wpAny_bind (wpAny_mono (turn n s hJ) (fun r sa ha => ?_) fun _ _ z => z)))
  match r, ha with
  | none, ha => exact wpAny_pure ha
  | some v, ha =>
    refine wpAny_bind (wpAny_mono ha (fun _ sb hb => wpAny_bind (wpAny_mono hb (fun _ sc hc => wpAny_bind (wpAny_mono hc (fun ok sd hd => ?_) fun _ _ z => z)) fun _ _ z => z)) fun _ _ z => z)
    match ok, hd with
    | false, hd => exact wpAny_pure ⟨rfl, hd⟩
    | true, hd =>
      refine wpAny_bind (wpAny_mono hd (fun x se he => wpAny_bind (wpAny_standAt (wpAny_bind (wpAny_of_eq (hs x) (wpAny_bind (wpAny_holding (wpAny_mono he (fun i2 sf hf => ?_) fun _ _ z => z))))))) fun _ _ z => z)
      refine wpAny_bind (wpAny_runOwn ?_)
      rw [Around.mark_none]
      refine codeAny_mono hf fun r s' hr => ?_
      match r, hr with
      | .ok f, hr =>
        first
          | exact wpAny_pure ⟨rfl, hr⟩
          | exact wpAny_bind (wpAny_pure (wpAny_pure ⟨rfl, hr⟩))
      | .error e, hr => exact hr.elim
/-- the loop over the second -/
theorem dloop_in (J : Nat → Shared → Prop)
    (turn : ∀ n s, J n s → wpAny (model prog w) A (pyNext it) (fun r s₁ => match r with
      | none => R (.ok .next) s₁
      | some v => wpAny (model prog w) A (letOwnedTupleGo gb it v) (fun _ sa => wpAny (model prog w) A (assign gb env v) (fun _ sb => wpAny (model prog w) A (testsOf ds env) (fun ok sc =>
          if ok = true then wpAny (model prog w) A (eval ek env) (fun kv sd => wpAny (model prog w) A (eval ev env) (fun vv se => wpAny (model prog w) A (dictSet D kv vv) (fun _ sf => ∃ m, m < n ∧ J m sf) (okE A prog w env R) se) (okE A prog w env R) sd) (okE A prog w env R) sc
          else ∃ m, m < n ∧ J m sc) (okE A prog w env R) sb) (okE A prog w env R) sa) (okE A prog w env R) s₁) (okE A prog w env R) s)
    (n : Nat) (h : J n s) : codeAny (model prog w) A (.compLoop (dcE ek ev ga ia gb ib cs ds scope pos) 1 it (.ref D) env) R s := by
  refine codeAny_loop rfl J (fun n s hJ => ?_) n h
  show wpAny _ A ((compTurn (dcE ek ev ga ia gb ib cs ds scope pos) 1 it (.ref D) env).onRaise (fun x => do noteFrame x env; theTreesLotGoes x)) _ _ s
  refine wpAny_noted ?_
  rw [dturn_in]
  refine wpAny_bind (wpAny_standAt (wpAny_bind (wpAny_mono (turn n s hJ) (fun r sa ha => ?_) fun _ _ z => z)))
  match r, ha with
  | none, ha => exact wpAny_pure ha
  | some v, ha =>
    refine wpAny_bind (wpAny_mono ha (fun _ sb hb => wpAny_bind (wpAny_mono hb (fun _ sc hc => wpAny_bind (wpAny_mono hc (fun ok sd hd => ?_) fun _ _ z => z)) fun _ _ z => z)) fun _ _ z => z)
    match ok, hd with
    | false, hd => exact wpAny_pure ⟨rfl, hd⟩
    | true, hd =>
      exact wpAny_bind (wpAny_bind (wpAny_mono hd (fun kv se he => wpAny_bind (wpAny_holding (wpAny_mono he (fun vv sf hf => wpAny_bind (wpAny_standAt (wpAny_holding (wpAny_mono hf (fun _ sg hg => wpAny_pure ⟨rfl, hg⟩) fun _ _ z => z)))) fun _ _ z => z))) fun _ _ z => z))
theorem dstart_in (h0 : codeAny (model prog w) A (.compLoop (dcE ek ev ga ia gb ib cs ds scope pos) 1 it (.ref D) env) R s)
    (h : wpAny (model prog w) A (pyIter it) (fun i2 s' => codeAny (model prog w) A (.compLoop (dcE ek ev ga ia gb ib cs ds scope pos) 1 i2 (.ref D) env) R s') (okE A prog w env R) s) :
    codeAny (model prog w) A (.compStart (dcE ek ev ga ia gb ib cs ds scope pos) 1 it (.ref D) env) R s := by
  refine codeAny_of_tree ?_
  show wpAny _ _ ((compStart (dcE ek ev ga ia gb ib cs ds scope pos) 1 it (.ref D) env).onRaise (fun x => do noteFrame x env; standAt theWindowsPlace)) _ _ s
  refine wpAny_notedAt ?_
  unfold compStart
  show wpAny _ _ (ask >>= _) _ _ s
  refine wpAny_bind (wpAny_askSetting (wpAny_ite ?_))
  split
  · first
      | exact wpAny_bind (wpAny_pure (wpAny_pure (And.intro rfl h0)))
      | exact wpAny_pure (And.intro rfl h0)
  · first
      | exact wpAny_bind (wpAny_rule (wpAny_bind (wpAny_standAt (wpAny_bind (wpAny_mono h (fun i2 s' z => wpAny_pure (And.intro rfl z)) fun _ _ x => x)))))
      | (refine wpAny_bind (wpAny_rule ?_); show wpAny _ _ (standAt ib.pos >>= _) _ _ s; exact wpAny_bind (wpAny_standAt (wpAny_bind (wpAny_mono h (fun i2 s' z => wpAny_pure (And.intro rfl z)) fun _ _ x => x))))
end
/-- in every block of the comprehension -/
abbrev InBlk (X : Cx) (scope : Scope) (p : Cx → Prop) : Prop := ∀ (s : Shared) (H : Hp) (C : Addr) (cl : List (Str × Addr)) (fp : List Addr), p (X.blk s H scope (compEnvC scope cl C X.env) fp)
/-- the inner loop of {k: v for a in xs for b in ys} -/
def tDcIn (J : It) (g : TG) (tt : TT) (tk tv : TE) (D : Addr) (vs : List Nat) (σ : L2.St) (H : Hp) (Nx : Hp → Prop) : Prop := ∃ W : Nat → Nat → Hp → Prop, (∃ m, W 0 m H) ∧ ∀ j k H, W j k H →
  (J.stop j H ∧ Nx H) ∨ (J.go j H ∧ ∃ N : Hp → Prop, (∀ H', N H' → ∃ k', k' < k ∧ W (j + 1) k' H') ∧ ∀ x H', J.yld j H x H' → g x (wipe σ vs) H' fun σ3 H5 => wipe σ3 vs = wipe σ vs ∧ tt σ3 H5 fun b H6 =>
    if b = true then tk σ3 H6 fun y H7 => tv σ3 H7 fun z H8 => ∃ kvs key, y = kV key ∧ H8 D = some (.dK kvs) ∧ kvs.length < sizeLine ∧ N (upd H8 D (.dK (putK kvs key z))) else N H6)
def tDc2 (wi : TI) (g : TG) (tt : TT) (wi1 : TI) (g1 : TG) (tt1 : TT) (tk tv : TE) (vs vs1 : List Nat) : TE := fun σ H Q => wi σ H fun J H1 => ∀ D, H1 D = none → ∃ W : Nat → Nat → Hp → Prop, (∃ m, W 0 m (upd H1 D (.dK []))) ∧ ∀ i m H, W i m H →
  (J.stop i H ∧ Q (.ref D) H) ∨ (J.go i H ∧ ∃ Nx : Hp → Prop, (∀ H', Nx H' → ∃ m', m' < m ∧ W (i + 1) m' H') ∧ ∀ x H', J.yld i H x H' → g x (wipe σ vs) H' fun σ2 H2 => wipe σ2 vs = wipe σ vs ∧ tt σ2 H2 fun b H3 =>
    if b = true then wi1 σ2 H3 fun J1 H4 => tDcIn J1 g1 tt1 tk tv D vs1 σ2 H4 Nx else Nx H3)
theorem pe_dc2 {X : Cx} {ek ev ga ia gb ib : Expr} {cs ds : List Expr} {scope : Scope} {own : List (Str × Nat)} {vs1 : List Nat} {pos : Pos} {wi wi1 : TI} {g g1 : TG} {tt tt1 : TT} {tk tv : TE} (calm : X.calm = true) (nd : X.N.Nodup) (pia : PI X ga ia wi) (ok : BlkOk X.N X.env.scope scope own) (sub : ∀ i ∈ vs1, i ∈ own.map (·.2))
    (pga : InBlk X scope fun Y => PG Y ga g) (pta : InBlk X scope fun Y => PTs Y cs tt) (pib : InBlk X scope fun Y => PI Y gb ib wi1) (pgb : InBlk X scope fun Y => PG Y gb g1) (ptb : InBlk X scope fun Y => PTs Y ds tt1) (pek : InBlk X scope fun Y => PE Y ek tk) (pev : InBlk X scope fun Y => PE Y ev tv)
    (fa : ∀ x, foldedSetIterable ia X.env x = pure x := by intro _; rfl) (fb : ∀ env x, foldedSetIterable ib env x = pure x := by intro _ _; rfl) : PE X (dcE ek ev ga ia gb ib cs ds scope pos) (tDc2 wi g tt wi1 g1 tt1 tk tv (own.map (·.2)) vs1) := by
  refine ⟨fun pins s σ H Q I h => ?_⟩
  show wpAny _ X.A (eval (.DictComp ek ev [⟨ga, ia, cs, 0⟩, ⟨gb, ib, ds, 0⟩] scope pos) X.env) _ _ _
  rw [arm_eval_DictComp]
  have cells : ∀ y ∈ scope.names, y.2 = .free → ∃ c, X.env.cells.lookup y.1 = some c := fun y hy e => (ok.free y hy e).elim (fun k => I.ok.has _ (.inl k)) fun k => I.ok.has _ (.inr k)
  refine wpAny_comprehension_free rfl fa (closure_ok cells) ok.kind (fun y hy e => by rw [ok.uniq y hy, e]) (thn (pia.run pins s σ H _ I h) fun xv sa hx => thn hx fun itv sb hb => ?_)
  obtain ⟨it, fp, tn, J, H2, rfl, I2, T, t2, f2, q⟩ := hb
  refine wpAny_newObj_type (newEnv_comp ?_)
  generalize hD : sb.heap.objs.size = D
  have freeD : H2 D = none := I2.hok.fresh (Nat.le_of_eq hD)
  obtain ⟨W, ⟨m0, w0⟩, turn⟩ := q D freeD
  generalize hs3 : ({ sb with heap := sb.heap.push { cls := .type "dict", data := .dict #[] } } : Shared) = s3
  have heap3 : s3.heap = sb.heap.push { cls := .type "dict", data := .dict #[] } := by rw [← hs3]
  have I3 : Inv X pins σ (upd H2 D (.dK [])) s3 := by
    rw [← hs3]
    exact I2.laid (t' := sb.toks) (fun b o e => Heap.get?_push_of_some _ e) (Nat.le_of_eq hD) (by rw [← hD]; exact dk_empty sb.heap I2.big)
  have below : ∀ b ∈ fp, b < sb.heap.objs.size := fun b hb => let ⟨o, e, _⟩ := T.obj _ _ t2 b hb; Heap.lt_size e
  have f3 : ∀ b ∈ fp, FpOk X pins (upd H2 D (.dK [])) b ∧ b < s3.heap.objs.size := fun b hb => by
    refine ⟨⟨?_, (f2 b hb).2⟩, by rw [heap3, Heap.size_push]; exact Nat.lt_succ_of_lt (below b hb)⟩
    rw [upd_ne (by rw [← hD]; exact Nat.ne_of_lt (below b hb))]
    exact (f2 b hb).1
  have t3 : tn 0 s3.heap := T.keep _ _ _ t2 fun b _ o e => by rw [heap3]; exact Heap.get?_push_of_some _ e
  have I4 := block_start I3 ok nd f3
  have off3 : ∀ b ∈ fp, (upd H2 D (.dK [])) b = none := fun b hb => (f3 b hb).1.1
  show codeAny _ _ (.compStart (dcE ek ev ga ia gb ib cs ds scope pos) 0 (.ref it) (.ref D) (compEnvC scope (cellsFrom (s3.heap.objs.size + 1) scope.names (cloFrom X.env.cells scope.names [])) s3.heap.objs.size X.env)) (compPost (model X.prog X.w) X.A X.xe none (EP X pins σ Q) (.ref D) s3.heap.objs.size) { s3 with heap := pushCells (s3.heap.push { cls := .type "dict", data := .dict #[] }) scope.names }
  generalize hcl : cellsFrom (s3.heap.objs.size + 1) scope.names (cloFrom X.env.cells scope.names []) = cl at I4 ⊢
  have rga := pga s3 (upd H2 D (.dK [])) s3.heap.objs.size cl fp
  have rta := pta s3 (upd H2 D (.dK [])) s3.heap.objs.size cl fp
  have rib := pib s3 (upd H2 D (.dK [])) s3.heap.objs.size cl fp
  have rgb := pgb s3 (upd H2 D (.dK [])) s3.heap.objs.size cl fp
  have rtb := ptb s3 (upd H2 D (.dK [])) s3.heap.objs.size cl fp
  have rek := pek s3 (upd H2 D (.dK [])) s3.heap.objs.size cl fp
  have rev := pev s3 (upd H2 D (.dK [])) s3.heap.objs.size cl fp
  have fbe := fb (compEnvC scope cl s3.heap.objs.size X.env)
  generalize hce : compEnvC scope cl s3.heap.objs.size X.env = ce at I4 rga rta rib rgb rtb rek rev fbe ⊢
  have loc : ce.locals = s3.heap.objs.size := by subst hce; rfl
  generalize hH3 : upd H2 D (.dK []) = H3 at I3 I4 rga rta rib rgb rtb rek rev w0 off3 f3
  generalize hs4 : ({ s3 with heap := pushCells (s3.heap.push { cls := .type "dict", data := .dict #[] }) scope.names } : Shared) = s4 at I4 ⊢
  have t4 : tn 0 s4.heap := T.keep _ _ _ t3 fun b _ o e => by rw [← hs4]; exact pushCells_keeps _ _ _ _ (Heap.get?_push_of_some _ e)
  let B := X.blk s3 H3 scope ce fp
  have foot : ∀ {σ' : L2.St} {H' : Hp} {s' : Shared}, Inv B [] σ' H' s' → (∀ b ∈ fp, H' b = none) → ∀ b ∈ fp, FpOk B [] H' b := fun {σ' H' s'} I' hn b hb =>
    ⟨hn b hb, (I'.ok.exf b hb).1, I'.ok.exfs b hb, .inl hb, fun x c e => (I'.ok.exf b hb).2 x c e, fun p hp => absurd (show p ∈ ([] : List (Addr × Obj)) ++ [] from hp) (by simp)⟩
  let Sj : Nat → Shared → Prop := fun n s' => ∃ i H', Inv B [] (wipe σ (own.map (·.2))) H' s' ∧ tn i s'.heap ∧ (∀ b ∈ fp, H' b = none) ∧ W i n H'
  have loop := dloop_out (prog := X.prog) (w := X.w) (A := X.A) (it := .ref it) (D := D) (ek := ek) (ev := ev) (ga := ga) (ia := ia) (gb := gb) (cs := cs) (ds := ds) (scope := scope) (pos := pos) (R := compPost (model X.prog X.w) X.A X.xe none (EP X pins σ Q) (.ref D) s3.heap.objs.size) fbe Sj (fun n s5 hs5 => ?_) m0 (show Sj m0 s4 from ⟨0, H3, I4, t4, off3, w0⟩)
  · exact codeAny_compStart_dict loop (T.self X.A 0 _ _ _ t4 loop)
  obtain ⟨i, H5, I5, t5, n5, w5⟩ := hs5
  rcases turn i n H5 w5 with ⟨stop, qq⟩ | ⟨go, Nx, hNx, step⟩
  · refine thnF (T.done B rfl rfl rfl calm i [] s5 _ H5 (fun _ _ => False) I5 (foot I5 n5) t5 stop) fun r s6 ⟨hr, I6⟩ => ?_
    subst hr
    have I7 : Inv X pins σ H5 s6 := I3.call' (ch := fp) I6.os I6.base I6.hok I6.bare fun b hb => ⟨(f3 b hb).1.2.2.2.1, (f3 b hb).1.2.1, (f3 b hb).1.2.2.2.2.1, (f3 b hb).1.2.2.2.2.2⟩
    have freeC : H5 s3.heap.objs.size = none := loc ▸ (show H5 ce.locals = none from I6.free)
    obtain ⟨m, hn, _⟩ := I6.loc
    have hn : s6.heap.Ns s3.heap.objs.size m := loc ▸ (show s6.heap.Ns ce.locals m from hn)
    obtain ⟨k0, k1, k2, k3, k4, k5⟩ := I3.fpOk (Nat.le_refl _) freeC
    exact ⟨m, hn, fun h'' same => ⟨.ref D, H5, I7.turned (t' := s6.toks) (fun b o hb e => (same.2 b hb).trans e) k0 k1 k3 k4 k5, rfl, qq⟩⟩
  refine thnF (T.item B rfl rfl rfl calm i [] s5 _ H5 (fun _ _ => False) I5 (foot I5 n5) t5 go) fun r s6 ⟨u, hr, h6⟩ => ?_
  subst hr
  refine thnF h6 fun _ s7 ⟨x, H7, I7, r7, y7, t7, n7⟩ => ?_
  refine thnF (rga.run _ s7 _ H7 x u _ (I7.pinned (foot I7 n7) (T.obj _ _ t7)) r7 (step x H7 y7)) fun _ s8 ⟨σ8, H8, I8, hw8, q8⟩ => ?_
  refine thnF (rta.run _ s8 σ8 H8 _ I8 q8) fun b s9 ⟨H9, I9, q9⟩ => ?_
  have turnEnd : ∀ {σ9 : L2.St} {s' : Shared} {H' : Hp}, Inv B ([] ++ pinsAt fp s7.heap) σ9 H' s' → (wipe σ (own.map (·.2))).length = σ9.length → (∀ (j : Nat) v, (wipe σ (own.map (·.2)))[j]? = some (some v) → σ9[j]? = some (some v)) → Nx H' → ∃ m, m < n ∧ Sj m s' := fun {σ9 s' H'} I' hl hk nx => by
    obtain ⟨m', hm, w'⟩ := hNx H' nx
    have stays : ∀ b ∈ fp, ∀ o, s7.heap.get? b = some o → s'.heap.get? b = some o ∧ H' b = none := fun b hb o e =>
      let z := I'.pin (b, o) (List.mem_append_right _ (List.mem_append_right _ (mem_pinsAt hb e)))
      ⟨z.1, z.2.1⟩
    exact ⟨m', hm, i + 1, H', (I'.unpinned (pins := [])).weak hl hk, T.keep _ _ _ t7 fun b hb o e => (stays b hb o e).1, fun b hb => let ⟨o, e, _⟩ := T.obj _ _ t7 b hb; (stays b hb o e).2, w'⟩
  have len8 : (wipe σ (own.map (·.2))).length = σ8.length := by rw [← hw8, wipe_length]
  have keep8 : ∀ (j : Nat) v, (wipe σ (own.map (·.2)))[j]? = some (some v) → σ8[j]? = some (some v) ∧ j ∉ own.map (·.2) := fun j v e => by
    rw [← hw8] at e
    exact wipe_some e
  cases b with
  | false => exact turnEnd I9 len8 (fun j v e => (keep8 j v e).1) (by simpa using q9)
  | true =>
  simp only [if_true] at q9 ⊢
  refine thnF (rib.run _ s9 σ8 H9 _ I9 q9) fun yv s10 hy => thnF hy fun itv s11 h11 => ?_
  obtain ⟨i1, fp1, tn1, J1, H11, rfl, I11, T1, t11, f11, W1, ⟨m1, w1⟩, turn1⟩ := h11
  have foot1 : ∀ {H' : Hp}, (∀ b ∈ fp1, H' b = none) → ∀ b ∈ fp1, FpOk B ([] ++ pinsAt fp s7.heap) H' b := fun hn b hb => ⟨hn b hb, (f11 b hb).2⟩
  let Sk : Nat → Shared → Prop := fun k s' => ∃ j H', Inv B ([] ++ pinsAt fp s7.heap) (wipe σ8 vs1) H' s' ∧ tn1 j s'.heap ∧ (∀ b ∈ fp1, H' b = none) ∧ W1 j k H'
  have loop1 := dloop_in (prog := X.prog) (w := X.w) (A := X.A) (env := ce) (it := .ref i1) (D := D) (ek := ek) (ev := ev) (ga := ga) (ia := ia) (gb := gb) (ib := ib) (cs := cs) (ds := ds) (scope := scope) (pos := pos) (R := fun r s' => match r with
    | .ok _ => ∃ m, m < n ∧ Sj m s'
    | .error _ => False) Sk (fun k s12 hs12 => ?_) m1 (show Sk m1 s11 from ⟨0, H11, I11.weak (wipe_length _ _) (fun j v e => (wipe_some e).1), t11, fun b hb => (f11 b hb).1, w1⟩)
  · exact dstart_in loop1 (T1.self X.A 0 _ _ _ t11 loop1)
  obtain ⟨j, H12, I12, t12, n12, w12⟩ := hs12
  rcases turn1 j k H12 w12 with ⟨stop1, nx1⟩ | ⟨go1, N1, hN1, step1⟩
  · refine thnF (T1.done B rfl rfl rfl calm j _ s12 (wipe σ8 vs1) H12 (fun _ _ => False) I12 (foot1 n12) t12 stop1) fun r s13 ⟨hr, I13⟩ => ?_
    subst hr
    refine turnEnd I13 (len8.trans (wipe_length σ8 vs1).symm) (fun j v e => ?_) nx1
    obtain ⟨e1, e2⟩ := keep8 j v e
    rw [wipe_out fun z => e2 (sub j z)]
    exact e1
  refine thnF (T1.item B rfl rfl rfl calm j _ s12 (wipe σ8 vs1) H12 (fun _ _ => False) I12 (foot1 n12) t12 go1) fun r s13 ⟨u1, hr, h13⟩ => ?_
  subst hr
  refine thnF h13 fun _ s14 ⟨x1, H14, I14, r14, y14, t14, n14⟩ => ?_
  refine thnF (rgb.run _ s14 (wipe σ8 vs1) H14 x1 u1 _ (I14.pinned (foot1 n14) (T1.obj _ _ t14)) r14 (step1 x1 H14 y14)) fun _ s15 ⟨σ15, H15, I15, hw15, q15⟩ => ?_
  refine thnF (rtb.run _ s15 σ15 H15 _ I15 q15) fun b1 s16 ⟨H16, I16, q16⟩ => ?_
  have innerEnd : ∀ {s' : Shared} {H' : Hp}, Inv B (([] ++ pinsAt fp s7.heap) ++ pinsAt fp1 s14.heap) σ15 H' s' → N1 H' → ∃ m, m < k ∧ Sk m s' := fun {s' H'} I' nx => by
    obtain ⟨m', hm, w'⟩ := hN1 H' nx
    have stays : ∀ b ∈ fp1, ∀ o, s14.heap.get? b = some o → s'.heap.get? b = some o ∧ H' b = none := fun b hb o e =>
      let z := I'.pin (b, o) (List.mem_append_right _ (List.mem_append_right _ (mem_pinsAt hb e)))
      ⟨z.1, z.2.1⟩
    exact ⟨m', hm, j + 1, H', I'.unpinned.weak (by rw [← hw15, wipe_length]) (fun j v e => by rw [← hw15] at e; exact (wipe_some e).1), T1.keep _ _ _ t14 fun b hb o e => (stays b hb o e).1, fun b hb => let ⟨o, e, _⟩ := T1.obj _ _ t14 b hb; (stays b hb o e).2, w'⟩
  cases b1 with
  | false => exact innerEnd I16 (by simpa using q16)
  | true =>
  simp only [if_true] at q16 ⊢
  refine thnF (rek.run _ s16 σ15 H16 _ I16 q16) fun yk s17 ⟨kk, H17, I17, r17, q17⟩ => ?_
  refine thnF (rev.run _ s17 σ15 H17 _ I17 q17) fun yv2 s18 ⟨vv, H18, I18, r18, kvs, key, ek2, hD18, hz18, nx⟩ => ?_
  subst ek2
  exact d_dictSet (X := B) I18 hD18 hz18 r17 r18 fun s19 I19 => innerEnd I19 nx
end FF
/-! Fivefault, part 22: sorted(d), a dict with any number of text keys. -/
namespace FF
open PySem PySem.Spec PyProof.Rows L2
def rSortedDA (H0 : Unit) : List V → Hp → VK → Prop := fun xs H Q => ∃ (a : Addr) (kvs : List (Key × V)) (ks : List Str), xs = [.ref a] ∧ H a = some (.dK kvs) ∧ kvs.map (·.1) = ks.map Sum.inr ∧ ∀ ys p, ys.Perm ks → sortedS ys = true → H p = none → Q (.ref p) (upd H p (.lst (ys.map V.str)))
theorem cr_sortedDA {X : Cx} (calm : X.calm = true) : CallR X (.builtin "sorted") (rSortedDA ()) := by
  intro pins s σ H xs us Q I r h
  obtain ⟨a, kvs, ks, rfl, hd, hk, q⟩ := h
  obtain ⟨u, rfl, rx⟩ := vals1 r
  cases rx
  obtain ⟨z, big, vs, rel, dd⟩ := dk_rd I.hok (.inl hd)
  obtain ⟨ep, hat⟩ := dd.dictAt
  have keys : vs.map (·.1) = ks.map Sum.inr := rel.keys.symm.trans hk
  have len : vs.length = ks.length := by simpa using congrArg List.length keys
  have line : vs.length ≤ sizeLine := rel.length ▸ z
  refine Calls.call_function_entry PyProof.Rows.kind_sorted PyProof.Rows.plain_sorted PyProof.Rows.entry_sorted (PyProof.Rows.args_sorted1 _) ?_
  unfold Builtin.«sorted»
  refine wpAny_bind (m := checkCount "sorted" 1 1 _) (wpAny_pure ?_)
  refine wpAny_bind (PySem.W.kdu_collect (A := X.A.in1) (PySem.W.kdl_dict (knd := mixKind X.prog X.w) (kvs := vs) (ep := ep) big) (I.ok.hd calm) hat line fun h' tk acc hkeep hacc => ?_)
  have la : acc.toList.length = ks.length := by rw [Array.length_toList, hacc.1, len]
  have hS : StrsAre acc.toList ks := strs_at la fun j v e => by
    obtain ⟨k, x, e1, e2⟩ := hacc.2 j v (by rw [← Array.getElem?_toList]; exact e)
    have e3 : (ks.map Sum.inr : List Key)[j]? = some k := by
      rw [← keys, List.getElem?_map, e1]
      rfl
    rw [List.getElem?_map] at e3
    match hj : ks[j]?, e3 with
    | some y, e3 =>
      cases Option.some.inj e3
      obtain ⟨t, ev⟩ := Value.isStrOf_shape (x := y) (v := v) e2
      exact ⟨y, t, rfl, ev⟩
  have I1 : Inv X pins σ H { s with heap := h', toks := tk } := I.kept hkeep
  refine wpAny_bind (wpAny_newList ?_ (by rw [la, ← len]; exact line))
  have new : (h'.push (seqObj "list" acc.toList.toArray 0)).get? h'.objs.size = some (seqObj "list" acc.toList.toArray 0) := Heap.get?_push_size _ rfl
  show wpAny _ _ _ _ _ { s with heap := h'.push (seqObj "list" acc.toList.toArray 0), toks := tk }
  refine wpAny_bind (wpAny_holding (wpAny_call_entry PyProof.Rows.slot_list_sort ⟨_, new, rfl⟩ PyProof.Rows.entry_list_sort
    (list_sort_treeKSt strKind_oneLt (s := { s with heap := h'.push (seqObj "list" acc.toList.toArray 0), toks := tk }) new hS.keysOf (fun v1 v2 rest e => keyKind_strs (by rw [← e]; exact hS)) (by rw [la, ← len]; exact line) fun st' hp hs _ => ⟨_, rfl, ?_⟩)
    (PyProof.Rows.args_list_sort _)))
  obtain ⟨ys, g1, g2, g3⟩ := sorted_out_str hS hp hs
  obtain ⟨e', he'⟩ := PyProof.Rows.sortedHeap_at (vs := acc.toList) (out := (arrOf st').map (·.2)) new
  have size : (ys.map V.str).length ≤ sizeLine := by rw [List.length_map, g2.length_eq, ← len]; exact line
  have old : ∀ b o, h'.get? b = some o → (sortedHeap (h'.push (seqObj "list" acc.toList.toArray 0)) h'.objs.size acc.toList ((arrOf st').map (·.2))).get? b = some o := fun b o e => by
    have hb := Heap.lt_size e
    rw [PyProof.Rows.sortedHeap_old (Nat.ne_of_lt hb) (by rw [size_push']; exact Nat.lt_succ_of_lt hb)]
    exact Heap.get?_push_of_some _ e
  exact wpAny_pure ⟨_, rfl, .ref h'.objs.size, upd H h'.objs.size (.lst (ys.map V.str)), I1.laid (t' := tk) old (Nat.le_refl _) ⟨size, ((arrOf st').map (·.2)).toList, e', vals_of_strs g1, by rw [Array.toArray_toList]; exact he'⟩, rfl, q ys _ g2 g3 (I1.hok.fresh (Nat.le_refl _))⟩
end FF
/-! Fivefault, part 23: enumerate over a tuple; what is a list or a tuple, walked. -/
namespace FF
open PySem PySem.Spec PyProof.Rows L2
open Sem (wp)
set_option maxHeartbeats 4000000 in
theorem enumT_new {v : Value} {o : Obj} {p : Heap → Prop} (B : Begins v o p) : Meets (Builtin.«enumerate.__new__» ⟨[.type "enumerate", v], []⟩) (fun _ R s => p s.heap ∧
      R (.ok (.ret (.ref (s.heap.push o).objs.size))) { s with heap := (s.heap.push o).push { cls := .type "enumerate", data := .fields #[.none, .bool false, .ref s.heap.objs.size, rawInt 0, .none, .none] } }) :=
  .of_wp fun prog w A R s h => by
    obtain ⟨hp, g, d, tk, os⟩ := s
    obtain ⟨h1, h⟩ := h
    have hsub := sub_enumerate
    have begin' : ∀ {A' : Around} {E : Value → Shared → Prop} {Q : Value → Shared → Prop}, Q (.ref hp.objs.size) ⟨hp.push o, g, d, tk, os⟩ → wpAny (model prog w) A' (pyIter v) Q E ⟨hp, g, d, tk, os⟩ :=
      fun q => B.iter prog w _ _ ⟨hp, g, d, tk, os⟩ _ h1 q
    wp_walk using begin'
    refine wpAny_stack_any fun st => wpAny_pure ?_
    split
    · rename_i c _ _ _ _ _
      cases (c == Value.type "enumerate") <;> (wp_walk using begin'; exact ⟨_, rfl, h⟩)
    · wp_walk using begin'
      exact ⟨_, rfl, h⟩
section
variable {prog : Program} {w : World} {A : Around} {E : Value → Shared → Prop} {s : Shared}
theorem enumT_call {t : Addr} {items : Array Value} {Q : Value → Shared → Prop} (ht : s.heap.IsTuple t items)
    (h : ∀ h', IsEnum h' (s.heap.objs.size + 1) s.heap.objs.size 0 .none → h'.IsTupleIter s.heap.objs.size t 0 → (∀ b o, s.heap.get? b = some o → h'.get? b = some o) → Q (.ref (s.heap.objs.size + 1)) { s with heap := h' }) :
    wpAny (model prog w) A (call (.type "enumerate") [.ref t]) Q E s := by
  refine callType_new F.called_enumerate (by decide) (F.typeCall_enumerate_1 _) (F.newCall_enumerate_1 _) (fun obj => F.args_object_init_2 obj _) F.entry_enumerate_new (enumT_new (begins_tuple t items)) ⟨ht, ?_⟩
  have two : (s.heap.push { cls := .type "tuple_iterator", data := .fields #[.ref t, .int 0 0] }).objs.size = s.heap.objs.size + 1 := Heap.size_push ..
  show _ ∧ _
  rw [two]
  have he := Heap.get?_push_size (s.heap.push { cls := .type "tuple_iterator", data := .fields #[.ref t, .int 0 0] }) (o := { cls := .type "enumerate", data := .fields #[.none, .bool false, .ref s.heap.objs.size, rawInt 0, .none, .none] }) rfl
  rw [two] at he
  exact ⟨⟨_, he, rfl⟩, h _ he ⟨_, Heap.get?_push_of_some _ (Heap.get?_push_size _ rfl), rfl, rfl⟩ fun b o x => Heap.get?_push_of_some _ (Heap.get?_push_of_some _ x)⟩
end
/-- the tuple at a, each item in a new pair -/
def Itet (K : PySem.W.Frag) (a : Addr) : It :=
  ⟨fun i H => ∃ (xs : List V) (x : V), SqT K H a xs ∧ xs[i]? = some x, fun i H v H' => ∃ T x, v = .ref T ∧ H T = none ∧ H' = upd H T (.tup [.int (i : Nat), x]) ∧ ∀ xs, SqT K H a xs → xs[i]? = some x, fun i H => ∃ xs : List V, SqT K H a xs ∧ xs.length ≤ i⟩
theorem turn_enumT {P : Program} {w : World} {K : PySem.W.Frag} {elts : List Expr} {kk : Nat} {tpos : Pos} (a e it : Addr) :
    Turn P w K (.Tuple elts kk tpos) (Itet K a) [e, it] e (fun i h => (∃ old, IsEnum h e it ((i : Nat) : Int) old) ∧ h.IsTupleIter it a i ∧ e ≠ it) where
  mem := by simp
  obj := fun i h st b hb => by
    obtain ⟨⟨old, he⟩, ⟨o, ho, hc, hd⟩, _⟩ := st
    rcases (show b = e ∨ b = it by simpa using hb) with z | z
    · rw [z]; exact ⟨_, he, fun v q => nomatch q⟩
    · rw [z]; exact ⟨o, ho, fun v q => by rw [hd] at q; cases q⟩
  keep := fun i h h' st k => let ⟨⟨old, he⟩, hi, hne⟩ := st; ⟨⟨old, k e (by simp) _ he⟩, hi.at fun o q => k it (by simp) o q, hne⟩
  item := by
    intro X hP hw hK hc i pins s σ H E I hf st hg
    subst hP hw hK
    obtain ⟨⟨old, he⟩, hit, hne⟩ := st
    obtain ⟨xs, x, hq, hx⟩ := hg
    obtain ⟨its, rv, p, hz⟩ := I.tuple hq
    have hT : s.heap.IsTuple a its.toArray := p
    obtain ⟨u, hu, ru⟩ := rv.get hx
    have hel : e < s.heap.objs.size := Heap.lt_size he
    have hil : it < s.heap.objs.size := by obtain ⟨_, q, _⟩ := hit; exact Heap.lt_size q
    have nei : a ≠ it := fun z => by
      subst z
      obtain ⟨o, ho, hc', _⟩ := hT
      obtain ⟨o', ho', hc2, _⟩ := hit
      rw [ho] at ho'
      cases ho'
      rw [hc'] at hc2
      exact absurd hc2 (by intro z; injection z with z; exact absurd z (by decide))
    have nee : e ≠ a := fun z => by
      subst z
      obtain ⟨o, ho, hc', _⟩ := hT
      have he : s.heap.get? e = some _ := he
      rw [ho] at he
      cases he
      exact absurd hc' (by intro z; injection z with z; exact absurd z (by decide))
    have hlt : i < its.toArray.size := by
      have := (List.getElem?_eq_some_iff.mp hu).1
      simpa using this
    refine wpAny_pyNext_enum_itemD (Draws.tuple (A := X.A.in1) (I.ok.hd hc) it a nei its.toArray) he ⟨hit, hT⟩ hlt hne (by simp [hne, nee]) fun x' h' tk hP' ho hst hT' hsz hk => ?_
    have ex : x' = u := by
      have h1 : its.toArray[i]? = some x' := hP'
      rw [List.getElem?_toArray, hu] at h1
      exact (Option.some.inj h1).symm
    subst ex
    refine ⟨_, rfl, wpAny_letOwnedTupleGo_enum (s := { s with heap := h', toks := tk + 1 }) ho fun h'' he' sb => ?_⟩
    have hT2 : h''.get? s.heap.objs.size = some { cls := .type "tuple", data := .seq #[.int i tk, x'] } := (sb.2 _ (Nat.ne_of_gt hel)).trans hT'
    have new : ObjOk X.prog X.w (upd H s.heap.objs.size (.tup [.int (i : Nat), x])) h'' s.heap.objs.size (.tup [.int (i : Nat), x]) :=
      ⟨by show 2 ≤ sizeLine; decide, [.int i tk, x'], .cons ⟨_, rfl⟩ (.cons ru .nil), ⟨_, hT2, rfl, _, rfl⟩⟩
    have I1 : Inv X pins σ (upd H s.heap.objs.size (.tup [.int (i : Nat), x])) { s with heap := h'', toks := tk + 1 } :=
      I.turnedNew (ch := [e, it]) (fun b ob hb q => (sb.2 b (fun z => hb (by simp [z]))).trans (hk b ob (fun z => hb (by simp [z])) (fun z => hb (by simp [z])) q)) hf (Nat.le_refl _) new
    refine ⟨.ref s.heap.objs.size, _, I1, rfl, ⟨_, x, rfl, I.hok.fresh (Nat.le_refl _), rfl, fun ys hy => by rw [I.tuple_inj hy hq]; exact hx⟩, ⟨⟨x', ?_⟩, hst.1.at fun o q => (sb.2 it (Ne.symm hne)).trans q, hne⟩, fun b hb => ?_⟩
    · rw [show ((i + 1 : Nat) : Int) = (i : Int) + 1 by omega]
      exact he'
    · have hb' : b < s.heap.objs.size := by
        rcases (show b = e ∨ b = it by simpa using hb) with z | z
        · rw [z]; exact hel
        · rw [z]; exact hil
      rw [upd_ne (Nat.ne_of_lt hb')]
      exact (hf b hb).1
  done := by
    intro X hP hw hK hc i pins s σ H E I hf st hg
    subst hP hw hK
    obtain ⟨⟨old, he⟩, hit, hne⟩ := st
    obtain ⟨xs, hq, hx⟩ := hg
    obtain ⟨its, rv, p, hz⟩ := I.tuple hq
    have hT : s.heap.IsTuple a its.toArray := p
    have last : its.toArray[i]? = none := by
      have := rv.length
      rw [List.getElem?_toArray]
      exact List.getElem?_eq_none_iff.mpr (by omega)
    have D : Draws X.prog X.w X.A.in1 it [it, a] i (fun _ _ => True) (fun j h => j = i ∧ h.IsTupleIter it a i ∧ h.IsTuple a its.toArray) :=
      { live := fun _ _ st => let ⟨o, ho, _⟩ := st.2.1; ⟨o, ho⟩
        frame := fun _ _ _ st k => ⟨st.1, st.2.1.at fun o q => k it (by simp) o q, st.2.2.at fun o q => k a (by simp) o q⟩
        item := fun j s Q E hj st _ => absurd st.1 (Nat.ne_of_lt hj)
        done := fun s Q E st hE => wpAny_nextOf_tuple_end (I.ok.hd hc) st.2.1 st.2.2 last hE }
    obtain ⟨f0, f1, f2, f3, f4, f5⟩ := hf it (by simp)
    exact wpAny_pyNext_enum_endD D he ⟨rfl, hit, hT⟩ fun h' eb => ⟨rfl, I.turned (t' := s.toks) (fun b o hb q => eb b o hb q) f0 f1 f3 f4 f5⟩
  self := fun A i s Q E st h => let ⟨⟨_, he⟩, _⟩ := st; wpAny_pyIter_enum he h
/-- enumerate(e), e a list or a tuple -/
def iEnumS (K : PySem.W.Frag) (ta : TA) : TI := fun σ H R => ta σ H fun vs H1 => ∃ a xs, vs = [.ref a] ∧ ((SqL K H1 a xs ∧ R (Ite K a) H1) ∨ (SqT K H1 a xs ∧ R (Itet K a) H1))
theorem pi_enumS (K : PySem.W.Frag) {X : Cx} {e : Expr} {ta : TA} {p pos tpos : Pos} {elts : List Expr} {kk : Nat} (hg : Gl X "enumerate") (hm : X.mg "enumerate" = none) (ha : PA X [e] ta) (hK : X.K = K := by rfl) (hs : starEach [e] X.env = [(false, eval e X.env)] := by rfl) :
    PI X (.Tuple elts kk tpos) (.Call (.Name "enumerate" p) [e] [] pos) (iEnumS K ta) := by
  subst hK
  refine ⟨fun pins s σ H R I h => ?_⟩
  refine Call_ (ld_blt I hg hm boot_enumerate (PyProof.Rows.callWith_type1 (thn (ha.run pos pins s σ H _ I h) fun us s1 ⟨vs, H1, I1, r1, q1⟩ => ?_) hs rfl))
  obtain ⟨a, xs, ex, q⟩ := q1
  subst ex
  cases r1 with
  | cons r rr =>
  cases rr
  cases r
  have foot : ∀ {h' : Heap}, Inv X pins σ H1 { s1 with heap := h' } → ∀ b ∈ [s1.heap.objs.size + 1, s1.heap.objs.size], FpOk X pins H1 b := fun _ b hb => by
    have hle : s1.heap.objs.size ≤ b := by
      rcases (show b = s1.heap.objs.size + 1 ∨ b = s1.heap.objs.size by simpa using hb) with z | z
      · rw [z]; exact Nat.le_succ _
      · rw [z]; exact Nat.le_refl _
    exact I1.fpOk hle (I1.hok.fresh hle)
  rcases q with ⟨hq, q⟩ | ⟨hq, q⟩
  · obtain ⟨its, rv, p', hz⟩ := I1.list hq
    refine call_enumerate_list p'.isList fun h' he hit _ hk => wpAny_pyIter_enum he ?_
    have I2 : Inv X pins σ H1 { s1 with heap := h' } := I1.kept (t' := s1.toks) hk
    exact ⟨s1.heap.objs.size + 1, _, _, _, H1, rfl, I2, turn_enum a (s1.heap.objs.size + 1) s1.heap.objs.size, ⟨⟨.none, he⟩, hit, Nat.succ_ne_self _⟩, foot I2, q⟩
  · obtain ⟨its, rv, p', hz⟩ := I1.tuple hq
    refine enumT_call (show s1.heap.IsTuple a its.toArray from p') fun h' he hit hk => wpAny_pyIter_enum he ?_
    have I2 : Inv X pins σ H1 { s1 with heap := h' } := I1.kept (t' := s1.toks) hk
    exact ⟨s1.heap.objs.size + 1, _, _, _, H1, rfl, I2, turn_enumT a (s1.heap.objs.size + 1) s1.heap.objs.size, ⟨⟨.none, he⟩, hit, Nat.succ_ne_self _⟩, foot I2, q⟩
/-- e, a list or a tuple, walked -/
def iSeq (K : PySem.W.Frag) (tl : TE) : TI := fun σ H R => tl σ H fun v H1 => ∃ a xs, v = .ref a ∧ ((SqL K H1 a xs ∧ R (Itl K a) H1) ∨ (SqT K H1 a xs ∧ R (Itt K a) H1))
theorem pi_seqK (K : PySem.W.Frag) {X : Cx} {tg l : Expr} {tl : TE} (hl : PE X l tl) (hK : X.K = K := by rfl) : PI X tg l (iSeq K tl) := by
  subst hK
  refine ⟨fun pins s σ H R I h => ?_⟩
  refine thn (hl.run pins s σ H _ I h) fun v s1 ⟨x, H1, I1, r1, a, xs, e, q⟩ => ?_
  subst e
  cases r1
  have foot : ∀ b ∈ [s1.heap.objs.size], FpOk X pins H1 b := fun b hb => by
    rw [show b = s1.heap.objs.size by simpa using hb]
    exact I1.fpOk (Nat.le_refl _) (I1.hok.fresh (Nat.le_refl _))
  rcases q with ⟨hq, q⟩ | ⟨hq, q⟩
  · obtain ⟨its, rv, p, hz⟩ := I1.list hq
    exact wpAny_pyIter_list p.isList ⟨s1.heap.objs.size, _, _, _, H1, rfl, I1.kept (t' := s1.toks) fun b o e => Heap.get?_push_of_some _ e, turn_list a _, ⟨_, Heap.get?_push_size _ rfl, rfl, rfl⟩, foot, q⟩
  · obtain ⟨its, rv, p, hz⟩ := I1.tuple hq
    exact wpAny_pyIter_tuple (show s1.heap.IsTuple a its.toArray from p) ⟨s1.heap.objs.size, _, _, _, H1, rfl, I1.kept (t' := s1.toks) fun b o e => Heap.get?_push_of_some _ e, turn_tuple a _, ⟨_, Heap.get?_push_size _ rfl, rfl, rfl⟩, foot, q⟩
end FF
/-! Fivefault, part 24: several except clauses, with and without names. -/
namespace FF
open PySem PySem.Spec PyProof.Rows L2
def wManyB (K : PySem.W.Frag) (Wout : WX) (D : Ends) : List (Value × (Addr → Value → Option Addr → TS)) → WX
  | [] => Wout
  | (c, ts) :: r => fun cls d σ H => ∃ b, PySem.W.exmOne K cls c = some b ∧ (b = true → ∀ a, H a = none → ts a cls d D σ H) ∧ (b = false → wManyB K Wout D r cls d σ H)
/-- the readings of a clause with a name (slot i) -/
abbrev nmd (i : Nat) (ts : Addr → Value → Option Addr → TS) : Addr → Value → Option Addr → TS := fun a cls d D σ H => ts a cls d (asEnds i D) (σ.set i (some (.ref a))) H
inductive HdsB (X : Cx) (n : Str) (i : Nat) : List ExceptHandler → List (Value × (Addr → Value → Option Addr → TS)) → Prop
  | nil : HdsB X n i [] []
  | cons {x : Str} {c : Value} {ts : Addr → Value → Option Addr → TS} {b₀ : Stmt} {suite : List Stmt} {np pos' : Pos} {hds : List ExceptHandler} {l : List (Value × (Addr → Value → Option Addr → TS))} (hc : Names X x c)
      (hsu : ∀ (a : Addr) (oe : Obj) (cls : Value) (d : Option Addr) (pn : List (Addr × Obj)), Zc cls d oe → (∃ vs, oe.data = .fields vs) → PSs (X.suite a ((a, oe) :: pn)) (b₀ :: suite) (ts a cls d)) (r : HdsB X n i hds l) :
      HdsB X n i (.ExceptHandler (some (.Name x np)) (some n) (b₀ :: suite) pos' :: hds) ((c, nmd i ts) :: l)
  | cons0 {x : Str} {c : Value} {ts : Addr → Value → Option Addr → TS} {b₀ : Stmt} {suite : List Stmt} {np pos' : Pos} {hds : List ExceptHandler} {l : List (Value × (Addr → Value → Option Addr → TS))} (hc : Names X x c)
      (hsu : ∀ (a : Addr) (oe : Obj) (cls : Value) (d : Option Addr) (pn : List (Addr × Obj)), Zc cls d oe → (∃ vs, oe.data = .fields vs) → PSs (X.suite a ((a, oe) :: pn)) (b₀ :: suite) (ts a cls d)) (r : HdsB X n i hds l) :
      HdsB X n i (.ExceptHandler (some (.Name x np)) none (b₀ :: suite) pos' :: hds) ((c, ts) :: l)
section
variable {X : Cx} {n : Str} {i : Nat} {body : List Stmt} {h₀ : ExceptHandler} {hds : List ExceptHandler} {l : List (Value × (Addr → Value → Option Addr → TS))} {pos : Pos} {tb : WX → TS} {Wout : WX}
theorem ps_try_manyB (hs : X.stack = X.env :: X.outer) (hf : X.env.frame = some X.env.locals) (hN : X.N.Nodup) (hi : X.N[i]? = some n) (hln : X.env.kindOf n = some .local) (tk : Takes X Wout)
    (hb : ∀ (W : WX) (pn : List (Addr × Obj)) (xe : Value → Shared → Prop), Takes (X.tr pn xe) W → PassesOwn (model X.prog X.w) X.A X.env xe → PSs (X.tr pn xe) body (tb W))
    (hh : HdsB X n i (h₀ :: hds) l) : PS X (.Try body (h₀ :: hds) [] [] pos) (fun D σ H => tb (wManyB X.K Wout D l) D σ H) := by
  refine ⟨fun pins s σ H D I h => ?_⟩
  have ok := I.ok
  have hfr : X.A.frames = some (X.env :: X.outer) := by rw [ok.frames, hs]
  have hloc : Loc X.env.scope n := .inl hln
  refine wpAny_Try_except ?_
  refine wpAny_mono ((hb (wManyB X.K Wout D l) (X.pn ++ pins) (fun e s₁ => wpAny (model X.prog X.w) X.A (noteFrame e X.env) (fun _ s₂ => wpAny (model X.prog X.w) X.A (setFlight e none) (fun _ s₃ =>
    wpAny (model X.prog X.w) X.A (handleBy e X.env (h₀ :: hds)) (SP X pins D) X.xe s₃) X.xe s₂) X.xe s₁) (fun u s' xx => ?_) PassesOwn.looking).run [] s σ H D (I.toTry _) h) (fun f s1 hsp => ?_) (fun e s1 he => he)
  · obtain ⟨a, B, sI, pins', σ', H', cls, d, rfl, J', nb, up, sky, na, os, ag, w⟩ := xx
    have J : Inv X pins σ' H' sI := J'.ofTry ok
    have sky' : Sky B (X.env :: X.outer) a (Zc cls d) X.env.locals s'.heap := by rw [← hs]; exact sky
    show wpAny (model X.prog X.w) X.A (noteFrame (.ref a) X.env) _ _ _
    refine Sky.land Zc.steady hfr hf sky' fun h3 fl3 up3 => ?_
    have J3 : Inv X pins σ' H' { s' with heap := h3 } := J.landed nb fl3.1 (up.trans up3) os ag
    obtain ⟨oe3, vs3, he3, hz3, hd3⟩ := fl3.there
    have notFr : ∀ {h : Heap} {o : Obj} {vs : Array Value}, h.FunFrames B (X.env :: X.outer) → h.get? a = some o → o.data = .fields vs → a ∉ frs (X.env :: X.outer) := fun {h o vs} ff e dd hm => by
      obtain ⟨_, o', e', hnf⟩ := ff.mem hm
      rw [e] at e'; cases e'
      exact hnf _ dd
    have nfr := notFr fl3.2.2.1 he3 hd3
    have nL : a ≠ X.env.locals := fun z => nfr (List.mem_filterMap.mpr ⟨X.env, List.mem_cons_self, by rw [hf, z]⟩)
    have nF : a ∉ X.fs := fun hm => by
      obtain ⟨e, he, q⟩ := List.mem_filterMap.mp hm
      exact nfr (List.mem_filterMap.mpr ⟨e, List.mem_cons_of_mem _ he, q⟩)
    have S3 := J3.suite he3 hd3 na nL nF
    have go : ∀ {hds' : List ExceptHandler} {l' : List (Value × (Addr → Value → Option Addr → TS))}, HdsB X n i hds' l' → wManyB X.K Wout D l' cls d σ' H' →
        wpAny (model X.prog X.w) X.A (handleBy (.ref a) X.env hds') (SP X pins D) X.xe { s' with heap := h3 } := by
      intro hds' l' hk
      induction hk with
      | nil =>
        intro w
        refine wpAny_handleBy_nil ?_
        obtain ⟨k1, k2, k3, oe, vs, T, oT, ts', he, hz, hd, h1, hr⟩ := id fl3
        unfold PySem.passOn
        refine wpAny_bind (wpAny_field he hd h1 ?_)
        rw [if_neg (show ¬ ((Value.ref T == Value.none) = true) from by simp)]
        have fin : wpAny (model X.prog X.w) X.A (setFlight (.ref a) X.env.frame) (fun _ s4 => wpAny (model X.prog X.w) X.A (throw (.ref a) : Sem Flow) (SP X pins D) X.xe s4) X.xe { s' with heap := h3 } := by
          rw [hf]
          refine HandSPX.setFlight_upZ fl3 fun h4 hh4 up4 => wpAny_throw (tk _ _ ?_)
          exact ⟨a, B, sI, pins, σ', H', cls, d, rfl, J, nb, (up.trans up3).trans up4, .inr (.inr (by rw [hs]; exact hh4)), na, os, ag, w⟩
        first
          | exact wpAny_bind (wpAny_pure (wpAny_bind fin))
          | exact wpAny_bind fin
      | @cons x c ts b₀ suite np pos' hds2 l2 hc hsu r ih =>
        intro w
        obtain ⟨b, hb1, hyes, hno⟩ := w
        refine wpAny_handleBy_cons (codeAny_handlers_test ?_) (by intro q; cases q)
        have LT : PySem.W.Looks (model X.prog X.w) h3 (typeOf (.ref a)) cls := fun A Q E s k q => wpAny_typeOf_ref (k _ _ he3) (by rw [hz3.1]; exact q)
        have LM := PySem.W.exm_one (M := model X.prog X.w) (J3.kIn) LT hb1
        have test : ∀ {Q : Value → Shared → Prop} {E : Value → Shared → Prop}, Q c { s' with heap := h3 } → wpAny (model X.prog X.w) (X.A.mark (some (.ref a))) (eval (.Name x np) X.env) Q E { s' with heap := h3 } := fun {Q E} q => by
          obtain ⟨hg, hdbg, hm | ⟨hm, hv, hnn⟩⟩ := hc
          · exact ld_glob (X := X.suite a ((a, oe3) :: (X.pn ++ pins))) S3 hg hm q hdbg
          · exact ld_blt (X := X.suite a ((a, oe3) :: (X.pn ++ pins))) S3 hg hm hv q hnn hdbg
        refine test (LM.here ?_)
        cases b with
        | true =>
          refine codeAny_handlers_suite_as ?_
          refine HandSPX.lands_againZ fl3 fun h4 fl4 up4 => ?_
          have J4 : Inv X pins σ' H' { s' with heap := h4 } := J.landed nb fl4.1 ((up.trans up3).trans up4) os ag
          obtain ⟨oe4, vs4, he4, hz4, hd4⟩ := fl4.there
          have S4 := J4.suite he4 hd4 na nL nF
          refine store_ok (X := X.suite a ((a, oe4) :: (X.pn ++ pins))) (v := .ref a) S4 hN hi hloc rfl (fun s5 S5 => ?_) (.inr hln)
          refine wpAny_mono ((hsu a oe4 cls d (X.pn ++ pins) hz4 ⟨_, hd4⟩).run [] s5 _ H' _ S5 (hyes rfl a na)) (fun f s6 hsp => ?_) (fun _ _ z => False.elim z)
          have end_ : ∀ {σ6 : L2.St} {H6 : Hp} {Q : Shared → Prop}, Inv (X.suite a ((a, oe4) :: (X.pn ++ pins))) [] σ6 H6 s6 → (∀ s7, Inv X pins (σ6.set i none) H6 s7 → Q s7) →
              wpAny (model X.prog X.w) X.A (do bindName X.env n .none; unbindBehindTheSuite X.env n pos') (fun _ s7 => Q s7) X.xe s6 := fun {σ6 H6 Q} S6 hq => gone_ok (S6.unsuite ok) hN hi hln hq
          cases f with
          | next =>
            obtain ⟨σ6, H6, S6, q6⟩ := hsp
            exact end_ S6 fun s7 J7 => ⟨_, _, J7, q6⟩
          | brk =>
            obtain ⟨σ6, H6, S6, q6⟩ := hsp
            exact end_ S6 fun s7 J7 => ⟨_, _, J7, q6⟩
          | cont =>
            obtain ⟨σ6, H6, S6, q6⟩ := hsp
            exact end_ S6 fun s7 J7 => ⟨_, _, J7, q6⟩
          | ret u =>
            obtain ⟨v6, σ6, H6, S6, r6, q6⟩ := hsp
            exact end_ S6 fun s7 J7 => ⟨_, _, _, J7, r6, q6⟩
        | false =>
          show wpAny _ X.A (handleBy (.ref a) X.env hds2) _ _ _
          exact ih (hno rfl)
      | @cons0 x c ts b₀ suite np pos' hds2 l2 hc hsu r ih =>
        intro w
        obtain ⟨b, hb1, hyes, hno⟩ := w
        refine wpAny_handleBy_cons (codeAny_handlers_test ?_) (by intro q; cases q)
        have LT : PySem.W.Looks (model X.prog X.w) h3 (typeOf (.ref a)) cls := fun A Q E s k q => wpAny_typeOf_ref (k _ _ he3) (by rw [hz3.1]; exact q)
        have LM := PySem.W.exm_one (M := model X.prog X.w) (J3.kIn) LT hb1
        have test : ∀ {Q : Value → Shared → Prop} {E : Value → Shared → Prop}, Q c { s' with heap := h3 } → wpAny (model X.prog X.w) (X.A.mark (some (.ref a))) (eval (.Name x np) X.env) Q E { s' with heap := h3 } := fun {Q E} q => by
          obtain ⟨hg, hdbg, hm | ⟨hm, hv, hnn⟩⟩ := hc
          · exact ld_glob (X := X.suite a ((a, oe3) :: (X.pn ++ pins))) S3 hg hm q hdbg
          · exact ld_blt (X := X.suite a ((a, oe3) :: (X.pn ++ pins))) S3 hg hm hv q hnn hdbg
        refine test (LM.here ?_)
        cases b with
        | true =>
          refine codeAny_handlers_suite ?_
          refine HandSPX.lands_againZ fl3 fun h4 fl4 up4 => ?_
          have J4 : Inv X pins σ' H' { s' with heap := h4 } := J.landed nb fl4.1 ((up.trans up3).trans up4) os ag
          obtain ⟨oe4, vs4, he4, hz4, hd4⟩ := fl4.there
          have S4 := J4.suite he4 hd4 na nL nF
          refine wpAny_mono ((hsu a oe4 cls d (X.pn ++ pins) hz4 ⟨_, hd4⟩).run [] _ _ H' _ S4 (hyes rfl a na)) (fun f s6 hsp => ?_) (fun _ _ z => False.elim z)
          cases f with
          | next => let ⟨σ6, H6, S6, q6⟩ := hsp; exact ⟨_, _, S6.unsuite ok, q6⟩
          | brk => let ⟨σ6, H6, S6, q6⟩ := hsp; exact ⟨_, _, S6.unsuite ok, q6⟩
          | cont => let ⟨σ6, H6, S6, q6⟩ := hsp; exact ⟨_, _, S6.unsuite ok, q6⟩
          | ret u => let ⟨v6, σ6, H6, S6, r6, q6⟩ := hsp; exact ⟨_, _, _, S6.unsuite ok, r6, q6⟩
        | false =>
          show wpAny _ X.A (handleBy (.ref a) X.env hds2) _ _ _
          exact ih (hno rfl)
    exact go hh w
  · cases f with
    | next =>
      obtain ⟨σ', H', J', q⟩ := hsp
      exact wpAny_execs_nil ⟨σ', H', J'.ofTry ok, q⟩
    | brk =>
      obtain ⟨σ', H', J', q⟩ := hsp
      exact ⟨σ', H', J'.ofTry ok, q⟩
    | cont =>
      obtain ⟨σ', H', J', q⟩ := hsp
      exact ⟨σ', H', J'.ofTry ok, q⟩
    | ret u =>
      obtain ⟨v, σ', H', J', r, q⟩ := hsp
      exact ⟨v, σ', H', J'.ofTry ok, r, q⟩
end
end FF
/-! Fivefault, part 25: walks over what is a list or a tuple; over the signs of a text. -/
namespace FF
open PySem PySem.Spec PyProof.Rows L2
section
variable {K : PySem.W.Frag} {a : Addr} {xs : List V} {H : Hp}
theorem walkL_same (h : SqL K H a xs) : Walk (Itl K a) xs.length (Same H) (YAt xs) :=
  ⟨fun i H' hi e => ⟨xs, xs[i], up_l e h, by simp [hi]⟩, fun H' e => ⟨xs, up_l e h, Nat.le_refl _⟩, fun i H' x H2 _ e y => ⟨y.1, y.2 xs (up_l e h)⟩⟩
theorem walkT_same (h : SqT K H a xs) : Walk (Itt K a) xs.length (Same H) (YAt xs) :=
  ⟨fun i H' hi e => ⟨xs, xs[i], up_t e h, by simp [hi]⟩, fun H' e => ⟨xs, up_t e h, Nat.le_refl _⟩, fun i H' x H2 _ e y => ⟨y.1, y.2 xs (up_t e h)⟩⟩
abbrev YEn (xs : List V) : Nat → Hp → V → Hp → Prop := YPair (fun i => some (.int (i : Nat))) fun i => xs[i]?
theorem walkE_same (h : SqL K H a xs) : Walk (Ite K a) xs.length (Same H) (YEn xs) :=
  ⟨fun i H' hi e => ⟨xs, xs[i], up_l e h, by simp [hi]⟩, fun H' e => ⟨xs, up_l e h, Nat.le_refl _⟩, fun i H' v H2 _ e ⟨t, x, e1, n, e2, y⟩ => ⟨t, _, x, e1, n, e2, rfl, y xs (up_l e h)⟩⟩
theorem walkET_same (h : SqT K H a xs) : Walk (Itet K a) xs.length (Same H) (YEn xs) :=
  ⟨fun i H' hi e => ⟨xs, xs[i], up_t e h, by simp [hi]⟩, fun H' e => ⟨xs, up_t e h, Nat.le_refl _⟩, fun i H' v H2 _ e ⟨t, x, e1, n, e2, y⟩ => ⟨t, _, x, e1, n, e2, rfl, y xs (up_t e h)⟩⟩
theorem seq_of {R : It → Hp → Prop} (h : SqL K H a xs ∨ SqT K H a xs) (hw : ∀ J, Walk J xs.length (Same H) (YAt xs) → R J H) : ∃ a' xs', V.ref a = .ref a' ∧ ((SqL K H a' xs' ∧ R (Itl K a') H) ∨ (SqT K H a' xs' ∧ R (Itt K a') H)) :=
  ⟨a, xs, rfl, h.imp (fun h => ⟨h, hw _ (walkL_same h)⟩) fun h => ⟨h, hw _ (walkT_same h)⟩⟩
theorem enum_of {R : It → Hp → Prop} (h : SqL K H a xs ∨ SqT K H a xs) (hw : ∀ J, Walk J xs.length (Same H) (YEn xs) → R J H) : ∃ a' xs', [V.ref a] = [.ref a'] ∧ ((SqL K H a' xs' ∧ R (Ite K a') H) ∨ (SqT K H a' xs' ∧ R (Itet K a') H)) :=
  ⟨a, xs, rfl, h.imp (fun h => ⟨h, hw _ (walkE_same h)⟩) fun h => ⟨h, hw _ (walkET_same h)⟩⟩
theorem up_s {H' : Hp} (e : Same H H') (h : SqL K H a xs ∨ SqT K H a xs) : SqL K H' a xs ∨ SqT K H' a xs := h.imp (up_l e) (up_t e)
theorem len_s {n : Nat} (h : SqL K H a xs ∨ SqT K H a xs) (e : n = xs.length) : LenV K (.ref a) H n := h.imp (fun h => ⟨xs, h, e⟩) fun h => ⟨xs, h, e⟩
end
/-- [e for x in z]: the i-th item told by the i-th sign -/
theorem lc_strI {te : TE} {vs : List Nat} {j D : Nat} {σ : L2.St} {H1 : Hp} {Qd : Hp → Prop} {z : Str} (f : Nat → V) (hD : H1 D = none) (hz : z.length ≤ sizeLine) (hw : ∀ v, wipe ((wipe σ vs).set j (some v)) vs = wipe σ vs)
    (step : ∀ c H2, c ∈ z.cps.toList → ∀ Q' : VK, (∀ H3, Same H2 H3 → Q' (f c) H3) → te ((wipe σ vs).set j (some (.str ⟨#[c]⟩))) H2 Q')
    (done : ∀ H2, Same H1 H2 → H2 D = some (.lst (z.cps.toList.map f)) → Qd H2) :
    ∃ W : Nat → Nat → Hp → Prop, (∃ m, W 0 m (upd H1 D (.lst []))) ∧ ∀ i m H, W i m H →
      ((Its z).stop i H ∧ Qd H) ∨ ((Its z).go i H ∧ ∃ Nx : Hp → Prop, (∀ H', Nx H' → ∃ m', m' < m ∧ W (i + 1) m' H') ∧ ∀ v H', (Its z).yld i H v H' → gName j v (wipe σ vs) H' fun σ2 H2 => wipe σ2 vs = wipe σ vs ∧ tYes σ2 H2 fun b H3 =>
        if b = true then te σ2 H3 fun y H4 => ∃ acc, H4 D = some (.lst acc) ∧ acc.length < sizeLine ∧ Nx (upd H4 D (.lst (acc ++ [y]))) else Nx H3) := by
  refine ⟨fun i m H => m = z.cps.size - i ∧ i ≤ z.cps.size ∧ Same H1 H ∧ H D = some (.lst ((z.cps.toList.take i).map f)), ⟨_, rfl, Nat.zero_le _, same_new hD _, upd_same⟩, ?_⟩
  rintro i m H ⟨rfl, hi, e, h1⟩
  by_cases hlt : i < z.cps.size
  · refine .inr ⟨hlt, fun H' => i + 1 ≤ z.cps.size ∧ Same H1 H' ∧ H' D = some (.lst ((z.cps.toList.take (i + 1)).map f)), fun H' p' => ⟨z.cps.size - (i + 1), by omega, rfl, p'⟩, fun v H' y => ?_⟩
    obtain ⟨rfl, c, hc, rfl⟩ := y
    refine ⟨hw _, ?_⟩
    show te _ _ _
    have hc2 : z.cps.toList[i]? = some c := by rw [Array.getElem?_toList]; exact hc
    refine step c _ (List.mem_of_getElem? hc2) _ fun H3 e3 => ⟨_, e3 _ _ h1, ?_, hlt, same_at hD (e.trans e3), ?_⟩
    · rw [List.length_map, List.length_take, Array.length_toList]
      exact Nat.lt_of_lt_of_le (by omega) (show z.cps.size ≤ sizeLine from hz)
    · have : z.cps.toList.take (i + 1) = z.cps.toList.take i ++ [c] := by
        rw [List.take_add_one, hc2] <;> rfl
      rw [this, List.map_append, upd_same] <;> rfl
  · have : i = z.cps.size := by omega
    subst this
    rw [show z.cps.size = z.cps.toList.length from rfl, List.take_length] at h1
    exact .inl ⟨Nat.le_refl _, done H e h1⟩
/-- an if by what its test is -/
theorem if_bb {p b : Bool} {A B : Prop} (e : p = b) (h1 : b = true → A) (h2 : b = false → B) : if p = true then A else B := by
  subst e
  exact if_b h1 h2
theorem if_t {A B : Prop} (h : A) : if true = true then A else B := h
end FF
/-! Fivefault, part 26: fors and comprehensions over what is a list or a tuple. -/
namespace FF
open PySem PySem.Spec PyProof.Rows L2
section
variable {K : PySem.W.Frag} {a : Addr} {xs : List V} {g : TG} {tb : TS} {D : Ends} {σ : L2.St} {H : Hp}
abbrev ForR (J : It) (g : TG) (tb : TS) (D : Ends) (σ : L2.St) (H : Hp) : Prop := ∃ W : Nat → Nat → L2.St → Hp → Prop, (∃ m, W 0 m σ H) ∧ ∀ i m σ H, W i m σ H →
      (J.stop i H ∧ D.nx σ H) ∨ (J.go i H ∧ ∃ N : L2.St → Hp → Prop, (∀ σ' H', N σ' H' → ∃ m', m' < m ∧ W (i + 1) m' σ' H') ∧ ∀ x H', J.yld i H x H' → g x σ H' fun σ2 H2 => tb { D with nx := N, ct := N, bk := D.nx } σ2 H2)
theorem for_enumS {H0 : Hp} (h : SqL K H0 a xs ∨ SqT K H0 a xs) (e0 : Same H0 H) (Pv : Nat → L2.St → Hp → Prop) (h0 : Pv 0 σ H) (hG : ∀ i σ H', i ≤ xs.length → Pv i σ H' → Same H0 H')
    (hs : ∀ i x σ H1 t, xs[i]? = some x → Pv i σ H1 → H1 t = none → g (.ref t) σ (upd H1 t (.tup [.int (i : Nat), x])) fun σ2 H2 => tb { D with nx := Pv (i + 1), ct := Pv (i + 1), bk := D.nx } σ2 H2) (hd : ∀ σ H, Pv xs.length σ H → D.nx σ H) :
    ∃ a' xs', [V.ref a] = [.ref a'] ∧ ((SqL K H a' xs' ∧ ForR (Ite K a') g tb D σ H) ∨ (SqT K H a' xs' ∧ ForR (Itet K a') g tb D σ H)) := by
  have key : ∀ J, Walk J xs.length (Same H0) (YEn xs) → ForR J g tb D σ H := fun J wk => for_it wk Pv h0 hG (fun i x σ H1 H2 hi hp ⟨t, x1, y1, e1, n, e2, e3, e4⟩ => by
    cases e3
    subst e1 e2
    exact hs i y1 σ H1 t e4 hp n) hd
  exact ⟨a, xs, rfl, h.imp (fun h => ⟨up_l e0 h, key _ (walkE_same h)⟩) fun h => ⟨up_t e0 h, key _ (walkET_same h)⟩⟩
theorem for_seqS {H0 : Hp} (h : SqL K H0 a xs ∨ SqT K H0 a xs) (e0 : Same H0 H) (Pv : Nat → L2.St → Hp → Prop) (h0 : Pv 0 σ H) (hG : ∀ i σ H', i ≤ xs.length → Pv i σ H' → Same H0 H')
    (hs : ∀ i x σ H1, xs[i]? = some x → Pv i σ H1 → g x σ H1 fun σ2 H2 => tb { D with nx := Pv (i + 1), ct := Pv (i + 1), bk := D.nx } σ2 H2) (hd : ∀ σ H, Pv xs.length σ H → D.nx σ H) :
    ∃ a' xs', V.ref a = .ref a' ∧ ((SqL K H a' xs' ∧ ForR (Itl K a') g tb D σ H) ∨ (SqT K H a' xs' ∧ ForR (Itt K a') g tb D σ H)) := by
  have key : ∀ J, Walk J xs.length (Same H0) (YAt xs) → ForR J g tb D σ H := fun J wk => for_it wk Pv h0 hG (fun i x σ H1 H2 hi hp ⟨e1, e2⟩ => by
    subst e1
    exact hs i x σ _ e2 hp) hd
  exact ⟨a, xs, rfl, h.imp (fun h => ⟨up_l e0 h, key _ (walkL_same h)⟩) fun h => ⟨up_t e0 h, key _ (walkT_same h)⟩⟩
end
section
variable {K : PySem.W.Frag} {a : Addr} {xs : List V} {g : TG} {te : TE} {vs : List Nat} {σ : L2.St} {H1 : Hp} {Q : Addr → Hp → Prop}
abbrev LcR (J : It) (g : TG) (tt : TT) (te : TE) (vs : List Nat) (σ : L2.St) (H1 : Hp) (D : Addr) (Qd : Hp → Prop) : Prop := ∃ W : Nat → Nat → Hp → Prop, (∃ m, W 0 m (upd H1 D (.lst []))) ∧ ∀ i m H, W i m H →
      (J.stop i H ∧ Qd H) ∨ (J.go i H ∧ ∃ Nx : Hp → Prop, (∀ H', Nx H' → ∃ m', m' < m ∧ W (i + 1) m' H') ∧ ∀ x H', J.yld i H x H' → g x (wipe σ vs) H' fun σ2 H2 => wipe σ2 vs = wipe σ vs ∧ tt σ2 H2 fun b H3 =>
        if b = true then te σ2 H3 fun y H4 => ∃ acc, H4 D = some (.lst acc) ∧ acc.length < sizeLine ∧ Nx (upd H4 D (.lst (acc ++ [y]))) else Nx H3)
/-- [e for target in xs], any target, xs a list or a tuple -/
theorem lc_mapS (R : Nat → V → Hp → Prop) (mono : ∀ i y H H', SameT H H' → R i y H → R i y H') (h : SqL K H1 a xs ∨ SqT K H1 a xs) (hz : xs.length ≤ sizeLine)
    (step : ∀ i x H2, xs[i]? = some x → Same H1 H2 → ∀ Q' : VK, (∀ y H3, Same H2 H3 → R i y H3 → Q' y H3) → g x (wipe σ vs) H2 fun σ2 H3 => wipe σ2 vs = wipe σ vs ∧ te σ2 H3 Q')
    (gm : ∀ x H2 (A B : L2.St → Hp → Prop), (∀ σ H, A σ H → B σ H) → g x (wipe σ vs) H2 A → g x (wipe σ vs) H2 B)
    (done : ∀ H2 D ys, Same H1 H2 → H1 D = none → H2 D = some (.lst ys) → ys.length = xs.length → (∀ (i : Nat) (y : V), ys[i]? = some y → R i y H2) → Q D H2) :
    ∃ a' xs', V.ref a = .ref a' ∧ ((SqL K H1 a' xs' ∧ ∀ D, H1 D = none → LcR (Itl K a') g tYes te vs σ H1 D (Q D)) ∨ (SqT K H1 a' xs' ∧ ∀ D, H1 D = none → LcR (Itt K a') g tYes te vs σ H1 D (Q D))) := by
  have key : ∀ J, Walk J xs.length (Same H1) (YAt xs) → ∀ D, H1 D = none → LcR J g tYes te vs σ H1 D (Q D) := fun J wk D hD =>
    lc_it wk (fun i H => Same H1 H ∧ ∃ ys, H D = some (.lst ys) ∧ ys.length = i ∧ ∀ m y, ys[m]? = some y → R m y H) ⟨same_new hD _, [], upd_same, rfl, fun m y q => by simp at q⟩ (fun i H _ p => p.1)
      (fun i x H H' hi ⟨e, ys, h2, h3, h4⟩ ⟨e1, e2⟩ => by
        subst e1
        refine gm _ _ _ _ (fun σ2 H3 q => ⟨q.1, by unfold tYes; dsimp only; rw [if_pos rfl]; exact q.2⟩) (step i x _ e2 e _ fun y H3 e3 r => ?_)
        have hd := e3 _ _ h2
        have eT : SameT H3 (upd H3 D (.lst (ys ++ [y]))) := (SameT.refl H3).updL hd
        refine ⟨ys, hd, by omega, fun b o q => ?_, ys ++ [y], upd_same, by simp [h3], fun m y' q => ?_⟩
        · rw [upd_ne (ne_of_none q hD)]
          exact e3 _ _ (e _ _ q)
        · by_cases hm : m < ys.length
          · rw [List.getElem?_append_left hm] at q
            exact mono _ _ _ _ ((Same.T e3).trans eT) (h4 m y' q)
          · have : m = ys.length := by
              have := (List.getElem?_eq_some_iff.mp q).1
              simp at this
              omega
            subst this
            rw [List.getElem?_append_right (Nat.le_refl _), Nat.sub_self] at q
            cases q
            rw [h3]
            exact mono _ _ _ _ eT r)
      fun H ⟨e, ys, h1, h2, h3⟩ => done H D ys e hD h1 h2 h3
  exact ⟨a, xs, rfl, h.imp (fun h => ⟨h, key _ (walkL_same h)⟩) fun h => ⟨h, key _ (walkT_same h)⟩⟩
end
end FF
/-! Fivefault, part 27: [x for x in xs if test], the test told by x. -/
namespace FF
open PySem PySem.Spec PyProof.Rows L2
theorem lc_filtV {K : PySem.W.Frag} {a D : Addr} {xs : List V} {tt : TT} {te : TE} {vs : List Nat} {j : Nat} {σ : L2.St} {H1 : Hp} {Qd : Hp → Prop} (f : V → Bool) (hD : H1 D = none) (hs : SqL K H1 a xs) (hz : xs.length ≤ sizeLine)
    (hw : ∀ x, wipe ((wipe σ vs).set j (some x)) vs = wipe σ vs)
    (test : ∀ (x : V) (H2 : Hp), x ∈ xs → ∀ Qb : Bool → Hp → Prop, (∀ H3, Same H2 H3 → Qb (f x) H3) → tt ((wipe σ vs).set j (some x)) H2 Qb)
    (elt : ∀ x H2 (Q' : VK), Q' x H2 → te ((wipe σ vs).set j (some x)) H2 Q')
    (done : ∀ H2, Same H1 H2 → H2 D = some (.lst (xs.filter f)) → Qd H2) :
    ∃ W : Nat → Nat → Hp → Prop, (∃ m, W 0 m (upd H1 D (.lst []))) ∧ ∀ i m H, W i m H →
      ((Itl K a).stop i H ∧ Qd H) ∨ ((Itl K a).go i H ∧ ∃ Nx : Hp → Prop, (∀ H', Nx H' → ∃ m', m' < m ∧ W (i + 1) m' H') ∧ ∀ x H', (Itl K a).yld i H x H' → gName j x (wipe σ vs) H' fun σ2 H2 => wipe σ2 vs = wipe σ vs ∧ tt σ2 H2 fun b H3 =>
        if b = true then te σ2 H3 fun y H4 => ∃ acc, H4 D = some (.lst acc) ∧ acc.length < sizeLine ∧ Nx (upd H4 D (.lst (acc ++ [y]))) else Nx H3) :=
  lc_list (fun i H => Same H1 H ∧ H D = some (.lst ((xs.take i).filter f)))
    ⟨same_new hD _, upd_same⟩ (fun i H _ p => up_l p.1 hs)
    (fun i x H hx ⟨e, h1⟩ => ⟨hw x, test x H (List.mem_of_getElem? hx) _ fun H3 e3 => by
      have take1 : xs.take (i + 1) = xs.take i ++ [x] := by
        rw [List.take_add_one, hx] <;> rfl
      cases hb : f x with
      | false =>
        refine iteF ⟨e.trans e3, ?_⟩
        rw [take1, List.filter_append, List.filter_cons_of_neg (by rw [hb]; decide), List.filter_nil, List.append_nil]
        exact e3 _ _ h1
      | true =>
        refine iteT (elt x H3 _ ⟨_, e3 _ _ h1, ?_, same_at hD (e.trans e3), ?_⟩)
        · refine Nat.lt_of_le_of_lt (List.length_filter_le _ _) ?_
          rw [List.length_take]
          have := (List.getElem?_eq_some_iff.mp hx).1
          omega
        · rw [take1, List.filter_append, List.filter_cons_of_pos hb, List.filter_nil, upd_same]⟩)
    fun H ⟨e, h1⟩ => done H e (by rw [List.take_length] at h1; exact h1)
end FF
/-! Fivefault, part 28: [x for l in ls for x in l] over a tuple of lists or tuples; defs with *v called where no exception comes. -/
namespace FF
open PySem PySem.Spec PyProof.Rows L2 StX
section
variable {X : Cx} {x : Str} {k j : Nat} {sp : Sp} {e : Expr} {es : List Expr} {p pos : Pos} {t : TA}
theorem pe_defsN (D : DefS X.prog X.w X.K X.mg X.base x k sp) (hr : Room j X.A) (hkj : k ≤ j) (ha : PA X (e :: es) t)
    (hg : Gl X x := by rfl) (hd : (x == ("__debug__" : Str)) = false := by decide) (he : starEach (e :: es) X.env = (false, eval e X.env) :: starEach es X.env := by rfl) (hpl : (backTo pos (starEach es X.env)).any (·.1) = false := by rfl) :
    PE X (.Call (.Name x p) (e :: es) [] pos) (tCall sp [] (fun _ _ _ => False) t) := by
  obtain ⟨f, F, hm, hk⟩ := D.ex
  refine ⟨fun pins s σ H Q I h => ?_⟩
  refine wpAny_Call_Name_kw (ld_glob I hg hm ?_ hd)
  refine PySem.W.callWith_K (h₀ := X.base) I.ok.mod.kin hk (thn (ha.run pos pins s σ H _ I h) fun us s1 ⟨vs, H1, I1, r, q⟩ => ⟨I1.kIn, ?_⟩) he hpl
  have q2 : sp (vs ++ []) H1 Q (fun _ _ _ => False) := q
  rw [List.append_nil] at q2
  exact wpAny_call (run_fnR F (hr.mono hkj) passN I1 r q2)
theorem pe_defsN0 (D : DefS X.prog X.w X.K X.mg X.base x k sp) (hr : Room j X.A) (hkj : k ≤ j)
    (hg : Gl X x := by rfl) (hd : (x == ("__debug__" : Str)) = false := by decide) :
    PE X (.Call (.Name x p) [] [] pos) (fun _ H Q => sp [] H Q (fun _ _ _ => False)) := by
  obtain ⟨f, F, hm, hk⟩ := D.ex
  refine ⟨fun pins s σ H Q I h => ?_⟩
  refine wpAny_Call_Name_kw (ld_glob I hg hm ?_ hd)
  refine PySem.W.callWith_K0 I.kIn hk ?_
  exact wpAny_call (run_fnR F (hr.mono hkj) passN I .nil h)
end
theorem take_flat {α : Type} {l : List (List α)} {i : Nat} {x : List α} (h : l[i]? = some x) : (l.take (i + 1)).flatten = (l.take i).flatten ++ x := by
  rw [List.take_add_one, h]
  simp
theorem flat_at {α : Type} {l : List (List α)} {i : Nat} {x : List α} (h : l[i]? = some x) : (l.take i).flatten.length + x.length ≤ l.flatten.length := by
  have e : l = l.take i ++ (x :: l.drop (i + 1)) := by
    obtain ⟨hi, rfl⟩ := List.getElem?_eq_some_iff.mp h
    rw [← List.drop_eq_getElem_cons hi, List.take_append_drop]
  conv => rhs; rw [e]
  simp
section
variable {K : PySem.W.Frag} {a : Addr} {xs : List V} {uss : List (List V)} {vs vs1 : List Nat} {jo ji : Nat} {σ : L2.St} {H1 : Hp} {Q : Addr → Hp → Prop}
theorem lc2_flat (hs : SqT K H1 a xs) (hl : xs.length = uss.length) (hz : uss.flatten.length ≤ sizeLine)
    (hx : ∀ (i : Nat) (v : V) (us : List V), xs[i]? = some v → uss[i]? = some us → ∃ b, v = .ref b ∧ (SqL K H1 b us ∨ SqT K H1 b us))
    (hw : ∀ x, wipe ((wipe σ vs).set jo (some x)) vs = wipe σ vs) (ho : ∀ x, ((wipe σ vs).set jo (some x))[jo]? = some (some x))
    (hw1 : ∀ x y, wipe ((wipe ((wipe σ vs).set jo (some x)) vs1).set ji (some y)) vs1 = wipe ((wipe σ vs).set jo (some x)) vs1) (hi1 : ∀ x y, ((wipe ((wipe σ vs).set jo (some x)) vs1).set ji (some y))[ji]? = some (some y))
    (done : ∀ H2 D, Same H1 H2 → H1 D = none → H2 D = some (.lst uss.flatten) → Q D H2) :
    ∀ D, H1 D = none → ∃ W : Nat → Nat → Hp → Prop, (∃ m, W 0 m (upd H1 D (.lst []))) ∧ ∀ i m H, W i m H →
      ((Itt K a).stop i H ∧ Q D H) ∨ ((Itt K a).go i H ∧ ∃ Nx : Hp → Prop, (∀ H', Nx H' → ∃ m', m' < m ∧ W (i + 1) m' H') ∧ ∀ x H', (Itt K a).yld i H x H' → gName jo x (wipe σ vs) H' fun σ2 H2 => wipe σ2 vs = wipe σ vs ∧ tYes σ2 H2 fun b H3 =>
        if b = true then iSeq K (tVar jo) σ2 H3 fun J1 H4 => ∃ W1 : Nat → Nat → Hp → Prop, (∃ m, W1 0 m H4) ∧ ∀ j k H, W1 j k H →
          (J1.stop j H ∧ Nx H) ∨ (J1.go j H ∧ ∃ Nx1 : Hp → Prop, (∀ H', Nx1 H' → ∃ k', k' < k ∧ W1 (j + 1) k' H') ∧ ∀ x H', J1.yld j H x H' → gName ji x (wipe σ2 vs1) H' fun σ3 H5 => wipe σ3 vs1 = wipe σ2 vs1 ∧ tYes σ3 H5 fun b H6 =>
            if b = true then tVar ji σ3 H6 fun y H7 => ∃ acc, H7 D = some (.lst acc) ∧ acc.length < sizeLine ∧ Nx1 (upd H7 D (.lst (acc ++ [y]))) else Nx1 H6)
        else Nx H3) := by
  intro D hD
  have wo := walkT_same hs
  refine ⟨fun i m H => m = xs.length - i ∧ i ≤ xs.length ∧ Same H1 H ∧ H D = some (.lst (uss.take i).flatten), ⟨_, rfl, Nat.zero_le _, same_new hD _, upd_same⟩, ?_⟩
  rintro i m H ⟨rfl, hi, e, h1⟩
  by_cases hlt : i < xs.length
  · refine .inr ⟨wo.goes i H hlt e, fun H' => i + 1 ≤ xs.length ∧ Same H1 H' ∧ H' D = some (.lst (uss.take (i + 1)).flatten), fun H' p => ⟨xs.length - (i + 1), by omega, rfl, p⟩, fun v H' y => ?_⟩
    obtain ⟨rfl, hv⟩ := wo.yields i H v H' hlt e y
    obtain ⟨us, hus⟩ : ∃ us, uss[i]? = some us := ⟨uss[i]'(by omega), by simp [hl ▸ hlt]⟩
    obtain ⟨b, rfl, hb⟩ := hx i v us hv hus
    refine ⟨hw _, ?_⟩
    unfold tYes
    dsimp only
    rw [if_pos rfl]
    have inner : ∀ J1 : It, Walk J1 us.length (Same H1) (YAt us) → ∃ W1 : Nat → Nat → Hp → Prop, (∃ m, W1 0 m H') ∧ ∀ j k H, W1 j k H →
          (J1.stop j H ∧ (i + 1 ≤ xs.length ∧ Same H1 H ∧ H D = some (.lst (uss.take (i + 1)).flatten))) ∨ (J1.go j H ∧ ∃ Nx1 : Hp → Prop, (∀ H', Nx1 H' → ∃ k', k' < k ∧ W1 (j + 1) k' H') ∧ ∀ x H', J1.yld j H x H' → gName ji x (wipe ((wipe σ vs).set jo (some (.ref b))) vs1) H' fun σ3 H5 => wipe σ3 vs1 = wipe ((wipe σ vs).set jo (some (.ref b))) vs1 ∧ tYes σ3 H5 fun b H6 =>
            if b = true then tVar ji σ3 H6 fun y H7 => ∃ acc, H7 D = some (.lst acc) ∧ acc.length < sizeLine ∧ Nx1 (upd H7 D (.lst (acc ++ [y]))) else Nx1 H6) := by
      intro J1 wi
      refine ⟨fun j k H => k = us.length - j ∧ j ≤ us.length ∧ Same H1 H ∧ H D = some (.lst ((uss.take i).flatten ++ us.take j)), ⟨_, rfl, Nat.zero_le _, e, by rw [h1, List.take_zero, List.append_nil]⟩, ?_⟩
      rintro j k H ⟨rfl, hj, e2, h2⟩
      by_cases hjt : j < us.length
      · refine .inr ⟨wi.goes j H hjt e2, fun H' => j + 1 ≤ us.length ∧ Same H1 H' ∧ H' D = some (.lst ((uss.take i).flatten ++ us.take (j + 1))), fun H' p => ⟨us.length - (j + 1), by omega, rfl, p⟩, fun w H' y => ?_⟩
        obtain ⟨rfl, hw2⟩ := wi.yields j H w H' hjt e2 y
        refine ⟨hw1 _ _, ?_⟩
        unfold tYes
        dsimp only
        rw [if_pos rfl]
        refine ⟨_, hi1 _ _, _, h2, ?_, hjt, same_at hD e2, ?_⟩
        · have := flat_at hus
          rw [List.length_append, List.length_take]
          omega
        · rw [upd_same, List.append_assoc, List.take_add_one, hw2]
          rfl
      · have : j = us.length := by omega
        subst this
        refine .inl ⟨wi.stops H e2, by omega, e2, ?_⟩
        rw [h2, List.take_length, take_flat hus]
    exact ⟨_, ho _, b, us, rfl, hb.imp (fun z => ⟨up_l e z, inner _ (walkL_same z)⟩) fun z => ⟨up_t e z, inner _ (walkT_same z)⟩⟩
  · have : i = xs.length := by omega
    subst this
    rw [hl, List.take_length] at h1
    exact .inl ⟨wo.stops H e, done H D e hD h1⟩
end
end FF
/-! Fivefault, part 29: is, where the left side is None or a bool. -/
namespace FF
open PySem PySem.Spec PyProof.Rows L2
def rIsOb : R2 := fun x y H Q => ∃ b : Bool, y = .bl b ∧ (x = .non ∨ ∃ a : Bool, x = .bl a) ∧ Q (.bl (decide (x = .bl b))) H
theorem op_isOb {X : Cx} : OpR X (compareOp .Is) rIsOb := by
  intro pins s σ H x y v u Q I rx ry h
  obtain ⟨b, rfl, hx, q⟩ := h
  cases (show u = Value.bool b from ry)
  rcases hx with rfl | ⟨a, rfl⟩
  · cases (show v = Value.none from rx)
    exact wpAny_is_other rfl (fun z => by cases z) ⟨.bl false, H, I, rfl, by simpa using q⟩
  · cases (show v = Value.bool a from rx)
    by_cases e : a = b
    · subst e
      exact wpAny_is_self rfl ⟨.bl true, H, I, rfl, by simpa using q⟩
    · exact wpAny_is_other rfl (fun z => e (Value.bool.inj z)) ⟨.bl false, H, I, rfl, by simpa [e] using q⟩
end FF
/-! Fivefault, part 30: a, *b = xs (a list at the right); {**d, k: v}. -/
namespace FF
open PySem PySem.Spec PyProof.Rows L2
theorem lst_tail {prog : Program} {w : World} {A : Around} (hh : A.handled = none) (I ax : Addr) (hne : ax ≠ I) (x : Value) (items : List Value) :
    Walks prog w A I [I, ax] [I] items.length (fun i v => items[i]? = some v) (fun i h => h.IsListIter I ax (i + 1) ∧ h.IsList ax (x :: items).toArray) :=
  let W := Walks.list (prog := prog) (w := w) hh I ax hne (x :: items).toArray
  { sub := W.sub
    frame := fun i h h' st hk => W.frame (i + 1) h h' st hk
    item := fun i s Q E hi st hQ => W.item (i + 1) s Q E (by simpa using hi) st fun v h' tk hP st' hk => hQ v h' tk (by simpa using hP) st' hk
    done := fun s Q E st hQ => W.done s Q E (by simpa using st) hQ
    self := fun i s Q E st hQ => W.self (i + 1) s Q E st hQ }
theorem unpack_starL {prog : Program} {w : World} {A : Around} {E : Value → Shared → Prop} {s : Shared} {t : Addr} {x : Value} {items : List Value} {Q : List Value → Shared → Prop} (hh : A.handled = none) (ht : s.heap.IsList t (x :: items).toArray) (hz : items.length ≤ sizeLine)
    (hQ : ∀ (h' : Heap) (tk : Nat), (∀ b o, s.heap.get? b = some o → h'.get? b = some o) → Q [x, .ref h'.objs.size] { s with heap := h'.push { cls := .type "list", data := .seq items.toArray }, toks := tk }) :
    wpAny (model prog w) A (unpackItems (.ref t) 2 (some 1)) Q E s := by
  have hlt : t ≠ s.heap.objs.size := by obtain ⟨o, ho, _⟩ := ht; exact Nat.ne_of_lt (Heap.lt_size ho)
  unfold unpackItems
  refine wpAny_bind ?_
  unfold notIterableAtAll
  refine wpAny_bind (wpAny_specialOf ht.typeIs slot_list_iter.lookup ?_)
  refine wpAny_pure ?_
  simp only [Bool.false_eq_true, if_false]
  refine wpAny_bind (wpAny_holding (wpAny_pyIter_list ht ?_))
  refine wpAny_bind (wpAny_holding (PySem.W.kun_draw hlt 1 0 _ _ ⟨_, Heap.get?_push_size _ rfl, rfl, rfl⟩ (ht.push _) (by simp) fun h₁ hit₁ hs₁ => ?_))
  have e1 : List.take 1 (List.drop 0 (x :: items).toArray.toList) = [x] := by simp
  rw [e1, if_neg (by simp)]
  have ht₁ : h₁.IsList t (x :: items).toArray := (ht.push _).extBut hs₁.extBut hlt
  have k1 : ∀ b o, s.heap.get? b = some o → h₁.get? b = some o := fun b o e => hs₁.extBut b o (Nat.ne_of_lt (Heap.lt_size e)) (Heap.get?_push_of_some _ e)
  have hin : s.heap.objs.size < h₁.objs.size := by
    obtain ⟨o, ho, _⟩ := hit₁
    exact Heap.lt_size ho
  have htn : t < h₁.objs.size := by
    obtain ⟨o, ho, _⟩ := ht₁
    exact Heap.lt_size ho
  refine wpAny_bind (wpAny_holding (wpAny_collect_iter (T := "list_iterator") (.inr (.inr (.inl rfl))) (Walks.toS (lst_tail (A := A.in1) hh s.heap.objs.size t hlt x items)) (fun i s st => st.1.typeIs) ⟨hit₁, ht₁⟩ (fun b hb => ?_) (by simp) (fun s' acc mv it => ?_) hz))
  · simp only [List.mem_cons, List.not_mem_nil, or_false] at hb
    rcases hb with rfl | rfl
    · exact hin
    · exact htn
  have ea : acc.toList = items := by
    apply List.ext_getElem?
    intro j
    rw [Array.getElem?_toList]
    cases h : acc[j]? with
    | some v => exact (it.2 j v h).symm
    | none =>
      have := Array.getElem?_eq_none_iff.mp h
      rw [it.1] at this
      exact (List.getElem?_eq_none this).symm
  rw [ea, if_neg (by omega)]
  have em : List.take (items.length - (2 - 1 - 1)) items = items := by simp
  have ed : List.drop (items.length - (2 - 1 - 1)) items = [] := by simp
  rw [em, ed]
  obtain ⟨h2, g2, d2, t2, o2⟩ := s'
  obtain ⟨mh, mg, md, mo, mt⟩ := mv
  have mg : g2 = s.gens := mg
  have md : d2 = s.drawn := md
  have mo : o2 = s.os := mo
  subst mg md mo
  refine wpAny_bind (wpAny_newList (wpAny_pure (hQ h2 t2 fun b o e => mh b o (fun hm => ?_) (k1 b o e))) hz)
  rw [List.mem_singleton.mp hm] at e
  exact Nat.lt_irrefl _ (Heap.lt_size e)
/-- a, *b = xs, xs a list -/
theorem pg_star2L {X : Cx} {e1 e2 : Expr} {p3 pos : Pos} {k : Nat} {t : TGs} (hc : X.calm = true) (h : PGs X [e1, e2] t) (hm : (assignEach [e1, .Starred e2 p3] X.env).map (·.2) = (assignEach [e1, e2] X.env).map (·.2) := by rfl)
    (hn : (assignEach [e1, .Starred e2 p3] X.env).length = 2 := by rfl) (hst : (assignEach [e1, .Starred e2 p3] X.env).findIdx? (·.1) = some 1 := by rfl) :
    PG X (.Tuple [e1, .Starred e2 p3] k pos) (fun v σ H Q => ∃ a x0 xs, v = .ref a ∧ SqL X.K H a (x0 :: xs) ∧ ∀ p, H p = none → t [x0, .ref p] σ (upd H p (.lst xs)) Q) := by
  refine ⟨fun pins s σ H v u Q I r hw => ?_⟩
  obtain ⟨a, x0, xs, rfl, hq, hw⟩ := hw
  cases r
  obtain ⟨its, rv, pl, hz⟩ := I.list hq
  cases rv with
  | @cons _ u0 _ us r0 rs =>
  have hl : us.length ≤ sizeLine := by
    have := rs.length
    rw [List.length_cons] at hz
    omega
  rw [PyProof.Rows.assign_Tuple]
  refine wpAny_bind (wpAny_standAt ?_)
  unfold unpack
  rw [hn, hst, hm]
  refine wpAny_bind (wpAny_holding (unpack_starL (I.ok.hd hc) pl.isList hl fun h' tk kp => ?_))
  have I1 : Inv X pins σ H { s with heap := h', toks := tk } := I.kept kp
  have hf : H h'.objs.size = none := I1.hok.fresh (Nat.le_refl _)
  have I2 : Inv X pins σ (upd H h'.objs.size (.lst xs)) { s with heap := h'.push { cls := .type "list", data := .seq us.toArray }, toks := tk } :=
    I1.laid (t' := tk) (fun b u e => Heap.get?_push_of_some _ e) (Nat.le_refl _) ⟨by rw [rs.length]; exact hl, us, 0, rs, Heap.get?_push_size _ rfl⟩
  exact h.run pins _ σ _ [x0, .ref h'.objs.size] [u0, .ref h'.objs.size] Q I2 (.cons r0 (.cons rfl .nil)) (hw _ hf)
section
variable {prog : Program} {w : World} {K : Type} [DecidableEq K] {knd : KeyKind prog w K} {A : Around} {E : Value → Shared → Prop} {s : Shared}
theorem dictPut_pairs {d : Addr} {kvs : List (K × Value)} {k : K} {key v : Value} {Q : Unit → Shared → Prop} (hkey : knd.is k key = true) (hm : s.heap.DictOf knd d kvs)
    (hQ : ∀ h', h'.DictOf knd d (stored kvs k v) → Heap.SameBut d s.heap h' → Q () { s with heap := h' })
    (hsz : kvs.length ≤ sizeLine := by size_fits) :
    wpAny (model prog w) A (dictPut d (knd.hash k) key v) Q E s := by
  obtain ⟨o, es, ep, ho, hc, hd, hk, hp, hn⟩ := hm
  have hes : es.size ≤ sizeLine := by have e1 := hp.length; have e2 : es.toList.length = es.size := by simp
                                      omega
  unfold dictPut
  refine wpAny_bind (wpAny_dictFind_of hkey ho hd hk ?_)
  have hidx : (es.findIdx? fun e => knd.is k e.key) = kvs.findIdx? fun kv => decide (kv.1 = k) := by
    rw [← hp.findIdx k]; obtain ⟨l⟩ := es; simp
  cases hi : es.findIdx? fun e => knd.is k e.key with
  | some i =>
    refine wpAny_updateDict ho hd (hQ _ ⟨_, _, ep, Heap.get?_update_self _ ho (Obj.isFreed_of_dict (Obj.data_mapDict hd _)),
      hc.mapDict _, Obj.data_mapDict hd _, hk.modify _ _, ?_, ?_⟩ (Heap.SameBut.update ..))
    · rw [stored, if_pos (any_of_findIdx_some (hidx ▸ hi))]
      have hl : (es.toList.findIdx? fun e => knd.is k e.key) = some i := by rw [← hi]; obtain ⟨l⟩ := es; simp
      have := hp.modify hn hl v
      obtain ⟨l⟩ := es
      simpa using this
    · rw [stored, if_pos (any_of_findIdx_some (hidx ▸ hi)), keys_map_store]; exact hn
  | none =>
    have hnot : k ∉ kvs.map (·.1) := not_mem_of_findIdx_none (hidx ▸ hi)
    have hany : ¬ (kvs.any fun kv => decide (kv.1 = k)) = true := by
      rw [List.any_eq_true]; rintro ⟨kv, hkv, he⟩
      exact hnot (List.mem_map.mpr ⟨kv, hkv, of_decide_eq_true he⟩)
    refine wpAny_updateDictKeys (hz := hes) ho hd (hQ _ ⟨_, _, ep + 1, Heap.get?_update_self _ ho (Obj.isFreed_of_dict (Obj.data_mapDictKeys hd _)),
      hc.mapDictKeys _, Obj.data_mapDictKeys hd _, hk.push hkey _, ?_, ?_⟩ (Heap.SameBut.update ..))
    · rw [stored, if_neg hany]
      have := hp.append hkey (knd.hash k) v
      obtain ⟨l⟩ := es
      simpa using this
    · rw [stored, if_neg hany, List.map_append, List.nodup_append]
      refine ⟨hn, by simp, ?_⟩
      intro a ha b hb
      simp only [List.map_cons, List.map_nil, List.mem_singleton] at hb
      subst hb
      exact fun e => hnot (e ▸ ha)
theorem mergeMapping_pairs {d o : Addr} {kvs more : List (K × Value)} {Q : Unit → Shared → Prop} (hnr : ∀ k a, knd.is k (.ref a) = false) (hdo : d ≠ o) (hoS : (o == sysModules) = false)
    (hd : s.heap.DictOf knd d kvs) (ho : s.heap.DictOf knd o more)
    (hQ : ∀ h', h'.DictOf knd d (merged kvs more) → h'.DictOf knd o more → Heap.SameBut d s.heap h' → Q () { s with heap := h' })
    (hsz : kvs.length + more.length ≤ sizeLine := by size_fits) :
    wpAny (model prog w) A (mergeMapping d (.ref o) false) Q E s := by
  obtain ⟨od, esd, epd, hod, hcd, hdd, hkd, hpd, hnd⟩ := id hd
  obtain ⟨oo, eso, epo, hoo, hco, hdo', hko, hpo, hno⟩ := id ho
  have hlen : more.length = eso.size := by rw [← hpo.length]; simp
  unfold mergeMapping
  refine wpAny_bind (wpAny_isInstance ho.typeIs isSubtype_dict_dict ?_)
  rw [if_pos rfl]
  refine wpAny_bind (wpAny_specialOf ho.typeIs F.slot_dict_iter.lookup (wpAny_bind (wpAny_pure ?_)))
  rw [beq_self_eq_true]
  dsimp only
  rw [if_neg (by rw [hoS]; exact Bool.false_ne_true)]
  refine wpAny_bind (wpAny_dictEntries hod hdd ?_)
  have loop : wpAny (model prog w) A (do
      let l ← dictEntries o
      let epoch ← dictEpoch o
      forIn (List.range l.size) PUnit.unit fun i (_ : PUnit) => (do
          let l' ← dictEntries o
          match l'[i]? with
            | some e => do
              holding [e.key, e.val] (dictPut d e.hash e.key e.val)
              let ep' ← dictEpoch o
              if (ep' != epoch) = true then do
                  (unsupported "dict.changed-during-merge" : Sem PUnit)
                  pure (ForInStep.yield PUnit.unit)
                else pure (ForInStep.yield PUnit.unit)
            | _ => do
              (unsupported "dict.changed-during-merge" : Sem PUnit)
              pure (ForInStep.yield PUnit.unit) : Sem (ForInStep PUnit))
      pure ()) Q E s := by
    refine wpAny_bind (wpAny_dictEntries hoo hdo' ?_)
    refine wpAny_bind (wpAny_dictEpoch hoo hdo' ?_)
    refine wpAny_bind ?_
    refine wpAny_forIn_list _
      (fun rest _ s' => ∃ h' i, s' = { s with heap := h' } ∧ rest = List.range' i (eso.size - i) ∧ i ≤ eso.size ∧ h'.DictOf knd d (merged kvs (more.take i)) ∧ h'.get? o = some oo ∧ Heap.SameBut d s.heap h')
      _ ?_ ?_ _ _ ⟨s.heap, 0, rfl, by simp [List.range_eq_range'], Nat.zero_le _, by simpa [merged] using hd, hoo, Heap.SameBut.refl _ _⟩
    · rintro x rest b s' ⟨h', i, rfl, hr, hi, hd', hoo', hs'⟩
      have hlt : i < eso.size := by
        rcases Nat.lt_or_ge i eso.size with h | h
        · exact h
        · rw [Nat.sub_eq_zero_of_le h] at hr; simp at hr
      obtain ⟨rfl, hrest⟩ : x = i ∧ rest = List.range' (i + 1) (eso.size - (i + 1)) := by
        have e : eso.size - i = (eso.size - (i + 1)) + 1 := by omega
        rw [e, List.range'_succ] at hr
        injection hr with h1 h2
        exact ⟨h1, h2⟩
      refine wpAny_bind (wpAny_dictEntries hoo' hdo' ?_)
      rw [Array.getElem?_eq_getElem hlt]
      obtain ⟨kv, hkv⟩ : ∃ kv, more[x]? = some kv := ⟨more[x]'(by rw [hlen]; exact hlt), List.getElem?_eq_getElem _⟩
      obtain ⟨k, v⟩ := kv
      obtain ⟨hkey, hval⟩ := hpo.get? (e := eso[x]) (by simp [hlt]) hkv
      obtain ⟨k', hkey', hhash⟩ := hko eso[x] (Array.getElem_mem hlt)
      obtain rfl : k' = k := knd.inj _ _ _ hkey' hkey
      show wpAny _ _ (holding [eso[x].key, eso[x].val] (dictPut d eso[x].hash eso[x].key eso[x].val) >>= _) _ _ _
      rw [hhash, hval]
      have hmx : (merged kvs (more.take x)).length ≤ sizeLine := by
        have e1 := merged_length_le kvs (more.take x)
        have e2 : (more.take x).length ≤ more.length := by rw [List.length_take]; omega
        omega
      refine wpAny_bind (wpAny_holding (dictPut_pairs (hsz := hmx) hkey hd' fun h'' hd'' hs'' => ?_))
      have hoo'' : h''.get? o = some oo := (hs''.2 o (Ne.symm hdo)).trans hoo'
      refine wpAny_bind (wpAny_dictEpoch hoo'' hdo' ?_)
      rw [if_neg (by simp)]
      exact wpAny_pure ⟨h'', x + 1, rfl, hrest, hlt, by rw [merged_take_succ kvs more x (k', v) hkv]; exact hd'', hoo'', hs'.trans hs''⟩
    · rintro b s' ⟨h', i, rfl, hr, hi, hd', hoo', hs'⟩
      have hin : i = eso.size := by
        rcases Nat.lt_or_ge i eso.size with h | h
        · have e : eso.size - i = (eso.size - (i + 1)) + 1 := by omega
          rw [e, List.range'_succ] at hr; exact nomatch hr
        · exact Nat.le_antisymm hi h
      refine wpAny_pure (hQ h' ?_ ⟨oo, eso, epo, hoo', hco, hdo', hko, hpo, hno⟩ hs')
      rw [hin, ← hlen, List.take_length] at hd'; exact hd'
  split
  · refine wpAny_bind (wpAny_dictEntries hoo hdo' ?_)
    refine wpAny_bind (PySem.MeetsSeq2.wpAny_forIn_array _ (fun rest _ s' => s' = s ∧ ∀ e ∈ rest, e ∈ eso) _ ?_ ?_ _ _ ⟨rfl, fun e he => Array.mem_toList_iff.mp he⟩)
    · rintro x rest b s' ⟨rfl, hm⟩
      obtain ⟨k, hk, _⟩ := hko x (hm x List.mem_cons_self)
      have nr : ∀ a, x.key ≠ .ref a := fun a e => by
        rw [e, hnr] at hk
        cases hk
      split
      · rename_i a e
        exact absurd e (nr a)
      · exact wpAny_pure ⟨rfl, fun e he => hm e (List.mem_cons_of_mem _ he)⟩
    · rintro b s' ⟨rfl, _⟩
      exact loop
  · exact loop
end
/-- {**d, k: v} -/
def tDStar (td tk tv : TE) : TE := fun σ H Q => ∀ p, H p = none → td σ (upd H p (.dK [])) fun x H1 => ∃ a kvs, x = .ref a ∧ a ≠ p ∧ H1 p = some (.dK []) ∧ H1 a = some (.dK kvs) ∧ kvs.length < sizeLine ∧
  ∀ q, upd H1 p (.dK kvs) q = none → tk σ (upd (upd H1 p (.dK kvs)) q (.dK [])) fun y H2 => tv σ H2 fun z H3 => ∃ k : Key, y = kV k ∧ H3 p = some (.dK kvs) ∧ H3 q = some (.dK []) ∧ Q (.ref p) (upd (upd H3 q (.dK [(k, z)])) p (.dK (putK kvs k z)))
theorem mix_ref {P : Program} {w : World} (k : Key) (a : Addr) : (mixKind P w).is k (.ref a) = false := by
  cases k <;> rfl
theorem pe_dstar {X : Cx} {pos : Pos} {de ke ve : Expr} {td tk tv : TE} (hd : PE X de td) (hk : PE X ke tk) (hv : PE X ve tv) : PE X (.Dict [none, some ke] [de, ve] pos) (tDStar td tk tv) := by
  refine ⟨fun pins s σ H Q I h => ?_⟩
  have hn := I.hok.fresh (Nat.le_refl s.heap.objs.size)
  have I1 := I.laid (a := s.heap.objs.size) (o := .dK []) (h' := s.heap.push { cls := .type "dict", data := .dict #[] }) (t' := s.toks) (fun _ _ q => Heap.get?_push_of_some _ q) (Nat.le_refl _) (dk_empty s.heap I.big)
  rw [arm_eval_Dict]
  refine wpAny_bind (wpAny_standAt ?_)
  show wpAny _ _ (dictDisplay [(none, do let x ← eval de X.env; standAt pos; pure x), (some (eval ke X.env), do let x ← eval ve X.env; standAt pos; pure x)]) _ _ _
  unfold dictDisplay
  dsimp only
  rw [List.forIn_cons]
  dsimp only
  refine wpAny_bind (wpAny_bind (wpAny_bind ?_))
  rw [List.isEmpty_nil, if_pos rfl]
  refine wpAny_pure ?_
  dsimp only
  refine wpAny_bind (wpAny_alloc ?_)
  refine wpAny_bind (wpAny_holding (wpAny_bind (thn (hd.run pins _ σ _ _ I1 (h _ hn)) fun u s1 ⟨x, H1, I2, rx, a, kvs, ex, ap, hp, ha, hl, q1⟩ => wpAny_bind (wpAny_standAt (wpAny_pure ?_)))))
  subst ex
  obtain rfl : u = Value.ref a := rx
  obtain ⟨z0, hd0, vs0, r0, dd0⟩ := dk_of I2.hok hp
  cases r0
  obtain ⟨z1, hd1, vs1, r1, dd1⟩ := dk_of I2.hok ha
  have n1 : (vs1.map (·.1)).Nodup := by
    obtain ⟨_, _, _, _, _, _, _, _, hnd⟩ := dd1
    exact hnd
  have l1 : kvs.length = vs1.length := r1.length
  refine wpAny_bind (wpAny_onRaise (wpAny_tryCatch (wpAny_onRaise (wpAny_holding (mergeMapping_pairs (knd := mixKind X.prog X.w) mix_ref (Ne.symm ap) hd1 dd0 dd1 (fun h' d1 d2 sb => ?_) (by rw [List.length_nil]; omega))))))
  rw [merged_nil_of_nodup vs1 n1] at d1
  have he1 : ∃ q, h'.get? s.heap.objs.size = some q := let ⟨q, _, _, hq, _⟩ := d1; ⟨q, hq⟩
  have I3 : Inv X pins σ (upd H1 s.heap.objs.size (.dK kvs)) { s1 with heap := h' } := d_write (t' := s1.toks) I2 (by rw [hp]; exact True.intro) sb he1 (dk_new z1 hd0 r1 d1)
  refine wpAny_pure (wpAny_pure ?_)
  dsimp only
  rw [if_neg (by simp)]
  have hq0 := I3.hok.fresh (Nat.le_refl h'.objs.size)
  have I4 := I3.laid (a := h'.objs.size) (o := .dK []) (h' := h'.push { cls := .type "dict", data := .dict #[] }) (t' := s1.toks) (fun _ _ q => Heap.get?_push_of_some _ q) (Nat.le_refl _) (dk_empty h' I3.big)
  have hPP : PPs X pos [some ke] [ve] [(tk, tv)] := pps_cons hk hv pps_nil
  let Qp : List (V × V) → Hp → Prop := fun ps H3 => match ps with
    | [(y, z)] => ∃ k : Key, y = kV k ∧ H3 s.heap.objs.size = some (.dK kvs) ∧ H3 h'.objs.size = some (.dK []) ∧ Q (.ref s.heap.objs.size) (upd (upd H3 h'.objs.size (.dK [(k, z)])) s.heap.objs.size (.dK (putK kvs k z)))
    | _ => False
  have hT : tPairs [(tk, tv)] σ (upd (upd H1 s.heap.objs.size (.dK kvs)) h'.objs.size (.dK [])) Qp := q1 _ hq0
  have hpq : h'.objs.size ≠ s.heap.objs.size := fun e => by
    rw [e, upd_same] at hq0
    cases hq0
  refine wpAny_bind (wpAny_bind (wpAny_holding (wpAny_subDict (knd := mixKind X.prog X.w) (by simp) (thn (hPP.run pins _ σ _ Qp I4 hT) fun ws s2 ⟨ps, H2, I5, rel, hps⟩ => ?_))))
  obtain ⟨y, z, rfl, k, rfl, hp2, hq2, q2⟩ : ∃ y z, ps = [(y, z)] ∧ ∃ k : Key, y = kV k ∧ H2 s.heap.objs.size = some (.dK kvs) ∧ H2 h'.objs.size = some (.dK []) ∧ Q (.ref s.heap.objs.size) (upd (upd H2 h'.objs.size (.dK [(k, z)])) s.heap.objs.size (.dK (putK kvs k z))) := by
    match ps, hps with
    | [(y, z)], h => exact ⟨y, z, rfl, h⟩
  obtain ⟨rs, c, rk⟩ := carries_of (P := X.prog) (w := X.w) (kvs := [(k, z)]) rel
  obtain ⟨z2, hd2, vs2, r2, dd2⟩ := dk_of I5.hok hq2
  cases r2
  refine ⟨rs, c, dd2, fun h2 dq sq => ?_⟩
  have rl : rs.length = 1 := rk.length.symm
  have heq : ∃ o, h2.get? h'.objs.size = some o := let ⟨o, _, _, ho, _⟩ := dq; ⟨o, ho⟩
  have I6 : Inv X pins σ (upd H2 h'.objs.size (.dK [(k, z)])) { s2 with heap := h2, toks := s2.toks + ws.length } :=
    d_write (t' := s2.toks + ws.length) I5 (by rw [hq2]; exact True.intro) sq heq (dk_new (by rw [sizeLine_eq]; simp) hd2 (rk.merge .nil) dq)
  have hp3 : (upd H2 h'.objs.size (.dK [(k, z)])) s.heap.objs.size = some (.dK kvs) := by rw [upd_ne (Ne.symm hpq)]; exact hp2
  have hq3 : (upd H2 h'.objs.size (.dK [(k, z)])) h'.objs.size = some (.dK [(k, z)]) := upd_same
  obtain ⟨z3, hd3, vs3, r3, dd3⟩ := dk_of I6.hok hp3
  obtain ⟨z4, hd4, vs4, r4, dd4⟩ := dk_of I6.hok hq3
  have l3 : kvs.length = vs3.length := r3.length
  have l4 : 1 = vs4.length := r4.length
  refine wpAny_bind (wpAny_onRaise (wpAny_holding (mergeMapping_pairs (knd := mixKind X.prog X.w) mix_ref (Ne.symm hpq) hd4 dd3 dd4 (fun h3 d3 d4 sb3 => ?_) (by omega))))
  have he3 : ∃ o, h3.get? s.heap.objs.size = some o := let ⟨o, _, _, ho, _⟩ := d3; ⟨o, ho⟩
  have hz : (putK kvs k z).length ≤ sizeLine := by
    have := length_putK kvs k z
    omega
  have I7 := d_write (t' := s2.toks + ws.length) (ob := .dK (putK kvs k z)) I6 (by rw [hp3]; exact True.intro) sb3 he3 (dk_new hz hd3 (r4.merge r3) d3)
  refine wpAny_pure (wpAny_pure ?_)
  exact ⟨.ref s.heap.objs.size, _, I7, rfl, q2⟩
end FF
/-! Fivefault, part 31: more comprehensions: a test told with the heap; a choice of any target; items that are new objects. -/
namespace FF
open PySem PySem.Spec PyProof.Rows L2
theorem lc_filtW {K : PySem.W.Frag} {a D : Addr} {xs : List V} {tt : TT} {te : TE} {vs : List Nat} {j : Nat} {σ : L2.St} {H1 : Hp} {Qd : Hp → Prop} (f : V → Bool) (hD : H1 D = none) (hs : SqL K H1 a xs) (hz : xs.length ≤ sizeLine)
    (hw : ∀ x, wipe ((wipe σ vs).set j (some x)) vs = wipe σ vs)
    (test : ∀ (i : Nat) (x : V) (H2 : Hp), xs[i]? = some x → Same H1 H2 → ∀ Qb : Bool → Hp → Prop, (∀ H3, Same H2 H3 → Qb (f x) H3) → tt ((wipe σ vs).set j (some x)) H2 Qb)
    (elt : ∀ x H2 (Q' : VK), Q' x H2 → te ((wipe σ vs).set j (some x)) H2 Q')
    (done : ∀ H2, Same H1 H2 → H2 D = some (.lst (xs.filter f)) → Qd H2) :
    ∃ W : Nat → Nat → Hp → Prop, (∃ m, W 0 m (upd H1 D (.lst []))) ∧ ∀ i m H, W i m H →
      ((Itl K a).stop i H ∧ Qd H) ∨ ((Itl K a).go i H ∧ ∃ Nx : Hp → Prop, (∀ H', Nx H' → ∃ m', m' < m ∧ W (i + 1) m' H') ∧ ∀ x H', (Itl K a).yld i H x H' → gName j x (wipe σ vs) H' fun σ2 H2 => wipe σ2 vs = wipe σ vs ∧ tt σ2 H2 fun b H3 =>
        if b = true then te σ2 H3 fun y H4 => ∃ acc, H4 D = some (.lst acc) ∧ acc.length < sizeLine ∧ Nx (upd H4 D (.lst (acc ++ [y]))) else Nx H3) :=
  lc_list (fun i H => Same H1 H ∧ H D = some (.lst ((xs.take i).filter f)))
    ⟨same_new hD _, upd_same⟩ (fun i H _ p => up_l p.1 hs)
    (fun i x H hx ⟨e, h1⟩ => ⟨hw x, test i x H hx e _ fun H3 e3 => by
      have take1 : xs.take (i + 1) = xs.take i ++ [x] := by
        rw [List.take_add_one, hx] <;> rfl
      cases hb : f x with
      | false =>
        refine iteF ⟨e.trans e3, ?_⟩
        rw [take1, List.filter_append, List.filter_cons_of_neg (by rw [hb]; decide), List.filter_nil, List.append_nil]
        exact e3 _ _ h1
      | true =>
        refine iteT (elt x H3 _ ⟨_, e3 _ _ h1, ?_, same_at hD (e.trans e3), ?_⟩)
        · refine Nat.lt_of_le_of_lt (List.length_filter_le _ _) ?_
          rw [List.length_take]
          have := (List.getElem?_eq_some_iff.mp hx).1
          omega
        · rw [take1, List.filter_append, List.filter_cons_of_pos hb, List.filter_nil, upd_same]⟩)
    fun H ⟨e, h1⟩ => done H e (by rw [List.take_length] at h1; exact h1)
section
variable {K : PySem.W.Frag} {a : Addr} {xs : List V} {g : TG} {tt : TT} {te : TE} {vs : List Nat} {σ : L2.St} {H1 : Hp} {Q : Addr → Hp → Prop}
/-- [e for target in xs if test], xs a list or a tuple: which items, told by the place -/
theorem lc_selS (F : Nat → Option V) (h : SqL K H1 a xs ∨ SqT K H1 a xs) (hz : xs.length ≤ sizeLine)
    (step : ∀ i x H2, xs[i]? = some x → Same H1 H2 → ∀ (Qy : VK) (Qn : Hp → Prop), (∀ y H3, Same H2 H3 → F i = some y → Qy y H3) → (∀ H3, Same H2 H3 → F i = none → Qn H3) →
      g x (wipe σ vs) H2 fun σ2 H3 => wipe σ2 vs = wipe σ vs ∧ tt σ2 H3 fun b H4 => if b = true then te σ2 H4 Qy else Qn H4)
    (done : ∀ H2 D, Same H1 H2 → H1 D = none → H2 D = some (.lst ((List.range xs.length).filterMap F)) → Q D H2) :
    ∃ a' xs', V.ref a = .ref a' ∧ ((SqL K H1 a' xs' ∧ ∀ D, H1 D = none → LcR (Itl K a') g tt te vs σ H1 D (Q D)) ∨ (SqT K H1 a' xs' ∧ ∀ D, H1 D = none → LcR (Itt K a') g tt te vs σ H1 D (Q D))) := by
  have key : ∀ J, Walk J xs.length (Same H1) (YAt xs) → ∀ D, H1 D = none → LcR J g tt te vs σ H1 D (Q D) := fun J wk D hD =>
    lc_it wk (fun i H => Same H1 H ∧ H D = some (.lst ((List.range i).filterMap F))) ⟨same_new hD _, upd_same⟩ (fun i H _ p => p.1)
      (fun i x H H' hi ⟨e, h2⟩ ⟨e1, e2⟩ => by
        subst e1
        refine step i x _ e2 e _ _ (fun y H3 e3 hF => ?_) (fun H3 e3 hF => ?_)
        · refine ⟨_, e3 _ _ h2, ?_, same_at hD (e.trans e3), ?_⟩
          · refine Nat.lt_of_le_of_lt (List.length_filterMap_le _ _) ?_
            rw [List.length_range]
            omega
          · rw [upd_same, List.range_succ, List.filterMap_append, List.filterMap_cons_some hF, List.filterMap_nil]
        · refine ⟨e.trans e3, ?_⟩
          rw [List.range_succ, List.filterMap_append, List.filterMap_cons_none hF, List.filterMap_nil, List.append_nil]
          exact e3 _ _ h2)
      fun H ⟨e, h1⟩ => done H D e hD h1
  exact ⟨a, xs, rfl, h.imp (fun h => ⟨h, key _ (walkL_same h)⟩) fun h => ⟨h, key _ (walkT_same h)⟩⟩
end
section
variable {K : PySem.W.Frag} {a : Addr} {xs : List V} {te : TE} {vs : List Nat} {σ : L2.St} {H1 : Hp} {D : Addr} {Qd : Hp → Prop} {j : Nat}
/-- [e for x in t], t a tuple, the items told by objects other than the new list -/
theorem lc_mapTB (R : Nat → V → Hp → Prop) (mono : ∀ i y H H', SameB D H H' → R i y H → R i y H') (hD : H1 D = none) (hs : SqT K H1 a xs) (hz : xs.length ≤ sizeLine)
    (hw : ∀ x, wipe ((wipe σ vs).set j (some x)) vs = wipe σ vs)
    (step : ∀ i x H2, xs[i]? = some x → Same H1 H2 → (∃ o, H2 D = some o) → ∀ Q' : VK, (∀ y H3, Same H2 H3 → R i y H3 → Q' y H3) → te ((wipe σ vs).set j (some x)) H2 Q')
    (done : ∀ H2 ys, Same H1 H2 → H2 D = some (.lst ys) → ys.length = xs.length → (∀ (i : Nat) (y : V), ys[i]? = some y → R i y H2) → Qd H2) :
    ∃ W : Nat → Nat → Hp → Prop, (∃ m, W 0 m (upd H1 D (.lst []))) ∧ ∀ i m H, W i m H →
      ((Itt K a).stop i H ∧ Qd H) ∨ ((Itt K a).go i H ∧ ∃ Nx : Hp → Prop, (∀ H', Nx H' → ∃ m', m' < m ∧ W (i + 1) m' H') ∧ ∀ x H', (Itt K a).yld i H x H' → gName j x (wipe σ vs) H' fun σ2 H2 => wipe σ2 vs = wipe σ vs ∧ tYes σ2 H2 fun b H3 =>
        if b = true then te σ2 H3 fun y H4 => ∃ acc, H4 D = some (.lst acc) ∧ acc.length < sizeLine ∧ Nx (upd H4 D (.lst (acc ++ [y]))) else Nx H3) :=
  lc_tup (fun i H => Same H1 H ∧ ∃ ys, H D = some (.lst ys) ∧ ys.length = i ∧ ∀ (m : Nat) (y : V), ys[m]? = some y → R m y H)
    ⟨same_new hD _, [], upd_same, rfl, fun m y h => by simp at h⟩ (fun i H _ p => up_t p.1 hs)
    (fun i x H hx ⟨e, ys, h1, h2, h3⟩ => ⟨hw x, by
      unfold tYes
      dsimp only
      rw [if_pos rfl]
      have hi := (List.getElem?_eq_some_iff.mp hx).1
      refine step i x H hx e ⟨_, h1⟩ _ fun y H3 e3 r => ?_
      refine ⟨_, e3 _ _ h1, by omega, same_at hD (e.trans e3), ys ++ [y], upd_same, by simp [h2], fun m y' q => ?_⟩
      have eU : SameB D H3 (upd H3 D (.lst (ys ++ [y]))) := sb_upd
      by_cases hm : m < ys.length
      · rw [List.getElem?_append_left hm] at q
        exact mono _ _ _ _ ((sb_of e3).tr eU) (h3 m y' q)
      · have : m = ys.length := by
          have := (List.getElem?_eq_some_iff.mp q).1
          simp at this
          omega
        subst this
        rw [List.getElem?_append_right (Nat.le_refl _), Nat.sub_self] at q
        cases q
        rw [h2]
        exact mono _ _ _ _ eU r⟩)
    fun H ⟨e, ys, h1, h2, h3⟩ => done H ys e h1 h2 h3
end
end FF
/-! Fivefault, part 32: x[i] of a text or a tuple; C() of an own class. -/
namespace FF
open PySem PySem.Spec PyProof.Rows L2
def rIxW (K : PySem.W.Frag) : R2 := fun x y H Q => rIxT K x y H Q ∨ rIxS x y H Q
theorem ix_wordK {X : Cx} (K : PySem.W.Frag) (h : X.K = K := by rfl) : IxR X (rIxW K) := by
  subst h
  intro value slice pins s σ H x y v u Q I rx ry q hs
  rcases q with q | q
  · exact ix_tup value slice pins s σ H x y v u Q I rx ry q hs
  · exact ix_str value slice pins s σ H x y v u Q I rx ry q hs
theorem pe_mkd0 {X : Cx} {C : Str} {k j : Nat} {ps : List Str} {sp : Sp} {p pos : Pos} (D : MakeD X.prog X.w X.K X.mg X.base C k ps sp) (hr : Room j X.A) (hkj : k + 1 ≤ j)
    (hg : Gl X C := by rfl) (hdb : (C == ("__debug__" : Str)) = false := by decide) :
    PE X (.Call (.Name C p) [] [] pos) (tMake (He.ga X.K C) sp [] E0 tNil) := by
  obtain ⟨fd, F, hb⟩ := D.ex
  exact pe_make0 D.mkr F (hr.mono hkj) hg D.hm hb .nil pass0 hdb
/-- o.m(e, ..), within a comprehension too -/
theorem pe_methdK {X : Cx} (K : PySem.W.Frag) {C m : Str} {k j : Nat} {ps : List Str} {sp : Sp} {o e : Expr} {es : List Expr} {apos pos : Pos} {to : TE} {t : TA} {pl : Sem Bool} (D : MethD X.prog X.w X.K X.mg X.base C m k ps sp) (hr : Room j X.A) (hkj : k ≤ j) (ho : PE X o to) (ha : PA X (e :: es) t) (hK : X.K = K := by rfl)
    (hst : starEach (e :: es) X.env = (false, eval e X.env) :: starEach es X.env := by rfl) (hpl : (backTo pos (starEach es X.env)).any (·.1) = false := by rfl)
    (ht : eval (.Call (.Attribute o m apos) (e :: es) [] pos) X.env = (do
      let ov ← eval o X.env
      standAt apos.atName
      let (f, first) ← holding [ov] (getMethod ov m pl)
      callWith pos f first (backTo pos (starEach (e :: es) X.env)) (backToKw pos (keywordEach [] X.env))) := by rfl) :
    PE X (.Call (.Attribute o m apos) (e :: es) [] pos) (tMeth (He.ga K C) m sp [] E0 to t) := by
  subst hK
  exact pe_methd D hr hkj ho ha hst hpl ht
end FF
namespace FF
open PySem PySem.Spec PyProof.Rows L2
def top (i : Nat) : Stmt := PySem.Challenge.pw_fivefault_k42_order_of_terms_without_rul.main.body.getD i (.Pass ⟨0, 0, 0, 0⟩)
def clsSt (s : Stmt) (i : Nat) : Stmt := match s with
  | .ClassDef _ _ _ b .. => b.getD i (.Pass ⟨0, 0, 0, 0⟩)
  | _ => .Pass ⟨0, 0, 0, 0⟩
abbrev s_is_letter : Stmt := top 10
theorem sc_is_letter : FnScope ["value"] ["value"] (defScope s_is_letter) := ⟨rfl, rfl, rfl, by decide +kernel, rfl, by decide +kernel, by decide +kernel⟩
abbrev s_measured : Stmt := top 11
theorem sc_measured : FnScope ["value", "max_depth", "sizes", "part"] ["value", "max_depth"] (defScope s_measured) := ⟨rfl, rfl, rfl, by decide +kernel, rfl, by decide +kernel, by decide +kernel⟩
abbrev s_is_term : Stmt := top 12
theorem sc_is_term : FnScope ["value", "max_depth", "max_size"] ["value", "max_depth", "max_size"] (defScope s_is_term) := ⟨rfl, rfl, rfl, by decide +kernel, rfl, by decide +kernel, by decide +kernel⟩
abbrev s_need_term : Stmt := top 13
theorem sc_need_term : FnScope ["value"] ["value"] (defScope s_need_term) := ⟨rfl, rfl, rfl, by decide +kernel, rfl, by decide +kernel, by decide +kernel⟩
abbrev s_text_of : Stmt := top 15
theorem sc_text_of : FnScope ["term", "operator", "parts", "texts", "part"] ["term"] (defScope s_text_of) := ⟨rfl, rfl, rfl, by decide +kernel, rfl, by decide +kernel, by decide +kernel⟩
abbrev s_below_in : Stmt := top 18
theorem sc_below_in : FnScope ["left", "right"] ["left", "right"] (defScope s_below_in) := ⟨rfl, rfl, rfl, by decide +kernel, rfl, by decide +kernel, by decide +kernel⟩
abbrev s_steps_in : Stmt := top 19
theorem sc_steps_in : FnScope ["left", "right", "free"] ["left", "right"] (defScope s_steps_in) := ⟨rfl, rfl, rfl, by decide +kernel, rfl, by decide +kernel, by decide +kernel⟩
abbrev s_always_below : Stmt := top 20
theorem sc_always_below : FnScope ["left", "right"] ["left", "right"] (defScope s_always_below) := ⟨rfl, rfl, rfl, by decide +kernel, rfl, by decide +kernel, by decide +kernel⟩
abbrev s_equal_everywhere : Stmt := top 21
theorem sc_equal_everywhere : FnScope ["one", "other"] ["one", "other"] (defScope s_equal_everywhere) := ⟨rfl, rfl, rfl, by decide +kernel, rfl, by decide +kernel, by decide +kernel⟩
abbrev s_free_steps : Stmt := top 22
theorem sc_free_steps : FnScope ["left", "right"] ["left", "right"] (defScope s_free_steps) := ⟨rfl, rfl, rfl, by decide +kernel, rfl, by decide +kernel, by decide +kernel⟩
abbrev s_law_source : Stmt := top 24
theorem sc_law_source : FnScope ["_law_script"] ["_law_script"] (defScope s_law_source) := ⟨rfl, rfl, rfl, by decide +kernel, rfl, by decide +kernel, by decide +kernel⟩
abbrev s_law_take : Stmt := top 25
theorem sc_law_take : FnScope ["_law_source_here", "_law_many", "_law_cell", "_law_digit", "_law_mixed_here"] ["_law_source_here", "_law_many"] (defScope s_law_take) := ⟨rfl, rfl, rfl, by decide +kernel, rfl, by decide +kernel, by decide +kernel⟩
abbrev s_law_pick : Stmt := top 26
theorem sc_law_pick : FnScope ["_law_source_here", "_law_row"] ["_law_source_here", "_law_row"] (defScope s_law_pick) := ⟨rfl, rfl, rfl, by decide +kernel, rfl, by decide +kernel, by decide +kernel⟩
abbrev s_law_mixed : Stmt := top 27
theorem sc_law_mixed : FnScope ["_law_source_here", "_law_row", "_law_found", "_law_mone"] ["_law_source_here", "_law_row"] (defScope s_law_mixed) := ⟨rfl, rfl, rfl, by decide +kernel, rfl, by decide +kernel, by decide +kernel⟩
abbrev s_law_same : Stmt := top 28
theorem sc_law_same : FnScope ["_law_found", "_law_due", "_law_key", "_law_mone", "_law_mother"] ["_law_found", "_law_due"] (defScope s_law_same) := ⟨rfl, rfl, rfl, by decide +kernel, rfl, by decide +kernel, by decide +kernel⟩
abbrev s_law_call : Stmt := top 29
theorem sc_law_call : FnScope ["_law_ask", "_law_told", "_law_word", "e"] ["_law_ask"] (defScope s_law_call) := ⟨rfl, rfl, rfl, by decide +kernel, rfl, by decide +kernel, by decide +kernel⟩
abbrev s_law_text : Stmt := top 30
theorem sc_law_text : FnScope ["_law_word", "_law_texts", "_law_mone"] ["_law_word"] (defScope s_law_text) := ⟨rfl, rfl, rfl, by decide +kernel, rfl, by decide +kernel, by decide +kernel⟩
abbrev s_law_term : Stmt := top 31
theorem sc_law_term : FnScope ["_law_source_here", "_law_signs_here", "_law_deep", "_law_room", "_law_many", "_law_operator", "_law_k"] ["_law_source_here", "_law_signs_here", "_law_deep", "_law_room"] (defScope s_law_term) := ⟨rfl, rfl, rfl, by decide +kernel, rfl, by decide +kernel, by decide +kernel⟩
abbrev s_law_signs : Stmt := top 32
theorem sc_law_signs : FnScope ["_law_source_here", "_law_most", "_law_every"] ["_law_source_here", "_law_most"] (defScope s_law_signs) := ⟨rfl, rfl, rfl, by decide +kernel, rfl, by decide +kernel, by decide +kernel⟩
abbrev s_law_below : Stmt := top 33
theorem sc_law_below : FnScope ["_law_mone", "_law_mother", "_law_known", "_law_key"] ["_law_mone", "_law_mother", "_law_known"] (defScope s_law_below) := ⟨rfl, rfl, rfl, by decide +kernel, rfl, by decide +kernel, by decide +kernel⟩
abbrev s_law_below_now : Stmt := top 34
theorem sc_law_below_now : FnScope ["_law_mone", "_law_mother", "_law_known", "_law_part"] ["_law_mone", "_law_mother", "_law_known"] (defScope s_law_below_now) := ⟨rfl, rfl, rfl, by decide +kernel, rfl, by decide +kernel, by decide +kernel⟩
abbrev s_law_measure : Stmt := top 35
theorem sc_law_measure : FnScope ["_law_word", "_law_deep", "_law_sizes", "_law_mone"] ["_law_word", "_law_deep"] (defScope s_law_measure) := ⟨rfl, rfl, rfl, by decide +kernel, rfl, by decide +kernel, by decide +kernel⟩
abbrev s_law_fits : Stmt := top 36
theorem sc_law_fits : FnScope ["_law_word"] ["_law_word"] (defScope s_law_fits) := ⟨rfl, rfl, rfl, by decide +kernel, rfl, by decide +kernel, by decide +kernel⟩
abbrev s_law_odd : Stmt := top 37
theorem sc_law_odd : FnScope ["_law_source_here", "_law_word", "_law_some"] ["_law_source_here", "_law_word"] (defScope s_law_odd) := ⟨rfl, rfl, rfl, by decide +kernel, rfl, by decide +kernel, by decide +kernel⟩
abbrev s_law_nest : Stmt := top 38
theorem sc_law_nest : FnScope ["_law_many", "_law_word", "_law_k"] ["_law_many"] (defScope s_law_nest) := ⟨rfl, rfl, rfl, by decide +kernel, rfl, by decide +kernel, by decide +kernel⟩
abbrev s_law_same_word : Stmt := top 39
theorem sc_law_same_word : FnScope ["_law_source_here", "_law_word", "_law_known", "_law_way", "_law_mother", "_law_parts", "_law_at"] ["_law_source_here", "_law_word", "_law_known"] (defScope s_law_same_word) := ⟨rfl, rfl, rfl, by decide +kernel, rfl, by decide +kernel, by decide +kernel⟩
abbrev s_law_rewritten : Stmt := top 40
theorem sc_law_rewritten : FnScope ["_law_source_here", "_law_word", "_law_many", "_law_turn", "_law_later"] ["_law_source_here", "_law_word", "_law_many"] (defScope s_law_rewritten) := ⟨rfl, rfl, rfl, by decide +kernel, rfl, by decide +kernel, by decide +kernel⟩
abbrev s_law_two_words : Stmt := top 41
theorem sc_law_two_words : FnScope ["_law_source_here", "_law_signs_here", "_law_mone", "_law_two", "_law_way"] ["_law_source_here"] (defScope s_law_two_words) := ⟨rfl, rfl, rfl, by decide +kernel, rfl, by decide +kernel, by decide +kernel⟩
abbrev s_law : Stmt := top 42
theorem sc_law : FnScope ["_law_script", "_law_source_here", "_law_known", "_law_turn", "_law_mone", "_law_two", "_law_due", "_law_same_here", "_law_odd_here", "_law_asks"] ["_law_script"] (defScope s_law) := ⟨rfl, rfl, rfl, by decide +kernel, rfl, by decide +kernel, by decide +kernel⟩
abbrev s_Free___init__ : Stmt := clsSt (top 17) 0
theorem sc_Free___init__ : FnScope ["self"] ["self"] (defScope s_Free___init__) := ⟨rfl, rfl, rfl, by decide +kernel, rfl, by decide +kernel, by decide +kernel⟩
abbrev s_Free_is_below : Stmt := clsSt (top 17) 1
theorem sc_Free_is_below : FnScope ["self", "left", "right", "key"] ["self", "left", "right"] (defScope s_Free_is_below) := ⟨rfl, rfl, rfl, by decide +kernel, rfl, by decide +kernel, by decide +kernel⟩
abbrev s_Free_reason_for : Stmt := clsSt (top 17) 2
theorem sc_Free_reason_for : FnScope ["self", "left", "right", "pairs", "part", "one", "other"] ["self", "left", "right"] (defScope s_Free_reason_for) := ⟨rfl, rfl, rfl, by decide +kernel, rfl, by decide +kernel, by decide +kernel⟩
abbrev s_Free_added : Stmt := clsSt (top 17) 3
theorem sc_Free_added : FnScope ["self", "left", "right", "reason"] ["self", "left", "right", "reason"] (defScope s_Free_added) := ⟨rfl, rfl, rfl, by decide +kernel, rfl, by decide +kernel, by decide +kernel⟩
abbrev s_Free_step_for : Stmt := clsSt (top 17) 4
theorem sc_Free_step_for : FnScope ["self", "left", "right", "key"] ["self", "left", "right"] (defScope s_Free_step_for) := ⟨rfl, rfl, rfl, by decide +kernel, rfl, by decide +kernel, by decide +kernel⟩
abbrev s_Free_written_reason : Stmt := clsSt (top 17) 5
theorem sc_Free_written_reason : FnScope ["self", "left", "right", "kind", "pairs", "one", "other", "first", "last"] ["self", "left", "right"] (defScope s_Free_written_reason) := ⟨rfl, rfl, rfl, by decide +kernel, rfl, by decide +kernel, by decide +kernel⟩
abbrev s_FaultError_init : Stmt := clsSt (top 1) 0
theorem sc_FaultError_init : FnScope ["self", "code"] ["self", "code"] (defScope s_FaultError_init) := ⟨rfl, rfl, rfl, by decide +kernel, rfl, by decide +kernel, by decide +kernel⟩
abbrev s_InvalidTerm_init : Stmt := clsSt (top 3) 0
theorem sc_InvalidTerm_init : FnScope ["self"] ["self"] (defScope s_InvalidTerm_init) := ⟨rfl, rfl, rfl, by decide +kernel, rfl, by decide +kernel, by decide +kernel⟩
structure Top (K : PySem.W.Frag) (mg : Str → Option Value) : Prop where
  b_IndexError : mg "IndexError" = none
  b_LookupError : mg "LookupError" = none
  b_ValueError : mg "ValueError" = none
  b_all : mg "all" = none
  b_any : mg "any" = none
  b_bool : mg "bool" = none
  b_dict : mg "dict" = none
  b_int : mg "int" = none
  b_isinstance : mg "isinstance" = none
  b_len : mg "len" = none
  b_list : mg "list" = none
  b_range : mg "range" = none
  b_sorted : mg "sorted" = none
  b_str : mg "str" = none
  b_sum : mg "sum" = none
  b_tuple : mg "tuple" = none
  b_zip : mg "zip" = none
  g_LETTERS : ∃ t, mg "LETTERS" = some (.str "abcdefgh" t)
  g_OPERATORS : mg "OPERATORS" = some (.ref (He.ga K "OPERATORS"))
  t_OPERATORS : ∀ H, SqT K H (He.ga K "OPERATORS") [.str "&", .str "|"]
  g_MAX_DEPTH : ∃ t, mg "MAX_DEPTH" = some (.int 5 t)
  g_MAX_SIZE : ∃ t, mg "MAX_SIZE" = some (.int 24 t)
  c_FaultError : mg "FaultError" = some (.ref (He.ga K "FaultError"))
  c_Missing : mg "Missing" = some (.ref (He.ga K "Missing"))
  c_InvalidTerm : mg "InvalidTerm" = some (.ref (He.ga K "InvalidTerm"))
  c_NothingLeft : mg "NothingLeft" = some (.ref (He.ga K "NothingLeft"))
  c_Free : mg "Free" = some (.ref (He.ga K "Free"))
  x_InvalidTerm : OwnX K "InvalidTerm" "FaultError"
  n_Free_known : PySem.W.findIn K (.ref (He.ga K "Free")) "known" = some none
  n_Free_steps : PySem.W.findIn K (.ref (He.ga K "Free")) "steps" = some none
  n_Free_place : PySem.W.findIn K (.ref (He.ga K "Free")) "place" = some none
  k_Free : Cls K (He.ga K "Free")
  mk_Free : Mk K (He.ga K "Free") (He.ma K (He.ga K "Free") "__init__")
  m_Free_is_below : Meth K (He.ga K "Free") "is_below" (He.ma K (He.ga K "Free") "is_below")
  m_Free_reason_for : Meth K (He.ga K "Free") "reason_for" (He.ma K (He.ga K "Free") "reason_for")
  m_Free_added : Meth K (He.ga K "Free") "added" (He.ma K (He.ga K "Free") "added")
  m_Free_step_for : Meth K (He.ga K "Free") "step_for" (He.ma K (He.ga K "Free") "step_for")
  m_Free_written_reason : Meth K (He.ga K "Free") "written_reason" (He.ma K (He.ga K "Free") "written_reason")
  fe : FeC K "FaultError"
end FF
namespace FF
open PySem PySem.Spec PyProof.Rows L2
/-! ### the draws' source -/
def srcGood (c : Addr) (xs : List V) : Prop := ∃ pos big seed cnt : Int, xs = [.ref c, .int pos, .int big, .int seed, .int cnt] ∧ 0 ≤ pos ∧ 0 ≤ seed ∧ seed < 2147483629
/-- at s stands a source of draws -/
def Src (H : Hp) (s : Addr) : Prop := ∃ (c : Addr) (ns : List Int), H s = some (hid (srcGood c) s) ∧ H c = some (.lst (ns.map V.int))
theorem Src.up {H H' : Hp} {s : Addr} (e : Same H H') (h : Src H s) : Src H' s := by
  obtain ⟨c, ns, h1, h2⟩ := h
  exact ⟨c, ns, e _ _ h1, e _ _ h2⟩
def spTakeL : Sp := fun vs H Q _ => ∃ (s c : Addr) (many : Int) (xs : List V) (ns : List Int), vs = [.ref s, .int many] ∧ 0 < many ∧ many < 1073741824 ∧ H s = some (.lst xs) ∧ srcGood c xs ∧ H c = some (.lst (ns.map V.int)) ∧ c ≠ s ∧
  ∀ n ys, 0 ≤ n → n < many → srcGood c ys → Q (.int n) (upd H s (.lst ys))
/-- a draw: some number below many; nothing is seen to change -/
def spTake : Sp := fun vs H Q _ => ∃ (s : Addr) (many : Int), vs = [.ref s, .int many] ∧ 0 < many ∧ many < 1073741824 ∧ Src H s ∧ ∀ n, 0 ≤ n → n < many → Q (.int n) H
section
variable {P : Program} {w : World} {K : PySem.W.Frag} {mg : Str → Option Value} {base : Heap}
theorem ok_take {f : Addr} {fd : FuncData} (F : FunD K "_law_take" "_law_take" (defArgs s_law_take) (defBody s_law_take) (defScope s_law_take) [] [] f fd) (hm : mg "_law_take" = some (.ref f)) (T : Top K mg) : Def P w K mg base "_law_take" 1 ["_law_source_here", "_law_many"] spTakeL := by
  refine def_mk F hm (F.bindsN fun _ _ _ _ _ _ us hl => match us, hl with | [_, _], _ => rfl) sc_law_take (fun vs H Q E h => ?_) (fun cdv A outer s H vs Q E hr h => ?_)
  · obtain ⟨s, c, many, xs, ns, rfl, _⟩ := h
    rfl
  obtain ⟨s, c, many, xs, ns, rfl, m0, m1, hs, ⟨pos, big, seed, cnt, rfl, p0, s0, s1⟩, hc, ncs, q⟩ := h
  refine ⟨_, (C8.pss_cut (ps_if (PW.pt (pw_and (pt_cmpR op_eq (pe_ix (ix_listK K) (pv 0) pe_int (fun _ _ => rfl)) pe_int (nomark _)) (pw_and1 (pt_cmpR op_lt (pe_ix (ix_listK K) (pv 0) pe_int (fun _ _ => rfl)) (pe_callB (call_lenK K) (by rfl) T.b_len (by decide +kernel) (pa_cons (pe_ix (ix_listK K) (pv 0) pe_int (fun _ _ => rfl)) pa_nil)) (nomark _)))))
  (pss_cons (ps_set (i := 2) sc_law_take.nd rfl (Or.inl rfl) (pe_ix (ix_listK K) (pe_ix (ix_listK K) (pv 0) pe_int (fun _ _ => rfl)) (pe_ix (ix_listK K) (pv 0) pe_int (fun _ _ => rfl)) (fun _ _ => rfl)))
  (pss_cons (ps_asg (pe_op op_add (pe_ix (ix_listK K) (pv 0) pe_int (fun _ _ => rfl)) pe_int) (pg_sub (pv 0) pe_int set_list))
  (pss_one (ps_if (pt_cmpR op_ge (pv 2) (pe_op op_pow pe_int pe_int) (nomark _))
  (pss_one (ps_asg (pv 2) (pg_sub (pv 0) pe_int set_list)))
  (pss_one (ps_asg (pe_op op_mod (pe_callTy call_int1 (by rfl) T.b_int (by decide +kernel) (pa_cons (pe_op op_add (pe_op op_add (pe_op op_mul (pe_ix (ix_listK K) (pv 0) pe_int (fun _ _ => rfl)) pe_int) (pe_op op_mul (pe_op op_mod (pe_callTy call_int1 (by rfl) T.b_int (by decide +kernel) (pa_cons (pv 2) pa_nil)) pe_int) pe_int)) pe_int) pa_nil)) pe_int) (pg_sub (pv 0) pe_int set_list)))))))
  pss_nil)
  (pss_cons (ps_if (pt_cmpR op_gt (pe_ix (ix_listK K) (pv 0) pe_int (fun _ _ => rfl)) pe_int (nomark _))
  (pss_cons (ps_set (i := 3) sc_law_take.nd rfl (Or.inl rfl) (pe_op op_mod (pe_callTy call_int1 (by rfl) T.b_int (by decide +kernel) (pa_cons (pe_ix (ix_listK K) (pv 0) pe_int (fun _ _ => rfl)) pa_nil)) (pv 1)))
  (pss_cons (ps_asg (pe_op op_fdiv (pe_ix (ix_listK K) (pv 0) pe_int (fun _ _ => rfl)) (pv 1)) (pg_sub (pv 0) pe_int set_list))
  (pss_one (ps_ret (pv 3)))))
  pss_nil)
  (pss_cons (ps_asg (pe_op op_add (pe_ix (ix_listK K) (pv 0) pe_int (fun _ _ => rfl)) pe_int) (pg_sub (pv 0) pe_int set_list))
  (pss_cons (ps_set (i := 4) sc_law_take.nd rfl (Or.inl rfl) (pe_op op_add (pe_op op_mod (pe_callTy call_int1 (by rfl) T.b_int (by decide +kernel) (pa_cons (pe_op op_mul (pe_ix (ix_listK K) (pv 0) pe_int (fun _ _ => rfl)) (pe_ix (ix_listK K) (pv 0) pe_int (fun _ _ => rfl))) pa_nil)) pe_int) (pe_op op_mul pe_int (pe_ix (ix_listK K) (pv 0) pe_int (fun _ _ => rfl)))))
  (pss_cons (ps_asg (pe_op op_mod (pe_callTy call_int1 (by rfl) T.b_int (by decide +kernel) (pa_cons (pe_op op_add (pe_op op_add (pe_op op_mul (pv 4) pe_int) (pe_ix (ix_listK K) (pv 0) pe_int (fun _ _ => rfl))) pe_int) pa_nil)) pe_int) (pg_sub (pv 0) pe_int set_list))
  (pss_one (ps_ret (pe_op op_mod (pe_callTy call_int1 (by rfl) T.b_int (by decide +kernel) (pa_cons (pe_op op_add (pe_op op_fdiv (pe_ix (ix_listK K) (pv 0) pe_int (fun _ _ => rfl)) pe_int) (pe_op op_mul (pe_op op_mod (pe_callTy call_int1 (by rfl) T.b_int (by decide +kernel) (pa_cons (pe_ix (ix_listK K) (pv 0) pe_int (fun _ _ => rfl)) pa_nil)) pe_int) pe_int)) pa_nil)) (pv 1))))))))), ?_⟩
  refine ⟨fun σ' H' => ∃ (ys : List V) (oc : Option V), σ' = [some (.ref s), some (.int many), oc, none, none] ∧ H' = upd H s (.lst ys) ∧ srcGood c ys, ?_, ?_⟩
  · have skip : ∃ (ys : List V) (oc : Option V), ([some (.ref s), some (.int many), none, none, none] : L2.St) = [some (.ref s), some (.int many), oc, none, none] ∧ H = upd H s (.lst ys) ∧ srcGood c ys :=
      ⟨_, none, rfl, by
        funext b
        unfold upd
        split
        · next e => rw [e, hs]
        · rfl, pos, big, seed, cnt, rfl, p0, s0, s1⟩
    refine ⟨_, rfl, s, _, _, _, rfl, rfl, SqL.of hs, rfl, rfl, _, rfl, ?_⟩
    refine if_int (fun h1 => ?_) (fun h1 => skip)
    refine ⟨_, rfl, s, _, _, _, rfl, rfl, SqL.of hs, rfl, _, rfl, s, _, _, _, rfl, rfl, SqL.of hs, rfl, _, ns.length, rfl, .inl ⟨_, SqL.of hc, (List.length_map _).symm⟩, _, _, rfl, rfl, _, rfl, ?_⟩
    refine if_dec (fun h2 => ?_) (fun h2 => skip)
    have hp : pos.toNat < ns.length := by omega
    have hat : atI (ns.map V.int) pos = some (.int ns[pos.toNat]) := by
      have e : ((pos.toNat : Nat) : Int) = pos := by omega
      have h : atI (ns.map V.int) ((pos.toNat : Nat) : Int) = some (.int ns[pos.toNat]) := atI_nat (by rw [List.getElem?_map, List.getElem?_eq_getElem hp] <;> rfl)
      rw [e] at h
      exact h
    refine ⟨_, rfl, s, _, _, _, rfl, rfl, SqL.of hs, rfl, _, rfl, s, _, _, _, rfl, rfl, SqL.of hs, rfl, c, _, _, _, rfl, rfl, SqL.of hc, hat, ?_⟩
    refine ⟨_, rfl, s, _, _, _, rfl, rfl, SqL.of hs, rfl, _, _, rfl, rfl, _, rfl, s, _, _, 1, rfl, rfl, hs, rfl, ?_⟩
    refine ⟨_, rfl, _, _, rfl, rfl, ⟨by decide, by decide, by decide⟩, _, _, rfl, rfl, _, rfl, ?_⟩
    refine if_dec (fun h3 => ?_) (fun h3 => ?_)
    · refine ⟨_, rfl, _, rfl, s, _, _, 2, rfl, rfl, upd_same, rfl, ?_⟩
      rw [upd_upd]
      exact ⟨_, _, rfl, rfl, pos + 1, _, seed, cnt, rfl, by omega, s0, s1⟩
    · refine ⟨_, rfl, s, _, _, _, rfl, rfl, SqL.of upd_same, rfl, _, _, rfl, rfl, .inr ⟨by decide, by decide⟩, ?_⟩
      refine ⟨_, rfl, .inl ⟨_, rfl, _, _, rfl, rfl, (by show (0 : Int) < _; decide), _, _, rfl, rfl, .inr ⟨by decide, by decide⟩, _, _, rfl, rfl, _, _, rfl, rfl, .inl ⟨_, rfl, _, _, rfl, rfl, (by show (0 : Int) < _; decide), _, rfl, s, _, _, 3, rfl, rfl, upd_same, rfl, ?_⟩⟩⟩
      rw [upd_upd]
      exact ⟨_, _, rfl, rfl, pos + 1, _, _, cnt, rfl, by omega, Int.emod_nonneg _ (by decide), Int.emod_lt_of_pos _ (by decide)⟩
  · rintro _ _ ⟨_, oc, rfl, rfl, pos, big, seed, cnt, rfl, p0, s0, s1⟩
    refine ⟨_, rfl, s, _, _, _, rfl, rfl, SqL.of upd_same, rfl, _, _, rfl, rfl, _, rfl, ?_⟩
    refine if_dec (fun h1 => ?_) (fun h1 => ?_)
    · refine ⟨_, rfl, s, _, _, _, rfl, rfl, SqL.of upd_same, rfl, .inl ⟨_, rfl, _, rfl, _, _, rfl, rfl, m0, ?_⟩⟩
      refine ⟨_, rfl, s, _, _, _, rfl, rfl, SqL.of upd_same, rfl, _, rfl, _, _, rfl, rfl, ⟨m0, m1⟩, _, rfl, s, _, _, 2, rfl, rfl, upd_same, rfl, _, rfl, ?_⟩
      rw [upd_upd]
      exact q _ _ (Int.emod_nonneg _ (by omega)) (Int.emod_lt_of_pos _ m0) ⟨pos, _, seed, cnt, rfl, p0, s0, s1⟩
    · refine ⟨_, rfl, s, _, _, _, rfl, rfl, SqL.of upd_same, rfl, _, _, rfl, rfl, _, rfl, s, _, _, 4, rfl, rfl, upd_same, rfl, ?_⟩
      rw [upd_upd]
      refine ⟨_, rfl, s, _, _, _, rfl, rfl, SqL.of upd_same, rfl, _, rfl, s, _, _, _, rfl, rfl, SqL.of upd_same, rfl, _, _, rfl, rfl, .inl ⟨by omega, by omega⟩, .inl ⟨_, rfl, _, _, rfl, rfl, (by show (0 : Int) < _; decide), _, rfl, s, _, _, _, rfl, rfl, SqL.of upd_same, rfl, _, _, rfl, rfl, .inl ⟨by decide, by decide⟩, _, _, rfl, rfl, ?_⟩⟩
      refine ⟨_, rfl, _, _, rfl, rfl, .inr ⟨by decide, by decide⟩, _, rfl, s, _, _, _, rfl, rfl, SqL.of upd_same, rfl, _, _, rfl, rfl, _, _, rfl, rfl, .inl ⟨_, rfl, _, _, rfl, rfl, (by show (0 : Int) < _; decide), _, rfl, s, _, _, 3, rfl, rfl, upd_same, rfl, ?_⟩⟩
      rw [upd_upd]
      refine ⟨_, rfl, s, _, _, _, rfl, rfl, SqL.of upd_same, rfl, _, _, rfl, rfl, ⟨by decide, by decide⟩, _, rfl, s, _, _, _, rfl, rfl, SqL.of upd_same, rfl, .inl ⟨_, rfl, _, _, rfl, rfl, (by show (0 : Int) < _; decide), _, _, rfl, rfl, .inr ⟨by decide, by decide⟩, _, _, rfl, rfl, .inl ⟨_, rfl, _, rfl, _, _, rfl, rfl, m0, ?_⟩⟩⟩
      exact q _ _ (Int.emod_nonneg _ (by omega)) (Int.emod_lt_of_pos _ m0) ⟨pos, _, _, _, rfl, p0, Int.emod_nonneg _ (by decide), Int.emod_lt_of_pos _ (by decide)⟩
theorem take_hid (D : Def P w K mg base "_law_take" 1 ["_law_source_here", "_law_many"] spTakeL) : Def P w K mg base "_law_take" 1 ["_law_source_here", "_law_many"] spTake := by
  refine D.open_ (fun vs H Q E h => ?_) (fun vs H Q E h => ?_)
  · obtain ⟨s, many, rfl, _⟩ := h
    rfl
  · obtain ⟨s, many, rfl, m0, m1, ⟨c, ns, hs, hc⟩, q⟩ := h
    have ncs : c ≠ s := by
      intro e
      rw [e, hs] at hc
      cases hc
    refine ⟨s, srcGood c, hs, fun xs hg => ⟨s, c, many, xs, ns, rfl, m0, m1, upd_same, hg, by rw [upd_ne ncs]; exact hc, ncs, fun n ys n0 n1 hy => ⟨ys, upd_same, hy, ?_⟩⟩⟩
    rw [upd_upd, upd_back hs]
    exact q n n0 n1
end
end FF
namespace FF
open PySem PySem.Spec PyProof.Rows L2
theorem cutV_map {α : Type} {f : α → V} {l : List α} {lo hi : Option Int} : ∃ m : List α, cutV (l.map f) lo hi = m.map f ∧ m.length ≤ l.length := by
  refine ⟨(l.drop (HT.sIx l.length 0 lo)).take (HT.sIx l.length l.length hi - HT.sIx l.length 0 lo), ?_, ?_⟩
  · unfold cutV
    rw [List.length_map, List.map_take, List.map_drop]
  · rw [List.length_take, List.length_drop]
    omega
theorem cut_front {xs : List V} {k : Int} (h0 : 0 ≤ k) : cutV xs none (some k) = xs.take k.toNat := by
  obtain ⟨n, rfl⟩ : ∃ n : Nat, k = (n : Int) := ⟨k.toNat, by omega⟩
  unfold cutV
  rw [HT.sIx_none, HT.sIx_nat, List.drop_zero, Nat.sub_zero, Int.toNat_natCast]
  rcases Nat.le_total n xs.length with h | h
  · rw [Nat.min_eq_left h]
  · rw [Nat.min_eq_right h, List.take_length, List.take_of_length_le h]
def spSourceL (K : PySem.W.Frag) : Sp := fun vs H Q _ => ∃ (a : Addr) (ns : List Int), vs = [.ref a] ∧ SqL K H a (ns.map V.int) ∧
  ∀ (r c : Addr) (ms : List Int) H', H r = none → Same H H' → H' r = some (.lst [.ref c, .int 0, .int 0, .int 3818, .int 0]) → H' c = some (.lst (ms.map V.int)) → r ≠ c → Q (.ref r) H'
def spSource (K : PySem.W.Frag) : Sp := fun vs H Q _ => ∃ (a : Addr) (ns : List Int), vs = [.ref a] ∧ SqL K H a (ns.map V.int) ∧ ∀ (r : Addr) H', Same H H' → Src H' r → Q (.ref r) H'
def spPick (K : PySem.W.Frag) : Sp := fun vs H Q _ => ∃ (s r : Addr) (xs : List V), vs = [.ref s, .ref r] ∧ Src H s ∧ SqL K H r xs ∧ xs ≠ [] ∧ xs.length ≤ 20000 ∧ ∀ v, v ∈ xs → Q v H
def spMixed (K : PySem.W.Frag) : Sp := fun vs H Q _ => ∃ (s r : Addr) (xs : List V), vs = [.ref s, .ref r] ∧ Src H s ∧ SqL K H r xs ∧ xs.length ≤ 20000 ∧
  ∀ (p : Addr) H' ys, H p = none → Same H H' → H' p = some (.lst ys) → ys.Perm xs → Q (.ref p) H'
section
variable {P : Program} {w : World} {K : PySem.W.Frag} {mg : Str → Option Value} {base : Heap}
theorem ok_source {f : Addr} {fd : FuncData} (F : FunD K "_law_source" "_law_source" (defArgs s_law_source) (defBody s_law_source) (defScope s_law_source) [] [] f fd) (hm : mg "_law_source" = some (.ref f)) (T : Top K mg) : Def P w K mg base "_law_source" 1 ["_law_script"] (spSource K) := by
  have D : Def P w K mg base "_law_source" 1 ["_law_script"] (spSourceL K) := by
    refine def_mk F hm (F.bindsN fun _ _ _ _ _ _ us hl => match us, hl with | [_], _ => rfl) sc_law_source (fun vs H Q E h => ?_) (fun cdv A outer s H vs Q E hr h => ?_)
    · obtain ⟨a, ns, rfl, _⟩ := h
      rfl
    obtain ⟨a, ns, rfl, hS, q⟩ := h
    refine ⟨_, (pss_one (ps_ret (pe_lst (pa_cons (pe_callTy (call_list_ofK K) (by rfl) T.b_list (by decide +kernel) (pa_cons (pe_slice (sl_listK K) (pv 0) po_none (po_some pe_int)) pa_nil)) (pa_cons pe_int (pa_cons pe_int (pa_cons pe_int (pa_cons pe_int pa_nil)))))))), ?_⟩
    refine ⟨_, rfl, 63, rfl, a, _, rfl, hS, fun p hp => ⟨p, _, rfl, .inl (SqL.of upd_same), fun l hl => ⟨(by show 5 ≤ sizeLine; decide), fun r hr0 => ?_⟩⟩⟩
    obtain ⟨ms, hms, _⟩ := cutV_map (f := V.int) (l := ns) (lo := none) (hi := some 63)
    rw [hms] at hl hr0 ⊢
    have e1 := same_new hp (.lst (ms.map V.int))
    have e2 := same_new hl (.lst (ms.map V.int))
    have e3 := same_new hr0 (.lst [.ref l, .int 0, .int 0, .int 3818, .int 0])
    have nrl : r ≠ l := fun z => by rw [z, upd_same] at hr0; cases hr0
    exact q r l ms _ ((e1.trans e2).free hr0) ((e1.trans e2).trans e3) upd_same (by rw [upd_ne nrl.symm]; exact upd_same) nrl
  refine D.shut_ (fun vs H Q E h => ?_) (fun vs H Q E h => ?_)
  · obtain ⟨a, ns, rfl, _⟩ := h
    rfl
  · obtain ⟨a, ns, rfl, hS, q⟩ := h
    refine ⟨a, ns, rfl, hS, fun r c ms H' hr0 e hr1 hc nrc => ⟨r, srcGood c, _, hr0, hr1, ⟨0, 0, 3818, 0, rfl, by omega, by omega, by omega⟩, ?_⟩⟩
    refine q r _ (fun b o h => ?_) ⟨c, ms, upd_same, by rw [upd_ne nrc.symm]; exact hc⟩
    rw [upd_ne (ne_of_none h hr0)]
    exact e _ _ h
theorem ok_pick {f : Addr} {fd : FuncData} (F : FunD K "_law_pick" "_law_pick" (defArgs s_law_pick) (defBody s_law_pick) (defScope s_law_pick) [] [] f fd) (hm : mg "_law_pick" = some (.ref f)) (T : Top K mg)
    (D_law_take : Def P w K mg base "_law_take" 1 ["_law_source_here", "_law_many"] spTake) : Def P w K mg base "_law_pick" 2 ["_law_source_here", "_law_row"] (spPick K) := by
  refine def_mk F hm (F.bindsN fun _ _ _ _ _ _ us hl => match us, hl with | [_, _], _ => rfl) sc_law_pick (fun vs H Q E h => ?_) (fun cdv A outer s H vs Q E hr h => ?_)
  · obtain ⟨s, r, xs, rfl, _⟩ := h
    rfl
  obtain ⟨s, r, xs, rfl, hs, hx, hn, hz, q⟩ := h
  have hl : 0 < xs.length := List.length_pos_iff.mpr hn
  refine ⟨_, (pss_one (ps_ret (pe_ix (ix_listK K) (pv 1) (pe_def D_law_take hr (by first | decide | omega) (pa_cons (pv 0) (pa_cons (pe_callB (call_lenK K) (by rfl) T.b_len (by decide +kernel) (pa_cons (pv 1) pa_nil)) pa_nil))) (fun _ _ => rfl)))), ?_⟩
  refine ⟨_, rfl, _, rfl, _, rfl, _, xs.length, rfl, .inl ⟨_, hx, rfl⟩, s, _, rfl, by omega, by omega, hs, fun k k0 k1 => ?_⟩
  have hk : k.toNat < xs.length := by omega
  have hat : atI xs k = some xs[k.toNat] := by
    have e : ((k.toNat : Nat) : Int) = k := by omega
    have h : atI xs ((k.toNat : Nat) : Int) = some xs[k.toNat] := atI_nat (List.getElem?_eq_getElem hk)
    rw [e] at h
    exact h
  exact ⟨r, xs, k, _, rfl, rfl, hx, hat, q _ (List.getElem_mem hk)⟩
theorem ok_mixed {f : Addr} {fd : FuncData} (F : FunD K "_law_mixed" "_law_mixed" (defArgs s_law_mixed) (defBody s_law_mixed) (defScope s_law_mixed) [] [] f fd) (hm : mg "_law_mixed" = some (.ref f)) (T : Top K mg)
    (D_law_take : Def P w K mg base "_law_take" 1 ["_law_source_here", "_law_many"] spTake) : Def P w K mg base "_law_mixed" 2 ["_law_source_here", "_law_row"] (spMixed K) := by
  refine def_mk F hm (F.bindsN fun _ _ _ _ _ _ us hl => match us, hl with | [_, _], _ => rfl) sc_law_mixed (fun vs H Q E h => ?_) (fun cdv A outer s H vs Q E hr h => ?_)
  · obtain ⟨s, r, xs, rfl, _⟩ := h
    rfl
  obtain ⟨s, r, xs, rfl, hs, hx, hz, q⟩ := h
  refine ⟨_, (pss_cons (ps_set (i := 2) sc_law_mixed.nd rfl (Or.inl rfl) (pe_lst pa_nil))
  (pss_cons (ps_for PassesOwn.never rfl (pi_listK K (pv 1)) (pg_name (i := 3) sc_law_mixed.nd rfl (Or.inl rfl) (.inl rfl))
  (pss_one (ps_expr (pe_bmK K PySem.F.plainAttrs_list PySem.F.slot_list_insert PySem.F.type_list_insert mt_insert (pv 2) (pa_cons (pe_def D_law_take hr (by first | decide | omega) (pa_cons (pv 0) (pa_cons (pe_op op_add (pe_callB (call_lenK K) (by rfl) T.b_len (by decide +kernel) (pa_cons (pv 2) pa_nil)) pe_int) pa_nil))) (pa_cons (pv 3) pa_nil))))))
  (pss_one (ps_ret (pv 2))))), ?_⟩
  refine ⟨by decide, fun p hp => ?_⟩
  have e1 := same_new hp (.lst [])
  refine ⟨_, rfl, r, rfl, ⟨_, up_l e1 hx⟩, for_list (K := K) (a := r) (xs := xs) (fun i σ H' => ∃ (ys : List V) (o : Option V), σ = [some (.ref s), some (.ref r), some (.ref p), o] ∧ Same H H' ∧ H' p = some (.lst ys) ∧ ys.Perm (xs.take i))
    ⟨[], none, rfl, e1, upd_same, by rw [List.take_zero]⟩ (fun i σ H' _ ⟨_, _, _, e, _⟩ => up_l e hx) ?_ ?_⟩
  · rintro i x σ H' hi ⟨ys, o, rfl, e, hp1, hperm⟩
    have hi2 := (List.getElem?_eq_some_iff.mp hi).1
    have hyl : ys.length = i := by
      rw [hperm.length_eq, List.length_take]
      omega
    refine ⟨_, rfl, .inl ⟨rfl, _, SqL.of hp1⟩, _, rfl, _, rfl, _, ys.length, rfl, .inl ⟨_, SqL.of hp1, rfl⟩, _, _, rfl, rfl, s, _, rfl, by omega, by omega, hs.up e, fun k k0 k1 => ?_⟩
    refine ⟨_, rfl, p, ys, k, x, rfl, rfl, hp1, lt_line (by omega), k0, by omega, ?_⟩
    refine ⟨_, _, rfl, fun b o2 h => ?_, upd_same, ?_⟩
    · rw [upd_ne (ne_of_none h hp)]
      exact e _ _ h
    · rw [List.take_succ, hi]
      have h1 : (ys.take k.toNat ++ [x] ++ ys.drop k.toNat).Perm (x :: ys) := by
        rw [List.append_assoc]
        refine List.perm_middle.trans ?_
        show (x :: (ys.take k.toNat ++ ys.drop k.toNat)).Perm _
        rw [List.take_append_drop]
      refine h1.trans ?_
      refine (List.Perm.cons x hperm).trans ?_
      exact (List.perm_append_singleton x (xs.take i)).symm
  · rintro σ H' ⟨ys, o, rfl, e, hp1, hperm⟩
    rw [List.take_length] at hperm
    exact ⟨_, rfl, q p H' ys hp e hp1 hperm⟩
end
end FF
namespace FF
open PySem PySem.Spec PyProof.Rows L2
/-! ### drawn terms -/
/-- a drawn term: n operators deep at most -/
def Drawn : Nat → PyData → Prop
  | 0, d => isLet d = true
  | n + 1, d => isLet d = true ∨ ∃ o ps, d = .tuple (o :: ps) ∧ isOp o = true ∧ 2 ≤ ps.length ∧ ps.length ≤ 24 ∧ ∀ p, p ∈ ps → Drawn n p
theorem let_shape {d : PyData} (h : isLet d = true) : ∃ c, d = .str ⟨#[c]⟩ ∧ c ∈ lettersS.cps.toList := by
  cases d with
  | str z =>
    obtain ⟨⟨l⟩⟩ := z
    match l, h with
    | [c], h => exact ⟨c, rfl, of_decide_eq_true h⟩
  | _ => cases h
theorem lettersS_val : lettersS.cps.toList = [97, 98, 99, 100, 101, 102, 103, 104] := by decide +kernel
theorem let_nice {d : PyData} (h : isLet d = true) : nice d = true := by
  obtain ⟨c, rfl, hc⟩ := let_shape h
  rw [lettersS_val] at hc
  simp only [nice, Bool.and_eq_true, decide_eq_true_eq]
  refine ⟨by show 1 ≤ 20000; decide, ?_⟩
  show (#[c].all fun x => decide (x < 0x110000)) = true
  have : c < 0x110000 := by
    simp only [List.mem_cons, List.not_mem_nil, or_false] at hc
    omega
  simp [this]
theorem let_depth {d : PyData} (h : isLet d = true) : d.depth = 0 := by
  obtain ⟨c, rfl, hc⟩ := let_shape h
  rw [PyData.depth]
theorem op_shape {d : PyData} (h : isOp d = true) : d = .str ("&" : Str) ∨ d = .str ("|" : Str) := by
  cases d with
  | str z =>
    have h2 : (decide (z = ("&" : Str)) || decide (z = ("|" : Str))) = true := h
    rw [Bool.or_eq_true, decide_eq_true_eq, decide_eq_true_eq] at h2
    rcases h2 with e | e
    · exact .inl (by rw [e])
    · exact .inr (by rw [e])
  | _ => cases h
theorem op_nice {d : PyData} (h : isOp d = true) : Nice 0 d := by
  rcases op_shape h with rfl | rfl
  · exact ⟨by decide +kernel, by rw [PyData.depth]; exact Nat.le_refl _⟩
  · exact ⟨by decide +kernel, by rw [PyData.depth]; exact Nat.le_refl _⟩
theorem drawn_nice : ∀ {n : Nat} {d : PyData}, Drawn n d → Nice n d
  | 0, d, h => ⟨let_nice h, Nat.le_of_eq (let_depth h)⟩
  | n + 1, d, h => by
    rcases h with h | ⟨o, ps, rfl, ho, h2, h4, hp⟩
    · exact ⟨let_nice h, by rw [let_depth h]; omega⟩
    · refine Nice.tuple (by simp; omega) fun p hm => ?_
      rcases List.mem_cons.mp hm with e | hm
      · rw [e]
        exact (op_nice ho).mono (Nat.zero_le _)
      · exact drawn_nice (hp p hm)
theorem drawn_mono : ∀ {m n : Nat} {d : PyData}, Drawn m d → m ≤ n → Drawn n d
  | 0, 0, _, h, _ => h
  | 0, _ + 1, _, h, _ => .inl h
  | m + 1, n + 1, _, h, hm => by
    rcases h with h | ⟨o, ps, e, ho, h2, h4, hp⟩
    · exact .inl h
    · exact .inr ⟨o, ps, e, ho, h2, h4, fun p hm2 => drawn_mono (hp p hm2) (by omega)⟩
def isRoom (xs : List V) : Prop := ∃ r : Int, xs = [.int r]
theorem tpAll_of {K : PySem.W.Frag} {H : Hp} {Pr : PyData → Prop} : ∀ {ys : List V}, (∀ (i : Nat) (y : V), ys[i]? = some y → ∃ d, Tp K H y d ∧ Pr d) → ∃ ds, TpAll K H ys ds ∧ ∀ d, d ∈ ds → Pr d
  | [], _ => ⟨[], .nil, fun _ h => by cases h⟩
  | y :: ys, h => by
    obtain ⟨d, h1, h2⟩ := h 0 y rfl
    obtain ⟨ds, h3, h4⟩ := tpAll_of (ys := ys) fun i u hu => h (i + 1) u hu
    refine ⟨d :: ds, .cons h1 h3, fun e he => ?_⟩
    rcases List.mem_cons.mp he with q | q
    · rw [q]; exact h2
    · exact h4 e q
def spSigns : Sp := fun vs H Q _ => ∃ (s : Addr) (most : Int), vs = [.ref s, .int most] ∧ 0 < most ∧ most < 1073741824 ∧ Src H s ∧
  ∀ (p : Addr) H' zs, Same H H' → H' p = some (.lst (zs.map V.str)) → zs ≠ [] → zs.length ≤ 8 → (∀ z, z ∈ zs → isLetS z = true) → Q (.ref p) H'
def spAnyTerm (K : PySem.W.Frag) (n : Nat) : Sp := fun vs H Q _ => ∃ (s : Addr), vs = [.ref s] ∧ Src H s ∧ ∀ v H' d, Same H H' → Tp K H' v d → Drawn n d → Q v H'
section
variable {P : Program} {w : World} {K : PySem.W.Frag} {mg : Str → Option Value} {base : Heap}
theorem ok_signs {f : Addr} {fd : FuncData} (F : FunD K "_law_signs" "_law_signs" (defArgs s_law_signs) (defBody s_law_signs) (defScope s_law_signs) [] [] f fd) (hm : mg "_law_signs" = some (.ref f)) (T : Top K mg)
    (D_law_take : Def P w K mg base "_law_take" 1 ["_law_source_here", "_law_many"] spTake) (D_law_mixed : Def P w K mg base "_law_mixed" 2 ["_law_source_here", "_law_row"] (spMixed K)) : Def P w K mg base "_law_signs" 3 ["_law_source_here", "_law_most"] spSigns := by
  refine def_mk F hm (F.bindsN fun _ _ _ _ _ _ us hl => match us, hl with | [_, _], _ => rfl) sc_law_signs (fun vs H Q E h => ?_) (fun cdv A outer s H vs Q E hr h => ?_)
  · obtain ⟨s, m, rfl, _⟩ := h
    rfl
  obtain ⟨s, m, rfl, m0, m1, hs, q⟩ := h
  refine ⟨_, (pss_cons (ps_set (i := 2) sc_law_signs.nd rfl (Or.inl rfl) (pe_def D_law_mixed hr (by first | decide | omega) (pa_cons (pv 0) (pa_cons (pe_callTy (call_list_s rfl) (by rfl) T.b_list (by decide +kernel) (pa_cons pe_str pa_nil)) pa_nil))))
  (pss_one (ps_ret (pe_slice (sl_listK K) (pv 2) po_none (po_some (pe_op op_add pe_int (pe_def D_law_take hr (by first | decide | omega) (pa_cons (pv 0) (pa_cons (pv 1) pa_nil))))))))), ?_⟩
  refine ⟨_, rfl, lettersS, rfl, by decide +kernel, fun l hl => ?_⟩
  have e1 := same_new hl (.lst (lettersS.cps.toList.map fun c => V.str ⟨#[c]⟩))
  refine ⟨s, l, _, rfl, hs.up e1, SqL.of upd_same, by rw [List.length_map, lettersS_val]; decide, fun p H' ys hp e2 hp2 hperm => ?_⟩
  have e3 := e1.trans e2
  refine ⟨_, rfl, _, rfl, _, rfl, s, m, rfl, m0, m1, hs.up e3, fun n n0 n1 => ?_⟩
  refine ⟨_, _, rfl, rfl, _, rfl, p, _, rfl, SqL.of hp2, fun r hr0 => ?_⟩
  have ek : (1 + n).toNat = n.toNat + 1 := by omega
  have hperm2 : ys.Perm (lettersS.cps.toList.map fun c => V.str ⟨#[c]⟩) := hperm
  have hlen : ys.length = 8 := by rw [hperm2.length_eq, List.length_map, lettersS_val] <;> rfl
  have hall : ∀ y, y ∈ ys → ∃ z : Str, y = .str z ∧ isLetS z = true := fun y hy => by
    obtain ⟨c, hc, rfl⟩ := List.mem_map.mp (hperm2.mem_iff.mp hy)
    exact ⟨_, rfl, decide_eq_true hc⟩
  obtain ⟨zs, hzs, hz2⟩ : ∃ zs : List Str, ys = zs.map V.str ∧ ∀ z, z ∈ zs → isLetS z = true := by
    clear hperm hperm2 hlen hp2 hr0
    induction ys with
    | nil => exact ⟨[], rfl, fun z h => by cases h⟩
    | cons y ys ih =>
      obtain ⟨z, rfl, hz⟩ := hall y (List.mem_cons_self ..)
      obtain ⟨zs, rfl, h2⟩ := ih fun y hy => hall y (List.mem_cons_of_mem _ hy)
      refine ⟨z :: zs, rfl, fun u hu => ?_⟩
      rcases List.mem_cons.mp hu with e | hu
      · rw [e]; exact hz
      · exact h2 u hu
  subst hzs
  rw [cut_front (by omega), ek, ← List.map_take]
  rw [List.length_map] at hlen
  refine q r _ (zs.take (n.toNat + 1)) (e3.trans (same_new hr0 _)) upd_same ?_ ?_ (fun z hz => hz2 z (List.mem_of_mem_take hz))
  · intro e
    have := congrArg List.length e
    rw [List.length_take, List.length_nil] at this
    omega
  · rw [List.length_take]
    omega
end
end FF
namespace FF
open PySem PySem.Spec PyProof.Rows L2
theorem sum_in {f : PyData → Int} {B : Int} : ∀ {l : List PyData}, (∀ p ∈ l, 1 ≤ f p ∧ f p ≤ B) → (0 : Int) ∉ l.map f ∧ (l.length : Int) ≤ (l.map f).sum ∧ (l.map f).sum ≤ (l.length : Int) * B
  | [], _ => ⟨by simp, by simp, by simp⟩
  | x :: r, h => by
    obtain ⟨h1, h2, h3⟩ := sum_in (l := r) fun p hp => h p (List.mem_cons_of_mem _ hp)
    obtain ⟨a1, a2⟩ := h x List.mem_cons_self
    refine ⟨fun z => ?_, ?_, ?_⟩
    · rcases List.mem_cons.mp (show (0 : Int) ∈ f x :: r.map f from z) with z | z
      · omega
      · exact h1 z
    · rw [List.map_cons, List.sum_cons, List.length_cons]
      omega
    · rw [List.map_cons, List.sum_cons, List.length_cons]
      have : ((r.length + 1 : Nat) : Int) * B = (r.length : Int) * B + B := by
        rw [Int.natCast_add, Int.add_mul]
        simp
      omega
theorem tup_let {ps : List PyData} : isLet (.tuple ps) = false := rfl
theorem meas_drawn : ∀ {n : Nat} {d : PyData}, Drawn n d → ∀ m, n < m → 1 ≤ meas m d ∧ meas m d ≤ ((24 ^ n : Nat) : Int)
  | 0, d, h, m, hm => by
    rw [meas_let (show isLet d = true from h), if_pos (by omega)]
    exact ⟨Int.le_refl _, Int.le_refl _⟩
  | n + 1, d, h, m, hm => by
    rcases h with h | ⟨o, ps, rfl, ho, h2, h4, hp⟩
    · rw [meas_let h, if_pos (by omega)]
      refine ⟨Int.le_refl _, ?_⟩
      have : 1 ≤ 24 ^ (n + 1) := Nat.one_le_pow _ _ (by decide)
      omega
    obtain ⟨k, rfl⟩ : ∃ k, m = k + 1 := ⟨m - 1, by omega⟩
    rw [meas_up tup_let (by omega)]
    have hs := sum_in (f := meas k) (B := ((24 ^ n : Nat) : Int)) (l := ps) fun p hpp => meas_drawn (hp p hpp) k (by omega)
    match ps, h2, h4, hs with
    | y :: z :: r, h2, h4, hs =>
      show 1 ≤ (if isOp o = true then (if (0 : Int) ∈ ((y :: z :: r).map (meas k)) then 0 else ((y :: z :: r).map (meas k)).sum) else 0) ∧ (if isOp o = true then (if (0 : Int) ∈ ((y :: z :: r).map (meas k)) then 0 else ((y :: z :: r).map (meas k)).sum) else 0) ≤ _
      rw [if_pos ho, if_neg hs.1]
      refine ⟨Int.le_trans (by simp only [List.length_cons]; omega) hs.2.1, Int.le_trans hs.2.2 ?_⟩
      rw [Nat.pow_succ, Nat.mul_comm, Int.natCast_mul]
      exact Int.mul_le_mul_of_nonneg_right (by omega) (Int.natCast_nonneg _)
end FF
namespace FF
open PySem PySem.Spec PyProof.Rows L2
def spTermR (K : PySem.W.Frag) (n : Nat) : Sp := fun vs H Q _ => ∃ (s g rm c : Addr) (deep r : Int) (zs : List Str) (ns : List Int), vs = [.ref s, .ref g, .int deep, .ref rm] ∧ H s = some (hid (srcGood c) s) ∧ H c = some (.lst (ns.map V.int)) ∧ c ≠ rm ∧ H g = some (.lst (zs.map V.str)) ∧ zs ≠ [] ∧ zs.length ≤ 20000 ∧ (∀ z, z ∈ zs → isLetS z = true) ∧
  H rm = some (.lst [.int r]) ∧ 0 ≤ r ∧ r < 1000 ∧ deep.toNat < n ∧ ∀ v H' d r', SameB rm H H' → H' rm = some (.lst [.int r']) → 0 ≤ r' → r' ≤ r → Tp K H' v d → Drawn (deep.toNat - 1) d → (∀ m, deep.toNat - 1 < m → meas m d = r - r' + 1) → Q v H'
def spAnyR (K : PySem.W.Frag) : Sp := fun vs H Q _ => ∃ (s : Addr), vs = [.ref s] ∧ Src H s ∧ ∀ v H' d, Same H H' → Tp K H' v d → Drawn 4 d → meas 5 d ≤ 24 → Q v H'
theorem sameB_refl {a : Addr} {H : Hp} : SameB a H H := fun _ _ _ h => h
theorem SameB.trans' {a : Addr} {H H1 H2 : Hp} (x : SameB a H H1) (y : SameB a H1 H2) : SameB a H H2 := fun b u n h => y b u n (x b u n h)
theorem sameB_of {a : Addr} {H H1 : Hp} (x : Same H H1) : SameB a H H1 := fun b u _ h => x b u h
theorem sameB_upd {a : Addr} {H : Hp} {o : HO} : SameB a H (upd H a o) := fun b u n h => by rw [upd_ne n]; exact h
theorem tpa_snoc {K : PySem.W.Frag} {H : Hp} {v : V} {d : PyData} (h : Tp K H v d) : ∀ {vs : List V} {ds : List PyData}, TpAll K H vs ds → TpAll K H (vs ++ [v]) (ds ++ [d])
  | _, _, .nil => .cons h .nil
  | _, _, .cons x r => .cons x (tpa_snoc h r)
section
variable {P : Program} {w : World} {K : PySem.W.Frag} {mg : Str → Option Value} {base : Heap}
theorem ok_termR_step {n : Nat} {f : Addr} {fd : FuncData} (F : FunD K "_law_term" "_law_term" (defArgs s_law_term) (defBody s_law_term) (defScope s_law_term) [] [] f fd) (hm : mg "_law_term" = some (.ref f)) (T : Top K mg)
    (D_law_take : Def P w K mg base "_law_take" 1 ["_law_source_here", "_law_many"] spTake) (D_law_pick : Def P w K mg base "_law_pick" 2 ["_law_source_here", "_law_row"] (spPick K))
    (D_law_term : Def P w K mg base "_law_term" (n + 2) ["_law_source_here", "_law_signs_here", "_law_deep", "_law_room"] (spTermR K n)) : Def P w K mg base "_law_term" (n + 3) ["_law_source_here", "_law_signs_here", "_law_deep", "_law_room"] (spTermR K (n + 1)) := by
  refine def_mk F hm (F.bindsN fun _ _ _ _ _ _ us hl => match us, hl with | [_, _, _, _], _ => rfl) sc_law_term (fun vs H Q E h => ?_) (fun cdv A outer s H vs Q E hr h => ?_)
  · obtain ⟨s, g, rm, c, m, r, zs, ns, rfl, _⟩ := h
    rfl
  obtain ⟨s, g, rm, c, m, r, zs, ns, rfl, hs, hc, hcr, hg, hz, hzl, hlet, hrm, r0, r1, hmn, q⟩ := h
  have hsrc : Src H s := ⟨c, ns, hs, hc⟩
  have hgr : g ≠ rm := fun e => by
    rw [e, hrm] at hg
    have e2 : ([V.int r] : List V) = zs.map V.str := HO.lst.inj (Option.some.inj hg)
    cases zs with
    | nil => exact hz rfl
    | cons z t => cases (List.cons.inj e2).1
  have hsr : s ≠ rm := fun e => by
    rw [e, hrm] at hs
    exact hid_lst (Option.some.inj hs).symm
  refine ⟨_, (pss_cons (ps_set (i := 4) sc_law_term.nd rfl (Or.inl rfl) (pe_op op_add pe_int (pe_op op_fdiv (pe_def D_law_take hr (by first | decide | omega) (pa_cons (pv 0) (pa_cons pe_int pa_nil))) pe_int)))
  (pss_cons (ps_if (PW.pt (pw_or (pt_cmpR op_lt (pv 2) pe_int (nomark _)) (pw_or (pt_cmpR op_lt (pe_ix (ix_listK K) (pv 3) pe_int (fun _ _ => rfl)) (pe_op op_sub (pv 4) pe_int) (nomark _)) (pw_or1 (pt_cmpR op_eq (pe_def D_law_take hr (by first | decide | omega) (pa_cons (pv 0) (pa_cons pe_int pa_nil))) pe_int (nomark _))))))
  (pss_one (ps_ret (pe_def D_law_pick hr (by first | decide | omega) (pa_cons (pv 0) (pa_cons (pv 1) pa_nil)))))
  pss_nil)
  (pss_cons (ps_asg (pe_op op_add (pe_op op_sub (pe_ix (ix_listK K) (pv 3) pe_int (fun _ _ => rfl)) (pv 4)) pe_int) (pg_sub (pv 3) pe_int set_list))
  (pss_cons (ps_set (i := 5) sc_law_term.nd rfl (Or.inl rfl) (pe_def D_law_pick hr (by first | decide | omega) (pa_cons (pv 0) (pa_cons (pe_lst (pa_cons pe_str (pa_cons pe_str pa_nil))) pa_nil))))
  (pss_one (ps_ret (pe_callTy (call_tuple_ofK K) (by rfl) T.b_tuple (by decide +kernel) (pa_cons (pe_op op_cat (pe_lst (pa_cons (pv 5) pa_nil)) (pe_lc (own := [("_law_k", 6)]) rfl sc_law_term.nd (pi_range1 (by rfl) T.b_range (pa_cons (pv 4) pa_nil)) (blkOk_by (by kernel_rfl)) (fun _ _ _ _ _ => (pg_name (i := 6) sc_law_term.nd rfl (Or.inl rfl) (.inr rfl))) (fun _ _ _ _ _ => pts_nil) (fun _ _ _ _ _ => (pe_def D_law_term hr (by first | decide | omega) (pa_cons (pv 0) (pa_cons (pv 1) (pa_cons (pe_op op_sub (pv 2) pe_int) (pa_cons (pv 3) pa_nil)))))))) pa_nil)))))))), ?_⟩
  refine ⟨_, rfl, s, 5, rfl, by omega, by omega, hsrc, fun t t0 t1 => ?_⟩
  refine ⟨_, _, rfl, rfl, ⟨by decide, by decide⟩, _, _, rfl, rfl, ?_⟩
  have pick : spPick K [.ref s, .ref g] H Q E := by
    refine ⟨s, g, _, rfl, hsrc, SqL.of hg, fun e => hz (List.map_eq_nil_iff.mp e), by rw [List.length_map]; exact hzl, fun v hv => ?_⟩
    obtain ⟨z, hz3, rfl⟩ := List.mem_map.mp hv
    have h0 : Drawn 0 (.str z) := hlet z hz3
    refine q _ H _ r sameB_refl hrm r0 (Int.le_refl _) (.str z) (drawn_mono h0 (Nat.zero_le _)) fun m hm => ?_
    rw [meas_let (show isLet (.str z) = true from hlet z hz3), if_pos (by omega)]
    omega
  refine ⟨_, rfl, _, _, rfl, rfl, _, rfl, ?_⟩
  refine if_dec (fun h1 => ⟨_, rfl, _, rfl, pick⟩) (fun h1 => ?_)
  refine ⟨_, rfl, rm, _, _, _, rfl, rfl, SqL.of hrm, at0, _, rfl, _, _, rfl, rfl, _, _, rfl, rfl, _, rfl, ?_⟩
  refine if_dec (fun h2 => ⟨_, rfl, _, rfl, pick⟩) (fun h2 => ?_)
  refine ⟨_, rfl, s, 4, rfl, by omega, by omega, hsrc, fun t2 t20 t21 => ⟨rfl, _, rfl, ?_⟩⟩
  refine if_int (fun h3 => ⟨_, rfl, _, rfl, pick⟩) (fun h3 => ?_)
  refine ⟨_, rfl, rm, _, _, _, rfl, rfl, SqL.of hrm, at0, _, rfl, _, _, rfl, rfl, _, _, rfl, rfl, _, rfl, rm, _, 0, 0, rfl, rfl, hrm, rfl, ?_⟩
  have eB : SameB rm H (upd H rm (.lst (([V.int r] : List V).set 0 (.int (r - (2 + t / 2) + 1))))) := sameB_upd
  have hrmB : upd H rm (.lst (([V.int r] : List V).set 0 (.int (r - (2 + t / 2) + 1)))) rm = some (.lst [.int (r - (2 + t / 2) + 1)]) := upd_same
  generalize upd H rm (.lst (([V.int r] : List V).set 0 (.int (r - (2 + t / 2) + 1)))) = HB at eB hrmB ⊢
  have hrB : (r - (2 + t / 2) + 1 : Int) ≥ 0 := by omega
  have hrB2 : (r - (2 + t / 2) + 1 : Int) ≤ r := by omega
  obtain ⟨mn, hmn2⟩ : ∃ mn : Nat, (2 + t / 2 : Int) = mn := ⟨(2 + t / 2).toNat, by omega⟩
  have hsB := eB _ _ hsr hs
  have hcB := eB _ _ hcr hc
  have hgB := eB _ _ hgr hg
  refine ⟨_, rfl, by decide +kernel, fun p1 hp1 => ?_⟩
  have e1 := same_new hp1 (.lst [.str ("&" : Str), .str ("|" : Str)])
  refine ⟨s, p1, _, rfl, ⟨c, ns, e1 _ _ hsB, e1 _ _ hcB⟩, SqL.of upd_same, by simp, by simp, fun o ho => ?_⟩
  have ho2 : ∃ z, o = .str z ∧ isOp (.str z) = true := by
    simp only [List.mem_cons, List.not_mem_nil, or_false] at ho
    rcases ho with rfl | rfl
    · exact ⟨_, rfl, by decide +kernel⟩
    · exact ⟨_, rfl, by decide +kernel⟩
  obtain ⟨z, rfl, hz9⟩ := ho2
  refine ⟨_, rfl, (by show 1 ≤ sizeLine; decide), fun p2 hp2 => ?_⟩
  have e2 := e1.trans (same_new hp2 (.lst [.str z]))
  refine ⟨_, rfl, _, rfl, by omega, by omega, fun D hD => ?_⟩
  have hp22 : upd (upd HB p1 (.lst [.str ("&" : Str), .str ("|" : Str)])) p2 (.lst [.str z]) p2 = some (.lst [.str z]) := upd_same
  generalize upd (upd HB p1 (.lst [.str ("&" : Str), .str ("|" : Str)])) p2 (.lst [.str z]) = H2 at e2 hD hp22 ⊢
  have hDr : D ≠ rm := fun e => by
    have := e2 _ _ hrmB
    rw [← e, hD] at this
    cases this
  have hp2r : p2 ≠ rm := fun e => by
    have := e2 _ _ hrmB
    rw [← e, hp22] at this
    have e3 : ([V.str z] : List V) = [V.int (r - (2 + t / 2) + 1)] := HO.lst.inj (Option.some.inj this)
    cases (List.cons.inj e3).1
  rw [show (2 + t / 2 : Int).toNat = mn by omega]
  refine lc_range (fun i H' => SameB rm H2 H' ∧ ∃ ys ds r', H' D = some (.lst ys) ∧ ys.length = i ∧ TpAll K H' ys ds ∧ (∀ d ∈ ds, Drawn (m.toNat - 1 - 1) d) ∧ H' rm = some (.lst [.int r']) ∧ 0 ≤ r' ∧ r' ≤ r - (2 + t / 2) + 1 ∧
    ∀ m', m.toNat - 1 - 1 < m' → (ds.map (meas m')).sum = r - (2 + t / 2) + 1 - r' + i) ⟨sameB_of (same_new hD _), [], [], _, upd_same, rfl, .nil, (fun d h => by cases h), ?_, hrB, Int.le_refl _, (fun m' _ => by simp)⟩ ?_ ?_
  · rw [upd_ne (Ne.symm hDr)]
    exact e2 _ _ hrmB
  · rintro i H' hi ⟨e, ys, ds, r', hD', hl, hds, hdr, hrm', r0', rle, hsum⟩
    refine ⟨rfl, ?_⟩
    refine ⟨_, rfl, _, rfl, _, rfl, _, _, rfl, rfl, _, rfl, s, g, rm, c, m - 1, r', zs, ns, rfl, e _ _ hsr (e2 _ _ hsB), e _ _ hcr (e2 _ _ hcB), hcr, e _ _ hgr (e2 _ _ hgB), hz, hzl, hlet, hrm', r0', by omega, by omega, fun v H3 d r'' e3 hrm3 r0'' rle' hd hdd hmm => ⟨ys, e3 _ _ hDr hD', le_line (by omega), ?_⟩⟩
    have hD3 := e3 _ _ hDr hD'
    have sT : SameT H3 (upd H3 D (.lst (ys ++ [v]))) := (SameT.refl H3).updL hD3
    refine ⟨fun b u hb hu => ?_, ys ++ [v], ds ++ [d], r'', upd_same, by rw [List.length_append, hl] <;> rfl, tpa_snoc (hd.up sT) ((hds.up (sameT_b hrm' e3)).up sT), fun x hx => ?_, ?_, r0'', by omega, fun m' hm' => ?_⟩
    · rw [upd_ne (ne_of_none hu hD)]
      exact e3 _ _ hb (e _ _ hb hu)
    · rw [show (m - 1).toNat - 1 = m.toNat - 1 - 1 by omega] at hdd
      rcases List.mem_append.mp hx with hx | hx
      · exact hdr x hx
      · rw [List.mem_singleton.mp hx]
        exact hdd
    · rw [upd_ne (Ne.symm hDr)]
      exact hrm3
    · rw [List.map_append, List.sum_append, hsum m' hm', List.map_cons, List.map_nil, List.sum_cons, List.sum_nil, hmm m' (by omega)]
      push_cast
      omega
  · rintro H' ⟨e, ys, ds, r', hD', hl, hds, hdr, hrm', r0', rle, hsum⟩
    have hlen := hds.len
    refine ⟨p2, D, _, _, rfl, rfl, e _ _ hp2r hp22, hD', le_line (by simp; omega), fun p3 hp3 => ?_⟩
    have e4 := same_new hp3 (.lst ([.str z] ++ ys))
    refine ⟨p3, _, rfl, .inl ⟨SqL.of upd_same, fun p4 hp4 => ?_⟩⟩
    have e5 := same_new hp4 (.tup ([.str z] ++ ys))
    have e45 := e4.trans e5
    refine q _ _ (.tuple (.str z :: ds)) r' (((eB.trans' (sameB_of e2)).trans' e).trans' (sameB_of e45)) (e45 _ _ hrm') r0' (by omega) (.tup (.inl upd_same) (.cons (.str z) ((hds.up (Same.T e4)).up (Same.T e5)))) ?_ fun m' hm' => ?_
    · have h9 : Drawn (m.toNat - 1 - 1 + 1) (.tuple (.str z :: ds)) := .inr ⟨_, ds, rfl, hz9, by omega, by omega, hdr⟩
      rw [show m.toNat - 1 - 1 + 1 = m.toNat - 1 by omega] at h9
      exact h9
    · obtain ⟨j, rfl⟩ : ∃ j, m' = j + 1 := ⟨m' - 1, by omega⟩
      have hs4 := hsum j (by omega)
      have hin := sum_in (f := meas j) (B := ((24 ^ (m.toNat - 1 - 1) : Nat) : Int)) (l := ds) fun p hp => meas_drawn (hdr p hp) j (by omega)
      rw [meas_up tup_let (by omega)]
      match ds, hin, hs4, hlen with
      | [], _, _, hlen => exact absurd hlen (by rw [hl]; simp; omega)
      | [_], _, _, hlen => exact absurd hlen (by rw [hl]; simp; omega)
      | y :: x :: r2, hin, hs4, _ =>
        show (if isOp (.str z) = true then (if (0 : Int) ∈ ((y :: x :: r2).map (meas j)) then 0 else ((y :: x :: r2).map (meas j)).sum) else 0) = _
        rw [if_pos hz9, if_neg hin.1, hs4]
        omega
theorem ok_termR {f : Addr} {fd : FuncData} (F : FunD K "_law_term" "_law_term" (defArgs s_law_term) (defBody s_law_term) (defScope s_law_term) [] [] f fd) (hm : mg "_law_term" = some (.ref f)) (T : Top K mg)
    (D_law_take : Def P w K mg base "_law_take" 1 ["_law_source_here", "_law_many"] spTake) (D_law_pick : Def P w K mg base "_law_pick" 2 ["_law_source_here", "_law_row"] (spPick K)) :
    ∀ n : Nat, Def P w K mg base "_law_term" (n + 2) ["_law_source_here", "_law_signs_here", "_law_deep", "_law_room"] (spTermR K n)
  | 0 => (def_none F hm (F.bindsN fun _ _ _ _ _ _ us hl => match us, hl with | [_, _, _, _], _ => rfl) fun vs H Q E ⟨_, _, _, _, _, _, _, _, _, _, _, _, _, _, _, _, _, _, _, h, _⟩ => by omega).mono (Nat.zero_le _)
  | n + 1 => ok_termR_step F hm T D_law_take D_law_pick (ok_termR F hm T D_law_take D_law_pick n)
end
end FF
namespace FF
open PySem PySem.Spec PyProof.Rows L2
section
variable {P : Program} {w : World} {K : PySem.W.Frag} {mg : Str → Option Value} {base : Heap}
theorem fn_fe {f : Addr} {fd : FuncData} (F : FunD K "__init__" "FaultError.__init__" (defArgs s_FaultError_init) (defBody s_FaultError_init) (defScope s_FaultError_init) [] [] f fd) (T : Top K mg) : FnOk P w K mg base CX0 1 f fd ["self", "code"] (spFE K) := by
  refine FunD.ok F sc_FaultError_init (fun vs H Q E h => ?_) (fun cdv A outer s0 H vs Q E hr h => ?_)
  · obtain ⟨a, C, z, rfl, _⟩ := h
    rfl
  obtain ⟨a, C, z, rfl, hC, hno, ha, q⟩ := h
  refine ⟨_, PSs.nox (pss_cons (ps_expr (pe_veinit (by rfl) T.b_ValueError T.fe.ve (pa_cons (pv 0) (pa_cons (pv 1) pa_nil)))) (pss_one (ps_ost (pv 0) (pv 1)))), ?_⟩
  refine ⟨_, rfl, _, rfl, a, C, [z], rfl, (show 1 ≤ 1000 by decide), hC, ha, ?_⟩
  exact ⟨_, rfl, _, rfl, a, C, rfl, hC, hno, .inl ⟨ha, fun dx hdx hne => q dx hdx hne⟩⟩
theorem fn_InvalidTerm {f : Addr} {fd fdg : FuncData} (F : FunD K "__init__" "InvalidTerm.__init__" (defArgs s_InvalidTerm_init) (defBody s_InvalidTerm_init) (defScope s_InvalidTerm_init) [] [] f fd) (T : Top K mg)
    (FE : FnOk P w K mg base CX0 1 (He.ma K (He.ga K "FaultError") "__init__") fdg ["self", "code"] (spFE K)) (hb : Binds K fdg ["self", "code"] []) : FnOk P w K mg base CX0 2 f fd ["self"] (spIni K "InvalidTerm") := by
  refine FunD.ok F sc_InvalidTerm_init (fun vs H Q E h => ?_) (fun cdv A outer s0 H vs Q E hr h => ?_)
  · obtain ⟨a, C, rfl, _⟩ := h
    rfl
  obtain ⟨a, C, rfl, hC, hno, ha, q⟩ := h
  refine ⟨_, PSs.nox (pss_one (ps_expr (pe_clsfn (by rfl) T.c_FaultError T.fe.rd ⟨T.fe.at_, rfl⟩ FE hr T.fe.kp hb pass0 (pa_cons (pv 0) (pa_cons pe_str pa_nil))))), ?_⟩
  exact ⟨_, rfl, a, C, _, rfl, hC, hno, ha, q⟩
end
theorem gives_law_call {X : Cx} (T : Top X.K X.mg) {g : Addr} {cdg : Value} {q : Str} : GivesS X ["_law_ask", "_law_told", "_law_word", "e"] "_law_call" (defScope s_law_call) g cdg (defBody s_law_call) "_law_ask" q (TTc X.K (He.ga X.K "FaultError")) := by
  intro f c' s H Q tl act hc h
  refine ⟨_, pss_cons (ps_set (i := 1) sc_law_call.nd rfl (Or.inl rfl) pe_non) (pss_cons (ps_set (i := 2) sc_law_call.nd rfl (Or.inl rfl) pe_str) (pss_cons
    (ps_try_manyA (X := (cxOf C8.CX0 X.prog X.w X.K X.mg X.base ["_law_ask", "_law_told", "_law_word", "e"] "_law_call" (defScope s_law_call) g cdg X.A X.stack s H C8.E0).nox) (i := 3)
      (tb := fun W D σ H => ∃ E : XK, (∀ cls d H', E cls d H' → W cls d σ H') ∧ σ[0]? = some (some (.ref f)) ∧ H c' = some (LamX.CodeO c' q) ∧ ∃ Q' : VK, (∀ v H', Q' v H' → D.nx (σ.set 1 (some v)) H') ∧ tl E H Q')
      (l := [(.ref (He.ga X.K "FaultError"), fun a cls d D σ H => ∃ C, OwnC X.K C ∧ tAsg (tXf a cls d C "code" (tVar 3)) (gName 2) D σ H), (.ref (He.ga X.K "Missing"), fun a cls d D σ H => ∃ C, OwnC X.K C ∧ tAsg (tXf a cls d C "code" (tVar 3)) (gName 2) D σ H),
        (.ref (He.ga X.K "NothingLeft"), fun a cls d D σ H => ∃ C, OwnC X.K C ∧ tAsg (tXf a cls d C "code" (tVar 3)) (gName 2) D σ H)])
      rfl rfl sc_law_call.nd rfl rfl LamX.takes0 (fun W pn xe tk _ => ?_)
      (.cons ⟨rfl, by decide, .inl T.c_FaultError⟩ (fun a oe cls d pn hz hf => pss_ex fun C hC => pss_one (ps_set (i := 2) sc_law_call.nd rfl (Or.inl rfl) (pe_xf hC.xf hC.noc hz hf (pv 3))))
        (.cons ⟨rfl, by decide, .inl T.c_Missing⟩ (fun a oe cls d pn hz hf => pss_ex fun C hC => pss_one (ps_set (i := 2) sc_law_call.nd rfl (Or.inl rfl) (pe_xf hC.xf hC.noc hz hf (pv 3))))
          (.cons ⟨rfl, by decide, .inl T.c_NothingLeft⟩ (fun a oe cls d pn hz hf => pss_ex fun C hC => pss_one (ps_set (i := 2) sc_law_call.nd rfl (Or.inl rfl) (pe_xf hC.xf hC.noc hz hf (pv 3)))) .nil))))
    (pss_one (ps_ret (pe_tup (pa_cons (pv 1) (pa_cons (pv 2) pa_nil))))))), ?_⟩
  · refine ⟨fun pins s' σ H' D I h' => ?_⟩
    obtain ⟨E, hW, h1, h2, Q', hQ, h3⟩ := h'
    exact (pss_one (ps_set (i := 1) sc_law_call.nd rfl (Or.inl rfl) (pe_mono (act W pn xe _ _ tk)))).run pins s' σ H' D I ⟨Q', hQ, h1, h2, E, hW, h3⟩
  · refine ⟨fun cls d H' => ∃ (C : Addr) (z : Str), cls = .ref C ∧ OwnC X.K C ∧ PySem.W.exmOne X.K (.ref C) (.ref (He.ga X.K "FaultError")) = some true ∧ Thr z d H' ∧ ∀ p, H' p = none → Q (.ref p) (upd H' p (.tup [.non, .str z])), fun cls d H' hE => ?_, rfl, hc, ?_⟩
    · obtain ⟨C, z, rfl, hC, he, ⟨dd, fs, rfl, hd, hz⟩, hq⟩ := hE
      refine ⟨true, he, fun _ a ha => ?_, fun z => by cases z⟩
      exact ⟨C, hC, _, rfl, rfl, rfl, dd, fs, _, rfl, hd, hz, _, rfl, _, rfl, (show 2 ≤ sizeLine by decide), hq⟩
    · exact ⟨_, fun v H' hq => ⟨_, rfl, _, rfl, (show 2 ≤ sizeLine by decide), hq⟩, h⟩
end FF
namespace FF
open PySem PySem.Spec PyProof.Rows L2
section
variable {P : Program} {w : World} {K : PySem.W.Frag} {mg : Str → Option Value} {base : Heap}
/-- is_letter(value): for data -/
def spIsLetter (K : PySem.W.Frag) : Sp := fun vs H Q _ => ∃ (v : V) (d : PyData), vs = [v] ∧ Dp K H v d ∧ nice d = true ∧ Q (.bl (isLet d)) H
theorem ok_is_letter {f : Addr} {fd : FuncData} (F : FunD K "is_letter" "is_letter" (defArgs s_is_letter) (defBody s_is_letter) (defScope s_is_letter) [] [] f fd) (hm : mg "is_letter" = some (.ref f)) (T : Top K mg) : Def P w K mg base "is_letter" 1 ["value"] (spIsLetter K) := by
  refine def_mk F hm (F.bindsN fun _ _ _ _ _ _ us hl => match us, hl with | [_], _ => rfl) sc_is_letter (fun vs H Q E h => ?_) (fun cdv A outer s H vs Q E hr h => ?_)
  · obtain ⟨v, d, rfl, _⟩ := h
    rfl
  obtain ⟨v, d, rfl, hd, hn, q⟩ := h
  refine ⟨_, (pss_one (ps_ret (pe_and (pe_callB (call_isK K kb_str) (by rfl) T.b_isinstance (by decide +kernel) (pa_cons (pv 0) (pa_cons (pe_bltn (v := .ty "str") (by rfl) T.b_str (by decide +kernel) rfl) pa_nil))) (pe_and (pe_cmpR op_eq (pe_callB (call_lenK K) (by rfl) T.b_len (by decide +kernel) (pa_cons (pv 0) pa_nil)) pe_int (nomark _)) (pe_one (pe_cmpR op_in_sign (pv 0) (pe_gs T.g_LETTERS) rfl)))))), ?_⟩
  refine ⟨_, rfl, v, d, rfl, hd, _, rfl, ?_⟩
  cases hd with
  | str z =>
    refine iteT ⟨_, rfl, _, z.length, rfl, ⟨nice_str hn, rfl⟩, rfl, _, rfl, ?_⟩
    refine if_int (fun h1 => ?_) (fun h1 => ?_)
    · obtain ⟨c, rfl⟩ := len1 (z := z) (by omega)
      exact ⟨_, rfl, c, lettersS, rfl, rfl, q⟩
    · rw [show isLet (.str z) = false from isLetS_no (by omega)] at q
      exact q
  | non => exact iteF q
  | bl b => exact iteF q
  | int i => exact iteF q
  | lst _ _ => exact iteF q
  | tup _ _ => exact iteF q
/-- measured(value, max_depth), below n deep -/
def spMeasured (K : PySem.W.Frag) (n : Nat) : Sp := fun vs H Q _ => ∃ (v : V) (d : PyData) (m : Int), vs = [v, .int m] ∧ Dp K H v d ∧ nice d = true ∧ m.toNat < n ∧ ∀ H', Same H H' → Q (.int (meas m.toNat d)) H'
theorem inv_op {z : Str} : inV (.str z) [.str ("&" : Str), .str ("|" : Str)] = isOp (.str z) := by
  show ((("&" : Str) == z) || ((("|" : Str) == z) || false)) = (decide (z = ("&" : Str)) || decide (z = ("|" : Str)))
  rw [Bool.or_false, Bool.beq_comm (a := ("&" : Str)), Bool.beq_comm (a := ("|" : Str)), Bool.beq_eq_decide_eq, Bool.beq_eq_decide_eq]
theorem flat_ints (ns : List Int) : (ns.map V.int).all flatV = true := by
  rw [List.all_eq_true]
  intro v hv
  obtain ⟨n, _, rfl⟩ := List.mem_map.mp hv
  rfl
theorem in_ints {i : Int} {ns : List Int} : inV (.int i) (ns.map V.int) = decide (i ∈ ns) := by
  unfold inV
  rw [List.any_map]
  induction ns with
  | nil => rfl
  | cons n ns ih =>
    rw [List.any_cons, ih]
    show ((n == i) || decide (i ∈ ns)) = decide (i ∈ n :: ns)
    by_cases h : i = n
    · subst h; simp
    · have : (n == i) = false := beq_eq_false_iff_ne.mpr (fun z => h z.symm)
      rw [this, Bool.false_or]
      simp [h]
theorem ok_measured_step {n : Nat} {f : Addr} {fd : FuncData} (F : FunD K "measured" "measured" (defArgs s_measured) (defBody s_measured) (defScope s_measured) [] [] f fd) (hm : mg "measured" = some (.ref f)) (T : Top K mg) (D_is_letter : Def P w K mg base "is_letter" 1 ["value"] (spIsLetter K))
    (D_measured : Def P w K mg base "measured" (n + 1) ["value", "max_depth"] (spMeasured K n)) : Def P w K mg base "measured" (n + 2) ["value", "max_depth"] (spMeasured K (n + 1)) := by
  refine def_mk F hm (F.bindsN fun _ _ _ _ _ _ us hl => match us, hl with | [_, _], _ => rfl) sc_measured (fun vs H Q E h => ?_) (fun cdv A outer s H vs Q E hr h => ?_)
  · obtain ⟨v, d, m, rfl, _⟩ := h
    rfl
  obtain ⟨v, d, m, rfl, hd, hn, hm, q⟩ := h
  refine ⟨_, (pss_cons (ps_if (pt_val (pe_def D_is_letter hr (by first | decide | omega) (pa_cons (pv 0) pa_nil)))
  (pss_one (ps_ret (pe_callTy call_int1 (by rfl) T.b_int (by decide +kernel) (pa_cons (pe_cmpR op_gt (pv 1) pe_int (nomark _)) pa_nil))))
  pss_nil)
  (pss_cons (ps_if (PW.pt (pw_or (pt_cmpR op_lt (pv 1) pe_int (nomark _)) (pw_or (pt_not (pt_val (pe_callB (call_isK K kb_tup) (by rfl) T.b_isinstance (by decide +kernel) (pa_cons (pv 0) (pa_cons (pe_bltn (v := .ty "tuple") (by rfl) T.b_tuple (by decide +kernel) rfl) pa_nil))))) (pw_or1 (pt_cmpR op_lt (pe_callB (call_lenK K) (by rfl) T.b_len (by decide +kernel) (pa_cons (pv 0) pa_nil)) pe_int (nomark _))))))
  (pss_one (ps_ret pe_int))
  pss_nil)
  (pss_cons (ps_if (PW.pt (pw_or (pt_not (pt_val (pe_callB (call_isK K kb_str) (by rfl) T.b_isinstance (by decide +kernel) (pa_cons (pe_ix (ix_tupK K) (pv 0) pe_int (fun _ _ => rfl)) (pa_cons (pe_bltn (v := .ty "str") (by rfl) T.b_str (by decide +kernel) rfl) pa_nil))))) (pw_or1 (pt_cmpR (op_notIn_seqK K) (pe_ix (ix_tupK K) (pv 0) pe_int (fun _ _ => rfl)) (pe_gT T.g_OPERATORS) (by rfl)))))
  (pss_one (ps_ret pe_int))
  pss_nil)
  (pss_cons (ps_setLc (i := 2) (own := [("part", 3)]) rfl sc_measured.nd rfl rfl (sw_true rfl rfl rfl (by kernel_rfl)) (pi_tupK K (pe_slice (sl_tupK K) (pv 0) (po_some pe_int) po_none)) (blkOk_by (by kernel_rfl)) (fun _ _ _ _ _ => (pg_name (i := 3) sc_measured.nd rfl (Or.inl rfl) (.inr rfl))) (fun _ _ _ _ _ => pts_nil) (fun _ _ _ _ _ => (pe_def D_measured hr (by first | decide | omega) (pa_cons (pv 3) (pa_cons (pe_op op_sub (pv 1) pe_int) pa_nil)))))
  (pss_one (ps_ret (pe_ifExp (pt_cmpR (op_in_seqK K) pe_int (pv 2) (by rfl)) pe_int (pe_callB (cr_sumK K rfl) (by rfl) T.b_sum (by decide +kernel) (pa_cons (pv 2) pa_nil))))))))), ?_⟩
  refine ⟨_, rfl, v, d, rfl, hd, hn, _, rfl, ?_⟩
  refine if_b (fun hl => ?_) (fun hl => ?_)
  · refine ⟨_, rfl, _, _, rfl, rfl, .inr ⟨_, rfl, ?_⟩⟩
    refine qi (q H (Same.refl H)) ?_
    rw [meas_let hl]
    by_cases h0 : 0 < m
    · rw [if_pos (by omega), if_pos (decide_eq_true h0)]
    · rw [if_neg (by omega), if_neg (by simpa using h0)]
  refine ⟨_, rfl, _, _, rfl, rfl, _, rfl, ?_⟩
  refine if_dec (fun h2 => ?_) (fun h2 => ?_)
  · exact (qi (q H (Same.refl H)) (meas_low hl (by omega)))
  obtain ⟨k, hk⟩ : ∃ k, m.toNat = k + 2 := ⟨m.toNat - 2, by omega⟩
  rw [hk] at q hm
  have no : measP (meas (k + 1)) d = 0 → Q (.int 0) H := fun e => qi (q H (Same.refl H)) (by rw [meas_up hl (by omega), e])
  refine ⟨_, rfl, v, d, rfl, hd, _, rfl, ?_⟩
  cases hd with
  | tup ht ha =>
    rename_i a xs ds
    refine ⟨_, rfl, _, xs.length, rfl, .inr ⟨xs, ht, rfl⟩, _, _, rfl, rfl, _, rfl, ?_⟩
    have hlen := da_len ha
    refine if_dec (fun h3 => ?_) (fun h3 => ?_)
    · refine no ?_
      match ds, hlen with
      | [], _ => rfl
      | [_], _ => rfl
      | [_, _], _ => rfl
      | _ :: _ :: _ :: _, e => simp at e; omega
    have h4 : 3 ≤ ds.length := by omega
    match ds, ha, h4 with
    | [], _, e => exact absurd e (by simp)
    | [_], _, e => exact absurd e (by simp)
    | [_, _], _, e => exact absurd e (by simp)
    | x :: y :: z :: r, .cons (v := vx) (vs := vr) hx hp, e =>
    refine ⟨_, rfl, a, _, _, vx, rfl, rfl, ht, at0, _, x, rfl, hx, _, rfl, ?_⟩
    have noOp : isOp x = false → Q (.int 0) H := fun e => no (by show (if isOp x = true then _ else _) = _; rw [if_neg (by rw [e]; decide)])
    refine if_nb (fun h5 => ?_) (fun h5 => ?_)
    · exact noOp (by cases x <;> first | rfl | cases h5)
    cases hx with
    | str zx =>
    refine ⟨_, rfl, a, _, _, _, rfl, rfl, ht, at0, _, _, rfl, .inr (T.t_OPERATORS H), rfl, rfl, _, rfl, ?_⟩
    refine if_nb (fun h6 => ?_) (fun h6 => ?_)
    · exact noOp (inv_op.symm.trans h6)
    refine ⟨_, rfl, _, rfl, a, _, rfl, ht, notWhole1, fun p hp0 => ⟨p, rfl, ⟨_, SqT.of upd_same⟩, fun D hD => ?_⟩⟩
    rw [cut1] at hD ⊢
    have e1 := same_new hp0 (.tup vr)
    refine lc_mapT (j := 3) (fun i u _ => ∃ d, (y :: z :: r)[i]? = some d ∧ u = .int (meas (k + 1) d)) (fun _ _ _ _ _ h => h) hD (SqT.of upd_same) ?_ (fun _ => rfl) ?_ ?_
    · have := nice_tl hn
      have := da_len hp
      exact le_line (by simp at *; omega)
    · intro i x H2 hx e2 Q' k'
      obtain ⟨d, hd1, hd2⟩ := da_get hp hx
      refine ⟨_, rfl, _, rfl, _, _, rfl, rfl, x, d, m - 1, rfl, up_d (e1.trans e2) hd2, nice_ti hn (List.mem_cons_of_mem _ (List.mem_of_getElem? hd1)), by omega, fun H' e3 => k' _ _ e3 ⟨d, hd1, ?_⟩⟩
      rw [show (m - 1).toNat = k + 1 by omega]
    · intro H2 ys e2 hD2 hl2 hy
      have hmap : ys = ((y :: z :: r).map (meas (k + 1))).map V.int := by
        rw [List.map_map]
        exact eq_map_of (hl2.trans (da_len hp)) fun i u hu => hy i u hu
      subst hmap
      refine ⟨_, rfl, D, _, rfl, .inl (SqL.of hD2), rfl, flat_ints _, _, rfl, ?_⟩
      have e3 := e1.trans e2
      have fin := q H2 e3
      rw [meas_up hl (by omega)] at fin
      have fin2 : Q (.int (if (0 : Int) ∈ ((y :: z :: r).map (meas (k + 1))) then 0 else ((y :: z :: r).map (meas (k + 1))).sum)) H2 := by
        refine qi fin ?_
        show (if isOp (.str zx) = true then _ else _) = _
        rw [if_pos (inv_op.symm.trans h6)]
      show (if (inV (.int 0) (((y :: z :: r).map (meas (k + 1))).map V.int)) = true then _ else _)
      rw [in_ints]
      refine if_dec (fun h7 => ?_) (fun h7 => ?_)
      · rw [if_pos h7] at fin2
        exact fin2
      · rw [if_neg h7] at fin2
        exact ⟨_, rfl, D, _, rfl, SqL.of hD2, fin2⟩
    | _ => cases h5
  | str z => exact no rfl
  | non => exact no rfl
  | bl b => exact no rfl
  | int i => exact no rfl
  | lst _ _ => exact no rfl
end
end FF
namespace FF
open PySem PySem.Spec PyProof.Rows L2
abbrev inB (m s : Int) : Bool := decide (1 ≤ m) && decide (m ≤ s)
def spIsTerm (K : PySem.W.Frag) : Sp := fun vs H Q _ => ∃ (v : V) (d : PyData) (md ms : Int), vs = [v, .int md, .int ms] ∧ Dp K H v d ∧ nice d = true ∧ md.toNat < 11 ∧ ∀ H', Same H H' → Q (.bl (inB (meas md.toNat d) ms)) H'
section
variable {P : Program} {w : World} {K : PySem.W.Frag} {mg : Str → Option Value} {base : Heap}
theorem fn_is_term {f : Addr} {fd : FuncData} (F : FunD K "is_term" "is_term" (defArgs s_is_term) (defBody s_is_term) (defScope s_is_term) [] [("max_depth", .int 5), ("max_size", .int 24)] f fd) (T : Top K mg)
    (D_measured : Def P w K mg base "measured" 12 ["value", "max_depth"] (spMeasured K 11)) : FnOk P w K mg base CX0 13 f fd ["value", "max_depth", "max_size"] (spIsTerm K) := by
  refine fn_mk F sc_is_term (fun vs H Q E h => ?_) (fun cdv A outer s H vs Q E hr h => ?_)
  · obtain ⟨v, d, md, ms, rfl, _⟩ := h
    rfl
  obtain ⟨v, d, md, ms, rfl, hd, hn, h10, q⟩ := h
  refine ⟨_, (pss_one (ps_ret (pe_chain op_le op_le pe_int (pe_def D_measured hr (by first | decide | omega) (pa_cons (pv 0) (pa_cons (pv 1) pa_nil))) (pv 2)))), ?_⟩
  refine ⟨_, rfl, _, rfl, v, d, md, rfl, hd, hn, h10, fun H1 e => ?_⟩
  refine ⟨_, _, rfl, rfl, _, rfl, ?_⟩
  have q1 := q H1 e
  refine if_dec (fun h1 => ?_) (fun h1 => ?_)
  · refine ⟨_, rfl, _, _, rfl, rfl, qb q1 ?_⟩
    show (decide (1 ≤ meas md.toNat d) && decide (meas md.toNat d ≤ ms)) = decide (meas md.toNat d ≤ ms)
    rw [decide_eq_true (show (1 : Int) ≤ meas md.toNat d from h1), Bool.true_and]
  · refine qb q1 ?_
    show (decide (1 ≤ meas md.toNat d) && decide (meas md.toNat d ≤ ms)) = false
    rw [decide_eq_false (show ¬ (1 : Int) ≤ meas md.toNat d from h1), Bool.false_and]
section
variable {f : Addr} {fd : FuncData} (F : FunD K "is_term" "is_term" (defArgs s_is_term) (defBody s_is_term) (defScope s_is_term) [] [("max_depth", .int 5), ("max_size", .int 24)] f fd)
theorem bind_a (F : FunD K "is_term" "is_term" (defArgs s_is_term) (defBody s_is_term) (defScope s_is_term) [] [("max_depth", .int 5), ("max_size", .int 24)] f fd) : ∃ ds, Vals [.int 5, .int 24] ds ∧ Binds K fd ["value", "max_depth", "max_size"] ds :=
  F.binds0 1 (by simp) rfl fun D doc pm an cdv ct us ks hu hk => match us, ks, hu, hk with
    | [_], [_, _], _, _ => ⟨_, _, _, _, _, _, rfl, rfl, _, _, _, _, _, _, rfl, rfl, rfl⟩
end
end
end FF
namespace FF
open PySem PySem.Spec PyProof.Rows L2
def spMeasure (K : PySem.W.Frag) (n : Nat) : Sp := fun vs H Q _ => ∃ (v : V) (d : PyData) (m : Int), vs = [v, .int m] ∧ Dp K H v d ∧ Nice 60 d ∧ m.toNat < n ∧ ∀ H', Same H H' → Q (.int (meas m.toNat d)) H'
section
variable {P : Program} {w : World} {K : PySem.W.Frag} {mg : Str → Option Value} {base : Heap}
theorem inv_op2 {z : PyData} : (([.str ("&" : Str), .str ("|" : Str)] : List PyData).any fun y => PyData.eqv y z) = isOp z := by
  cases z with
  | str z =>
    show (PyData.eqv (.str ("&" : Str)) (.str z) || (PyData.eqv (.str ("|" : Str)) (.str z) || false)) = (decide (z = ("&" : Str)) || decide (z = ("|" : Str)))
    rw [PyData.eqv, PyData.eqv, Bool.or_false, Bool.beq_comm (a := ("&" : Str)), Bool.beq_comm (a := ("|" : Str)), Bool.beq_eq_decide_eq, Bool.beq_eq_decide_eq]
  | _ => rfl
theorem ok_law_measure_step {n : Nat} {f : Addr} {fd : FuncData} (F : FunD K "_law_measure" "_law_measure" (defArgs s_law_measure) (defBody s_law_measure) (defScope s_law_measure) [] [] f fd) (hm : mg "_law_measure" = some (.ref f)) (T : Top K mg)
    (D_law_measure : Def P w K mg base "_law_measure" n ["_law_word", "_law_deep"] (spMeasure K n)) : Def P w K mg base "_law_measure" (n + 1) ["_law_word", "_law_deep"] (spMeasure K (n + 1)) := by
  refine def_mk F hm (F.bindsN fun _ _ _ _ _ _ us hl => match us, hl with | [_, _], _ => rfl) sc_law_measure (fun vs H Q E h => ?_) (fun cdv A outer s H vs Q E hr h => ?_)
  · obtain ⟨v, d, m, rfl, _⟩ := h
    rfl
  obtain ⟨v, d, m, rfl, hd, hn60, hm, q⟩ := h
  have hn := hn60.ok
  refine ⟨_, (pss_cons (ps_if (pt_val (pe_callB (call_isK K kb_str) (by rfl) T.b_isinstance (by decide +kernel) (pa_cons (pv 0) (pa_cons (pe_bltn (v := .ty "str") (by rfl) T.b_str (by decide +kernel) rfl) pa_nil))))
  (pss_one (ps_ret (pe_callTy call_int1 (by rfl) T.b_int (by decide +kernel) (pa_cons (pe_and (pe_cmpR op_eq (pe_callB (call_lenK K) (by rfl) T.b_len (by decide +kernel) (pa_cons (pv 0) pa_nil)) pe_int (nomark _)) (pe_and (pe_cmpR op_in_sign (pv 0) pe_str rfl) (pe_one (pe_cmpR op_gt (pv 1) pe_int (nomark _))))) pa_nil))))
  pss_nil)
  (pss_cons (ps_if (PW.pt (pw_or (pt_cmpR op_lt (pv 1) pe_int (nomark _)) (pw_or (pt_not (pt_val (pe_callB (call_isK K kb_tup) (by rfl) T.b_isinstance (by decide +kernel) (pa_cons (pv 0) (pa_cons (pe_bltn (v := .ty "tuple") (by rfl) T.b_tuple (by decide +kernel) rfl) pa_nil))))) (pw_or (pt_cmpR op_lt (pe_callB (call_lenK K) (by rfl) T.b_len (by decide +kernel) (pa_cons (pv 0) pa_nil)) pe_int (nomark _)) (pw_or1 (pt_cmpR (op_notInK K (r65 hr)) (pe_ix (ix_tupK K) (pv 0) pe_int (fun _ _ => rfl)) (pe_tup (pa_cons pe_str (pa_cons pe_str pa_nil))) (by rfl)))))))
  (pss_one (ps_ret pe_int))
  pss_nil)
  (pss_cons (ps_setLc (i := 2) (own := [("_law_mone", 3)]) rfl sc_law_measure.nd rfl rfl (sw_true rfl rfl rfl (by kernel_rfl)) (pi_tupK K (pe_slice (sl_tupK K) (pv 0) (po_some pe_int) po_none)) (blkOk_by (by kernel_rfl)) (fun _ _ _ _ _ => (pg_name (i := 3) sc_law_measure.nd rfl (Or.inl rfl) (.inr rfl))) (fun _ _ _ _ _ => pts_nil) (fun _ _ _ _ _ => (pe_def D_law_measure hr (by first | decide | omega) (pa_cons (pv 3) (pa_cons (pe_op op_sub (pv 1) pe_int) pa_nil)))))
  (pss_one (ps_ret (pe_ifExp (pt_cmpR (op_in_seqK K) pe_int (pv 2) (by rfl)) pe_int (pe_callB (cr_sumK K rfl) (by rfl) T.b_sum (by decide +kernel) (pa_cons (pv 2) pa_nil)))))))), ?_⟩
  refine ⟨_, rfl, v, d, rfl, hd, _, rfl, ?_⟩
  refine if_b (fun hl => ?_) (fun hns => ?_)
  · cases hd with
    | str z =>
      have fin : ∀ b : Bool, (b = true → isLetS z = true ∧ 0 < m) → (b = false → isLetS z = false ∨ ¬ 0 < m) → Q (.int (if b = true then 1 else 0)) H := fun b h1 h2 => by
        refine qi (q H (Same.refl H)) ?_
        cases b with
        | true =>
          obtain ⟨h3, h4⟩ := h1 rfl
          rw [meas_let (d := .str z) h3, if_pos (by omega)] <;> rfl
        | false =>
          rcases h2 rfl with h3 | h3
          · cases hk : m.toNat with
            | zero => rfl
            | succ k =>
              cases k with
              | zero => exact meas_low (d := .str z) h3 (by omega)
              | succ k => rw [meas_up (d := .str z) h3 (by omega)] <;> rfl
          · rw [show m.toNat = 0 by omega] <;> rfl
      refine ⟨_, rfl, _, z.length, rfl, ⟨nice_str hn, rfl⟩, rfl, _, rfl, ?_⟩
      refine if_int (fun h1 => ?_) (fun h1 => ?_)
      · obtain ⟨c, rfl⟩ := len1 (z := z) (by omega)
        refine ⟨_, rfl, c, lettersS, rfl, rfl, _, rfl, ?_⟩
        refine if_dec (fun h2 => ?_) (fun h2 => ?_)
        · refine ⟨_, rfl, _, _, rfl, rfl, .inr ⟨_, rfl, ?_⟩⟩
          exact fin _ (fun h => ⟨decide_eq_true h2, of_decide_eq_true h⟩) (fun h => .inr (of_decide_eq_false h))
        · exact .inr ⟨_, rfl, fin false (fun h => by cases h) (fun _ => .inl (decide_eq_false h2))⟩
      · exact .inr ⟨_, rfl, fin false (fun h => by cases h) (fun _ => .inl (isLetS_no (by omega)))⟩
    | _ => cases hl
  have hl : isLet d = false := by cases d <;> first | rfl | cases hns
  refine ⟨_, rfl, _, _, rfl, rfl, _, rfl, ?_⟩
  refine if_dec (fun h2 => ?_) (fun h2 => ?_)
  · exact qi (q H (Same.refl H)) (meas_low hl (by omega))
  obtain ⟨k, hk⟩ : ∃ k, m.toNat = k + 2 := ⟨m.toNat - 2, by omega⟩
  rw [hk] at q hm
  have no : measP (meas (k + 1)) d = 0 → ∀ H', Same H H' → Q (.int 0) H' := fun e H' e' => qi (q H' e') (by rw [meas_up hl (by omega), e])
  refine ⟨_, rfl, v, d, rfl, hd, _, rfl, ?_⟩
  cases hd with
  | tup ht ha =>
    rename_i a xs ds
    refine ⟨_, rfl, _, xs.length, rfl, .inr ⟨xs, ht, rfl⟩, _, _, rfl, rfl, _, rfl, ?_⟩
    have hlen := da_len ha
    refine if_dec (fun h3 => ?_) (fun h3 => ?_)
    · refine no ?_ H (Same.refl H)
      match ds, hlen with
      | [], _ => rfl
      | [_], _ => rfl
      | [_, _], _ => rfl
      | _ :: _ :: _ :: _, e => simp at e; omega
    have h4 : 3 ≤ ds.length := by omega
    match ds, ha, h4 with
    | [], _, e => exact absurd e (by simp)
    | [_], _, e => exact absurd e (by simp)
    | [_, _], _, e => exact absurd e (by simp)
    | x :: y :: z :: r, .cons (v := vx) (vs := vr) hx hp, e =>
    refine ⟨_, rfl, a, _, _, vx, rfl, rfl, ht, at0, (by show 2 ≤ sizeLine; decide), fun p5 hp5 => ?_⟩
    have e5 := same_new hp5 (.tup [.str ("&" : Str), .str ("|" : Str)])
    have noOp : isOp x = false → ∀ H', Same H H' → Q (.int 0) H' := fun e => no (by show (if isOp x = true then _ else _) = _; rw [if_neg (by rw [e]; decide)])
    refine ⟨x, [.str ("&" : Str), .str ("|" : Str)], up_d e5 hx, .inr (.tup (SqT.of upd_same) (.cons (.str _) (.cons (.str _) .nil))), (hn60.itemT (List.mem_cons_self ..)).shaped, by decide +kernel, _, rfl, ?_⟩
    refine if_nb (fun h6 => ?_) (fun h6 => ?_)
    · exact noOp (inv_op2.symm.trans h6) _ e5
    refine ⟨_, rfl, _, rfl, a, _, rfl, up_t e5 ht, notWhole1, fun p hp0 => ⟨p, rfl, ⟨_, SqT.of upd_same⟩, fun D hD => ?_⟩⟩
    rw [cut1] at hD ⊢
    have e1 := e5.trans (same_new hp0 (.tup vr))
    refine lc_mapT (j := 3) (fun i u _ => ∃ d, (y :: z :: r)[i]? = some d ∧ u = .int (meas (k + 1) d)) (fun _ _ _ _ _ h => h) hD (SqT.of upd_same) ?_ (fun _ => rfl) ?_ ?_
    · have := nice_tl hn
      have := da_len hp
      exact le_line (by simp at *; omega)
    · intro i x H2 hx e2 Q' k'
      obtain ⟨d, hd1, hd2⟩ := da_get hp hx
      refine ⟨_, rfl, _, rfl, _, _, rfl, rfl, x, d, m - 1, rfl, up_d (e1.trans e2) hd2, hn60.itemT (List.mem_cons_of_mem _ (List.mem_of_getElem? hd1)), by omega, fun H' e3 => k' _ _ e3 ⟨d, hd1, ?_⟩⟩
      rw [show (m - 1).toNat = k + 1 by omega]
    · intro H2 ys e2 hD2 hl2 hy
      have hmap : ys = ((y :: z :: r).map (meas (k + 1))).map V.int := by
        rw [List.map_map]
        exact eq_map_of (hl2.trans (da_len hp)) fun i u hu => hy i u hu
      subst hmap
      refine ⟨_, rfl, D, _, rfl, .inl (SqL.of hD2), rfl, flat_ints _, _, rfl, ?_⟩
      have e3 := e1.trans e2
      have fin := q H2 e3
      rw [meas_up hl (by omega)] at fin
      have fin2 : Q (.int (if (0 : Int) ∈ ((y :: z :: r).map (meas (k + 1))) then 0 else ((y :: z :: r).map (meas (k + 1))).sum)) H2 := by
        refine qi fin ?_
        show (if isOp x = true then _ else _) = _
        rw [if_pos (inv_op2.symm.trans h6)]
      show (if (inV (.int 0) (((y :: z :: r).map (meas (k + 1))).map V.int)) = true then _ else _)
      rw [in_ints]
      refine if_dec (fun h7 => ?_) (fun h7 => ?_)
      · rw [if_pos h7] at fin2
        exact fin2
      · rw [if_neg h7] at fin2
        exact ⟨_, rfl, D, _, rfl, SqL.of hD2, fin2⟩
  | str z => exact no rfl H (Same.refl H)
  | non => exact no rfl H (Same.refl H)
  | bl b => exact no rfl H (Same.refl H)
  | int i => exact no rfl H (Same.refl H)
  | lst _ _ => exact no rfl H (Same.refl H)
end
end FF
namespace FF
open PySem PySem.Spec PyProof.Rows L2
/-- _law_same(found, due) of the same data -/
def spSame (K : PySem.W.Frag) (n : Nat) : Sp := fun vs H Q _ => ∃ (v v' : V) (d : PyData), vs = [v, v'] ∧ Dp K H v d ∧ Dp K H v' d ∧ nice d = true ∧ d.depth < n ∧ n ≤ 60 ∧ ∀ H', Same H H' → Q (.bl true) H'
def spFits (K : PySem.W.Frag) : Sp := fun vs H Q _ => ∃ (v : V) (d : PyData), vs = [v] ∧ Dp K H v d ∧ Nice 60 d ∧ ∀ H', Same H H' → Q (.bl (decide (1 ≤ meas 5 d) && decide (meas 5 d ≤ 24))) H'
/-- a nest of so many operators -/
def nestD : Nat → PyData
  | 0 => .str ("a" : Str)
  | k + 1 => .tuple [.str (if k % 2 = 0 then ("&" : Str) else ("|" : Str)), nestD k, .str ("b" : Str)]
def spNest (K : PySem.W.Frag) : Sp := fun vs H Q _ => ∃ (m : Nat), vs = [.int m] ∧ m ≤ 40 ∧ ∀ v H', Same H H' → Tp K H' v (nestD m) → Q v H'
theorem nest_nice : ∀ n, Nice n (nestD n)
  | 0 => ⟨by decide +kernel, by decide +kernel⟩
  | n + 1 => by
    refine Nice.tuple (by show 3 ≤ 20000; decide) fun d hd => ?_
    simp only [List.mem_cons, List.not_mem_nil, or_false] at hd
    have s : ∀ z : Str, nice (.str z) = true → Nice n (.str z) := fun z h => ⟨h, by rw [PyData.depth]; exact Nat.zero_le _⟩
    rcases hd with rfl | rfl | rfl
    · split
      · exact s _ (by decide +kernel)
      · exact s _ (by decide +kernel)
    · exact nest_nice n
    · exact s _ (by decide +kernel)
def spOdd (K : PySem.W.Frag) : Sp := fun vs H Q _ => ∃ (s : Addr) (v : V) (d : PyData), vs = [.ref s, v] ∧ Src H s ∧ Dp K H v d ∧ Nice 20 d ∧ ∀ v' H' d', Same H H' → Dp K H' v' d' → Nice 30 d' → Q v' H'
section
variable {P : Program} {w : World} {K : PySem.W.Frag} {mg : Str → Option Value} {base : Heap}
theorem same_none {f : Addr} {fd : FuncData} (F : FunD K "_law_same" "_law_same" (defArgs s_law_same) (defBody s_law_same) (defScope s_law_same) [] [] f fd) (hm : mg "_law_same" = some (.ref f)) : Def P w K mg base "_law_same" 0 ["_law_found", "_law_due"] (spSame K 0) := by
  have no : ∀ vs H Q E, ¬ spSame K 0 vs H Q E := fun vs H Q E ⟨_, _, _, _, _, _, _, h, _⟩ => by omega
  exact ⟨f, fd, ⟨fun vs H Q E h => absurd h (no vs H Q E), fun A outer s H args us vs Q E _ _ _ _ h => absurd h (no vs H Q E)⟩, hm, F.kp, F.bindsN fun _ _ _ _ _ _ us hl => match us, hl with | [_, _], _ => rfl⟩
theorem ok_same_step {n : Nat} {f : Addr} {fd : FuncData} (F : FunD K "_law_same" "_law_same" (defArgs s_law_same) (defBody s_law_same) (defScope s_law_same) [] [] f fd) (hm : mg "_law_same" = some (.ref f)) (T : Top K mg)
    (D_law_same : Def P w K mg base "_law_same" n ["_law_found", "_law_due"] (spSame K n)) : Def P w K mg base "_law_same" (n + 1) ["_law_found", "_law_due"] (spSame K (n + 1)) := by
  refine def_mk F hm (F.bindsN fun _ _ _ _ _ _ us hl => match us, hl with | [_, _], _ => rfl) sc_law_same (fun vs H Q E h => ?_) (fun cdv A outer s H vs Q E hr h => ?_)
  · obtain ⟨v, v', d, rfl, _⟩ := h
    rfl
  obtain ⟨v, v', d, rfl, hd, hd', hn, hdn, h60, q⟩ := h
  have hsh : SeqAt.shaped d = true := Nice.shaped (n := 60) ⟨hn, by omega⟩
  have hq := q H (Same.refl H)
  have heq : Q (.bl (PyData.eqv d d)) H := qb hq (SeqAt.eqv_refl d (SeqAt.canLay_of_shaped hsh)).symm
  refine ⟨_, (pss_cons (ps_if (PW.pt (pw_or (pt_cmp (pc_isN (pv 1)) (by rfl)) (pw_or1 (pt_cmp (pc_isN (pv 0)) (by rfl)))))
  (pss_one (ps_ret (pe_and (pe_cmp (pc_isN (pv 1)) (by rfl)) (pe_one (pe_cmp (pc_isN (pv 0)) (by rfl))))))
  pss_nil)
  (pss_cons (ps_if (PW.pt (pw_or (pt_val (pe_callB (call_isK K kb_bool) (by rfl) T.b_isinstance (by decide +kernel) (pa_cons (pv 1) (pa_cons (pe_bltn (v := .ty "bool") (by rfl) T.b_bool (by decide +kernel) rfl) pa_nil)))) (pw_or1 (pt_val (pe_callB (call_isK K kb_bool) (by rfl) T.b_isinstance (by decide +kernel) (pa_cons (pv 0) (pa_cons (pe_bltn (v := .ty "bool") (by rfl) T.b_bool (by decide +kernel) rfl) pa_nil)))))))
  (pss_one (ps_ret (pe_and (pe_callB (call_isK K kb_bool) (by rfl) T.b_isinstance (by decide +kernel) (pa_cons (pv 1) (pa_cons (pe_bltn (v := .ty "bool") (by rfl) T.b_bool (by decide +kernel) rfl) pa_nil))) (pe_and (pe_callB (call_isK K kb_bool) (by rfl) T.b_isinstance (by decide +kernel) (pa_cons (pv 0) (pa_cons (pe_bltn (v := .ty "bool") (by rfl) T.b_bool (by decide +kernel) rfl) pa_nil))) (pe_one (pe_cmpR (op_eqK K hr.units) (pv 0) (pv 1) (nomark _)))))))
  pss_nil)
  (pss_cons (ps_if (PW.pt (pw_or (pt_val (pe_callB (call_isK K kb_int) (by rfl) T.b_isinstance (by decide +kernel) (pa_cons (pv 1) (pa_cons (pe_bltn (v := .ty "int") (by rfl) T.b_int (by decide +kernel) rfl) pa_nil)))) (pw_or1 (pt_val (pe_callB (call_isK K kb_str) (by rfl) T.b_isinstance (by decide +kernel) (pa_cons (pv 1) (pa_cons (pe_bltn (v := .ty "str") (by rfl) T.b_str (by decide +kernel) rfl) pa_nil)))))))
  (pss_one (ps_ret (pe_and (pe_cmpR op_eq (pe_callB (call_isK K kb_int) (by rfl) T.b_isinstance (by decide +kernel) (pa_cons (pv 0) (pa_cons (pe_bltn (v := .ty "int") (by rfl) T.b_int (by decide +kernel) rfl) pa_nil))) (pe_callB (call_isK K kb_int) (by rfl) T.b_isinstance (by decide +kernel) (pa_cons (pv 1) (pa_cons (pe_bltn (v := .ty "int") (by rfl) T.b_int (by decide +kernel) rfl) pa_nil))) (nomark _)) (pe_one (pe_cmpR (op_eqK K hr.units) (pv 0) (pv 1) (nomark _))))))
  pss_nil)
  (pss_cons (ps_if (pt_val (pe_callB (call_isK K kb_dict) (by rfl) T.b_isinstance (by decide +kernel) (pa_cons (pv 1) (pa_cons (pe_bltn (v := .ty "dict") (by rfl) T.b_dict (by decide +kernel) rfl) pa_nil))))
  pss_never
  pss_nil)
  (pss_cons (ps_if (PW.pt (pw_or (pt_cmpR op_ne (pe_callB (call_isK K kb_lst) (by rfl) T.b_isinstance (by decide +kernel) (pa_cons (pv 0) (pa_cons (pe_bltn (v := .ty "list") (by rfl) T.b_list (by decide +kernel) rfl) pa_nil))) (pe_callB (call_isK K kb_lst) (by rfl) T.b_isinstance (by decide +kernel) (pa_cons (pv 1) (pa_cons (pe_bltn (v := .ty "list") (by rfl) T.b_list (by decide +kernel) rfl) pa_nil))) (nomark _)) (pw_or1 (pt_cmpR op_ne (pe_callB (call_isK K kb_tup) (by rfl) T.b_isinstance (by decide +kernel) (pa_cons (pv 0) (pa_cons (pe_bltn (v := .ty "tuple") (by rfl) T.b_tuple (by decide +kernel) rfl) pa_nil))) (pe_callB (call_isK K kb_tup) (by rfl) T.b_isinstance (by decide +kernel) (pa_cons (pv 1) (pa_cons (pe_bltn (v := .ty "tuple") (by rfl) T.b_tuple (by decide +kernel) rfl) pa_nil))) (nomark _)))))
  (pss_one (ps_ret pe_bl))
  pss_nil)
  (pss_one (ps_ret (pe_and (pe_cmpR op_eq (pe_callB (call_lenK K) (by rfl) T.b_len (by decide +kernel) (pa_cons (pv 0) pa_nil)) (pe_callB (call_lenK K) (by rfl) T.b_len (by decide +kernel) (pa_cons (pv 1) pa_nil)) (nomark _)) (pe_one (pe_callB (cr_allK K rfl) (by rfl) T.b_all (by decide +kernel) (pa_cons (pe_lc (own := [("_law_mone", 3), ("_law_mother", 4)]) rfl sc_law_same.nd (pi_zipK K (by rfl) T.b_zip (pa_cons (pv 0) (pa_cons (pv 1) pa_nil))) (blkOk_by (by kernel_rfl)) (fun _ _ _ _ _ => (pg_tupK K (n := 2) rfl (pgs_cons (pg_name (i := 3) sc_law_same.nd rfl (Or.inl rfl) (.inr rfl)) (pgs_cons (pg_name (i := 4) sc_law_same.nd rfl (Or.inl rfl) (.inr rfl)) pgs_nil)))) (fun _ _ _ _ _ => pts_nil) (fun _ _ _ _ _ => (pe_def D_law_same hr (by first | decide | omega) (pa_cons (pv 3) (pa_cons (pv 4) pa_nil))))) pa_nil))))))))))), ?_⟩
  refine ⟨_, rfl, _, rfl, ?_⟩
  cases d with
  | none =>
    cases hd; cases hd'
    exact ⟨_, rfl, _, rfl, _, rfl, hq⟩
  | bool b =>
    cases hd; cases hd'
    exact ⟨_, rfl, _, rfl, _, rfl, _, _, rfl, .bl b, _, rfl, _, rfl, _, _, rfl, .bl b, _, rfl, _, rfl, _, _, rfl, .bl b, _, rfl, _, rfl, _, rfl, _, _, .bl b, .bl b, hsh, hsh, heq⟩
  | int i =>
    cases hd; cases hd'
    exact ⟨_, rfl, _, rfl, _, rfl, _, _, rfl, .int i, _, rfl, _, rfl, _, _, rfl, .int i, _, rfl, _, rfl, _, _, rfl, .int i, _, rfl, _, rfl, _, _, rfl, .int i, _, rfl, _, _, rfl, .int i, rfl, _, rfl, _, rfl, _, rfl, _, _, .int i, .int i, hsh, hsh, heq⟩
  | str z =>
    cases hd; cases hd'
    exact ⟨_, rfl, _, rfl, _, rfl, _, _, rfl, .str z, _, rfl, _, rfl, _, _, rfl, .str z, _, rfl, _, rfl, _, _, rfl, .str z, _, rfl, _, rfl, _, _, rfl, .str z, _, rfl, _, rfl, _, _, rfl, .str z, _, rfl, _, _, rfl, .str z, rfl, _, rfl, _, rfl, _, rfl, _, _, .str z, .str z, hsh, hsh, heq⟩
  | dict _ => cases hd
  | list ds =>
    cases hd with
    | lst hs ha =>
    cases hd' with
    | lst hs' ha' =>
    rename_i a xs a' xs'
    have l1 := da_len ha
    have l2 := da_len ha'
    refine ⟨_, rfl, _, rfl, _, rfl, _, _, rfl, .lst hs' ha', _, rfl, _, rfl, _, _, rfl, .lst hs ha, _, rfl, ?_⟩
    refine ⟨_, rfl, _, _, rfl, .lst hs' ha', _, rfl, _, rfl, _, _, rfl, .lst hs' ha', _, rfl, ?_⟩
    refine ⟨_, rfl, _, _, rfl, .lst hs' ha', _, rfl, ?_⟩
    refine ⟨_, rfl, _, _, rfl, .lst hs ha, _, rfl, _, _, rfl, .lst hs' ha', rfl, _, rfl, ?_⟩
    refine ⟨_, rfl, _, _, rfl, .lst hs ha, _, rfl, _, _, rfl, .lst hs' ha', rfl, _, rfl, ?_⟩
    refine ⟨_, rfl, _, xs.length, rfl, .inl ⟨_, hs, rfl⟩, _, rfl, _, xs'.length, rfl, .inl ⟨_, hs', rfl⟩, rfl, _, rfl, ?_⟩
    refine if_int (fun _ => ?_) (fun h => absurd (by omega) h)
    refine ⟨_, rfl, _, rfl, a, a', xs, xs', rfl, .inl ⟨hs, hs', fun D hD => ?_⟩⟩
    refine lc_zipS (S := SqL K) (j := 3) (k := 4) (fun e h => up_l e h) (fun _ u _ => u = .bl true) (fun _ _ _ _ _ h => h) hD hs hs' (by omega) (le_line (by have := nice_ll hn; omega)) (fun _ _ => rfl) ?_ ?_
    · intro i x y H2 hx hy e Q' k'
      obtain ⟨d, hd1, hd2⟩ := da_get ha hx
      obtain ⟨d', hd1', hd2'⟩ := da_get ha' hy
      rw [hd1] at hd1'
      cases hd1'
      have hmem := List.mem_of_getElem? hd1
      have := depthAll_mem hmem
      rw [PyData.depth] at hdn
      exact ⟨_, rfl, _, rfl, x, y, d, rfl, up_d e hd2, up_d e hd2', nice_li hn hmem, by omega, by omega, fun H' e' => k' _ _ e' rfl⟩
    · intro H2 us e hD2 hl2 hu
      have hus : us = (List.replicate xs.length true).map V.bl := by
        rw [List.map_replicate]
        exact List.eq_replicate_iff.mpr ⟨hl2, fun b hb => by
          obtain ⟨i, hi, rfl⟩ := List.mem_iff_getElem.mp hb
          exact hu i _ (List.getElem?_eq_getElem hi)⟩
      rw [hus] at hD2
      exact ⟨D, _, rfl, SqL.of hD2, qb (q H2 e) (all_true _).symm⟩
  | tuple ds =>
    cases hd with
    | tup hs ha =>
    cases hd' with
    | tup hs' ha' =>
    rename_i a xs a' xs'
    have l1 := da_len ha
    have l2 := da_len ha'
    refine ⟨_, rfl, _, rfl, _, rfl, _, _, rfl, .tup hs' ha', _, rfl, _, rfl, _, _, rfl, .tup hs ha, _, rfl, ?_⟩
    refine ⟨_, rfl, _, _, rfl, .tup hs' ha', _, rfl, _, rfl, _, _, rfl, .tup hs' ha', _, rfl, ?_⟩
    refine ⟨_, rfl, _, _, rfl, .tup hs' ha', _, rfl, ?_⟩
    refine ⟨_, rfl, _, _, rfl, .tup hs ha, _, rfl, _, _, rfl, .tup hs' ha', rfl, _, rfl, ?_⟩
    refine ⟨_, rfl, _, _, rfl, .tup hs ha, _, rfl, _, _, rfl, .tup hs' ha', rfl, _, rfl, ?_⟩
    refine ⟨_, rfl, _, xs.length, rfl, .inr ⟨_, hs, rfl⟩, _, rfl, _, xs'.length, rfl, .inr ⟨_, hs', rfl⟩, rfl, _, rfl, ?_⟩
    refine if_int (fun _ => ?_) (fun h => absurd (by omega) h)
    refine ⟨_, rfl, _, rfl, a, a', xs, xs', rfl, .inr ⟨hs, hs', fun D hD => ?_⟩⟩
    refine lc_zipS (S := SqT K) (j := 3) (k := 4) (fun e h => up_t e h) (fun _ u _ => u = .bl true) (fun _ _ _ _ _ h => h) hD hs hs' (by omega) (le_line (by have := nice_tl hn; omega)) (fun _ _ => rfl) ?_ ?_
    · intro i x y H2 hx hy e Q' k'
      obtain ⟨d, hd1, hd2⟩ := da_get ha hx
      obtain ⟨d', hd1', hd2'⟩ := da_get ha' hy
      rw [hd1] at hd1'
      cases hd1'
      have hmem := List.mem_of_getElem? hd1
      have := depthAll_mem hmem
      rw [PyData.depth] at hdn
      exact ⟨_, rfl, _, rfl, x, y, d, rfl, up_d e hd2, up_d e hd2', nice_ti hn hmem, by omega, by omega, fun H' e' => k' _ _ e' rfl⟩
    · intro H2 us e hD2 hl2 hu
      have hus : us = (List.replicate xs.length true).map V.bl := by
        rw [List.map_replicate]
        exact List.eq_replicate_iff.mpr ⟨hl2, fun b hb => by
          obtain ⟨i, hi, rfl⟩ := List.mem_iff_getElem.mp hb
          exact hu i _ (List.getElem?_eq_getElem hi)⟩
      rw [hus] at hD2
      exact ⟨D, _, rfl, SqL.of hD2, qb (q H2 e) (all_true _).symm⟩
end
end FF
namespace FF
open PySem PySem.Spec PyProof.Rows L2
section
variable {P : Program} {w : World} {K : PySem.W.Frag} {mg : Str → Option Value} {base : Heap}
theorem ok_fits {f : Addr} {fd : FuncData} (F : FunD K "_law_fits" "_law_fits" (defArgs s_law_fits) (defBody s_law_fits) (defScope s_law_fits) [] [] f fd) (hm : mg "_law_fits" = some (.ref f)) (T : Top K mg)
    (D_law_measure : Def P w K mg base "_law_measure" 12 ["_law_word", "_law_deep"] (spMeasure K 12)) : Def P w K mg base "_law_fits" 13 ["_law_word"] (spFits K) := by
  refine def_mk F hm (F.bindsN fun _ _ _ _ _ _ us hl => match us, hl with | [_], _ => rfl) sc_law_fits (fun vs H Q E h => ?_) (fun cdv A outer s H vs Q E hr h => ?_)
  · obtain ⟨v, d, rfl, _⟩ := h
    rfl
  obtain ⟨v, d, rfl, hd, hn, q⟩ := h
  refine ⟨_, (pss_one (ps_ret (pe_chain op_le op_le pe_int (pe_def D_law_measure hr (by first | decide | omega) (pa_cons (pv 0) (pa_cons pe_int pa_nil))) pe_int))), ?_⟩
  refine ⟨_, rfl, v, d, 5, rfl, hd, hn, by omega, fun H1 e => ?_⟩
  refine ⟨_, _, rfl, rfl, _, rfl, ?_⟩
  have q1 := q H1 e
  refine if_dec (fun h1 => ?_) (fun h1 => ?_)
  · rw [decide_eq_true (show (1 : Int) ≤ meas 5 d from h1), Bool.true_and] at q1
    exact ⟨_, _, rfl, rfl, q1⟩
  · rw [decide_eq_false (show ¬ (1 : Int) ≤ meas 5 d from h1), Bool.false_and] at q1
    exact q1
end
end FF
namespace FF
open PySem PySem.Spec PyProof.Rows L2
def partT (f : PyData → Str) : PyData → Str
  | .str z => z
  | p => ("(" : Str) ++ f p ++ ")"
/-- the text of a term, at most n deep -/
def textD : Nat → PyData → Str
  | 0, _ => ""
  | n + 1, d => match d with
    | .str z => z
    | .tuple (.str o :: ps) => Txt.join ((" " : Str) ++ o ++ " ") (ps.map (partT (textD n)))
    | _ => ""
def spText (K : PySem.W.Frag) (n : Nat) : Sp := fun vs H Q _ => ∃ (v : V) (d : PyData) (m : Nat), vs = [v] ∧ Tp K H v d ∧ Drawn m d ∧ m < n ∧ n ≤ 5 ∧ ∀ H', Same H H' → Q (.str (textD (m + 1) d)) H'
theorem drawn_shape {m : Nat} {d : PyData} (h : Drawn m d) : (∃ z, d = .str z ∧ isLet d = true) ∨ ∃ o ps k, d = .tuple (.str o :: ps) ∧ isOp (.str o) = true ∧ 2 ≤ ps.length ∧ ps.length ≤ 24 ∧ m = k + 1 ∧ ∀ p ∈ ps, Drawn k p := by
  have lt : isLet d = true → ∃ z, d = .str z ∧ isLet d = true := fun hl => by
    cases d with
    | str z => exact ⟨z, rfl, hl⟩
    | _ => cases hl
  match m, h with
  | 0, h => exact .inl (lt h)
  | k + 1, .inl h => exact .inl (lt h)
  | k + 1, .inr ⟨o, ps, e, ho, h2, h4, hp⟩ =>
    cases o with
    | str z => exact .inr ⟨z, ps, k, e, ho, h2, h4, rfl, hp⟩
    | _ => cases ho
theorem tpa_get {K : PySem.W.Frag} {H : Hp} : ∀ {vs : List V} {ds : List PyData} {i : Nat} {v : V}, TpAll K H vs ds → vs[i]? = some v → ∃ d, ds[i]? = some d ∧ Tp K H v d
  | _, _, 0, _, .cons h _, e => by cases e; exact ⟨_, rfl, h⟩
  | _, _, i + 1, _, .cons _ t, e => tpa_get (i := i) t e
theorem sum_le {f : PyData → Str} {B : Nat} : ∀ {l : List PyData}, (∀ p ∈ l, (f p).length ≤ B) → ((l.map f).map (·.length)).sum ≤ l.length * B
  | [], _ => Nat.zero_le _
  | x :: r, h => by
    have h1 := h x List.mem_cons_self
    have h2 := sum_le (l := r) fun p hp => h p (List.mem_cons_of_mem _ hp)
    rw [List.map_cons, List.map_cons, List.sum_cons, List.length_cons, Nat.succ_mul]
    omega
theorem sep_len {o : Str} (ho : isOp (.str o) = true) : ((" " : Str) ++ o ++ " ").length = 3 := by
  rcases op_shape ho with h | h
  · rw [PyData.str.inj h]
    decide +kernel
  · rw [PyData.str.inj h]
    decide +kernel
theorem app_len (a b : Str) : (a ++ b).length = a.length + b.length := by
  show (a.cps ++ b.cps).size = _
  rw [Array.size_append] <;> rfl
theorem text_len : ∀ {n : Nat} {d : PyData}, Drawn n d → (textD (n + 1) d).length + 7 ≤ 8 * 24 ^ n := by
  have lt : ∀ {z : Str}, isLet (.str z) = true → z.length = 1 := fun {z} h => by
    obtain ⟨c, e, _⟩ := let_shape h
    rw [PyData.str.inj e] <;> rfl
  intro n
  induction n with
  | zero =>
    intro d h
    rcases drawn_shape h with ⟨z, rfl, hz⟩ | ⟨_, _, _, _, _, _, _, e, _⟩
    · show z.length + 7 ≤ _
      rw [lt hz]
      decide
    · cases e
  | succ n ih =>
    intro d h
    have p1 : 1 ≤ 24 ^ n := Nat.one_le_pow _ _ (by decide)
    rcases drawn_shape h with ⟨z, rfl, hz⟩ | ⟨o, ps, k, rfl, ho, l2, l4, e, hp⟩
    · show z.length + 7 ≤ _
      rw [lt hz, Nat.pow_succ]
      omega
    · cases e
      have hs : ∀ p ∈ ps, (partT (textD (n + 1)) p).length ≤ 8 * 24 ^ n - 5 := fun p hpp => by
        have h1 := ih (hp p hpp)
        rcases drawn_shape (hp p hpp) with ⟨z, rfl, hz⟩ | ⟨o2, ps2, _, rfl, _⟩
        · show z.length ≤ _
          rw [lt hz]
          omega
        · show (("(" : Str) ++ textD (n + 1) _ ++ ")").length ≤ _
          rw [app_len, app_len]
          have e1 : ("(" : Str).length = 1 := by decide +kernel
          have e2 : (")" : Str).length = 1 := by decide +kernel
          omega
      have hj := StrLaws.join_length_le ((" " : Str) ++ o ++ " ") (ps.map (partT (textD (n + 1))))
      have hsum := sum_le hs
      rw [sep_len ho, List.length_map] at hj
      show (Txt.join ((" " : Str) ++ o ++ " ") (ps.map (partT (textD (n + 1))))).length + 7 ≤ _
      have hj2 : (Txt.join ((" " : Str) ++ o ++ " ") (ps.map (partT (textD (n + 1))))).length ≤ ((ps.map (partT (textD (n + 1)))).map (·.length)).sum + ps.length * 3 := by
        rw [TL.join_eq]
        exact hj
      have hm : ps.length * (8 * 24 ^ n - 5) ≤ 24 * (8 * 24 ^ n - 5) := Nat.mul_le_mul_right _ l4
      rw [Nat.pow_succ]
      omega
section
variable {P : Program} {w : World} {K : PySem.W.Frag} {mg : Str → Option Value} {base : Heap}
theorem ok_text_of_step {n : Nat} {f : Addr} {fd : FuncData} (F : FunD K "text_of" "text_of" (defArgs s_text_of) (defBody s_text_of) (defScope s_text_of) [] [] f fd) (hm : mg "text_of" = some (.ref f)) (T : Top K mg)
    (D_text_of : Def P w K mg base "text_of" n ["term"] (spText K n)) : Def P w K mg base "text_of" (n + 1) ["term"] (spText K (n + 1)) := by
  refine def_mk F hm (F.bindsN fun _ _ _ _ _ _ us hl => match us, hl with | [_], _ => rfl) sc_text_of (fun vs H Q E h => ?_) (fun cdv A outer s H vs Q E hr h => ?_)
  · obtain ⟨v, d, m, rfl, _⟩ := h
    rfl
  obtain ⟨v, d, m, rfl, hd, hdr, hmn, hn10, q⟩ := h
  refine ⟨_, (pss_cons (ps_if (pt_val (pe_callB (call_isK K kb_str) (by rfl) T.b_isinstance (by decide +kernel) (pa_cons (pv 0) (pa_cons (pe_bltn (v := .ty "str") (by rfl) T.b_str (by decide +kernel) rfl) pa_nil))))
  (pss_one (ps_ret (pv 0)))
  pss_nil)
  (pss_cons (ps_asg (pv 0) (pg_star2 rfl (pgs_cons (pg_name (i := 1) sc_text_of.nd rfl (Or.inl rfl) (.inl rfl)) (pgs_cons (pg_name (i := 2) sc_text_of.nd rfl (Or.inl rfl) (.inl rfl)) pgs_nil))))
  (pss_cons (ps_setLc (i := 3) (own := [("part", 4)]) rfl sc_text_of.nd rfl rfl (sw_true rfl rfl rfl (by kernel_rfl)) (pi_listK K (pv 2)) (blkOk_by (by kernel_rfl)) (fun _ _ _ _ _ => (pg_name (i := 4) sc_text_of.nd rfl (Or.inl rfl) (.inr rfl))) (fun _ _ _ _ _ => pts_nil) (fun _ _ _ _ _ => (pe_ifExp (pt_val (pe_callB (call_isK K kb_str) (by rfl) T.b_isinstance (by decide +kernel) (pa_cons (pv 4) (pa_cons (pe_bltn (v := .ty "str") (by rfl) T.b_str (by decide +kernel) rfl) pa_nil)))) (pv 4) (pe_joined (PJ.cons pe_str (PJ.cons (pe_fmt (pe_def D_text_of hr (by first | decide | omega) (pa_cons (pv 4) pa_nil))) (PJ.cons pe_str PJ.nil)))))))
  (pss_one (ps_ret (pe_join (pe_joined (PJ.cons pe_str (PJ.cons (pe_fmt (pv 1)) (PJ.cons pe_str PJ.nil)))) (pv 3))))))), ?_⟩
  refine ⟨_, rfl, v, d, rfl, hd.dp, _, rfl, ?_⟩
  rcases drawn_shape hdr with ⟨z, rfl, _⟩ | ⟨o, ps, k, rfl, ho, l2, l4, rfl, hps⟩
  · cases hd with
    | str z => exact iteT ⟨_, rfl, q H (Same.refl H)⟩
  cases hd with
  | tup ht ha =>
  cases ha with
  | @cons vo vr _ _ hvo hvr =>
  rename_i a
  cases hvo with
  | str o =>
  refine iteF ?_
  refine ⟨_, rfl, a, .str o, vr, rfl, ht.sqT, fun p hp => ?_⟩
  have e1 := same_new hp (.lst vr)
  have lr := hvr.len
  have p4 : 24 ^ k ≤ 24 ^ 3 := Nat.pow_le_pow_right (by decide) (by omega)
  have hB : ∀ {n : Nat}, n ≤ 8 * 24 ^ 4 + 100 → n ≤ sizeLine := fun h => Nat.le_trans h (by decide +kernel)
  refine ⟨.str o, [.ref p], rfl, .ref p, [], rfl, rfl, ?_⟩
  refine ⟨_, rfl, p, rfl, ⟨_, SqL.of upd_same⟩, fun D hD => ?_⟩
  refine lc_mapL (j := 4) (fun i u _ => ∃ d, ps[i]? = some d ∧ u = .str (partT (textD (k + 1)) d)) (fun _ _ _ _ _ h => h) hD (SqL.of upd_same) (le_line (by omega)) (fun _ => rfl) ?_ ?_
  · intro i x H2 hx e2 Q' k'
    obtain ⟨d, hd1, hd2⟩ := tpa_get hvr hx
    have hd3 := (hd2.up (Same.T e1)).up (Same.T e2)
    have hdr2 := hps d (List.mem_of_getElem? hd1)
    have tl := text_len hdr2
    refine ⟨_, rfl, x, d, rfl, hd3.dp, _, rfl, ?_⟩
    rcases drawn_shape hdr2 with ⟨z, rfl, _⟩ | ⟨o2, ps2, k2, rfl, _⟩
    · cases hd3 with
      | str z => exact iteT ⟨_, rfl, k' _ _ (Same.refl _) ⟨_, hd1, rfl⟩⟩
    · refine iteF ?_
      refine ⟨"(", rfl, by decide +kernel, _, rfl, x, _, k, rfl, hd3, hdr2, by omega, by omega, fun H3 e3 => .inl ⟨_, rfl, hB (by omega), _, rfl, ?_, ")", rfl, ?_, k' _ _ e3 ⟨_, hd1, ?_⟩⟩⟩
      · rw [app_len]
        have h1 : (Str.empty ++ ("(" : Str)).length = 1 := by decide +kernel
        exact hB (by omega)
      · rw [app_len, app_len]
        have h1 : (Str.empty ++ ("(" : Str)).length = 1 := by decide +kernel
        have h2 : (")" : Str).length = 1 := by decide +kernel
        exact hB (by omega)
      · rfl
  intro H2 ys e2 hD2 hl2 hy
  have hmap : ys = (ps.map (partT (textD (k + 1)))).map V.str := by
    rw [List.map_map]
    exact eq_map_of (hl2.trans lr) fun i u hu => hy i u hu
  subst hmap
  have q2 := q H2 (e1.trans e2)
  have ev : textD (k + 1 + 1) (.tuple (.str o :: ps)) = Txt.join ((" " : Str) ++ o ++ " ") (ps.map (partT (textD (k + 1)))) := rfl
  rw [ev] at q2
  have sl := sep_len ho
  have hs0 : Str.empty ++ (" " : Str) = (" " : Str) := by decide +kernel
  have lo : o.length = 1 := by
    rcases op_shape ho with h | h
    · rw [PyData.str.inj h]
      decide +kernel
    · rw [PyData.str.inj h]
      decide +kernel
  have l1 : (" " : Str).length = 1 := by decide +kernel
  refine ⟨" ", rfl, by decide +kernel, _, rfl, .inl ⟨o, rfl, hB (by omega), o, rfl, ?_, " ", rfl, ?_, ⟨_, rfl⟩, _, rfl, _, D, ps.map (partT (textD (k + 1))), rfl, rfl, .inl (SqL.of hD2), ?_, ?_⟩⟩
  · rw [hs0, app_len]
    exact hB (by omega)
  · rw [hs0, sl]
    exact hB (by omega)
  · rw [hs0, sl, List.length_map]
    have hs : ∀ p ∈ ps, (partT (textD (k + 1)) p).length ≤ 8 * 24 ^ k + 2 := fun p hpp => by
      have h1 := text_len (hps p hpp)
      rcases drawn_shape (hps p hpp) with ⟨z, rfl, hz⟩ | ⟨o2, ps2, _, rfl, _⟩
      · have h2 : textD (k + 1) (.str z) = z := rfl
        rw [h2] at h1
        show z.length ≤ _
        omega
      · show (("(" : Str) ++ textD (k + 1) _ ++ ")").length ≤ _
        rw [app_len, app_len]
        have e1 : ("(" : Str).length = 1 := by decide +kernel
        have e2 : (")" : Str).length = 1 := by decide +kernel
        omega
    have hsum := sum_le hs
    have hm : ps.length * (8 * 24 ^ k + 2) ≤ 24 * (8 * 24 ^ k + 2) := Nat.mul_le_mul_right _ l4
    omega
  · rw [hs0]
    exact q2
end
end FF
namespace FF
open PySem PySem.Spec PyProof.Rows L2
section
variable {P : Program} {w : World} {K : PySem.W.Frag} {mg : Str → Option Value} {base : Heap}
theorem ok_law_text_step {n : Nat} {f : Addr} {fd : FuncData} (F : FunD K "_law_text" "_law_text" (defArgs s_law_text) (defBody s_law_text) (defScope s_law_text) [] [] f fd) (hm : mg "_law_text" = some (.ref f)) (T : Top K mg)
    (D_law_text : Def P w K mg base "_law_text" n ["_law_word"] (spText K n)) : Def P w K mg base "_law_text" (n + 1) ["_law_word"] (spText K (n + 1)) := by
  refine def_mk F hm (F.bindsN fun _ _ _ _ _ _ us hl => match us, hl with | [_], _ => rfl) sc_law_text (fun vs H Q E h => ?_) (fun cdv A outer s H vs Q E hr h => ?_)
  · obtain ⟨v, d, m, rfl, _⟩ := h
    rfl
  obtain ⟨v, d, m, rfl, hd, hdr, hmn, hn10, q⟩ := h
  refine ⟨_, (pss_cons (ps_if (pt_val (pe_callB (call_isK K kb_str) (by rfl) T.b_isinstance (by decide +kernel) (pa_cons (pv 0) (pa_cons (pe_bltn (v := .ty "str") (by rfl) T.b_str (by decide +kernel) rfl) pa_nil))))
  (pss_one (ps_ret (pv 0)))
  pss_nil)
  (pss_cons (ps_setLc (i := 1) (own := [("_law_mone", 2)]) rfl sc_law_text.nd rfl rfl (sw_true rfl rfl rfl (by kernel_rfl)) (pi_tupK K (pe_slice (sl_tupK K) (pv 0) (po_some pe_int) po_none)) (blkOk_by (by kernel_rfl)) (fun _ _ _ _ _ => (pg_name (i := 2) sc_law_text.nd rfl (Or.inl rfl) (.inr rfl))) (fun _ _ _ _ _ => pts_nil) (fun _ _ _ _ _ => (pe_ifExp (pt_val (pe_callB (call_isK K kb_str) (by rfl) T.b_isinstance (by decide +kernel) (pa_cons (pv 2) (pa_cons (pe_bltn (v := .ty "str") (by rfl) T.b_str (by decide +kernel) rfl) pa_nil)))) (pv 2) (pe_op op_add_str (pe_op op_add_str pe_str (pe_def D_law_text hr (by first | decide | omega) (pa_cons (pv 2) pa_nil))) pe_str))))
  (pss_one (ps_ret (pe_join (pe_op op_add_str (pe_op op_add_str pe_str (pe_ix (ix_tupK K) (pv 0) pe_int (fun _ _ => rfl))) pe_str) (pv 1)))))), ?_⟩
  refine ⟨_, rfl, v, d, rfl, hd.dp, _, rfl, ?_⟩
  rcases drawn_shape hdr with ⟨z, rfl, _⟩ | ⟨o, ps, k, rfl, ho, l2, l4, rfl, hps⟩
  · cases hd with
    | str z => exact iteT ⟨_, rfl, q H (Same.refl H)⟩
  cases hd with
  | tup ht ha =>
  cases ha with
  | @cons vo vr _ _ hvo hvr =>
  rename_i a
  cases hvo with
  | str o =>
  refine iteF ?_
  have lr := hvr.len
  have p4 : 24 ^ k ≤ 24 ^ 3 := Nat.pow_le_pow_right (by decide) (by omega)
  have hB : ∀ {n : Nat}, n ≤ 8 * 24 ^ 4 + 100 → n ≤ sizeLine := fun h => Nat.le_trans h (by decide +kernel)
  refine ⟨_, rfl, _, rfl, a, _, rfl, ht.sqT, notWhole1, fun p hp0 => ⟨p, rfl, ⟨_, SqT.of upd_same⟩, fun D hD => ?_⟩⟩
  rw [cut1] at hD ⊢
  have e1 := same_new hp0 (.tup vr)
  refine lc_mapT (j := 2) (fun i u _ => ∃ d, ps[i]? = some d ∧ u = .str (partT (textD (k + 1)) d)) (fun _ _ _ _ _ h => h) hD (SqT.of upd_same) (le_line (by omega)) (fun _ => rfl) ?_ ?_
  · intro i x H2 hx e2 Q' k'
    obtain ⟨d, hd1, hd2⟩ := tpa_get hvr hx
    have hd3 := (hd2.up (Same.T e1)).up (Same.T e2)
    have hdr2 := hps d (List.mem_of_getElem? hd1)
    have tl := text_len hdr2
    refine ⟨_, rfl, x, d, rfl, hd3.dp, _, rfl, ?_⟩
    rcases drawn_shape hdr2 with ⟨z, rfl, _⟩ | ⟨o2, ps2, k2, rfl, _⟩
    · cases hd3 with
      | str z => exact iteT ⟨_, rfl, k' _ _ (Same.refl _) ⟨_, hd1, rfl⟩⟩
    · refine iteF ?_
      refine ⟨_, rfl, x, _, k, rfl, hd3, hdr2, by omega, by omega, fun H3 e3 => ⟨_, _, rfl, rfl, ?_, _, _, rfl, rfl, ?_, k' _ _ e3 ⟨_, hd1, rfl⟩⟩⟩
      · have h1 : ("(" : Str).length = 1 := by decide +kernel
        exact hB (by omega)
      · rw [app_len]
        have h1 : ("(" : Str).length = 1 := by decide +kernel
        have h2 : (")" : Str).length = 1 := by decide +kernel
        exact hB (by omega)
  intro H2 ys e2 hD2 hl2 hy
  have hmap : ys = (ps.map (partT (textD (k + 1)))).map V.str := by
    rw [List.map_map]
    exact eq_map_of (hl2.trans lr) fun i u hu => hy i u hu
  subst hmap
  have q2 := q H2 (e1.trans e2)
  have ev : textD (k + 1 + 1) (.tuple (.str o :: ps)) = Txt.join ((" " : Str) ++ o ++ " ") (ps.map (partT (textD (k + 1)))) := rfl
  rw [ev] at q2
  have sl := sep_len ho
  have lo : o.length = 1 := by
    rcases op_shape ho with h | h
    · rw [PyData.str.inj h]
      decide +kernel
    · rw [PyData.str.inj h]
      decide +kernel
  have l1 : (" " : Str).length = 1 := by decide +kernel
  refine ⟨_, rfl, a, _, _, _, rfl, rfl, up_t (e1.trans e2) ht.sqT, at0, _, _, rfl, rfl, ?_, _, _, rfl, rfl, ?_, ⟨_, rfl⟩, _, rfl, _, D, ps.map (partT (textD (k + 1))), rfl, rfl, .inl (SqL.of hD2), ?_, q2⟩
  · exact hB (by omega)
  · rw [app_len]
    exact hB (by omega)
  · rw [sl, List.length_map]
    have hs : ∀ p ∈ ps, (partT (textD (k + 1)) p).length ≤ 8 * 24 ^ k + 2 := fun p hpp => by
      have h1 := text_len (hps p hpp)
      rcases drawn_shape (hps p hpp) with ⟨z, rfl, hz⟩ | ⟨o2, ps2, _, rfl, _⟩
      · have h2 : textD (k + 1) (.str z) = z := rfl
        rw [h2] at h1
        show z.length ≤ _
        omega
      · show (("(" : Str) ++ textD (k + 1) _ ++ ")").length ≤ _
        rw [app_len, app_len]
        have e1 : ("(" : Str).length = 1 := by decide +kernel
        have e2 : (")" : Str).length = 1 := by decide +kernel
        omega
    have hsum := sum_le hs
    have hm : ps.length * (8 * 24 ^ k + 2) ≤ 24 * (8 * 24 ^ k + 2) := Nat.mul_le_mul_right _ l4
    omega
end
end FF
/-! the reader of terms: what it computes, on lists of signs -/
namespace FF
open PySem PySem.Spec PyProof.Rows L2
abbrev isOpC (o : Nat) : Bool := o == 38 || o == 124
abbrev RdF : Type := List Nat → Option (PyData × List Nat)
def rPart (f : RdF) : RdF
  | [] => none
  | c :: r => if c ∈ lettersS.cps.toList then some (.str ⟨#[c]⟩, r) else if c = 40 then (match f r with
    | some (d, 41 :: r2) => if isLet d = true then none else some (d, r2)
    | _ => none) else none
def rTail (g : RdF) (o : Nat) : Nat → List Nat → Option (List PyData × List Nat)
  | 0, l => some ([], l)
  | k + 1, l => match l with
    | 32 :: p :: 32 :: r => if p = o then (match g r with
      | some (d, r2) => (match rTail g o k r2 with
        | some (ds, r3) => some (d :: ds, r3)
        | none => none)
      | none => none) else some ([], l)
    | _ => some ([], l)
def rAlone (d : PyData) (r : List Nat) : Option (PyData × List Nat) := if isLet d = true then some (d, r) else none
def rEnd (o : Nat) (d : PyData) : List PyData × List Nat → Option (PyData × List Nat)
  | ([], r2) => rAlone d r2
  | (e :: es, r2) => some (.tuple (.str ⟨#[o]⟩ :: d :: e :: es), r2)
def rSeq : Nat → RdF
  | 0, _ => none
  | n + 1, l => (rPart (rSeq n) l).bind fun x => match x.2[1]? with
    | some o => if isOpC o = true then (rTail (rPart (rSeq n)) o x.2.length x.2).bind (rEnd o x.1) else rAlone x.1 x.2
    | none => rAlone x.1 x.2
def endD (d : PyData) : List Nat → Option PyData
  | [] => if inB (meas 5 d) 24 = true then some d else none
  | _ :: _ => none
def parseD (t : Str) : Option PyData := (rSeq 5 t.cps.toList).bind fun x => endD x.1 x.2
/-! ### what is left is a suffix; the data is nice -/
def RdOk (f : RdF) (n : Nat) : Prop := ∀ l d r, l.length ≤ 10000 → f l = some (d, r) → r.length < l.length ∧ r <:+ l ∧ Nice n d
theorem let_ok {c : Nat} (h : c ∈ lettersS.cps.toList) : Nice 0 (.str ⟨#[c]⟩) := by
  have h1 : isLet (.str ⟨#[c]⟩) = true := by
    show isLetS ⟨#[c]⟩ = true
    rw [isLetS_one]
    exact decide_eq_true h
  exact ⟨let_nice h1, Nat.le_of_eq (let_depth h1)⟩
theorem rPart_ok {f : RdF} {n : Nat} (h : RdOk f n) : RdOk (rPart f) n := by
  intro l d r hl e
  cases l with
  | nil => cases e
  | cons c l =>
    have e : (if c ∈ lettersS.cps.toList then some (PyData.str ⟨#[c]⟩, l) else if c = 40 then (match f l with
      | some (d, 41 :: r2) => if isLet d = true then none else some (d, r2)
      | _ => none) else none) = some (d, r) := e
    split at e
    · rename_i hc
      cases e
      exact ⟨Nat.lt_succ_self _, List.suffix_cons _ _, (let_ok hc).mono (Nat.zero_le _)⟩
    · split at e
      · rw [List.length_cons] at hl
        cases q : f l with
        | none =>
          rw [q] at e
          cases e
        | some x =>
          obtain ⟨d1, r1⟩ := x
          rw [q] at e
          obtain ⟨h1, h2, h3⟩ := h l d1 r1 (by omega) q
          match r1, e, h1, h2 with
          | 41 :: r2, e, h1, h2 =>
            have e : (if isLet d1 = true then none else some (d1, r2)) = some (d, r) := e
            split at e
            · cases e
            · cases e
              rw [List.length_cons] at h1
              exact ⟨by rw [List.length_cons]; omega, ((List.suffix_cons 41 r).trans h2).trans (List.suffix_cons _ _), h3⟩
          | [], e, _, _ => cases e
          | 0 :: _, e, _, _ => cases e
          | (k + 1) :: r2, e, h1, h2 =>
            by_cases hk : k = 40
            · subst hk
              have e : (if isLet d1 = true then none else some (d1, r2)) = some (d, r) := e
              split at e
              · cases e
              · cases e
                rw [List.length_cons] at h1
                exact ⟨by rw [List.length_cons]; omega, ((List.suffix_cons 41 r).trans h2).trans (List.suffix_cons _ _), h3⟩
            · exfalso
              revert e
              split
              · rename_i heq
                cases heq
                exact absurd rfl hk
              · exact fun z => by cases z
      · cases e
theorem rTail_ok {g : RdF} {n o : Nat} (h : RdOk g n) : ∀ (k : Nat) (l : List Nat) (ds : List PyData) (r : List Nat), l.length ≤ 10000 → rTail g o k l = some (ds, r) → r.length + ds.length ≤ l.length ∧ r <:+ l ∧ ∀ d ∈ ds, Nice n d := by
  intro k
  induction k with
  | zero =>
    intro l ds r hl e
    cases e
    exact ⟨Nat.le_refl _, List.suffix_refl _, fun d hd => by cases hd⟩
  | succ k ih =>
    intro l ds r hl e
    have stop : some (([] : List PyData), l) = some (ds, r) → r.length + ds.length ≤ l.length ∧ r <:+ l ∧ ∀ d ∈ ds, Nice n d := fun e => by
      cases e
      exact ⟨Nat.le_refl _, List.suffix_refl _, fun d hd => by cases hd⟩
    unfold rTail at e
    split at e
    · rename_i p r0
      split at e
      · split at e
        · rename_i d r2 hg
          split at e
          · rename_i ds2 r3 ht
            cases e
            simp only [List.length_cons] at hl ⊢
            obtain ⟨h1, h2, h3⟩ := h r0 d r2 (by omega) hg
            obtain ⟨h4, h5, h6⟩ := ih r2 ds2 r (by omega) ht
            refine ⟨by omega, (h5.trans h2).trans ⟨[32, p, 32], rfl⟩, fun x hx => ?_⟩
            rcases List.mem_cons.mp hx with rfl | hx
            · exact h3
            · exact h6 x hx
          · cases e
        · cases e
      · exact stop e
    · exact stop e
theorem opC_nice {o : Nat} (h : isOpC o = true) : Nice 0 (.str ⟨#[o]⟩) := by
  have h2 : o = 38 ∨ o = 124 := by
    rcases Bool.or_eq_true _ _ ▸ h with h | h
    · exact .inl (eq_of_beq h)
    · exact .inr (eq_of_beq h)
  rcases h2 with rfl | rfl
  · exact ⟨by decide +kernel, by decide +kernel⟩
  · exact ⟨by decide +kernel, by decide +kernel⟩
theorem rSeq_ok : ∀ n : Nat, RdOk (rSeq n) n := by
  intro n
  induction n with
  | zero =>
    intro l d r hl e
    cases e
  | succ n ih =>
    intro l d r hl e
    have hp := rPart_ok ih
    have e : (rPart (rSeq n) l).bind (fun x => match x.2[1]? with
      | some o => if isOpC o = true then (rTail (rPart (rSeq n)) o x.2.length x.2).bind (rEnd o x.1) else rAlone x.1 x.2
      | none => rAlone x.1 x.2) = some (d, r) := e
    cases q : rPart (rSeq n) l with
    | none =>
      rw [q] at e
      cases e
    | some x =>
      obtain ⟨d1, r1⟩ := x
      rw [q] at e
      obtain ⟨h1, h2, h3⟩ := hp l d1 r1 hl q
      have al : ∀ {r2 : List Nat}, r2.length < l.length → r2 <:+ l → rAlone d1 r2 = some (d, r) → r.length < l.length ∧ r <:+ l ∧ Nice (n + 1) d := fun {r2} a b e => by
        unfold rAlone at e
        split at e
        · cases e
          exact ⟨a, b, h3.mono (Nat.le_succ _)⟩
        · cases e
      have e : (match r1[1]? with
        | some o => if isOpC o = true then (rTail (rPart (rSeq n)) o r1.length r1).bind (rEnd o d1) else rAlone d1 r1
        | none => rAlone d1 r1) = some (d, r) := e
      split at e
      · rename_i o ho
        split at e
        · rename_i hop
          cases q2 : rTail (rPart (rSeq n)) o r1.length r1 with
          | none =>
            rw [q2] at e
            cases e
          | some y =>
            obtain ⟨ds, r2⟩ := y
            rw [q2] at e
            obtain ⟨h4, h5, h6⟩ := rTail_ok hp _ _ _ _ (by omega) q2
            cases ds with
            | nil => exact al (by simp only [List.length_nil] at h4; omega) (h5.trans h2) e
            | cons a as =>
              cases e
              simp only [List.length_cons] at h4
              refine ⟨by omega, h5.trans h2, Nice.tuple (by simp only [List.length_cons]; omega) fun x hx => ?_⟩
              rcases List.mem_cons.mp hx with rfl | hx
              · exact (opC_nice hop).mono (Nat.zero_le _)
              rcases List.mem_cons.mp hx with rfl | hx
              · exact h3
              · exact h6 x hx
        · exact al h1 h2 e
      · exact al h1 h2 e
/-! ### texts at a place -/
theorem rest_eq {t : Str} {l : List Nat} (h : l <:+ t.cps.toList) : t.cps.toList.drop (t.length - l.length) = l := (List.suffix_iff_eq_drop.mp h).symm
theorem rest_len {t : Str} {l : List Nat} (h : l <:+ t.cps.toList) : l.length ≤ t.length := h.length_le
theorem cut_one {t : Str} {l : List Nat} (h : l <:+ t.cps.toList) (a : Nat) : cutS t (some (((t.length - l.length + a : Nat)) : Int)) (some (((t.length - l.length + (a + 1) : Nat)) : Int)) = ⟨((l.drop a).take 1).toArray⟩ := by
  have hl := rest_len h
  unfold cutS
  rw [HT.sIx_nat, HT.sIx_nat]
  congr 1
  have e := rest_eq h
  have n1 : t.cps.toList.length = t.length := rfl
  rw [show ((l.drop a).take 1) = ((t.cps.toList.drop (t.length - l.length + a)).take 1) by rw [← List.drop_drop, e]]
  congr 1
  by_cases hlt : t.length - l.length + a < t.length
  · rw [Nat.min_eq_left (by omega), Nat.min_eq_left (by omega), show t.length - l.length + (a + 1) - (t.length - l.length + a) = 1 by omega]
  · rw [Nat.min_eq_right (by omega), Nat.min_eq_right (by omega), Nat.sub_self, List.take_zero]
    rw [List.drop_eq_nil_of_le (by omega)]
    rfl
theorem starts_at {t w : Str} {l : List Nat} (h : l <:+ t.cps.toList) (hw : w.length ≠ 0) : Txt.startswith3 t w ((t.length - l.length : Nat) : Int) = decide (l.take w.length = w.cps.toList) := by
  have hl := rest_len h
  unfold Txt.startswith3
  have e1 : fromIndex t.length ((t.length - l.length : Nat) : Int) = t.length - l.length := by
    unfold fromIndex
    rw [if_neg (by omega)]
    omega
  rw [e1, PySem.StrLaws.subAt_eq, rest_eq h]
  have n1 : w.cps.toList.length = w.length := rfl
  by_cases q : l.take w.length = w.cps.toList
  · rw [q]
    have : (l.take w.length).length = w.length := by rw [q]; exact n1
    rw [List.length_take] at this
    simp only [decide_true, beq_self_eq_true, Bool.and_true, decide_eq_true_eq]
    omega
  · rw [show (l.take w.length == w.cps.toList) = false from beq_eq_false_iff_ne.mpr q, Bool.and_false]
    simp [q]
end FF
/-! what rdr3 takes of rdr2 -/
namespace FF
open PySem PySem.Spec PyProof.Rows L2
theorem rPart_paren {f : RdF} {l : List Nat} : rPart f (40 :: l) = match f l with
    | some (d, 41 :: r2) => if isLet d = true then none else some (d, r2)
    | _ => none := by
  show (if 40 ∈ lettersS.cps.toList then some (PyData.str ⟨#[40]⟩, l) else if 40 = 40 then (match f l with
    | some (d, 41 :: r2) => if isLet d = true then none else some (d, r2)
    | _ => none) else none) = _
  rw [if_neg (by rw [lettersS_val]; decide), if_pos rfl]
theorem rTail_end {g : RdF} {o : Nat} : ∀ {k : Nat} {l : List Nat}, ¬ l.take 3 = [32, o, 32] → rTail g o k l = some ([], l)
  | 0, _, _ => rfl
  | k + 1, l, h => by
    unfold rTail
    split
    · rename_i p r
      rw [if_neg fun e => h (by rw [e] <;> rfl)]
    · rfl
theorem rTail_more {g : RdF} {o k : Nat} {l : List Nat} : rTail g o (k + 1) (32 :: o :: 32 :: l) = (g l).bind fun x => (rTail g o k x.2).map fun y => (x.1 :: y.1, y.2) := by
  show (if o = o then (match g l with
      | some (d, r2) => (match rTail g o k r2 with
        | some (ds, r3) => some (d :: ds, r3)
        | none => none)
      | none => none) else some ([], 32 :: o :: 32 :: l)) = _
  rw [if_pos rfl]
  cases g l with
  | none => rfl
  | some x =>
    obtain ⟨d, r2⟩ := x
    show (match rTail g o k r2 with
        | some (ds, r3) => some (d :: ds, r3)
        | none => none) = (rTail g o k r2).map _
    cases rTail g o k r2 <;> rfl
end FF
/-! the reader reads what the law writes -/
namespace FF
open PySem PySem.Spec PyProof.Rows L2
abbrev tl (z : Str) : List Nat := z.cps.toList
theorem tl_app (a b : Str) : tl (a ++ b) = tl a ++ tl b := by
  show (a.cps ++ b.cps).toList = _
  rw [Array.toList_append]
def tailL (o : Nat) (ps : List (List Nat)) : List Nat := ps.flatMap fun p => 32 :: o :: 32 :: p
theorem join_tl {o : Nat} {sep : Str} (hs : tl sep = [32, o, 32]) : ∀ (x : Str) (r : List Str), tl (Str.join sep (x :: r)) = tl x ++ tailL o (r.map tl)
  | x, [] => by
    show tl x = tl x ++ []
    rw [List.append_nil]
  | x, y :: r => by
    show tl (x ++ sep ++ Str.join sep (y :: r)) = _
    rw [tl_app, tl_app, hs, join_tl hs y r]
    show tl x ++ [32, o, 32] ++ (tl y ++ tailL o (r.map tl)) = tl x ++ ((32 :: o :: 32 :: tl y) ++ tailL o (r.map tl))
    rw [List.append_assoc] <;> rfl
theorem op_sign {o : Str} (h : isOp (.str o) = true) : ∃ c, o = ⟨#[c]⟩ ∧ isOpC c = true := by
  rcases op_shape h with h | h
  · exact ⟨38, (PyData.str.inj h).trans (by decide +kernel), by decide⟩
  · exact ⟨124, (PyData.str.inj h).trans (by decide +kernel), by decide⟩
theorem sep_tl {c : Nat} : tl ((" " : Str) ++ ⟨#[c]⟩ ++ (" " : Str)) = [32, c, 32] := by
  rw [tl_app, tl_app, show tl (" " : Str) = [32] by decide +kernel] <;> rfl
def Stop (l : List Nat) : Prop := l = [] ∨ ∃ r, l = 41 :: r
theorem part_let {f : RdF} {z : Str} (h : isLet (.str z) = true) (rest : List Nat) : rPart f (tl z ++ rest) = some (.str z, rest) := by
  obtain ⟨c, e, hc⟩ := let_shape h
  rw [PyData.str.inj e]
  exact if_pos hc
theorem text_tup {n c : Nat} {p : PyData} {ps : List PyData} : tl (textD (n + 1) (.tuple (.str ⟨#[c]⟩ :: p :: ps))) = tl (partT (textD n) p) ++ tailL c (ps.map fun q => tl (partT (textD n) q)) := by
  show tl (Txt.join ((" " : Str) ++ ⟨#[c]⟩ ++ " ") ((p :: ps).map (partT (textD n)))) = _
  rw [TL.join_eq, List.map_cons, join_tl sep_tl, List.map_map] <;> rfl
theorem par_tl (x : Str) : tl (("(" : Str) ++ x ++ ")") = 40 :: (tl x ++ [41]) := by
  rw [tl_app, tl_app, show tl ("(" : Str) = [40] by decide +kernel, show tl (")" : Str) = [41] by decide +kernel] <;> rfl
theorem rTail_all {g : RdF} {o : Nat} {f : PyData → List Nat} {rest : List Nat} (hr : Stop rest) : ∀ (ps : List PyData) (k : Nat), (∀ p ∈ ps, ∀ r, g (f p ++ r) = some (p, r)) → ps.length ≤ k → rTail g o k (tailL o (ps.map f) ++ rest) = some (ps, rest)
  | [], k, _, _ => by
    refine rTail_end ?_
    rcases hr with rfl | ⟨r, rfl⟩
    · exact fun z => by cases z
    · exact fun z => by
        have := List.head_eq_of_cons_eq z
        cases this
  | p :: ps, k, h, hk => by
    obtain ⟨j, rfl⟩ : ∃ j, k = j + 1 := ⟨k - 1, by rw [List.length_cons] at hk; omega⟩
    show rTail g o (j + 1) ((32 :: o :: 32 :: f p) ++ tailL o (ps.map f) ++ rest) = _
    rw [show (32 :: o :: 32 :: f p) ++ tailL o (ps.map f) ++ rest = 32 :: o :: 32 :: (f p ++ (tailL o (ps.map f) ++ rest)) by rw [List.append_assoc] <;> rfl]
    rw [rTail_more, h p List.mem_cons_self]
    show ((rTail g o j (tailL o (ps.map f) ++ rest)).map fun y => (p :: y.1, y.2)) = _
    rw [rTail_all hr ps j (fun q hq => h q (List.mem_cons_of_mem _ hq)) (by rw [List.length_cons] at hk; omega)] <;> rfl
theorem tail_len {o : Nat} : ∀ (ps : List (List Nat)), ps.length ≤ (tailL o ps).length
  | [] => Nat.le_refl _
  | p :: ps => by
    have := tail_len (o := o) ps
    show ps.length + 1 ≤ ((32 :: o :: 32 :: p) ++ tailL o ps).length
    rw [List.length_append, List.length_cons]
    omega
theorem read_seq : ∀ {n : Nat} {d : PyData}, Drawn n d → isTup d = true → ∀ rest, Stop rest → rSeq (n + 1) (tl (textD (n + 1) d) ++ rest) = some (d, rest) := by
  intro n
  induction n with
  | zero =>
    intro d h ht
    rcases drawn_shape h with ⟨z, rfl, _⟩ | ⟨_, _, _, _, _, _, _, e, _⟩
    · cases ht
    · cases e
  | succ n ih =>
    intro d h ht rest hr
    rcases drawn_shape h with ⟨z, rfl, _⟩ | ⟨o, ps, k, rfl, ho, l2, l4, e, hp⟩
    · cases ht
    cases e
    obtain ⟨c, rfl, hc⟩ := op_sign ho
    have part : ∀ p ∈ ps, ∀ r, rPart (rSeq (n + 1)) (tl (partT (textD (n + 1)) p) ++ r) = some (p, r) := fun p hpp r => by
      rcases drawn_shape (hp p hpp) with ⟨z, rfl, hz⟩ | ⟨o2, ps2, _, rfl, _⟩
      · exact part_let hz r
      · show rPart (rSeq (n + 1)) (tl (("(" : Str) ++ textD (n + 1) (.tuple (.str o2 :: ps2)) ++ ")") ++ r) = _
        rw [par_tl]
        show rPart (rSeq (n + 1)) (40 :: ((tl (textD (n + 1) (.tuple (.str o2 :: ps2))) ++ [41]) ++ r)) = _
        rw [List.append_assoc, rPart_paren, ih (hp _ hpp) rfl ([41] ++ r) (.inr ⟨r, rfl⟩)]
        rfl
    match ps, l2, part with
    | p :: q :: ps, _, part =>
    rw [text_tup, List.append_assoc]
    show (rPart (rSeq (n + 1)) (tl (partT (textD (n + 1)) p) ++ (tailL c ((q :: ps).map fun q => tl (partT (textD (n + 1)) q)) ++ rest))).bind _ = _
    rw [part p List.mem_cons_self]
    show (match (tailL c ((q :: ps).map fun q => tl (partT (textD (n + 1)) q)) ++ rest)[1]? with
      | some o => if isOpC o = true then (rTail (rPart (rSeq (n + 1))) o (tailL c ((q :: ps).map fun q => tl (partT (textD (n + 1)) q)) ++ rest).length (tailL c ((q :: ps).map fun q => tl (partT (textD (n + 1)) q)) ++ rest)).bind (rEnd o p) else rAlone p (tailL c ((q :: ps).map fun q => tl (partT (textD (n + 1)) q)) ++ rest)
      | none => rAlone p (tailL c ((q :: ps).map fun q => tl (partT (textD (n + 1)) q)) ++ rest)) = _
    have e1 : (tailL c ((q :: ps).map fun q => tl (partT (textD (n + 1)) q)) ++ rest)[1]? = some c := rfl
    rw [e1]
    show (if isOpC c = true then _ else _) = _
    rw [if_pos hc, rTail_all hr (q :: ps) _ (fun x hx => part x (List.mem_cons_of_mem _ hx)) ?_]
    · rfl
    · rw [List.length_append]
      have := tail_len (o := c) ((q :: ps).map fun q => tl (partT (textD (n + 1)) q))
      rw [List.length_map] at this
      omega
theorem parse_text {d : PyData} (h : Drawn 4 d) (hm : inB (meas 5 d) 24 = true) : parseD (textD 5 d) = some d := by
  unfold parseD
  have e : rSeq 5 (tl (textD 5 d)) = some (d, []) := by
    rcases drawn_shape h with ⟨z, rfl, hz⟩ | ⟨o, ps, k, rfl, _⟩
    · show (rPart (rSeq 4) (tl z)).bind _ = _
      have := part_let (f := rSeq 4) hz []
      rw [List.append_nil] at this
      rw [this]
      exact if_pos hz
    · have := read_seq h rfl [] (.inl rfl)
      rw [List.append_nil] at this
      exact this
  rw [e]
  exact if_pos hm
end FF
/-! the order of terms: the plain law -/
namespace FF
open PySem PySem.Spec PyProof.Rows L2
def hdS : PyData → Str
  | .str z => z
  | .tuple (.str o :: _) => o
  | _ => ""
def tlD : PyData → List PyData
  | .tuple (_ :: ps) => ps
  | _ => []
def leqStep (f : PyData → PyData → Bool) (l r : PyData) : Bool :=
  PyData.eqv l r || (if hdS l = "|" then (tlD l).all fun p => f p r else if hdS r = "&" then (tlD r).all fun q => f l q
    else (decide (hdS r = "|") && (tlD r).any fun q => f l q) || (decide (hdS l = "&") && (tlD l).any fun p => f p r))
def leqD : Nat → PyData → PyData → Bool
  | 0, _, _ => false
  | n + 1, l, r => leqStep (leqD n) l r
theorem tl_drawn {n : Nat} {d p : PyData} (h : Drawn n d) (hp : p ∈ tlD d) : ∃ k, n = k + 1 ∧ Drawn k p := by
  cases n with
  | zero =>
    obtain ⟨c, rfl, _⟩ := let_shape h
    cases hp
  | succ k =>
    rcases h with h | ⟨o, ps, rfl, _, _, _, h⟩
    · obtain ⟨c, rfl, _⟩ := let_shape h
      cases hp
    · exact ⟨k, rfl, h p hp⟩
theorem all_cong {α : Type} {f g : α → Bool} : ∀ {l : List α}, (∀ x ∈ l, f x = g x) → l.all f = l.all g
  | [], _ => rfl
  | x :: r, h => by rw [List.all_cons, List.all_cons, h x List.mem_cons_self, all_cong fun y hy => h y (List.mem_cons_of_mem _ hy)]
theorem any_cong {α : Type} {f g : α → Bool} : ∀ {l : List α}, (∀ x ∈ l, f x = g x) → l.any f = l.any g
  | [], _ => rfl
  | x :: r, h => by rw [List.any_cons, List.any_cons, h x List.mem_cons_self, any_cong fun y hy => h y (List.mem_cons_of_mem _ hy)]
theorem step_cong {f g : PyData → PyData → Bool} {l r : PyData} (h1 : ∀ p ∈ tlD l, f p r = g p r) (h2 : ∀ q ∈ tlD r, f l q = g l q) : leqStep f l r = leqStep g l r := by
  unfold leqStep
  rw [all_cong h1, all_cong h2, any_cong h1, any_cong h2]
theorem leq_mono : ∀ (n a b : Nat) (l r : PyData), Drawn a l → Drawn b r → a + b < n → leqD (n + 1) l r = leqD n l r
  | 0, _, _, _, _, _, _, h => by omega
  | n + 1, a, b, l, r, hl, hr, h => by
    show leqStep (leqD (n + 1)) l r = leqStep (leqD n) l r
    refine step_cong (fun p hp => ?_) (fun q hq => ?_)
    · obtain ⟨k, rfl, h1⟩ := tl_drawn hl hp
      exact leq_mono n k b p r h1 hr (by omega)
    · obtain ⟨k, rfl, h1⟩ := tl_drawn hr hq
      exact leq_mono n a k l q hl h1 (by omega)
/-- is the left term below the right one on every board -/
def leq (l r : PyData) : Bool := leqD 9 l r
theorem leq_step {l r : PyData} (hl : Drawn 4 l) (hr : Drawn 4 r) : leq l r = leqStep leq l r := by
  show leqStep (leqD 8) l r = leqStep (leqD 9) l r
  refine step_cong (fun p hp => ?_) (fun q hq => ?_)
  · obtain ⟨k, e, h1⟩ := tl_drawn hl hp
    exact (leq_mono 8 k 4 p r h1 hr (by omega)).symm
  · obtain ⟨k, e, h1⟩ := tl_drawn hr hq
    exact (leq_mono 8 4 k l q hl h1 (by omega)).symm
/-! ### how many pairs are asked -/
def costD : Nat → PyData → PyData → Nat
  | 0, _, _ => 0
  | n + 1, l, r => 1 + (((tlD l).map fun p => costD n p r).sum + ((tlD r).map fun q => costD n l q).sum)
mutual
def lvs : PyData → Nat
  | .tuple (_ :: ps) => 1 + lvsAll ps
  | _ => 1
def lvsAll : List PyData → Nat
  | [] => 0
  | d :: r => lvs d + lvsAll r
end
theorem lvs_pos (d : PyData) : 1 ≤ lvs d := by
  cases d with
  | tuple ds => cases ds <;> simp [lvs]
  | _ => simp [lvs]
theorem sum_mul {f : PyData → Nat} {B : Nat} : ∀ {ps : List PyData}, (∀ p ∈ ps, f p ≤ B * lvs p) → (ps.map f).sum ≤ B * lvsAll ps
  | [], _ => by simp [lvsAll]
  | p :: r, h => by
    have h1 := h p List.mem_cons_self
    have h2 := sum_mul (f := f) (B := B) (ps := r) fun q hq => h q (List.mem_cons_of_mem _ hq)
    rw [List.map_cons, List.sum_cons, lvsAll, Nat.mul_add]
    omega
theorem tl_lvs (d : PyData) : lvsAll (tlD d) ≤ lvs d := by
  cases d with
  | tuple ds =>
    cases ds with
    | nil => simp [tlD, lvsAll]
    | cons o ps =>
      show lvsAll ps ≤ lvs (.tuple (o :: ps))
      rw [lvs]
      omega
  | _ => simp [tlD, lvsAll]
theorem cost_le : ∀ (n : Nat) (l r : PyData), costD n l r + lvs l * lvs r ≤ 2 ^ n * (lvs l * lvs r)
  | 0, l, r => by simp [costD]
  | n + 1, l, r => by
    have h1 : ((tlD l).map fun p => costD n p r).sum ≤ ((2 ^ n - 1) * lvs r) * lvsAll (tlD l) := sum_mul fun p _ => by
      have := cost_le n p r
      have e : 2 ^ n * (lvs p * lvs r) = (2 ^ n - 1) * lvs r * lvs p + lvs p * lvs r := by
        have h2 : 1 ≤ 2 ^ n := Nat.one_le_pow _ _ (by decide)
        obtain ⟨k, hk⟩ : ∃ k, 2 ^ n = k + 1 := ⟨2 ^ n - 1, by omega⟩
        rw [hk, Nat.add_sub_cancel, Nat.add_mul, Nat.one_mul, Nat.mul_assoc, Nat.mul_comm (lvs r)]
      omega
    have h2 : ((tlD r).map fun q => costD n l q).sum ≤ ((2 ^ n - 1) * lvs l) * lvsAll (tlD r) := sum_mul fun q _ => by
      have := cost_le n l q
      have e : 2 ^ n * (lvs l * lvs q) = (2 ^ n - 1) * lvs l * lvs q + lvs l * lvs q := by
        have h2 : 1 ≤ 2 ^ n := Nat.one_le_pow _ _ (by decide)
        obtain ⟨k, hk⟩ : ∃ k, 2 ^ n = k + 1 := ⟨2 ^ n - 1, by omega⟩
        rw [hk, Nat.add_sub_cancel, Nat.add_mul, Nat.one_mul, Nat.mul_assoc]
      omega
    have h3 : ((2 ^ n - 1) * lvs r) * lvsAll (tlD l) ≤ (2 ^ n - 1) * (lvs l * lvs r) := by
      rw [Nat.mul_assoc, Nat.mul_comm (lvs l)]
      exact Nat.mul_le_mul_left _ (Nat.mul_le_mul_left _ (tl_lvs l))
    have h4 : ((2 ^ n - 1) * lvs l) * lvsAll (tlD r) ≤ (2 ^ n - 1) * (lvs l * lvs r) := by
      rw [Nat.mul_assoc]
      exact Nat.mul_le_mul_left _ (Nat.mul_le_mul_left _ (tl_lvs r))
    have h5 : 1 ≤ lvs l * lvs r := Nat.mul_pos (lvs_pos l) (lvs_pos r)
    have h6 : 1 ≤ 2 ^ n := Nat.one_le_pow _ _ (by decide)
    obtain ⟨k, hk⟩ : ∃ k, 2 ^ n = k + 1 := ⟨2 ^ n - 1, by omega⟩
    rw [hk, Nat.add_sub_cancel] at h1 h2 h3 h4
    show 1 + (((tlD l).map fun p => costD n p r).sum + ((tlD r).map fun q => costD n l q).sum) + lvs l * lvs r ≤ _
    rw [Nat.pow_succ, hk]
    generalize lvs l * lvs r = X at *
    have : (k + 1) * 2 * X = k * X + k * X + 2 * X := by
      rw [Nat.mul_comm (k + 1), Nat.mul_assoc, Nat.add_mul, Nat.one_mul, Nat.mul_add]
      omega
    omega
theorem lvs_meas : ∀ {n : Nat} {d : PyData}, Drawn n d → ((lvs d : Int) + 1 ≤ 2 * meas (n + 1) d)
  | 0, d, h => by
    rw [meas_let (show isLet d = true from h), if_pos (by omega)]
    obtain ⟨c, rfl, _⟩ := let_shape h
    simp [lvs]
  | n + 1, d, h => by
    rcases h with h | ⟨o, ps, rfl, ho, h2, h4, hp⟩
    · rw [meas_let h, if_pos (by omega)]
      obtain ⟨c, rfl, _⟩ := let_shape h
      simp [lvs]
    rw [meas_up tup_let (by omega)]
    have hs := sum_in (f := meas (n + 1)) (B := ((24 ^ n : Nat) : Int)) (l := ps) fun p hpp => meas_drawn (hp p hpp) (n + 1) (by omega)
    have hl : ∀ qs : List PyData, (∀ q ∈ qs, Drawn n q) → (lvsAll qs : Int) + qs.length ≤ 2 * ((qs.map (meas (n + 1))).sum) := fun qs => by
      induction qs with
      | nil => exact fun _ => by simp [lvsAll]
      | cons q r ih =>
        intro h
        have h1 := lvs_meas (h q List.mem_cons_self)
        have h2 := ih fun x hx => h x (List.mem_cons_of_mem _ hx)
        rw [List.map_cons, List.sum_cons, lvsAll, List.length_cons]
        omega
    have h5 := hl ps hp
    have e : lvs (.tuple (o :: ps)) = 1 + lvsAll ps := by rw [lvs]
    rw [e]
    match ps, h2, h4, hs, h5 with
    | y :: z :: r, h2, h4, hs, h5 =>
      show _ ≤ 2 * (if isOp o = true then (if (0 : Int) ∈ ((y :: z :: r).map (meas (n + 1))) then 0 else ((y :: z :: r).map (meas (n + 1))).sum) else 0)
      rw [if_pos ho, if_neg hs.1]
      have : (2 : Int) ≤ (y :: z :: r).length := by exact_mod_cast h2
      omega
theorem lvs_fit {d : PyData} (h : Drawn 4 d) (hm : meas 5 d ≤ 24) : lvs d ≤ 47 := by
  have : (lvs d : Int) + 1 ≤ 2 * meas 5 d := lvs_meas h
  omega
theorem cost_fit {l r : PyData} (hl : lvs l ≤ 47) (hr : lvs r ≤ 47) : costD 9 l r ≤ 1130000 := by
  have h1 := cost_le 9 l r
  have h2 : lvs l * lvs r ≤ 47 * 47 := Nat.mul_le_mul hl hr
  have : 2 ^ 9 * (lvs l * lvs r) = 511 * (lvs l * lvs r) + lvs l * lvs r := by omega
  omega
/-! ### what fits is a word -/
theorem meas_nonneg : ∀ (n : Nat) (d : PyData), 0 ≤ meas n d
  | 0, _ => Int.le_refl 0
  | n + 1, d => by
    show 0 ≤ (if isLet d = true then (1 : Int) else if n = 0 then 0 else measP (meas n) d)
    split
    · decide
    · split
      · exact Int.le_refl 0
      · match d with
        | .tuple (x :: y :: z :: r) =>
          show 0 ≤ (if isOp x = true then (if (0 : Int) ∈ ((y :: z :: r).map (meas n)) then 0 else ((y :: z :: r).map (meas n)).sum) else 0)
          split
          · split
            · exact Int.le_refl 0
            · generalize y :: z :: r = l
              induction l with
              | nil => exact Int.le_refl 0
              | cons a t ih =>
                rw [List.map_cons, List.sum_cons]
                have := meas_nonneg n a
                omega
          · exact Int.le_refl 0
        | .tuple [] => exact Int.le_refl 0
        | .tuple [_] => exact Int.le_refl 0
        | .tuple [_, _] => exact Int.le_refl 0
        | .none | .bool _ | .int _ | .str _ | .list _ | .dict _ => exact Int.le_refl 0
theorem pos_le {f : PyData → Int} : ∀ {ps : List PyData}, (∀ p ∈ ps, 1 ≤ f p) → (ps.length : Int) ≤ (ps.map f).sum ∧ ∀ p ∈ ps, f p ≤ (ps.map f).sum
  | [], _ => ⟨by simp, fun p h => by cases h⟩
  | p :: r, h => by
    have h1 := h p List.mem_cons_self
    obtain ⟨h2, h3⟩ := pos_le (f := f) (ps := r) fun q hq => h q (List.mem_cons_of_mem _ hq)
    rw [List.map_cons, List.sum_cons, List.length_cons]
    refine ⟨by omega, fun q hq => ?_⟩
    rcases List.mem_cons.mp hq with rfl | hq
    · omega
    · have := h3 q hq
      omega
theorem word_of : ∀ (n : Nat) (d : PyData), 1 ≤ meas (n + 1) d → meas (n + 1) d ≤ 24 → Drawn n d := by
  intro n
  induction n with
  | zero =>
    intro d h1 _
    show isLet d = true
    cases h : isLet d with
    | true => rfl
    | false =>
      rw [meas_low h (by omega)] at h1
      omega
  | succ n ih =>
    intro d h1 h2
    cases h : isLet d with
    | true => exact .inl h
    | false =>
      rw [meas_up h (by omega)] at h1 h2
      match d, h1, h2 with
      | .tuple (o :: y :: z :: r), h1, h2 =>
        have e : measP (meas (n + 1)) (.tuple (o :: y :: z :: r)) = if isOp o = true then (if (0 : Int) ∈ ((y :: z :: r).map (meas (n + 1))) then 0 else ((y :: z :: r).map (meas (n + 1))).sum) else 0 := rfl
        rw [e] at h1 h2
        cases ho : isOp o with
        | false =>
          rw [ho, if_neg (by decide)] at h1
          omega
        | true =>
          rw [ho, if_pos rfl] at h1 h2
          by_cases h0 : (0 : Int) ∈ ((y :: z :: r).map (meas (n + 1)))
          · rw [if_pos h0] at h1
            omega
          rw [if_neg h0] at h1 h2
          have hp : ∀ p ∈ y :: z :: r, 1 ≤ meas (n + 1) p := fun p hp => by
            have := meas_nonneg (n + 1) p
            have : meas (n + 1) p ≠ 0 := fun e => h0 (List.mem_map.mpr ⟨p, hp, e⟩)
            omega
          obtain ⟨h3, h4⟩ := pos_le hp
          refine .inr ⟨o, y :: z :: r, rfl, ho, by simp, by omega, fun p hpp => ih p (hp p hpp) (by have := h4 p hpp; omega)⟩
      | .tuple [], h1, _ => exact absurd h1 (by show ¬ (1 : Int) ≤ 0; decide)
      | .tuple [_], h1, _ => exact absurd h1 (by show ¬ (1 : Int) ≤ 0; decide)
      | .tuple [_, _], h1, _ => exact absurd h1 (by show ¬ (1 : Int) ≤ 0; decide)
      | .str _, h1, _ => exact absurd h1 (by show ¬ (1 : Int) ≤ 0; decide)
      | .none, h1, _ => exact absurd h1 (by show ¬ (1 : Int) ≤ 0; decide)
      | .bool _, h1, _ => exact absurd h1 (by show ¬ (1 : Int) ≤ 0; decide)
      | .int _, h1, _ => exact absurd h1 (by show ¬ (1 : Int) ≤ 0; decide)
      | .list _, h1, _ => exact absurd h1 (by show ¬ (1 : Int) ≤ 0; decide)
      | .dict _, h1, _ => exact absurd h1 (by show ¬ (1 : Int) ≤ 0; decide)
/-! ### the text of a pair tells the pair -/
theorem tl_inj {a b : Str} (h : tl a = tl b) : a = b := by
  obtain ⟨⟨x⟩⟩ := a
  obtain ⟨⟨y⟩⟩ := b
  have h : x = y := h
  rw [h]
theorem let_sign {z : Str} (h : isLet (.str z) = true) : ∃ c, tl z = [c] ∧ 97 ≤ c := by
  obtain ⟨c, e, hc⟩ := let_shape h
  rw [PyData.str.inj e]
  refine ⟨c, rfl, ?_⟩
  have : c ∈ [97, 98, 99, 100, 101, 102, 103, 104] := hc
  simp only [List.mem_cons, List.not_mem_nil, or_false] at this
  omega
theorem text_sign : ∀ {n : Nat} {d : PyData}, Drawn n d → 60 ∉ tl (textD (n + 1) d)
  | 0, d, h => by
    obtain ⟨c, rfl, _⟩ := let_shape h
    obtain ⟨x, e, hx⟩ := let_sign (z := ⟨#[c]⟩) h
    show 60 ∉ tl ⟨#[c]⟩
    rw [e]
    simp only [List.mem_cons, List.not_mem_nil, or_false]
    omega
  | n + 1, d, h => by
    rcases h with h | ⟨o, ps, rfl, ho, h2, h4, hp⟩
    · obtain ⟨c, rfl, _⟩ := let_shape h
      obtain ⟨x, e, hx⟩ := let_sign (z := ⟨#[c]⟩) h
      show 60 ∉ tl ⟨#[c]⟩
      rw [e]
      simp only [List.mem_cons, List.not_mem_nil, or_false]
      omega
    have part : ∀ p ∈ ps, 60 ∉ tl (partT (textD (n + 1)) p) := fun p hpp => by
      have ih := text_sign (hp p hpp)
      cases p with
      | str z => exact ih
      | tuple qs =>
        show 60 ∉ tl (("(" : Str) ++ textD (n + 1) (.tuple qs) ++ ")")
        rw [par_tl]
        simp [ih]
      | _ =>
        have := hp _ hpp
        rcases drawn_shape this with ⟨z, e, _⟩ | ⟨_, _, _, e, _⟩ <;> cases e
    match o, ho with
    | .str o, ho =>
    obtain ⟨c, rfl, hc⟩ := op_sign ho
    match ps, h2, part with
    | p :: ps, _, part =>
    rw [text_tup]
    have hc : c ≠ 60 := fun e => by
      subst e
      exact absurd hc (by decide)
    intro hm
    rcases List.mem_append.mp hm with hm | hm
    · exact part p List.mem_cons_self hm
    · obtain ⟨x, hx, hm⟩ := List.mem_flatMap.mp hm
      obtain ⟨q, hq, rfl⟩ := List.mem_map.mp hx
      simp only [List.mem_cons] at hm
      rcases hm with hm | hm | hm | hm
      · omega
      · exact hc hm.symm
      · omega
      · exact part q (List.mem_cons_of_mem _ hq) hm
theorem text_long {n : Nat} {d : PyData} (h : Drawn n d) (ht : isTup d = true) : 2 ≤ (tl (textD (n + 1) d)).length := by
  rcases drawn_shape h with ⟨z, rfl, _⟩ | ⟨o, ps, k, rfl, ho, h2, h4, rfl, hp⟩
  · cases ht
  obtain ⟨c, rfl, hc⟩ := op_sign ho
  match ps, h2 with
  | p :: q :: ps, _ =>
  rw [text_tup, List.length_append, List.map_cons]
  show 2 ≤ _ + ((32 :: c :: 32 :: _) ++ tailL c _).length
  rw [List.length_append, List.length_cons, List.length_cons]
  omega
theorem tup_or {n : Nat} {d : PyData} (h : Drawn n d) : (∃ z, d = .str z ∧ isLet d = true) ∨ isTup d = true := by
  rcases drawn_shape h with h | ⟨_, _, _, rfl, _⟩
  · exact .inl h
  · exact .inr rfl
theorem text_inj {d e : PyData} (hd : Drawn 4 d) (he : Drawn 4 e) (h : tl (textD 5 d) = tl (textD 5 e)) : d = e := by
  rcases tup_or hd with ⟨z, rfl, hz⟩ | hd1
  · rcases tup_or he with ⟨y, rfl, hy⟩ | he1
    · have h : tl z = tl y := h
      rw [tl_inj h]
    · have h1 := text_long he he1
      obtain ⟨c, e1, _⟩ := let_sign hz
      have h : tl z = tl (textD 5 e) := h
      rw [← h, e1] at h1
      cases h1 with
      | step h => cases h
  · rcases tup_or he with ⟨y, rfl, hy⟩ | he1
    · have h1 := text_long hd hd1
      obtain ⟨c, e1, _⟩ := let_sign hy
      have h : tl (textD 5 d) = tl y := h
      rw [h, e1] at h1
      cases h1 with
      | step h => cases h
    · have h1 := read_seq hd hd1 [] (.inl rfl)
      have h2 := read_seq he he1 [] (.inl rfl)
      rw [h, h2] at h1
      exact ((Prod.mk.inj (Option.some.inj h1)).1).symm
theorem split_at : ∀ {xs ys as bs : List Nat}, 60 ∉ xs → 60 ∉ ys → xs ++ 60 :: as = ys ++ 60 :: bs → xs = ys ∧ as = bs
  | [], [], _, _, _, _, h => ⟨rfl, (List.cons.inj h).2⟩
  | [], y :: ys, _, _, _, h2, h => absurd (List.cons.inj h).1 (fun e => h2 (by rw [e]; exact List.mem_cons_self))
  | x :: xs, [], _, _, h1, _, h => absurd (List.cons.inj h).1 (fun e => h1 (by rw [← e]; exact List.mem_cons_self))
  | x :: xs, y :: ys, _, _, h1, h2, h => by
    obtain ⟨e1, e2⟩ := List.cons.inj h
    obtain ⟨e3, e4⟩ := split_at (fun z => h1 (List.mem_cons_of_mem _ z)) (fun z => h2 (List.mem_cons_of_mem _ z)) e2
    exact ⟨by rw [e1, e3], e4⟩
/-- the text under which a pair is kept -/
def keyD (l r : PyData) : Str := textD 5 l ++ " < " ++ textD 5 r
theorem key_inj {l r l' r' : PyData} (h1 : Drawn 4 l) (h2 : Drawn 4 r) (h3 : Drawn 4 l') (h4 : Drawn 4 r') (h : keyD l r = keyD l' r') : l = l' ∧ r = r' := by
  have e : ∀ a b : PyData, tl (keyD a b) = (tl (textD 5 a) ++ [32]) ++ 60 :: (32 :: tl (textD 5 b)) := fun a b => by
    unfold keyD
    rw [tl_app, tl_app, show tl (" < " : Str) = [32, 60, 32] by decide +kernel, List.append_assoc, List.append_assoc] <;> rfl
  have h5 := congrArg tl h
  rw [e, e] at h5
  have n : ∀ {a : PyData}, Drawn 4 a → 60 ∉ tl (textD 5 a) ++ [32] := fun ha hm => by
    rcases List.mem_append.mp hm with hm | hm
    · exact text_sign ha hm
    · simp at hm
  obtain ⟨h6, h7⟩ := split_at (n h1) (n h3) h5
  exact ⟨text_inj h1 h3 (List.append_cancel_right h6), text_inj h2 h4 (List.cons.inj h7).2⟩
end FF
namespace FF
open PySem PySem.Spec PyProof.Rows L2
theorem nest_drawn : ∀ k, Drawn k (nestD k)
  | 0 => by show isLet _ = true; decide +kernel
  | k + 1 => .inr ⟨_, _, rfl, by split <;> decide +kernel, by simp, by simp, fun p hp => by
    simp only [List.mem_cons, List.not_mem_nil, or_false] at hp
    rcases hp with rfl | rfl
    · exact nest_drawn k
    · exact drawn_mono (m := 0) (show isLet _ = true by decide +kernel) (Nat.zero_le _)⟩
theorem meas_nest : ∀ k m, k < m → meas m (nestD k) = (k : Int) + 1
  | 0, m, h => by
    rw [show nestD 0 = .str ("a" : Str) from rfl, meas_let (by decide +kernel), if_pos h] <;> rfl
  | k + 1, m, h => by
    obtain ⟨j, rfl⟩ : ∃ j, m = j + 1 := ⟨m - 1, by omega⟩
    rw [show nestD (k + 1) = .tuple [.str (if k % 2 = 0 then ("&" : Str) else ("|" : Str)), nestD k, .str ("b" : Str)] from rfl, meas_up tup_let (by omega)]
    have ih := meas_nest k j (by omega)
    have hb : meas j (.str ("b" : Str)) = 1 := by rw [meas_let (by decide +kernel), if_pos (by omega)]
    show (if isOp (.str (if k % 2 = 0 then ("&" : Str) else ("|" : Str))) = true then (if (0 : Int) ∈ [meas j (nestD k), meas j (.str ("b" : Str))] then 0 else [meas j (nestD k), meas j (.str ("b" : Str))].sum) else 0) = _
    rw [if_pos (by split <;> decide +kernel), ih, hb, if_neg (by simp; omega)]
    simp
theorem meas_down : ∀ (n : Nat) (d : PyData), meas (n + 1) d = 0 → meas n d = 0
  | 0, _, _ => rfl
  | n + 1, d, h => by
    have hl : isLet d = false := by
      cases e : isLet d with
      | false => rfl
      | true =>
        rw [meas_let e, if_pos (by omega)] at h
        cases h
    by_cases hn : n = 0
    · subst hn
      exact meas_low hl (by omega)
    rw [meas_up hl (by omega)] at h
    rw [meas_up hl (by omega)]
    match d, h with
    | .tuple (x :: y :: z :: r), h =>
      have h : (if isOp x = true then (if (0 : Int) ∈ ((y :: z :: r).map (meas (n + 1))) then 0 else ((y :: z :: r).map (meas (n + 1))).sum) else 0) = 0 := h
      show (if isOp x = true then (if (0 : Int) ∈ ((y :: z :: r).map (meas n)) then 0 else ((y :: z :: r).map (meas n)).sum) else 0) = 0
      split at h
      · rename_i ho
        rw [if_pos ho]
        split at h
        · rename_i hz
          obtain ⟨p, hp, e⟩ := List.mem_map.mp hz
          rw [if_pos (List.mem_map.mpr ⟨p, hp, meas_down n p e⟩)]
        · rename_i hz
          have ge : ∀ l : List PyData, (∀ p ∈ l, meas (n + 1) p ≠ 0) → (l.length : Int) ≤ (l.map (meas (n + 1))).sum := fun l => by
            induction l with
            | nil => exact fun _ => by simp
            | cons a t ih =>
              intro hh
              have h1 := hh a List.mem_cons_self
              have h2 := meas_nonneg (n + 1) a
              have h3 := ih fun p hp => hh p (List.mem_cons_of_mem _ hp)
              rw [List.map_cons, List.sum_cons, List.length_cons]
              omega
          have := ge (y :: z :: r) fun p hp e => hz (List.mem_map.mpr ⟨p, hp, e⟩)
          rw [h] at this
          simp only [List.length_cons] at this
          omega
      · rename_i ho
        rw [if_neg ho]
    | .tuple [], _ => rfl
    | .tuple [_], _ => rfl
    | .tuple [_, _], _ => rfl
    | .none, _ | .bool _, _ | .int _, _ | .str _, _ | .list _, _ | .dict _, _ => rfl
/-- what is no term of any size -/
theorem m3 {x y z : PyData} (h : isOp x = false ∨ meas 8 y = 0 ∨ meas 8 z = 0) : meas 9 (.tuple [x, y, z]) = 0 := by
  rw [meas_up tup_let (by decide)]
  show (if isOp x = true then (if (0 : Int) ∈ [meas 8 y, meas 8 z] then 0 else [meas 8 y, meas 8 z].sum) else 0) = 0
  rcases h with h | h | h
  · rw [if_neg (by rw [h]; decide)]
  · split
    · rw [if_pos (by simp [h])]
    · rfl
  · split
    · rw [if_pos (by simp [h])]
    · rfl
def spOdd0 (K : PySem.W.Frag) : Sp := fun vs H Q _ => ∃ (s : Addr) (v : V) (d : PyData), vs = [.ref s, v] ∧ Src H s ∧ Dp K H v d ∧ Nice 20 d ∧ ∀ v' H' d', Same H H' → Dp K H' v' d' → Nice 30 d' → meas 9 d' = 0 → Q v' H'
end FF
namespace FF
open PySem PySem.Spec PyProof.Rows L2
theorem nice_w {d : PyData} (hd : Nice 20 d) : ∀ e, e ∈ ([.str ("&" : Str), .str ("|" : Str), .str ("" : Str), .tuple [.str ("a" : Str), .str ("b" : Str)], .tuple [.str ("|" : Str), .str ("b" : Str)], .list [.str ("a" : Str)], d] : List PyData) → Nice 25 e := by
  intro e he
  simp only [List.mem_cons, List.not_mem_nil, or_false] at he
  rcases he with rfl | rfl | rfl | rfl | rfl | rfl | rfl
  all_goals first
    | exact hd.mono (by decide)
    | exact ⟨by decide +kernel, by decide +kernel⟩
section
variable {P : Program} {w : World} {K : PySem.W.Frag} {mg : Str → Option Value} {base : Heap}
theorem ok_nest {f : Addr} {fd : FuncData} (F : FunD K "_law_nest" "_law_nest" (defArgs s_law_nest) (defBody s_law_nest) (defScope s_law_nest) [] [] f fd) (hm : mg "_law_nest" = some (.ref f)) (T : Top K mg) : Def P w K mg base "_law_nest" 1 ["_law_many"] (spNest K) := by
  refine def_mk F hm (F.bindsN fun _ _ _ _ _ _ us hl => match us, hl with | [_], _ => rfl) sc_law_nest (fun vs H Q E h => ?_) (fun cdv A outer s H vs Q E hr h => ?_)
  · obtain ⟨m, rfl, _⟩ := h
    rfl
  obtain ⟨m, rfl, h40, q⟩ := h
  refine ⟨_, (pss_cons (ps_set (i := 1) sc_law_nest.nd rfl (Or.inl rfl) pe_str)
  (pss_cons (ps_for PassesOwn.never rfl (pi_range1 (by rfl) T.b_range (pa_cons (pv 0) pa_nil)) (pg_name (i := 2) sc_law_nest.nd rfl (Or.inl rfl) (.inl rfl))
  (pss_one (ps_set (i := 1) sc_law_nest.nd rfl (Or.inl rfl) (pe_tup (pa_cons (pe_ix (ix_listK K) (pe_lst (pa_cons pe_str (pa_cons pe_str pa_nil))) (pe_op op_mod (pe_callTy call_int1 (by rfl) T.b_int (by decide +kernel) (pa_cons (pv 2) pa_nil)) pe_int) (fun _ _ => rfl)) (pa_cons (pv 1) (pa_cons pe_str pa_nil)))))))
  (pss_one (ps_ret (pv 1))))), ?_⟩
  refine ⟨_, rfl, (m : Int), rfl, by omega, by omega, ?_⟩
  rw [Int.toNat_natCast]
  refine for_range (lo := 0) (n := m) (fun i σ H' => ∃ v o, σ = [some (.int m), some v, o] ∧ Same H H' ∧ Tp K H' v (nestD i)) ⟨_, none, rfl, Same.refl H, .str _⟩ ?_ ?_
  · rintro i σ H' hi ⟨v, o, rfl, e, hv⟩
    refine ⟨(by show 2 ≤ sizeLine; decide), fun p hp => ?_⟩
    have e1 := same_new hp (.lst [.str ("&" : Str), .str ("|" : Str)])
    refine ⟨_, rfl, .inl ⟨_, rfl, _, _, rfl, rfl, (by show (0 : Int) < 2; decide), ?_⟩⟩
    have hat : atI [V.str ("&" : Str), V.str ("|" : Str)] ((0 + (i : Int)) % 2) = some (.str (if i % 2 = 0 then ("&" : Str) else ("|" : Str))) := by
      by_cases h : i % 2 = 0
      · rw [if_pos h, show (0 + (i : Int)) % 2 = 0 by omega] <;> rfl
      · rw [if_neg h, show (0 + (i : Int)) % 2 = 1 by omega] <;> rfl
    refine ⟨p, _, _, _, rfl, rfl, SqL.of upd_same, hat, _, rfl, (by show 3 ≤ sizeLine; decide), fun t ht => ?_⟩
    have e2 := e1.trans (same_new ht (.tup [.str (if i % 2 = 0 then ("&" : Str) else ("|" : Str)), v, .str ("b" : Str)]))
    exact ⟨_, _, rfl, e.trans e2, .tup (.inl upd_same) (.cons (.str _) (.cons (hv.up (Same.T e2)) (.cons (.str _) .nil)))⟩
  · rintro σ H' ⟨v, o, rfl, e, hv⟩
    exact ⟨_, rfl, q v H' e hv⟩
theorem ok_odd0 {f : Addr} {fd : FuncData} (F : FunD K "_law_odd" "_law_odd" (defArgs s_law_odd) (defBody s_law_odd) (defScope s_law_odd) [] [] f fd) (hm : mg "_law_odd" = some (.ref f)) (T : Top K mg)
    (D_law_pick : Def P w K mg base "_law_pick" 2 ["_law_source_here", "_law_row"] (spPick K)) (D_law_nest : Def P w K mg base "_law_nest" 1 ["_law_many"] (spNest K)) : Def P w K mg base "_law_odd" 3 ["_law_source_here", "_law_word"] (spOdd0 K) := by
  refine def_mk F hm (F.bindsN fun _ _ _ _ _ _ us hl => match us, hl with | [_, _], _ => rfl) sc_law_odd (fun vs H Q E h => ?_) (fun cdv A outer s H vs Q E hr h => ?_)
  · obtain ⟨s, v, d, rfl, _⟩ := h
    rfl
  obtain ⟨s, v, d, rfl, hs, hd, hn, q⟩ := h
  refine ⟨_, (pss_cons (ps_set (i := 2) sc_law_odd.nd rfl (Or.inl rfl) (pe_lst (pa_cons pe_non (pa_cons pe_int (pa_cons pe_str (pa_cons pe_str (pa_cons pe_str (pa_cons pe_str (pa_cons (pe_tup pa_nil) (pa_cons (pe_tup (pa_cons pe_str pa_nil)) (pa_cons (pe_tup (pa_cons pe_str (pa_cons pe_str pa_nil))) (pa_cons (pe_tup (pa_cons pe_str (pa_cons pe_str (pa_cons pe_str pa_nil)))) (pa_cons (pe_tup (pa_cons pe_str (pa_cons pe_str (pa_cons pe_str pa_nil)))) (pa_cons (pe_lst (pa_cons pe_str (pa_cons pe_str (pa_cons pe_str pa_nil)))) pa_nil))))))))))))))
  (pss_cons (ps_set (i := 2) sc_law_odd.nd rfl (Or.inl rfl) (pe_op op_cat (pv 2) (pe_lst (pa_cons (pe_tup (pa_cons pe_str (pa_cons pe_str (pa_cons pe_non pa_nil)))) (pa_cons (pe_tup (pa_cons pe_str (pa_cons (pv 1) (pa_cons (pe_tup (pa_cons pe_str (pa_cons pe_str pa_nil))) pa_nil)))) (pa_cons (pe_tup (pa_cons (pv 1) pa_nil)) (pa_cons (pe_tup (pa_cons pe_str (pa_cons (pe_tup (pa_cons pe_str (pa_cons pe_str pa_nil))) (pa_cons (pv 1) pa_nil)))) (pa_cons (pe_tup (pa_cons pe_bl (pa_cons pe_str (pa_cons pe_str pa_nil)))) pa_nil))))))))
  (pss_cons (ps_set (i := 2) sc_law_odd.nd rfl (Or.inl rfl) (pe_op op_cat (pv 2) (pe_lst (pa_cons (pe_tup (pa_cons pe_str (pa_cons (pe_lst (pa_cons pe_str pa_nil)) (pa_cons (pv 1) pa_nil)))) (pa_cons (pe_tup (pa_cons pe_str (pa_cons (pv 1) (pa_cons pe_str pa_nil)))) (pa_cons (pe_tup (pa_cons pe_str (pa_cons (pv 1) (pa_cons (pv 1) pa_nil)))) (pa_cons (pe_tup (pa_cons (pe_tup (pa_cons pe_str (pa_cons pe_str (pa_cons pe_str pa_nil)))) (pa_cons pe_str (pa_cons pe_str pa_nil)))) (pa_cons (pe_def D_law_nest hr (by first | decide | omega) (pa_cons pe_int pa_nil)) pa_nil))))))))
  (pss_one (ps_ret (pe_def D_law_pick hr (by first | decide | omega) (pa_cons (pv 0) (pa_cons (pv 2) pa_nil)))))))), ?_⟩
  refine seq_asg ?_
  refine evl_lst (K := K) (H := H) (by (repeat (first | exact evs_nil | exact ev_non | exact ev_bl | exact ev_int | exact ev_str | exact ev_var rfl (by assumption) | apply ev_tup | apply ev_lst | apply evs_cons | exact Nat.le_of_ble_eq_true rfl))) (by decide) H (Same.refl H) _ fun p1 vs1 H1 n1 e1 hp1 hd1 => ?_
  refine seq_asg (op_of ⟨_, rfl, ?_⟩)
  have hdH1 := up_d e1 hd
  show tLst _ _ _ _
  refine evl_lst (K := K) (H := H1) (by (repeat (first | exact evs_nil | exact ev_non | exact ev_bl | exact ev_int | exact ev_str | exact ev_var rfl (by assumption) | apply ev_tup | apply ev_lst | apply evs_cons | exact Nat.le_of_ble_eq_true rfl))) (by simp) H1 (Same.refl H1) _ fun p2 vs2 H2 n2 e2 hp2 hd2 => ?_
  refine ⟨p1, p2, _, _, rfl, rfl, e2 _ _ hp1, hp2, le_line (by rw [da_len hd1, da_len hd2]; simp), fun p3 hp3 => ?_⟩
  refine seq_asg (op_of ⟨_, rfl, ?_⟩)
  have e12 := e1.trans e2
  have e3 := same_new hp3 (.lst (vs1 ++ vs2))
  have e13 := e12.trans e3
  have hdH2 := up_d e13 hd
  have hd3 := da_app (up_da (e2.trans e3) hd1) (up_da e3 hd2)
  show tLst _ _ _ _
  refine evl_lst (K := K) (H := upd H2 p3 (.lst (vs1 ++ vs2))) (evs_cons (by (repeat (first | exact evs_nil | exact ev_non | exact ev_bl | exact ev_int | exact ev_str | exact ev_var rfl (by assumption) | apply ev_tup | apply ev_lst | apply evs_cons | exact Nat.le_of_ble_eq_true rfl))) (evs_cons (by (repeat (first | exact evs_nil | exact ev_non | exact ev_bl | exact ev_int | exact ev_str | exact ev_var rfl (by assumption) | apply ev_tup | apply ev_lst | apply evs_cons | exact Nat.le_of_ble_eq_true rfl))) (evs_cons (by (repeat (first | exact evs_nil | exact ev_non | exact ev_bl | exact ev_int | exact ev_str | exact ev_var rfl (by assumption) | apply ev_tup | apply ev_lst | apply evs_cons | exact Nat.le_of_ble_eq_true rfl))) (evs_cons (by (repeat (first | exact evs_nil | exact ev_non | exact ev_bl | exact ev_int | exact ev_str | exact ev_var rfl (by assumption) | apply ev_tup | apply ev_lst | apply evs_cons | exact Nat.le_of_ble_eq_true rfl))) (evs_cons (d := nestD 10) (fun H5 e5 Q' k' => ⟨10, rfl, by decide, fun v6 H6 e6 h6 => k' v6 H6 e6 h6.dp⟩) evs_nil))))) (by simp) _ (Same.refl _) _ fun p4 vs4 H4 n4 e4 hp4 hd4 => ?_
  refine ⟨p3, p4, _, _, rfl, rfl, e4 _ _ upd_same, hp4, le_line (by rw [List.length_append, da_len hd1, da_len hd2, da_len hd4]; simp), fun p5 hp5 => ?_⟩
  have e5 := same_new hp5 (.lst ((vs1 ++ vs2) ++ vs4))
  have hd5 := da_app (up_da (e4.trans e5) hd3) (up_da e5 hd4)
  have e15 := e13.trans (e4.trans e5)
  refine ⟨_, rfl, _, rfl, s, p5, _, rfl, hs.up e15, SqL.of upd_same, ?_, ?_, fun v' hv' => ?_⟩
  · intro z
    have := congrArg List.length z
    rw [da_len hd5] at this
    simp at this
  · rw [da_len hd5]
    simp
  obtain ⟨d', hd1', hd2'⟩ := da_mem hd5 hv'
  suffices both : Nice 30 d' ∧ meas 9 d' = 0 from q v' _ d' e15 hd2' both.1 both.2
  have w1 := nice_w hn
  have mk : ∀ ds : List PyData, ds.length ≤ 20000 → (∀ e, e ∈ ds → e ∈ ([.str ("&" : Str), .str ("|" : Str), .str ("" : Str), .tuple [.str ("a" : Str), .str ("b" : Str)], .tuple [.str ("|" : Str), .str ("b" : Str)], .list [.str ("a" : Str)], d] : List PyData)) → Nice 30 (.tuple ds) := fun ds hl hm => (Nice.tuple hl fun e he => w1 e (hm e he)).mono (by decide)
  simp only [List.mem_append, List.mem_cons, List.not_mem_nil, or_false, or_assoc] at hd1'
  rcases hd1' with rfl | rfl | rfl | rfl | rfl | rfl | rfl | rfl | rfl | rfl | rfl | rfl | rfl | rfl | rfl | rfl | rfl | rfl | rfl | rfl | rfl | rfl
  all_goals refine ⟨?_, ?_⟩
  all_goals first
    | exact ⟨by decide +kernel, by decide +kernel⟩
    | exact mk _ (by simp) (by simp)
    | exact (nest_nice 10).mono (by decide)
    | decide +kernel
    | exact m3 (.inl (by decide +kernel))
    | exact m3 (.inr (.inl (by decide +kernel)))
    | exact m3 (.inr (.inr (by decide +kernel)))
    | rfl
end
end FF
namespace FF
open PySem PySem.Spec PyProof.Rows L2
abbrev fitsB (d : PyData) : Bool := inB (meas 5 d) 24
def spNeed (K : PySem.W.Frag) : Sp := fun vs H Q E => ∃ (v : V) (d : PyData), vs = [v] ∧ Dp K H v d ∧ nice d = true ∧ (fitsB d = true → ∀ H', Same H H' → Q .non H') ∧
  (fitsB d = false → ∀ dd H', Same H H' → Thr ("InvalidTerm" : Str) dd H' → E (.ref (He.ga K "InvalidTerm")) dd H')
section
variable {P : Program} {w : World} {K : PySem.W.Frag} {mg : Str → Option Value} {base : Heap}
theorem ok_need_term {f fT : Addr} {fd fdT : FuncData} (F : FunD K "need_term" "need_term" (defArgs s_need_term) (defBody s_need_term) (defScope s_need_term) [] [] f fd) (hm : mg "need_term" = some (.ref f)) (T : Top K mg)
    (FT0 : FunD K "is_term" "is_term" (defArgs s_is_term) (defBody s_is_term) (defScope s_is_term) [] [("max_depth", .int 5), ("max_size", .int 24)] fT fdT) (hmT : mg "is_term" = some (.ref fT)) (FT : FnOk P w K mg base CX0 13 fT fdT ["value", "max_depth", "max_size"] (spIsTerm K))
    (x_InvalidTerm : RaiseD P w K mg base "InvalidTerm" "FaultError" 2 "InvalidTerm") : DefX P w K mg base "need_term" 14 ["value"] (spNeed K) := by
  obtain ⟨da, va, ba⟩ := bind_a FT0
  refine defx_mk F hm (F.bindsN fun _ _ _ _ _ _ us hl => match us, hl with | [_], _ => rfl) sc_need_term (fun vs H Q E h => ?_) (fun cdv A outer s0 H vs Q E hr h tk => ?_)
  · obtain ⟨v, d, rfl, _⟩ := h
    rfl
  obtain ⟨v, d, rfl, hd, hn, q1, q2⟩ := h
  refine ⟨_, (pss_one (ps_if (pt_not (pt_val (pe_call FT (hr.mono (by decide)) rfl hmT FT0.kp ba va pass0 (pa_cons (pv 0) pa_nil))))
  (pss_one (ps_raise rfl tk (pmk_raise x_InvalidTerm hr (by first | decide | omega))))
  pss_nil)), ?_⟩
  refine ⟨_, rfl, v, d, 5, 24, rfl, hd, hn, by decide, fun H1 e1 => ⟨_, rfl, ?_⟩⟩
  refine if_nb (fun h1 => ?_) (fun h1 => ?_)
  · exact fun dd H2 e2 ht => q2 h1 dd H2 (e1.trans e2) ht
  · exact q1 h1 H1 e1
end
end FF
/-! the order of terms: _law_below, _law_below_now -/
namespace FF
open PySem PySem.Spec PyProof.Rows L2
def KnownD (kvs : List (Key × V)) : Prop := ∀ k v, valV kvs k = some v → ∃ l r, Drawn 4 l ∧ Drawn 4 r ∧ k = .inr (keyD l r) ∧ v = .bl (leq l r)
theorem known_nil : KnownD [] := fun k v h => by cases h
theorem known_get {kvs : List (Key × V)} {l r : PyData} {v : V} (h : KnownD kvs) (hl : Drawn 4 l) (hr : Drawn 4 r) (hv : valV kvs (.inr (keyD l r)) = some v) : v = .bl (leq l r) := by
  obtain ⟨l', r', h1, h2, e, rfl⟩ := h _ _ hv
  obtain ⟨rfl, rfl⟩ := key_inj hl hr h1 h2 (Sum.inr.inj e)
  rfl
theorem known_put {kvs : List (Key × V)} {l r : PyData} (h : KnownD kvs) (hl : Drawn 4 l) (hr : Drawn 4 r) : KnownD (putK kvs (.inr (keyD l r)) (.bl (leq l r))) := fun k v hv => by
  rw [valV_put] at hv
  by_cases e : k = .inr (keyD l r)
  · rw [if_pos e] at hv
    exact ⟨l, r, hl, hr, e, (Option.some.inj hv).symm⟩
  · rw [if_neg e] at hv
    exact h k v hv
theorem lt_big {n : Nat} (h : n ≤ 16000000) : n < sizeLine := Nat.lt_of_le_of_lt h (by decide +kernel)
theorem all_id {α : Type} (f : α → Bool) (l : List α) : (l.map f).all id = l.all f := by
  rw [List.all_map] <;> rfl
theorem any_id {α : Type} (f : α → Bool) (l : List α) : (l.map f).any id = l.any f := by
  rw [List.any_map] <;> rfl
theorem sum_part {f : PyData → Nat} : ∀ {ps : List PyData} {i : Nat} {p : PyData}, ps[i]? = some p → ((ps.take i).map f).sum + f p ≤ (ps.map f).sum
  | q :: r, 0, p, h => by
    cases h
    simp
  | q :: r, i + 1, p, h => by
    have := sum_part (f := f) (ps := r) (i := i) (p := p) h
    simp only [List.take_succ_cons, List.map_cons, List.sum_cons]
    omega
theorem ret_cb {r : List V → Hp → VK → Prop} {te : TE} {D : Ends} {σ : L2.St} {H : Hp} (h : te σ H fun x H1 => r [x] H1 D.rt) : tRet (tCB r (tCons te tNil)) D σ H := h
theorem cb_of {r : List V → Hp → VK → Prop} {te : TE} {σ : L2.St} {H : Hp} {Q : VK} (h : te σ H fun x H1 => r [x] H1 Q) : tCB r (tCons te tNil) σ H Q := h
theorem tb_cb {r : List V → Hp → VK → Prop} {te : TE} {σ : L2.St} {H : Hp} {Q : Bool → Hp → Prop} (h : te σ H fun x H1 => r [x] H1 fun v H2 => ∃ c, v = .bl c ∧ Q c H2) : tB (tCB r (tCons te tNil)) σ H Q := h
def costN (n : Nat) (l r : PyData) : Nat := ((tlD l).map fun p => costD n p r).sum + ((tlD r).map fun q => costD n l q).sum
/-- a question about a pair, with a table of answers -/
def spLeqG (K : PySem.W.Frag) (args : V → V → Addr → Hp → List V → Prop) (res : Bool → V → Prop) (m : Nat) (cost : PyData → PyData → Nat) : Sp := fun vs H Q _ => ∃ (lv rv : V) (kd : Addr) (l r : PyData) (a b : Nat) (kvs : List (Key × V)), args lv rv kd H vs ∧
  Tp K H lv l ∧ Tp K H rv r ∧ Drawn a l ∧ Drawn b r ∧ a ≤ 4 ∧ b ≤ 4 ∧ a + b < m ∧ m ≤ 9 ∧ H kd = some (.dK kvs) ∧ KnownD kvs ∧ kvs.length + cost l r ≤ 16000000 ∧
  ∀ v H' kvs', SameB kd H H' → H' kd = some (.dK kvs') → KnownD kvs' → kvs'.length ≤ kvs.length + cost l r → res (leq l r) v → Q v H'
def argsL : V → V → Addr → Hp → List V → Prop := fun lv rv kd _ vs => vs = [lv, rv, .ref kd]
def resB : Bool → V → Prop := fun b v => v = .bl b
theorem sameT_d {a : Addr} {kvs : List (Key × V)} {H H' : Hp} (ha : H a = some (.dK kvs)) (e : SameB a H H') : SameT H H' := fun b ys h => e b _ (fun z => by rw [z, ha] at h; cases h) h
theorem up_tB {K : PySem.W.Frag} {kd a : Addr} {xs : List V} {kvs : List (Key × V)} {H H' : Hp} (hk : H kd = some (.dK kvs)) (e : SameB kd H H') (h : SqT K H a xs) : SqT K H' a xs := by
  rcases h with (h | ⟨o, h⟩) | h
  · exact .inl (.inl (e _ _ (fun z => by rw [z, hk] at h; cases h) h))
  · exact .inl (.inr ⟨o, e _ _ (fun z => by rw [z, hk] at h; cases h) h⟩)
  · exact .inr h
theorem word_hd {K : PySem.W.Frag} {H : Hp} {v : V} {d : PyData} {n : Nat} (ht : Tp K H v d) (hd : Drawn n d) (Q : VK) (q : Q (.str (hdS d)) H) : rIxW K v (.int 0) H Q := by
  rcases drawn_shape hd with ⟨z, rfl, hz⟩ | ⟨o, ps, k, rfl, ho, l2, l4, rfl, hps⟩
  · obtain ⟨c, e, _⟩ := let_shape hz
    cases PyData.str.inj e
    cases ht
    exact .inr ⟨_, 0, c, rfl, rfl, (by show 1 ≤ sizeLine; decide), rfl, q⟩
  · cases ht with
    | tup ht ha =>
    cases ha with
    | @cons vo vr _ _ hvo hvr =>
    cases hvo
    exact .inl ⟨_, _, 0, _, rfl, rfl, ht.sqT, at0, q⟩
theorem let_hd {z : Str} (hz : isLet (.str z) = true) : z ≠ "|" ∧ z ≠ "&" := by
  obtain ⟨c, e, hc⟩ := let_sign hz
  refine ⟨fun h => ?_, fun h => ?_⟩
  · rw [h, show tl ("|" : Str) = [124] by decide +kernel] at e
    obtain ⟨c', e', hc'⟩ := let_shape hz
    cases PyData.str.inj e'
    have h2 : c' ∈ [97, 98, 99, 100, 101, 102, 103, 104] := hc'
    have h3 : tl (⟨#[c']⟩ : Str) = [124] := by rw [h]; decide +kernel
    have h4 : c' = 124 := (List.cons.inj h3).1
    rw [h4] at h2
    exact absurd h2 (by decide)
  · rw [h, show tl ("&" : Str) = [38] by decide +kernel] at e
    have := (List.cons.inj e).1
    omega
/-- what has a sign at its head is a tuple -/
theorem word_tup {K : PySem.W.Frag} {H : Hp} {v : V} {d : PyData} {n : Nat} (ht : Tp K H v d) (hd : Drawn n d) (h : hdS d = "|" ∨ hdS d = "&") : ∃ (a : Addr) (o : Str) (vr : List V) (ps : List PyData) (k : Nat), v = .ref a ∧ d = .tuple (.str o :: ps) ∧ SqT K H a (.str o :: vr) ∧ TpAll K H vr ps ∧ 2 ≤ ps.length ∧ ps.length ≤ 24 ∧ n = k + 1 ∧ ∀ p ∈ ps, Drawn k p := by
  rcases drawn_shape hd with ⟨z, rfl, hz⟩ | ⟨o, ps, k, rfl, ho, l2, l4, rfl, hps⟩
  · obtain ⟨h1, h2⟩ := let_hd hz
    rcases h with h | h
    · exact absurd h h1
    · exact absurd h h2
  · cases ht with
    | tup ht ha =>
    cases ha with
    | @cons vo vr _ _ hvo hvr =>
    cases hvo
    exact ⟨_, o, vr, ps, k, rfl, rfl, ht.sqT, hvr, l2, l4, rfl, hps⟩
/-! ### rows of answers -/
def LQ (H1 : Hp) (kd D : Addr) (ps : List PyData) (f : PyData → Bool) (c : PyData → Nat) (k0 : Nat) (i : Nat) (H : Hp) : Prop := SameB kd H1 H ∧ (∃ kvs, H kd = some (.dK kvs) ∧ KnownD kvs ∧ kvs.length ≤ k0 + ((ps.take i).map c).sum) ∧ H D = some (.lst (((ps.take i).map f).map V.bl))
/-- one answer, by a table -/
def Ask (kd : Addr) (f : PyData → Bool) (c : PyData → Nat) (te : TE) (p : PyData) (σ : L2.St) (H2 : Hp) : Prop := ∀ kvs2, H2 kd = some (.dK kvs2) → KnownD kvs2 → ∀ Q' : VK, (∀ H3 kvs3, SameB kd H2 H3 → H3 kd = some (.dK kvs3) → KnownD kvs3 → kvs3.length ≤ kvs2.length + c p → Q' (.bl (f p)) H3) → te σ H2 Q'
theorem take_s {α : Type} {ps : List α} {i : Nat} {p : α} (h : ps[i]? = some p) : ps.take (i + 1) = ps.take i ++ [p] := by
  rw [List.take_add_one, h] <;> rfl
theorem lq_turn {H1 : Hp} {kd D : Addr} {ps : List PyData} {f : PyData → Bool} {c : PyData → Nat} {k0 i : Nat} {H : Hp} {te : TE} {σ : L2.St} {p : PyData} (hD : H1 D = none) (hk : ∃ o, H1 kd = some o) (q : LQ H1 kd D ps f c k0 i H) (hp : ps[i]? = some p) (hz : ps.length ≤ 1000)
    (st : ∀ kvs2, H kd = some (.dK kvs2) → KnownD kvs2 → kvs2.length ≤ k0 + ((ps.take i).map c).sum → ∀ Q' : VK, (∀ H3 kvs3, SameB kd H H3 → H3 kd = some (.dK kvs3) → KnownD kvs3 → kvs3.length ≤ kvs2.length + c p → Q' (.bl (f p)) H3) → te σ H Q') :
    te σ H fun y H4 => ∃ acc, H4 D = some (.lst acc) ∧ acc.length < sizeLine ∧ LQ H1 kd D ps f c k0 (i + 1) (upd H4 D (.lst (acc ++ [y]))) := by
  obtain ⟨e, ⟨kvs, h1, h2, h3⟩, h4⟩ := q
  have hi := (List.getElem?_eq_some_iff.mp hp).1
  have hDk : D ≠ kd := fun z => by
    obtain ⟨o, ho⟩ := hk
    rw [z, ho] at hD
    cases hD
  refine st kvs h1 h2 h3 _ fun H3 kvs3 e3 h5 h6 h7 => ⟨_, e3 _ _ hDk h4, ?_, ?_, ?_, ?_⟩
  · rw [List.length_map, List.length_map, List.length_take]
    exact lt_line (by omega)
  · intro b u hb hu
    rw [upd_ne (ne_of_none hu hD)]
    exact (e.tr e3) b u hb hu
  · refine ⟨kvs3, by rw [upd_ne (Ne.symm hDk)]; exact h5, h6, ?_⟩
    rw [take_s hp, List.map_append, List.sum_append]
    simp only [List.map_cons, List.map_nil, List.sum_cons, List.sum_nil]
    omega
  · rw [upd_same, take_s hp, List.map_append, List.map_append] <;> rfl
section
variable {K : PySem.W.Frag} {a : Addr} {xs : List V} {te : TE} {vs : List Nat} {σ : L2.St} {H1 : Hp} {D : Addr} {Qd : Hp → Prop} {kd : Addr} {ps : List PyData} {f : PyData → Bool} {c : PyData → Nat} {kvs0 : List (Key × V)}
theorem lc_leqT {j : Nat} (hD : H1 D = none) (hk : H1 kd = some (.dK kvs0)) (hK : KnownD kvs0) (hs : SqT K H1 a xs) (ha : TpAll K H1 xs ps) (hz : ps.length ≤ 1000)
    (hw : ∀ x, wipe ((wipe σ vs).set j (some x)) vs = wipe σ vs)
    (step : ∀ i x p H2 kvs2, xs[i]? = some x → ps[i]? = some p → SameB kd H1 H2 → H2 kd = some (.dK kvs2) → KnownD kvs2 → kvs2.length ≤ kvs0.length + ((ps.take i).map c).sum → ∀ Q' : VK, (∀ H3 kvs3, SameB kd H2 H3 → H3 kd = some (.dK kvs3) → KnownD kvs3 → kvs3.length ≤ kvs2.length + c p → Q' (.bl (f p)) H3) → te ((wipe σ vs).set j (some x)) H2 Q')
    (done : ∀ H2 kvs2, SameB kd H1 H2 → H2 kd = some (.dK kvs2) → KnownD kvs2 → kvs2.length ≤ kvs0.length + (ps.map c).sum → H2 D = some (.lst ((ps.map f).map V.bl)) → Qd H2) :
    ∃ W : Nat → Nat → Hp → Prop, (∃ m, W 0 m (upd H1 D (.lst []))) ∧ ∀ i m H, W i m H →
      ((Itt K a).stop i H ∧ Qd H) ∨ ((Itt K a).go i H ∧ ∃ Nx : Hp → Prop, (∀ H', Nx H' → ∃ m', m' < m ∧ W (i + 1) m' H') ∧ ∀ x H', (Itt K a).yld i H x H' → gName j x (wipe σ vs) H' fun σ2 H2 => wipe σ2 vs = wipe σ vs ∧ tYes σ2 H2 fun b H3 =>
        if b = true then te σ2 H3 fun y H4 => ∃ acc, H4 D = some (.lst acc) ∧ acc.length < sizeLine ∧ Nx (upd H4 D (.lst (acc ++ [y]))) else Nx H3) := by
  have hal := ha.len
  have up : ∀ {H : Hp}, SameB kd H1 H → SqT K H a xs := fun e => up_tB hk e hs
  refine lc_tup (LQ H1 kd D ps f c kvs0.length) ⟨sb_of (same_new hD _), ⟨kvs0, same_new hD _ _ _ hk, hK, by simp⟩, upd_same⟩ (fun i H _ q => up q.1) (fun i x H hx q => ⟨hw x, ?_⟩) (fun H q => ?_)
  · have hi := (List.getElem?_eq_some_iff.mp hx).1
    obtain ⟨p, hp⟩ : ∃ p, ps[i]? = some p := ⟨ps[i]'(by omega), by simp [show i < ps.length by omega]⟩
    unfold tYes
    dsimp only
    rw [if_pos rfl]
    exact lq_turn hD ⟨_, hk⟩ q hp hz fun kvs2 h1 h2 h3 Q' k' => step i x p H kvs2 hx hp q.1 h1 h2 h3 Q' k'
  · obtain ⟨e, ⟨kvs, h1, h2, h3⟩, h4⟩ := q
    rw [hal, List.take_length] at h3 h4
    exact done H kvs e h1 h2 h3 h4
end
section
variable {P : Program} {w : World} {K : PySem.W.Frag} {mg : Str → Option Value} {base : Heap}
theorem ok_law_below {n : Nat} {f : Addr} {fd : FuncData} (F : FunD K "_law_below" "_law_below" (defArgs s_law_below) (defBody s_law_below) (defScope s_law_below) [] [] f fd) (hm : mg "_law_below" = some (.ref f)) (T : Top K mg)
    (D_law_text : Def P w K mg base "_law_text" 5 ["_law_word"] (spText K 5))
    (D_law_below_now : Def P w K mg base "_law_below_now" (2 * n + 6) ["_law_mone", "_law_mother", "_law_known"] (spLeqG K argsL resB (n + 1) (costN n))) : Def P w K mg base "_law_below" (2 * n + 7) ["_law_mone", "_law_mother", "_law_known"] (spLeqG K argsL resB (n + 1) (costD (n + 1))) := by
  refine def_mk F hm (F.bindsN fun _ _ _ _ _ _ us hl => match us, hl with | [_, _, _], _ => rfl) sc_law_below (fun vs H Q E h => ?_) (fun cdv A outer s H vs Q E hr h => ?_)
  · obtain ⟨lv, rv, kd, l, r, a, b, kvs, rfl, _⟩ := h
    rfl
  obtain ⟨lv, rv, kd, l, r, a, b, kvs, rfl, hl, hr', dl, dr, a4, b4, hab, hn, hk, hK, hc, q⟩ := h
  have d4l := drawn_mono dl a4
  have d4r := drawn_mono dr b4
  have hcost : costD (n + 1) l r = 1 + costN n l r := rfl
  refine ⟨_, (pss_cons (ps_set (i := 3) sc_law_below.nd rfl (Or.inl rfl) (pe_op op_add_str (pe_op op_add_str (pe_def D_law_text hr (by first | decide | omega) (pa_cons (pv 0) pa_nil)) pe_str) (pe_def D_law_text hr (by first | decide | omega) (pa_cons (pv 1) pa_nil))))
  (C8.pss_cut (ps_if (pt_cmp (pc_dnotin (hu_of hr) (pv 3) (pv 2)) (by rfl))
  (pss_one (ps_dput (hu_of hr) (pv 2) (pv 3) (pe_def D_law_below_now hr (by first | decide | omega) (pa_cons (pv 0) (pa_cons (pv 1) (pa_cons (pv 2) pa_nil)))) (by rfl)))
  pss_nil)
  (pss_one (ps_ret (pe_dget (hu_of hr) (pv 2) (pv 3) (fun _ _ => rfl)))))), ?_⟩
  have tl1 := text_len d4l
  have tr1 := text_len d4r
  have l3 : (" < " : Str).length = 3 := by decide +kernel
  have big : 8 * 24 ^ 4 + 8 * 24 ^ 4 + 100 ≤ sizeLine := by decide +kernel
  refine ⟨_, rfl, lv, l, 4, rfl, hl, d4l, by decide, by decide, fun H1 e1 => ⟨_, _, rfl, rfl, by omega, ?_⟩⟩
  refine ⟨_, rfl, rv, r, 4, rfl, hr'.up (Same.T e1), d4r, by decide, by decide, fun H2 e2 => ⟨_, _, rfl, rfl, by rw [app_len]; omega, ?_⟩⟩
  have e12 := e1.trans e2
  have hk2 := e12 _ _ hk
  refine ⟨fun σ' H' => σ' = [some lv, some rv, some (.ref kd), some (.str (keyD l r))] ∧ ∃ kvs', SameB kd H H' ∧ H' kd = some (.dK kvs') ∧ KnownD kvs' ∧ kvs'.length ≤ kvs.length + costD (n + 1) l r ∧ valV kvs' (.inr (keyD l r)) = some (.bl (leq l r)), ?_, ?_⟩
  rotate_left
  · rintro σ' H' ⟨rfl, kvs', eb, h1, h2, h3, h4⟩
    exact ⟨_, rfl, _, rfl, kd, _, rfl, .inl ⟨kvs', .inr (keyD l r), .inl h1, rfl, h4.symm⟩, q _ H' kvs' eb h1 h2 h3 rfl⟩
  refine ⟨_, rfl, _, rfl, kd, valV kvs (.inr (keyD l r)), rfl, .inl ⟨kvs, .inr (keyD l r), .inl hk2, rfl, rfl⟩, _, rfl, ?_⟩
  cases hv : valV kvs (.inr (keyD l r)) with
  | some v =>
    refine iteF ⟨rfl, kvs, sb_of e12, hk2, hK, by omega, ?_⟩
    rw [hv, known_get hK d4l d4r hv]
  | none =>
    refine iteT ⟨_, rfl, _, rfl, _, rfl, lv, rv, kd, l, r, a, b, kvs, rfl, hl.up (Same.T e12), hr'.up (Same.T e12), dl, dr, a4, b4, hab, hn, hk2, hK, by omega, fun v H3 kvs3 e3 h1 h2 h3 hres => ?_⟩
    cases hres
    have hlen := length_putK kvs3 (.inr (keyD l r)) (.bl (leq l r))
    refine ⟨_, rfl, _, rfl, kd, _, rfl, DPut.k (k := .inr (keyD l r)) h1 (lt_big (by omega)), rfl, _, ((sb_of e12).tr e3).tr sb_upd, upd_same, known_put h2 d4l d4r, by omega, ?_⟩
    rw [valV_put, if_pos rfl]
theorem ok_law_below_now {n : Nat} {f : Addr} {fd : FuncData} (F : FunD K "_law_below_now" "_law_below_now" (defArgs s_law_below_now) (defBody s_law_below_now) (defScope s_law_below_now) [] [] f fd) (hm : mg "_law_below_now" = some (.ref f)) (T : Top K mg)
    (D_law_below : Def P w K mg base "_law_below" (2 * n + 5) ["_law_mone", "_law_mother", "_law_known"] (spLeqG K argsL resB n (costD n))) : Def P w K mg base "_law_below_now" (2 * n + 6) ["_law_mone", "_law_mother", "_law_known"] (spLeqG K argsL resB (n + 1) (costN n)) := by
  refine def_mk F hm (F.bindsN fun _ _ _ _ _ _ us hl => match us, hl with | [_, _, _], _ => rfl) sc_law_below_now (fun vs H Q E h => ?_) (fun cdv A outer s H vs Q E hr h => ?_)
  · obtain ⟨lv, rv, kd, l, r, a, b, kvs, rfl, _⟩ := h
    rfl
  obtain ⟨lv, rv, kd, l, r, a, b, kvs, rfl, hl, hr', dl, dr, a4, b4, hab, hn, hk, hK, hc, q⟩ := h
  have d4l := drawn_mono dl a4
  have d4r := drawn_mono dr b4
  refine ⟨_, (pss_cons (ps_if (pt_cmpR (op_eqK K hr.units) (pv 0) (pv 1) (nomark _))
  (pss_one (ps_ret pe_bl))
  pss_nil)
  (pss_cons (ps_if (pt_cmpR op_eq (pe_ix (ix_wordK K) (pv 0) pe_int (fun _ _ => rfl)) pe_str (nomark _))
  (pss_one (ps_ret (pe_callB (cr_allK K rfl) (by rfl) T.b_all (by decide +kernel) (pa_cons (pe_lc (own := [("_law_part", 3)]) rfl sc_law_below_now.nd (pi_tupK K (pe_slice (sl_tupK K) (pv 0) (po_some pe_int) po_none)) (blkOk_by (by kernel_rfl)) (fun _ _ _ _ _ => (pg_name (i := 3) sc_law_below_now.nd rfl (Or.inl rfl) (.inr rfl))) (fun _ _ _ _ _ => pts_nil) (fun _ _ _ _ _ => (pe_def D_law_below hr (by first | decide | omega) (pa_cons (pv 3) (pa_cons (pv 1) (pa_cons (pv 2) pa_nil)))))) pa_nil))))
  pss_nil)
  (pss_cons (ps_if (pt_cmpR op_eq (pe_ix (ix_wordK K) (pv 1) pe_int (fun _ _ => rfl)) pe_str (nomark _))
  (pss_one (ps_ret (pe_callB (cr_allK K rfl) (by rfl) T.b_all (by decide +kernel) (pa_cons (pe_lc (own := [("_law_part", 3)]) rfl sc_law_below_now.nd (pi_tupK K (pe_slice (sl_tupK K) (pv 1) (po_some pe_int) po_none)) (blkOk_by (by kernel_rfl)) (fun _ _ _ _ _ => (pg_name (i := 3) sc_law_below_now.nd rfl (Or.inl rfl) (.inr rfl))) (fun _ _ _ _ _ => pts_nil) (fun _ _ _ _ _ => (pe_def D_law_below hr (by first | decide | omega) (pa_cons (pv 0) (pa_cons (pv 3) (pa_cons (pv 2) pa_nil)))))) pa_nil))))
  pss_nil)
  (C8.pss_cut (ps_if (PW.pt (pw_and (pt_cmpR op_eq (pe_ix (ix_wordK K) (pv 1) pe_int (fun _ _ => rfl)) pe_str (nomark _)) (pw_and1 (pt_val (pe_callB (cr_anyK K rfl) (by rfl) T.b_any (by decide +kernel) (pa_cons (pe_lc (own := [("_law_part", 3)]) rfl sc_law_below_now.nd (pi_tupK K (pe_slice (sl_tupK K) (pv 1) (po_some pe_int) po_none)) (blkOk_by (by kernel_rfl)) (fun _ _ _ _ _ => (pg_name (i := 3) sc_law_below_now.nd rfl (Or.inl rfl) (.inr rfl))) (fun _ _ _ _ _ => pts_nil) (fun _ _ _ _ _ => (pe_def D_law_below hr (by first | decide | omega) (pa_cons (pv 0) (pa_cons (pv 3) (pa_cons (pv 2) pa_nil)))))) pa_nil))))))
  (pss_one (ps_ret pe_bl))
  pss_nil)
  (pss_one (ps_ret (pe_and (pe_cmpR op_eq (pe_ix (ix_wordK K) (pv 0) pe_int (fun _ _ => rfl)) pe_str (nomark _)) (pe_one (pe_callB (cr_anyK K rfl) (by rfl) T.b_any (by decide +kernel) (pa_cons (pe_lc (own := [("_law_part", 3)]) rfl sc_law_below_now.nd (pi_tupK K (pe_slice (sl_tupK K) (pv 0) (po_some pe_int) po_none)) (blkOk_by (by kernel_rfl)) (fun _ _ _ _ _ => (pg_name (i := 3) sc_law_below_now.nd rfl (Or.inl rfl) (.inr rfl))) (fun _ _ _ _ _ => pts_nil) (fun _ _ _ _ _ => (pe_def D_law_below hr (by first | decide | omega) (pa_cons (pv 3) (pa_cons (pv 1) (pa_cons (pv 2) pa_nil)))))) pa_nil)))))))))), ?_⟩
  have hst := leq_step d4l d4r
  unfold leqStep at hst
  refine ⟨_, rfl, _, rfl, l, r, hl.dp, hr'.dp, (drawn_nice d4l).shaped, (drawn_nice d4r).shaped, _, rfl, ?_⟩
  refine if_b (fun h1 => ?_) (fun h1 => ?_)
  · rw [h1, Bool.true_or] at hst
    exact q _ H kvs (sb_refl) hk hK (by omega) (by rw [hst]; exact rfl)
  rw [h1, Bool.false_or] at hst
  have hdl : tlD l = tlD l := rfl
  have hcN : costN n l r = ((tlD l).map fun p => costD n p r).sum + ((tlD r).map fun q => costD n l q).sum := rfl
  -- the left term's parts, asked in a table that has grown
  have rowL : ∀ (H0 : Hp) (kvs0 : List (Key × V)), SameB kd H H0 → H0 kd = some (.dK kvs0) → KnownD kvs0 → kvs0.length + ((tlD l).map fun p => costD n p r).sum ≤ 16000000 → (hdS l = "|" ∨ hdS l = "&") → ∀ Q2 : VK,
      (∀ D H2 kvs2, SameB kd H H2 → H2 kd = some (.dK kvs2) → KnownD kvs2 → kvs2.length ≤ kvs0.length + ((tlD l).map fun p => costD n p r).sum → SqL K H2 D (((tlD l).map fun p => leq p r).map V.bl) → Q2 (.ref D) H2) →
      tLc (iTup K (tSl (rSlT K) (tVar 0) (tPart (tC (.int 1))) tNoPart)) (gName 3) tYes (tCall (spLeqG K argsL resB n (costD n)) [] E0 (tCons (tVar 3) (tCons (tVar 1) (tCons (tVar 2) tNil)))) [3] [some lv, some rv, some (.ref kd), none] H0 Q2 := by
    intro H0 kvs0 e0 hk0 hK0 hc0 hh Q2 k'
    have eT := sameT_d hk e0
    obtain ⟨ta, o, vr, ps, k, rfl, rfl, hta, hvr, l2, l24, rfl, hps⟩ := word_tup (hl.up eT) dl hh
    refine ⟨_, rfl, _, rfl, ta, _, rfl, hta, notWhole1, fun p hp0 => ⟨p, rfl, ⟨_, SqT.of upd_same⟩, fun D hD => ?_⟩⟩
    rw [cut1] at hD ⊢
    have e1 := same_new hp0 (.tup vr)
    have hk1 := e1 _ _ hk0
    refine lc_leqT (j := 3) (f := fun p => leq p r) (c := fun p => costD n p r) hD hk1 hK0 (SqT.of upd_same) (hvr.up (Same.T e1)) (by omega) (fun _ => rfl) ?_ ?_
    · intro i x p H2 kvs2 hx hp e2 h2 h3 h4 Q' kk
      obtain ⟨p', hp', hxp⟩ := hvr.get hx
      cases hp'.symm.trans hp
      have e02 := (sb_of e1).tr e2
      have eT2 := sameT_d hk0 e02
      have hs := sum_part (f := fun p => costD n p r) hp
      refine ⟨_, rfl, _, rfl, _, rfl, x, rv, kd, p, r, k, b, kvs2, rfl, hxp.up eT2, (hr'.up eT).up eT2, hps p (List.mem_of_getElem? hp), dr, by omega, b4, by omega, by omega, h2, h3, ?_, fun v H3 kvs3 e3 h5 h6 h7 hres => ?_⟩
      · have hc0 : kvs0.length + (ps.map fun p => costD n p r).sum ≤ 16000000 := hc0
        omega
      · cases hres
        exact kk H3 kvs3 e3 h5 h6 h7
    · intro H2 kvs2 e2 h2 h3 h4 h5
      exact k' D H2 kvs2 (e0.tr ((sb_of e1).tr e2)) h2 h3 h4 (SqL.of h5)
  have rowR : ∀ (H0 : Hp) (kvs0 : List (Key × V)), SameB kd H H0 → H0 kd = some (.dK kvs0) → KnownD kvs0 → kvs0.length + ((tlD r).map fun q => costD n l q).sum ≤ 16000000 → (hdS r = "|" ∨ hdS r = "&") → ∀ Q2 : VK,
      (∀ D H2 kvs2, SameB kd H H2 → H2 kd = some (.dK kvs2) → KnownD kvs2 → kvs2.length ≤ kvs0.length + ((tlD r).map fun q => costD n l q).sum → SqL K H2 D (((tlD r).map fun q => leq l q).map V.bl) → Q2 (.ref D) H2) →
      tLc (iTup K (tSl (rSlT K) (tVar 1) (tPart (tC (.int 1))) tNoPart)) (gName 3) tYes (tCall (spLeqG K argsL resB n (costD n)) [] E0 (tCons (tVar 0) (tCons (tVar 3) (tCons (tVar 2) tNil)))) [3] [some lv, some rv, some (.ref kd), none] H0 Q2 := by
    intro H0 kvs0 e0 hk0 hK0 hc0 hh Q2 k'
    have eT := sameT_d hk e0
    obtain ⟨ta, o, vr, ps, k, rfl, rfl, hta, hvr, l2, l24, rfl, hps⟩ := word_tup (hr'.up eT) dr hh
    refine ⟨_, rfl, _, rfl, ta, _, rfl, hta, notWhole1, fun p hp0 => ⟨p, rfl, ⟨_, SqT.of upd_same⟩, fun D hD => ?_⟩⟩
    rw [cut1] at hD ⊢
    have e1 := same_new hp0 (.tup vr)
    have hk1 := e1 _ _ hk0
    refine lc_leqT (j := 3) (f := fun q => leq l q) (c := fun q => costD n l q) hD hk1 hK0 (SqT.of upd_same) (hvr.up (Same.T e1)) (by omega) (fun _ => rfl) ?_ ?_
    · intro i x p H2 kvs2 hx hp e2 h2 h3 h4 Q' kk
      obtain ⟨p', hp', hxp⟩ := hvr.get hx
      cases hp'.symm.trans hp
      have e02 := (sb_of e1).tr e2
      have eT2 := sameT_d hk0 e02
      have hs := sum_part (f := fun q => costD n l q) hp
      refine ⟨_, rfl, _, rfl, _, rfl, lv, x, kd, l, p, a, k, kvs2, rfl, (hl.up eT).up eT2, hxp.up eT2, dl, hps p (List.mem_of_getElem? hp), a4, by omega, by omega, by omega, h2, h3, ?_, fun v H3 kvs3 e3 h5 h6 h7 hres => ?_⟩
      · have hc0 : kvs0.length + (ps.map fun q => costD n l q).sum ≤ 16000000 := hc0
        omega
      · cases hres
        exact kk H3 kvs3 e3 h5 h6 h7
    · intro H2 kvs2 e2 h2 h3 h4 h5
      exact k' D H2 kvs2 (e0.tr ((sb_of e1).tr e2)) h2 h3 h4 (SqL.of h5)
  refine ⟨_, rfl, word_hd hl dl _ ⟨rfl, _, rfl, ?_⟩⟩
  refine if_dec (fun h2 => ?_) (fun h2 => ?_)
  · have h2 := V.str.inj h2
    rw [if_pos h2] at hst
    refine ret_cb (rowL H kvs sb_refl hk hK (by omega) (.inl h2) _ fun D H2 kvs2 e k2 k3 k4 k5 => ⟨D, _, rfl, k5, ?_⟩)
    rw [all_id]
    exact q _ H2 kvs2 e k2 k3 (by omega) (by rw [hst]; exact rfl)
  have h2 : ¬ hdS l = "|" := fun z => h2 (by rw [z])
  rw [if_neg h2] at hst
  refine ⟨_, rfl, word_hd hr' dr _ ⟨rfl, _, rfl, ?_⟩⟩
  refine if_dec (fun h3 => ?_) (fun h3 => ?_)
  · have h3 := V.str.inj h3
    rw [if_pos h3] at hst
    refine ret_cb (rowR H kvs sb_refl hk hK (by omega) (.inr h3) _ fun D H2 kvs2 e k2 k3 k4 k5 => ⟨D, _, rfl, k5, ?_⟩)
    rw [all_id]
    exact q _ H2 kvs2 e k2 k3 (by omega) (by rw [hst]; exact rfl)
  have h3 : ¬ hdS r = "&" := fun z => h3 (by rw [z])
  rw [if_neg h3] at hst
  refine ⟨fun σ' H' => σ' = [some lv, some rv, some (.ref kd), none] ∧ ∃ kvs', SameB kd H H' ∧ H' kd = some (.dK kvs') ∧ KnownD kvs' ∧ kvs'.length ≤ kvs.length + ((tlD r).map fun q => costD n l q).sum ∧ (hdS r = "|" → (tlD r).any (fun q => leq l q) = false), ?_, ?_⟩
  · refine ⟨_, rfl, word_hd hr' dr _ ⟨rfl, _, rfl, ?_⟩⟩
    refine if_dec (fun h4 => ?_) (fun h4 => ⟨rfl, kvs, sb_refl, hk, hK, by omega, fun z => absurd (by rw [z]) h4⟩)
    have h4 := V.str.inj h4
    refine tb_cb (rowR H kvs sb_refl hk hK (by omega) (.inl h4) _ fun D H2 kvs2 e k2 k3 k4 k5 => ⟨D, _, rfl, k5, ?_⟩)
    rw [any_id]
    refine ⟨_, rfl, if_b (fun h5 => ?_) (fun h5 => ⟨rfl, kvs2, e, k2, k3, k4, fun _ => h5⟩)⟩
    refine q _ H2 kvs2 e k2 k3 (by omega) ?_
    rw [hst, decide_eq_true h4, h5] <;> rfl
  rintro σ' H' ⟨rfl, kvs', e', hk', hK', hlen', hno⟩
  have eT := sameT_d hk e'
  have hno2 : (decide (hdS r = "|") && (tlD r).any fun q => leq l q) = false := by
    by_cases z : hdS r = "|"
    · rw [hno z, Bool.and_false]
    · rw [decide_eq_false z, Bool.false_and]
  rw [hno2, Bool.false_or] at hst
  refine ⟨_, rfl, word_hd (hl.up eT) dl _ ⟨rfl, _, rfl, ?_⟩⟩
  refine if_dec (fun h4 => ?_) (fun h4 => ?_)
  · have h4 := V.str.inj h4
    refine cb_of (rowL H' kvs' e' hk' hK' (by omega) (.inr h4) _ fun D H2 kvs2 e k2 k3 k4 k5 => ⟨D, _, rfl, k5, ?_⟩)
    rw [any_id]
    refine q _ H2 kvs2 e k2 k3 (by omega) ?_
    rw [hst, decide_eq_true h4] <;> rfl
  · have h4 : ¬ hdS l = "&" := fun z => h4 (by rw [z])
    refine q _ H' kvs' e' hk' hK' (by omega) ?_
    rw [hst, decide_eq_false h4] <;> rfl
end
end FF
/-! the order of terms: the class Free -/
namespace FF
open PySem PySem.Spec PyProof.Rows L2
def FreeAt (K : PySem.W.Frag) (H : Hp) (f kd : Addr) : Prop := ∃ (dx : Addr) (sv pv : V), H f = some (.ins (He.ga K "Free") dx [("known", .ref kd), ("steps", sv), ("place", pv)])
def argsF (K : PySem.W.Frag) : V → V → Addr → Hp → List V → Prop := fun lv rv kd H vs => ∃ f, vs = [.ref f, lv, rv] ∧ FreeAt K H f kd
def resN : Bool → V → Prop := fun b v => decide (v = .non) = !b
theorem FreeAt.b {K : PySem.W.Frag} {H H' : Hp} {f kd : Addr} {kvs : List (Key × V)} (hk : H kd = some (.dK kvs)) (h : FreeAt K H f kd) (e : SameB kd H H') : FreeAt K H' f kd := by
  obtain ⟨dx, sv, pv, h⟩ := h
  exact ⟨dx, sv, pv, e _ _ (fun z => by rw [z, hk] at h; cases h) h⟩
section
variable {K : PySem.W.Frag} {a : Addr} {ys : List V} {te : TE} {vs : List Nat} {σ : L2.St} {H1 : Hp} {D : Addr} {Qd : Hp → Prop} {kd : Addr} {ps : List PyData} {f : PyData → Bool} {c : PyData → Nat} {kvs0 : List (Key × V)}
theorem lc_leqL {j k : Nat} (Rw : PyData → V → V → Prop) (hD : H1 D = none) (hk : H1 kd = some (.dK kvs0)) (hK : KnownD kvs0) (hs : H1 a = some (.lst ys)) (hl : ys.length = ps.length) (hz : ps.length ≤ 1000)
    (hy : ∀ (i : Nat) (y : V), ys[i]? = some y → ∃ t u1 u2 p, y = .ref t ∧ ps[i]? = some p ∧ H1 t = some (.tup [u1, u2]) ∧ Rw p u1 u2)
    (hw : ∀ x y, wipe (((wipe σ vs).set j (some x)).set k (some y)) vs = wipe σ vs)
    (step : ∀ i p u1 u2 H2 kvs2, ps[i]? = some p → Rw p u1 u2 → SameB kd H1 H2 → H2 kd = some (.dK kvs2) → KnownD kvs2 → kvs2.length ≤ kvs0.length + ((ps.take i).map c).sum → ∀ Q' : VK, (∀ H3 kvs3, SameB kd H2 H3 → H3 kd = some (.dK kvs3) → KnownD kvs3 → kvs3.length ≤ kvs2.length + c p → Q' (.bl (f p)) H3) → te (((wipe σ vs).set j (some u1)).set k (some u2)) H2 Q')
    (done : ∀ H2 kvs2, SameB kd H1 H2 → H2 kd = some (.dK kvs2) → KnownD kvs2 → kvs2.length ≤ kvs0.length + (ps.map c).sum → H2 D = some (.lst ((ps.map f).map V.bl)) → Qd H2) :
    ∃ W : Nat → Nat → Hp → Prop, (∃ m, W 0 m (upd H1 D (.lst []))) ∧ ∀ i m H, W i m H →
      ((Itl K a).stop i H ∧ Qd H) ∨ ((Itl K a).go i H ∧ ∃ Nx : Hp → Prop, (∀ H', Nx H' → ∃ m', m' < m ∧ W (i + 1) m' H') ∧ ∀ x H', (Itl K a).yld i H x H' → gTup K 2 (gCons (gName j) (gCons (gName k) gNil)) x (wipe σ vs) H' fun σ2 H2 => wipe σ2 vs = wipe σ vs ∧ tYes σ2 H2 fun b H3 =>
        if b = true then te σ2 H3 fun y H4 => ∃ acc, H4 D = some (.lst acc) ∧ acc.length < sizeLine ∧ Nx (upd H4 D (.lst (acc ++ [y]))) else Nx H3) := by
  have hak : a ≠ kd := fun z => by rw [z, hk] at hs; cases hs
  refine lc_list (LQ H1 kd D ps f c kvs0.length) ⟨sb_of (same_new hD _), ⟨kvs0, same_new hD _ _ _ hk, hK, by simp⟩, upd_same⟩ (fun i H _ q => SqL.of (q.1 _ _ hak hs)) (fun i x H hx q => ?_) (fun H q => ?_)
  · obtain ⟨t, u1, u2, p, rfl, hp, ht, hR⟩ := hy i x hx
    have htk : t ≠ kd := fun z => by rw [z, hk] at ht; cases ht
    refine ⟨t, [u1, u2], rfl, SqT.of (q.1 _ _ htk ht), rfl, u1, [u2], rfl, u2, [], rfl, rfl, hw u1 u2, ?_⟩
    unfold tYes
    dsimp only
    rw [if_pos rfl]
    exact lq_turn hD ⟨_, hk⟩ q hp hz fun kvs2 h1 h2 h3 Q' k' => step i p u1 u2 H kvs2 hp hR q.1 h1 h2 h3 Q' k'
  · obtain ⟨e, ⟨kvs, h1, h2, h3⟩, h4⟩ := q
    rw [hl, List.take_length] at h3 h4
    exact done H kvs e h1 h2 h3 h4
end
section
variable {P : Program} {w : World} {K : PySem.W.Frag} {mg : Str → Option Value} {base : Heap}
def spFreeInit (K : PySem.W.Frag) : Sp := fun vs H Q _ => ∃ (f dx : Addr), vs = [.ref f] ∧ H f = some (.ins (He.ga K "Free") dx []) ∧ ∀ H' kd, SameB f H H' → H kd = none → FreeAt K H' f kd → H' kd = some (.dK []) → Q .non H'
theorem ok_free_init {fd : FuncData} (F : FunD K "__init__" "Free.__init__" (defArgs s_Free___init__) (defBody s_Free___init__) (defScope s_Free___init__) [] [] (He.ma K (He.ga K "Free") "__init__") fd) (T : Top K mg) : MakeD P w K mg base "Free" 1 ["self"] (spFreeInit K) := by
  refine ⟨⟨fd, fnm_mk F sc_Free___init__ (fun vs H Q E h => ?_) (fun cdv A outer s H vs Q E hr h => ?_), F.bindsN fun _ _ _ _ _ _ us hl => match us, hl with | [_], _ => rfl⟩, T.mk_Free, T.c_Free⟩
  · obtain ⟨f, dx, rfl, _⟩ := h
    rfl
  obtain ⟨f, dx, rfl, hf, q⟩ := h
  refine ⟨_, (pss_cons (ps_fld (pv 0) pe_dnewK rfl)
  (pss_cons (ps_fld (pv 0) (pe_lst pa_nil) rfl)
  (pss_one (ps_fld (pv 0) pe_dnewK rfl)))), ?_⟩
  have nf : ∀ {p : Addr} {H1 : Hp}, SameB f H H1 → (∃ o, H1 f = some o) → H1 p = none → f ≠ p := fun _ ⟨o, h⟩ hp e => by
    rw [e, hp] at h
    cases h
  refine fun p1 hp1 => ⟨_, rfl, f, _, dx, _, rfl, same_new hp1 _ _ _ hf, T.k_Free, T.n_Free_known, by decide, ?_⟩
  have n1 := nf sb_refl ⟨_, hf⟩ hp1
  have s1 : SameB f H (upd (upd H p1 (.dK [])) f (.ins (He.ga K "Free") dx (putF "known" (.ref p1) []))) := (sb_of (same_new hp1 _)).tr sb_upd
  have f1 : (upd (upd H p1 (.dK [])) f (.ins (He.ga K "Free") dx (putF "known" (.ref p1) []))) f = some (.ins (He.ga K "Free") dx (putF "known" (.ref p1) [])) := upd_same
  have k1 : (upd (upd H p1 (.dK [])) f (.ins (He.ga K "Free") dx (putF "known" (.ref p1) []))) p1 = some (.dK []) := by rw [upd_ne (Ne.symm n1)]; exact upd_same
  generalize upd (upd H p1 (.dK [])) f (.ins (He.ga K "Free") dx (putF "known" (.ref p1) [])) = H1 at s1 f1 k1 ⊢
  refine ⟨(by show 0 ≤ sizeLine; decide), fun p2 hp2 => ⟨_, rfl, f, _, dx, _, rfl, same_new hp2 _ _ _ f1, T.k_Free, T.n_Free_steps, by show 1 < 1000; decide, ?_⟩⟩
  have n2 := nf s1 ⟨_, f1⟩ hp2
  have s2 : SameB f H1 (upd (upd H1 p2 (.lst [])) f (.ins (He.ga K "Free") dx (putF "steps" (.ref p2) (putF "known" (.ref p1) [])))) := (sb_of (same_new hp2 _)).tr sb_upd
  have f2 : (upd (upd H1 p2 (.lst [])) f (.ins (He.ga K "Free") dx (putF "steps" (.ref p2) (putF "known" (.ref p1) [])))) f = some (.ins (He.ga K "Free") dx (putF "steps" (.ref p2) (putF "known" (.ref p1) []))) := upd_same
  generalize upd (upd H1 p2 (.lst [])) f (.ins (He.ga K "Free") dx (putF "steps" (.ref p2) (putF "known" (.ref p1) []))) = H2 at s2 f2 ⊢
  refine fun p3 hp3 => ⟨_, rfl, f, _, dx, _, rfl, same_new hp3 _ _ _ f2, T.k_Free, T.n_Free_place, by show 2 < 1000; decide, ?_⟩
  have s3 : SameB f H2 (upd (upd H2 p3 (.dK [])) f (.ins (He.ga K "Free") dx (putF "place" (.ref p3) (putF "steps" (.ref p2) (putF "known" (.ref p1) []))))) := (sb_of (same_new hp3 _)).tr sb_upd
  exact q _ p1 (s1.tr (s2.tr s3)) hp1 ⟨dx, .ref p2, .ref p3, upd_same⟩ ((s2.tr s3) _ _ (Ne.symm n1) k1)
theorem ok_is_below {n : Nat} {fd : FuncData} (F : FunD K "is_below" "Free.is_below" (defArgs s_Free_is_below) (defBody s_Free_is_below) (defScope s_Free_is_below) [] [] (He.ma K (He.ga K "Free") "is_below") fd) (T : Top K mg)
    (D_text_of : Def P w K mg base "text_of" 5 ["term"] (spText K 5))
    (D_Free_reason_for : MethD P w K mg base "Free" "reason_for" (2 * n + 6) ["self", "left", "right"] (spLeqG K (argsF K) resN (n + 1) (costN n))) : MethD P w K mg base "Free" "is_below" (2 * n + 7) ["self", "left", "right"] (spLeqG K (argsF K) resB (n + 1) (costD (n + 1))) := by
  refine methd_mk F (F.bindsN fun _ _ _ _ _ _ us hl => match us, hl with | [_, _, _], _ => rfl) T.k_Free T.m_Free_is_below sc_Free_is_below (fun vs H Q E h => ?_) (fun cdv A outer s H vs Q E hr h => ?_)
  · obtain ⟨lv, rv, kd, l, r, a, b, kvs, ⟨f, rfl, _⟩, _⟩ := h
    rfl
  obtain ⟨lv, rv, kd, l, r, a, b, kvs, ⟨f, rfl, hf⟩, hl, hr', dl, dr, a4, b4, hab, hn, hk, hK, hc, q⟩ := h
  have d4l := drawn_mono dl a4
  have d4r := drawn_mono dr b4
  have hcost : costD (n + 1) l r = 1 + costN n l r := rfl
  refine ⟨_, (pss_cons (ps_set (i := 3) sc_Free_is_below.nd rfl (Or.inl rfl) (pe_joined (PJ.cons (pe_fmt (pe_def D_text_of hr (by first | decide | omega) (pa_cons (pv 1) pa_nil))) (PJ.cons pe_str (PJ.cons (pe_fmt (pe_def D_text_of hr (by first | decide | omega) (pa_cons (pv 2) pa_nil))) PJ.nil)))))
  (C8.pss_cut (ps_if (pt_cmp (pc_dnotin (hu_of hr) (pv 3) (pe_fld (pv 0) rfl)) (by rfl))
  (pss_one (ps_dput (hu_of hr) (pe_fld (pv 0) rfl) (pv 3) (pe_cmp (pc_notN (pe_methdK K D_Free_reason_for hr (by first | decide | omega) (pv 0) (pa_cons (pv 1) (pa_cons (pv 2) pa_nil)))) (by rfl)) (by rfl)))
  pss_nil)
  (pss_one (ps_ret (pe_dget (hu_of hr) (pe_fld (pv 0) rfl) (pv 3) (fun _ _ => rfl)))))), ?_⟩
  have tl1 := text_len d4l
  have tr1 := text_len d4r
  have l3 : (" < " : Str).length = 3 := by decide +kernel
  have big : 8 * 24 ^ 4 + 8 * 24 ^ 4 + 100 ≤ sizeLine := by decide +kernel
  have em : ∀ z : Str, Str.empty ++ z = z := fun z => tl_inj (by rw [tl_app]; rfl)
  have ek : Str.empty ++ textD 5 l ++ (" < " : Str) ++ textD 5 r = keyD l r := by
    rw [em]
    rfl
  refine ⟨_, rfl, lv, l, 4, rfl, hl, d4l, by decide, by decide, fun H1 e1 => .inl ⟨_, rfl, by omega, _, rfl, by rw [em]; omega, _, rfl, by rw [em, app_len]; omega, ?_⟩⟩
  refine ⟨_, rfl, rv, r, 4, rfl, hr'.up (Same.T e1), d4r, by decide, by decide, fun H2 e2 => .inl ⟨_, rfl, by omega, _, rfl, by rw [em, app_len, app_len]; omega, ?_⟩⟩
  have e12 := e1.trans e2
  have hk2 := e12 _ _ hk
  show C8.tCut _ _ _ _ _
  rw [show Str.empty ++ textD (4 + 1) l ++ Str.ofString " < " ++ textD (4 + 1) r = keyD l r from ek]
  have hf2 := hf.b hk (sb_of e12)
  obtain ⟨dx, sv, pv, hf3⟩ := id hf2
  refine ⟨fun σ' H' => σ' = [some (.ref f), some lv, some rv, some (.str (keyD l r))] ∧ ∃ kvs', SameB kd H H' ∧ H' kd = some (.dK kvs') ∧ KnownD kvs' ∧ kvs'.length ≤ kvs.length + costD (n + 1) l r ∧ valV kvs' (.inr (keyD l r)) = some (.bl (leq l r)), ?_, ?_⟩
  rotate_left
  · rintro σ' H' ⟨rfl, kvs', eb, h1, h2, h3, h4⟩
    obtain ⟨dx', sv', pv', hf4⟩ := hf.b hk eb
    exact ⟨_, rfl, f, _, dx', _, _, rfl, hf4, T.k_Free, T.n_Free_known, rfl, _, rfl, kd, _, rfl, .inl ⟨kvs', .inr (keyD l r), .inl h1, rfl, h4.symm⟩, q _ H' kvs' eb h1 h2 h3 rfl⟩
  refine ⟨_, rfl, _, rfl, f, _, dx, _, _, rfl, hf3, T.k_Free, T.n_Free_known, rfl, kd, valV kvs (.inr (keyD l r)), rfl, .inl ⟨kvs, .inr (keyD l r), .inl hk2, rfl, rfl⟩, _, rfl, ?_⟩
  cases hv : valV kvs (.inr (keyD l r)) with
  | some v =>
    refine iteF ⟨rfl, kvs, sb_of e12, hk2, hK, by omega, ?_⟩
    rw [hv, known_get hK d4l d4r hv]
  | none =>
    refine iteT ⟨_, rfl, f, dx, _, rfl, hf3, rfl, _, rfl, _, rfl, lv, rv, kd, l, r, a, b, kvs, ⟨f, rfl, hf2⟩, hl.up (Same.T e12), hr'.up (Same.T e12), dl, dr, a4, b4, hab, hn, hk2, hK, by omega, fun v H3 kvs3 e3 h1 h2 h3 hres => ?_⟩
    have hlen := length_putK kvs3 (.inr (keyD l r)) (.bl (leq l r))
    have hvb : V.bl (!decide (v = .non)) = .bl (leq l r) := by
      rw [show decide (v = .non) = !leq l r from hres, Bool.not_not]
    obtain ⟨dx', sv', pv', hf4⟩ := hf2.b hk2 e3
    refine ⟨_, rfl, f, _, dx', _, _, rfl, hf4, T.k_Free, T.n_Free_known, rfl, _, rfl, kd, _, rfl, DPut.k (k := .inr (keyD l r)) h1 (lt_big (by omega)), rfl, _, ((sb_of e12).tr e3).tr sb_upd, upd_same, ?_, ?_, ?_⟩
    · rw [hvb]
      exact known_put h2 d4l d4r
    · rw [hvb]
      omega
    · rw [valV_put, if_pos rfl, hvb]
theorem ok_reason {n : Nat} {fd : FuncData} (F : FunD K "reason_for" "Free.reason_for" (defArgs s_Free_reason_for) (defBody s_Free_reason_for) (defScope s_Free_reason_for) [] [] (He.ma K (He.ga K "Free") "reason_for") fd) (T : Top K mg)
    (D_Free_is_below : MethD P w K mg base "Free" "is_below" (2 * n + 5) ["self", "left", "right"] (spLeqG K (argsF K) resB n (costD n))) : MethD P w K mg base "Free" "reason_for" (2 * n + 6) ["self", "left", "right"] (spLeqG K (argsF K) resN (n + 1) (costN n)) := by
  refine methd_mk F (F.bindsN fun _ _ _ _ _ _ us hl => match us, hl with | [_, _, _], _ => rfl) T.k_Free T.m_Free_reason_for sc_Free_reason_for (fun vs H Q E h => ?_) (fun cdv A outer s H vs Q E hr h => ?_)
  · obtain ⟨lv, rv, kd, l, r, a, b, kvs, ⟨f, rfl, _⟩, _⟩ := h
    rfl
  obtain ⟨lv, rv, kd, l, r, a, b, kvs, ⟨f, rfl, hf⟩, hl, hr', dl, dr, a4, b4, hab, hn, hk, hK, hc, q⟩ := h
  have d4l := drawn_mono dl a4
  have d4r := drawn_mono dr b4
  refine ⟨_, (pss_cons (ps_if (pt_cmpR (op_eqK K hr.units) (pv 1) (pv 2) (nomark _))
  (pss_one (ps_ret (pe_tup (pa_cons pe_str (pa_cons (pe_lst pa_nil) pa_nil)))))
  pss_nil)
  (pss_cons (ps_if (pt_cmpR op_eq (pe_ix (ix_wordK K) (pv 1) pe_int (fun _ _ => rfl)) pe_str (nomark _))
  (pss_cons (ps_setLc (i := 3) (own := [("part", 4)]) rfl sc_Free_reason_for.nd rfl rfl (sw_true rfl rfl rfl (by kernel_rfl)) (pi_tupK K (pe_slice (sl_tupK K) (pv 1) (po_some pe_int) po_none)) (blkOk_by (by kernel_rfl)) (fun _ _ _ _ _ => (pg_name (i := 4) sc_Free_reason_for.nd rfl (Or.inl rfl) (.inr rfl))) (fun _ _ _ _ _ => pts_nil) (fun _ _ _ _ _ => (pe_tup (pa_cons (pv 4) (pa_cons (pv 2) pa_nil)))))
  (pss_one (ps_ret (pe_ifExp (pt_val (pe_callB (cr_allK K rfl) (by rfl) T.b_all (by decide +kernel) (pa_cons (pe_lc (own := [("one", 5), ("other", 6)]) rfl sc_Free_reason_for.nd (pi_listK K (pv 3)) (blkOk_by (by kernel_rfl)) (fun _ _ _ _ _ => (pg_tupK K (n := 2) rfl (pgs_cons (pg_name (i := 5) sc_Free_reason_for.nd rfl (Or.inl rfl) (.inr rfl)) (pgs_cons (pg_name (i := 6) sc_Free_reason_for.nd rfl (Or.inl rfl) (.inr rfl)) pgs_nil)))) (fun _ _ _ _ _ => pts_nil) (fun _ _ _ _ _ => (pe_methdK K D_Free_is_below hr (by first | decide | omega) (pv 0) (pa_cons (pv 5) (pa_cons (pv 6) pa_nil))))) pa_nil))) (pe_tup (pa_cons pe_str (pa_cons (pv 3) pa_nil))) pe_non))))
  pss_nil)
  (pss_cons (ps_if (pt_cmpR op_eq (pe_ix (ix_wordK K) (pv 2) pe_int (fun _ _ => rfl)) pe_str (nomark _))
  (pss_cons (ps_setLc (i := 3) (own := [("part", 4)]) rfl sc_Free_reason_for.nd rfl rfl (sw_true rfl rfl rfl (by kernel_rfl)) (pi_tupK K (pe_slice (sl_tupK K) (pv 2) (po_some pe_int) po_none)) (blkOk_by (by kernel_rfl)) (fun _ _ _ _ _ => (pg_name (i := 4) sc_Free_reason_for.nd rfl (Or.inl rfl) (.inr rfl))) (fun _ _ _ _ _ => pts_nil) (fun _ _ _ _ _ => (pe_tup (pa_cons (pv 1) (pa_cons (pv 4) pa_nil)))))
  (pss_one (ps_ret (pe_ifExp (pt_val (pe_callB (cr_allK K rfl) (by rfl) T.b_all (by decide +kernel) (pa_cons (pe_lc (own := [("one", 5), ("other", 6)]) rfl sc_Free_reason_for.nd (pi_listK K (pv 3)) (blkOk_by (by kernel_rfl)) (fun _ _ _ _ _ => (pg_tupK K (n := 2) rfl (pgs_cons (pg_name (i := 5) sc_Free_reason_for.nd rfl (Or.inl rfl) (.inr rfl)) (pgs_cons (pg_name (i := 6) sc_Free_reason_for.nd rfl (Or.inl rfl) (.inr rfl)) pgs_nil)))) (fun _ _ _ _ _ => pts_nil) (fun _ _ _ _ _ => (pe_methdK K D_Free_is_below hr (by first | decide | omega) (pv 0) (pa_cons (pv 5) (pa_cons (pv 6) pa_nil))))) pa_nil))) (pe_tup (pa_cons pe_str (pa_cons (pv 3) pa_nil))) pe_non))))
  pss_nil)
  (C8.pss_cut (ps_if (pt_cmpR op_eq (pe_ix (ix_wordK K) (pv 2) pe_int (fun _ _ => rfl)) pe_str (nomark _))
  (pss_one (ps_for PassesOwn.never rfl (pi_tupK K (pe_slice (sl_tupK K) (pv 2) (po_some pe_int) po_none)) (pg_name (i := 4) sc_Free_reason_for.nd rfl (Or.inl rfl) (.inl rfl))
  (pss_one (ps_if (pt_val (pe_methdK K D_Free_is_below hr (by first | decide | omega) (pv 0) (pa_cons (pv 1) (pa_cons (pv 4) pa_nil))))
  (pss_one (ps_ret (pe_tup (pa_cons pe_str (pa_cons (pe_lst (pa_cons (pe_tup (pa_cons (pv 1) (pa_cons (pv 4) pa_nil))) (pa_cons (pe_tup (pa_cons (pv 4) (pa_cons (pv 2) pa_nil))) pa_nil))) pa_nil)))))
  pss_nil))))
  pss_nil)
  (C8.pss_cut (ps_if (pt_cmpR op_eq (pe_ix (ix_wordK K) (pv 1) pe_int (fun _ _ => rfl)) pe_str (nomark _))
  (pss_one (ps_for PassesOwn.never rfl (pi_tupK K (pe_slice (sl_tupK K) (pv 1) (po_some pe_int) po_none)) (pg_name (i := 4) sc_Free_reason_for.nd rfl (Or.inl rfl) (.inl rfl))
  (pss_one (ps_if (pt_val (pe_methdK K D_Free_is_below hr (by first | decide | omega) (pv 0) (pa_cons (pv 4) (pa_cons (pv 2) pa_nil))))
  (pss_one (ps_ret (pe_tup (pa_cons pe_str (pa_cons (pe_lst (pa_cons (pe_tup (pa_cons (pv 1) (pa_cons (pv 4) pa_nil))) (pa_cons (pe_tup (pa_cons (pv 4) (pa_cons (pv 2) pa_nil))) pa_nil))) pa_nil)))))
  pss_nil))))
  pss_nil)
  (pss_one (ps_ret pe_non))))))), ?_⟩
  have hst := leq_step d4l d4r
  unfold leqStep at hst
  have hcN : costN n l r = ((tlD l).map fun p => costD n p r).sum + ((tlD r).map fun q => costD n l q).sum := rfl
  refine ⟨_, rfl, _, rfl, l, r, hl.dp, hr'.dp, (drawn_nice d4l).shaped, (drawn_nice d4r).shaped, _, rfl, ?_⟩
  refine if_b (fun h1 => ?_) (fun h1 => ?_)
  · rw [h1, Bool.true_or] at hst
    refine ⟨(by show 0 ≤ sizeLine; decide), fun p0 hp0 => ⟨(by show 2 ≤ sizeLine; decide), fun p1 hp1 => ?_⟩⟩
    have e := (same_new hp0 (.lst [])).trans (same_new hp1 (.tup [.str "same", .ref p0]))
    exact q _ _ kvs (sb_of e) (e _ _ hk) hK (by omega) (by rw [hst]; exact rfl)
  rw [h1, Bool.false_or] at hst
  refine ⟨_, rfl, word_hd hl dl _ ⟨rfl, _, rfl, ?_⟩⟩
  refine if_dec (fun h2 => ?_) (fun h2 => ?_)
  · have h2 := V.str.inj h2
    rw [if_pos h2] at hst
    have hv0 := hl
    obtain ⟨ta, o, vr, ps, k, rfl, rfl, hta, hvr, l2, l24, rfl, hps⟩ := word_tup hl dl (.inl h2)
    refine ⟨_, rfl, _, rfl, ta, _, rfl, hta, notWhole1, fun p hp0 => ⟨p, rfl, ⟨_, SqT.of upd_same⟩, fun D hD => ?_⟩⟩
    rw [cut1] at hD ⊢
    have lvr := hvr.len
    have e1 := same_new hp0 (.tup vr)
    refine lc_mapT (j := 4) (fun i y H' => ∃ x t, vr[i]? = some x ∧ y = .ref t ∧ H' t = some (.tup [x, rv])) (fun i y H1 H2 e ⟨x, t, h1, h2, h3⟩ => ⟨x, t, h1, h2, e _ _ h3⟩) hD (SqT.of upd_same) (le_line (by omega)) (fun _ => rfl) ?_ ?_
    · intro i x H2 hx e2 Q' k'
      exact ⟨_, rfl, _, rfl, (by show 2 ≤ sizeLine; decide), fun t ht => k' _ _ (same_new ht _) ⟨x, t, hx, rfl, upd_same⟩⟩
    intro H2 ys e2 hD2 hl2 hy
    have e12 := e1.trans e2
    have hk2 := e12 _ _ hk
    refine ⟨_, rfl, D, rfl, ⟨ys, SqL.of hD2⟩, fun D2 hD20 => ?_⟩
    refine lc_leqL (j := 5) (k := 6) (ps := ps) (f := fun p => leq p r) (c := fun p => costD n p r) (fun p u1 u2 => Tp K H2 u1 p ∧ u2 = rv) hD20 hk2 hK hD2 (hl2.trans lvr) (by omega) ?_ (fun _ _ => rfl) ?_ ?_
    · intro i y hiy
      obtain ⟨x, t, h3, h4, h5⟩ := hy i y hiy
      obtain ⟨p, hp, hxp⟩ := hvr.get h3
      exact ⟨t, _, _, p, h4, hp, h5, ⟨hxp.up (Same.T e12), rfl⟩⟩
    · rintro i p u1 u2 H3 kvs2 hp ⟨hu, rfl⟩ e3 h3 h4 h5 Q' kk
      have eT3 := sameT_d hk2 e3
      have e03 := (sb_of e12).tr e3
      have eT0 := sameT_d hk e03
      have hf4 := hf.b hk e03
      obtain ⟨dx, sv, pv, hf5⟩ := id hf4
      have hs := sum_part (f := fun p => costD n p r) hp
      have hcS : ((tlD (.tuple (.str o :: ps))).map (fun p => costD n p r)).sum = (ps.map (fun p => costD n p r)).sum := rfl
      refine ⟨_, rfl, f, dx, _, rfl, hf5, rfl, _, rfl, _, rfl, u1, u2, kd, p, r, k, b, kvs2, ⟨f, rfl, hf4⟩, hu.up eT3, hr'.up eT0, hps p (List.mem_of_getElem? hp), dr, by omega, b4, by omega, by omega, h3, h4, by omega, fun v H4 kvs4 e4 h6 h7 h8 hres => ?_⟩
      cases hres
      exact kk H4 kvs4 e4 h6 h7 h8
    · intro H3 kvs2 e3 h3 h4 h5 h6
      have hcS : ((tlD (.tuple (.str o :: ps))).map (fun p => costD n p r)).sum = (ps.map (fun p => costD n p r)).sum := rfl
      refine ⟨D2, _, rfl, SqL.of h6, _, rfl, ?_⟩
      rw [all_id]
      have e03 := (sb_of e12).tr e3
      refine if_b (fun h7 => ?_) (fun h7 => ?_)
      · refine ⟨_, rfl, (by show 2 ≤ sizeLine; decide), fun t ht => ?_⟩
        have e4 := same_new ht (.tup [.str "out", .ref D])
        refine q _ _ kvs2 (e03.tr (sb_of e4)) (e4 _ _ h3) h4 (by omega) ?_
        rw [hst]
        show false = !(ps.all (fun p => leq p r))
        rw [h7] <;> rfl
      · refine q _ _ kvs2 e03 h3 h4 (by omega) ?_
        rw [hst]
        show true = !(ps.all (fun p => leq p r))
        rw [h7] <;> rfl
  have h2 : ¬ hdS l = "|" := fun z => h2 (by rw [z])
  rw [if_neg h2] at hst
  refine ⟨_, rfl, word_hd hr' dr _ ⟨rfl, _, rfl, ?_⟩⟩
  clear h2
  refine if_dec (fun h2 => ?_) (fun h2 => ?_)
  · have h2 := V.str.inj h2
    rw [if_pos h2] at hst
    have hv0 := hr'
    obtain ⟨ta, o, vr, ps, k, rfl, rfl, hta, hvr, l2, l24, rfl, hps⟩ := word_tup hr' dr (.inr h2)
    refine ⟨_, rfl, _, rfl, ta, _, rfl, hta, notWhole1, fun p hp0 => ⟨p, rfl, ⟨_, SqT.of upd_same⟩, fun D hD => ?_⟩⟩
    rw [cut1] at hD ⊢
    have lvr := hvr.len
    have e1 := same_new hp0 (.tup vr)
    refine lc_mapT (j := 4) (fun i y H' => ∃ x t, vr[i]? = some x ∧ y = .ref t ∧ H' t = some (.tup [lv, x])) (fun i y H1 H2 e ⟨x, t, h1, h2, h3⟩ => ⟨x, t, h1, h2, e _ _ h3⟩) hD (SqT.of upd_same) (le_line (by omega)) (fun _ => rfl) ?_ ?_
    · intro i x H2 hx e2 Q' k'
      exact ⟨_, rfl, _, rfl, (by show 2 ≤ sizeLine; decide), fun t ht => k' _ _ (same_new ht _) ⟨x, t, hx, rfl, upd_same⟩⟩
    intro H2 ys e2 hD2 hl2 hy
    have e12 := e1.trans e2
    have hk2 := e12 _ _ hk
    refine ⟨_, rfl, D, rfl, ⟨ys, SqL.of hD2⟩, fun D2 hD20 => ?_⟩
    refine lc_leqL (j := 5) (k := 6) (ps := ps) (f := fun p => leq l p) (c := fun p => costD n l p) (fun p u1 u2 => Tp K H2 u2 p ∧ u1 = lv) hD20 hk2 hK hD2 (hl2.trans lvr) (by omega) ?_ (fun _ _ => rfl) ?_ ?_
    · intro i y hiy
      obtain ⟨x, t, h3, h4, h5⟩ := hy i y hiy
      obtain ⟨p, hp, hxp⟩ := hvr.get h3
      exact ⟨t, _, _, p, h4, hp, h5, ⟨hxp.up (Same.T e12), rfl⟩⟩
    · rintro i p u1 u2 H3 kvs2 hp ⟨hu, rfl⟩ e3 h3 h4 h5 Q' kk
      have eT3 := sameT_d hk2 e3
      have e03 := (sb_of e12).tr e3
      have eT0 := sameT_d hk e03
      have hf4 := hf.b hk e03
      obtain ⟨dx, sv, pv, hf5⟩ := id hf4
      have hs := sum_part (f := fun p => costD n l p) hp
      have hcS : ((tlD (.tuple (.str o :: ps))).map (fun p => costD n l p)).sum = (ps.map (fun p => costD n l p)).sum := rfl
      refine ⟨_, rfl, f, dx, _, rfl, hf5, rfl, _, rfl, _, rfl, u1, u2, kd, l, p, a, k, kvs2, ⟨f, rfl, hf4⟩, hl.up eT0, hu.up eT3, dl, hps p (List.mem_of_getElem? hp), a4, by omega, by omega, by omega, h3, h4, by omega, fun v H4 kvs4 e4 h6 h7 h8 hres => ?_⟩
      cases hres
      exact kk H4 kvs4 e4 h6 h7 h8
    · intro H3 kvs2 e3 h3 h4 h5 h6
      have hcS : ((tlD (.tuple (.str o :: ps))).map (fun p => costD n l p)).sum = (ps.map (fun p => costD n l p)).sum := rfl
      refine ⟨D2, _, rfl, SqL.of h6, _, rfl, ?_⟩
      rw [all_id]
      have e03 := (sb_of e12).tr e3
      refine if_b (fun h7 => ?_) (fun h7 => ?_)
      · refine ⟨_, rfl, (by show 2 ≤ sizeLine; decide), fun t ht => ?_⟩
        have e4 := same_new ht (.tup [.str "into", .ref D])
        refine q _ _ kvs2 (e03.tr (sb_of e4)) (e4 _ _ h3) h4 (by omega) ?_
        rw [hst]
        show false = !(ps.all (fun p => leq l p))
        rw [h7] <;> rfl
      · refine q _ _ kvs2 e03 h3 h4 (by omega) ?_
        rw [hst]
        show true = !(ps.all (fun p => leq l p))
        rw [h7] <;> rfl
  have h3 : ¬ hdS r = "&" := fun z => h2 (by rw [z])
  rw [if_neg h3] at hst
  clear h2
  refine ⟨fun σ' H' => ∃ o4, σ' = [some (.ref f), some lv, some rv, none, o4, none, none] ∧ ∃ kvs', SameB kd H H' ∧ H' kd = some (.dK kvs') ∧ KnownD kvs' ∧ kvs'.length ≤ kvs.length + ((tlD r).map fun q => costD n l q).sum ∧ (hdS r = "|" → (tlD r).any (fun q => leq l q) = false), ?_, ?_⟩
  · refine ⟨_, rfl, word_hd hr' dr _ ⟨rfl, _, rfl, ?_⟩⟩
    refine if_dec (fun h4 => ?_) (fun h4 => ⟨_, rfl, kvs, sb_refl, hk, hK, by omega, fun z => absurd (by rw [z]) h4⟩)
    have eT : SameT H H := SameT.refl H
    have h4 := V.str.inj h4
    obtain ⟨ta, o, vr, ps, k, rfl, rfl, hta, hvr, l2, l24, rfl, hps⟩ := word_tup (hr'.up eT) dr (.inl h4)
    refine ⟨_, rfl, _, rfl, ta, _, rfl, hta, notWhole1, fun p hp0 => ⟨p, rfl, ⟨_, SqT.of upd_same⟩, ?_⟩⟩
    rw [cut1]
    have lvr := hvr.len
    have e1 := same_new hp0 (.tup vr)
    have hkp := e1 _ _ hk
    have hp1 : (upd H p (.tup vr)) p = some (.tup vr) := upd_same
    have hpk : p ≠ kd := fun z => by
      rw [z, hk] at hp0
      cases hp0
    refine for_tup (xs := vr) (fun i σ H' => ∃ o4, σ = [some (.ref f), some lv, some (.ref ta), none, o4, none, none] ∧ ∃ kvs', SameB kd (upd H p (.tup vr)) H' ∧ H' kd = some (.dK kvs') ∧ KnownD kvs' ∧ kvs'.length ≤ kvs.length + ((ps.take i).map (fun q => costD n l q)).sum ∧ ∀ q ∈ ps.take i, (fun q => leq l q) q = false)
      ⟨_, rfl, kvs, sb_refl, hkp, hK, by simp, fun q hq => by simp at hq⟩ (fun i σ H' _ ⟨_, _, _, e, _⟩ => SqT.of (e _ _ hpk hp1)) ?_ ?_
    · rintro i x σ H2 hx ⟨o4, rfl, kvs2, e2, h5, h6, h7, h8⟩
      obtain ⟨p', hp, hxp⟩ := hvr.get hx
      have e02 := (sb_refl (a := kd) (H := H)).tr ((sb_of e1).tr e2)
      have eT2 := sameT_d hk e02
      have eT3 := sameT_d hk ((sb_of e1).tr e2)
      have hf4 := hf.b hk e02
      obtain ⟨dx, sv, pv, hf5⟩ := id hf4
      have hs := sum_part (f := fun q => costD n l q) hp
      have hcS : ((tlD (.tuple (.str o :: ps))).map (fun q => costD n l q)).sum = (ps.map (fun q => costD n l q)).sum := rfl
      refine ⟨_, rfl, f, dx, _, rfl, hf5, rfl, _, rfl, _, rfl, lv, x, kd, l, p', a, k, kvs2, ⟨f, rfl, hf4⟩, hl.up eT2, hxp.up eT3, dl, hps p' (List.mem_of_getElem? hp), a4, by omega, by omega, by omega, h5, h6, by omega, fun v H3 kvs3 e3 k6 k7 k8 hres => ?_⟩
      cases hres
      refine ⟨_, rfl, if_b (fun h9 => ?_) (fun h9 => ?_)⟩
      · refine ⟨_, rfl, _, rfl, (by show 2 ≤ sizeLine; decide), fun t1 ht1 => ⟨_, rfl, _, rfl, (by show 2 ≤ sizeLine; decide), fun t2 ht2 => ⟨(by show 2 ≤ sizeLine; decide), fun t3 ht3 => ⟨(by show 2 ≤ sizeLine; decide), fun t4 ht4 => ?_⟩⟩⟩⟩
        have g := (same_new ht1 (.tup [lv, x])).trans ((same_new ht2 (.tup [x, (.ref ta)])).trans ((same_new ht3 (.lst [.ref t1, .ref t2])).trans (same_new ht4 (.tup [.str "right", .ref t3]))))
        refine q _ _ kvs3 (e02.tr (e3.tr (sb_of g))) (g _ _ k6) k7 (by omega) ?_
        have hany : (tlD (.tuple (.str o :: ps))).any (fun q => leq l q) = true := List.any_eq_true.mpr ⟨p', List.mem_of_getElem? hp, h9⟩
        rw [hst, decide_eq_true h4, hany] <;> rfl
      · refine ⟨_, rfl, kvs3, e2.tr e3, k6, k7, ?_, fun q hq => ?_⟩
        · rw [take_s hp, List.map_append, List.sum_append]
          simp only [List.map_cons, List.map_nil, List.sum_cons, List.sum_nil]
          omega
        · rw [take_s hp] at hq
          rcases List.mem_append.mp hq with hq | hq
          · exact h8 q hq
          · rw [List.mem_singleton.mp hq]
            exact h9
    · rintro σ H2 ⟨o4, rfl, kvs2, e2, h5, h6, h7, h8⟩
      rw [lvr, List.take_length] at h7 h8
      have hany : (tlD (.tuple (.str o :: ps))).any (fun q => leq l q) = false := List.any_eq_false.mpr fun q hq hh => by
        have h9 := h8 q hq
        dsimp only at h9 hh
        rw [h9] at hh
        cases hh
      exact ⟨_, rfl, kvs2, (sb_refl (a := kd) (H := H)).tr ((sb_of e1).tr e2), h5, h6, by have hcS : ((tlD (.tuple (.str o :: ps))).map (fun q => costD n l q)).sum = (ps.map (fun q => costD n l q)).sum := rfl; omega, fun _ => hany⟩
  rintro σ' H0 ⟨o4', rfl, kvs0, e0, hk0, hK0, hle, hno⟩
  have eT := sameT_d hk e0
  have hno2 : (decide (hdS r = "|") && (tlD r).any fun q => leq l q) = false := by
    by_cases z : hdS r = "|"
    · rw [hno z, Bool.and_false]
    · rw [decide_eq_false z, Bool.false_and]
  rw [hno2, Bool.false_or] at hst
  clear hno hno2
  refine ⟨fun σ' H' => ∃ o4, σ' = [some (.ref f), some lv, some rv, none, o4, none, none] ∧ ∃ kvs', SameB kd H H' ∧ H' kd = some (.dK kvs') ∧ KnownD kvs' ∧ kvs'.length ≤ kvs.length + costN n l r ∧ (hdS l = "&" → (tlD l).any (fun p => leq p r) = false), ?_, ?_⟩
  · refine ⟨_, rfl, word_hd (hl.up eT) dl _ ⟨rfl, _, rfl, ?_⟩⟩
    refine if_dec (fun h4 => ?_) (fun h4 => ⟨_, rfl, kvs0, e0, hk0, hK0, by omega, fun z => absurd (by rw [z]) h4⟩)
    have h4 := V.str.inj h4
    obtain ⟨ta, o, vr, ps, k, rfl, rfl, hta, hvr, l2, l24, rfl, hps⟩ := word_tup (hl.up eT) dl (.inr h4)
    refine ⟨_, rfl, _, rfl, ta, _, rfl, hta, notWhole1, fun p hp0 => ⟨p, rfl, ⟨_, SqT.of upd_same⟩, ?_⟩⟩
    rw [cut1]
    have lvr := hvr.len
    have e1 := same_new hp0 (.tup vr)
    have hkp := e1 _ _ hk0
    have hp1 : (upd H0 p (.tup vr)) p = some (.tup vr) := upd_same
    have hpk : p ≠ kd := fun z => by
      rw [z, hk0] at hp0
      cases hp0
    refine for_tup (xs := vr) (fun i σ H' => ∃ o4, σ = [some (.ref f), some (.ref ta), some rv, none, o4, none, none] ∧ ∃ kvs', SameB kd (upd H0 p (.tup vr)) H' ∧ H' kd = some (.dK kvs') ∧ KnownD kvs' ∧ kvs'.length ≤ kvs0.length + ((ps.take i).map (fun p => costD n p r)).sum ∧ ∀ q ∈ ps.take i, (fun p => leq p r) q = false)
      ⟨_, rfl, kvs0, sb_refl, hkp, hK0, by simp, fun q hq => by simp at hq⟩ (fun i σ H' _ ⟨_, _, _, e, _⟩ => SqT.of (e _ _ hpk hp1)) ?_ ?_
    · rintro i x σ H2 hx ⟨o4, rfl, kvs2, e2, h5, h6, h7, h8⟩
      obtain ⟨p', hp, hxp⟩ := hvr.get hx
      have e02 := e0.tr ((sb_of e1).tr e2)
      have eT2 := sameT_d hk e02
      have eT3 := sameT_d hk0 ((sb_of e1).tr e2)
      have hf4 := hf.b hk e02
      obtain ⟨dx, sv, pv, hf5⟩ := id hf4
      have hs := sum_part (f := fun p => costD n p r) hp
      have hcS : ((tlD (.tuple (.str o :: ps))).map (fun p => costD n p r)).sum = (ps.map (fun p => costD n p r)).sum := rfl
      refine ⟨_, rfl, f, dx, _, rfl, hf5, rfl, _, rfl, _, rfl, x, rv, kd, p', r, k, b, kvs2, ⟨f, rfl, hf4⟩, hxp.up eT3, hr'.up eT2, hps p' (List.mem_of_getElem? hp), dr, by omega, b4, by omega, by omega, h5, h6, by omega, fun v H3 kvs3 e3 k6 k7 k8 hres => ?_⟩
      cases hres
      refine ⟨_, rfl, if_b (fun h9 => ?_) (fun h9 => ?_)⟩
      · refine ⟨_, rfl, _, rfl, (by show 2 ≤ sizeLine; decide), fun t1 ht1 => ⟨_, rfl, _, rfl, (by show 2 ≤ sizeLine; decide), fun t2 ht2 => ⟨(by show 2 ≤ sizeLine; decide), fun t3 ht3 => ⟨(by show 2 ≤ sizeLine; decide), fun t4 ht4 => ?_⟩⟩⟩⟩
        have g := (same_new ht1 (.tup [(.ref ta), x])).trans ((same_new ht2 (.tup [x, rv])).trans ((same_new ht3 (.lst [.ref t1, .ref t2])).trans (same_new ht4 (.tup [.str "left", .ref t3]))))
        refine q _ _ kvs3 (e02.tr (e3.tr (sb_of g))) (g _ _ k6) k7 (by omega) ?_
        have hany : (tlD (.tuple (.str o :: ps))).any (fun p => leq p r) = true := List.any_eq_true.mpr ⟨p', List.mem_of_getElem? hp, h9⟩
        rw [hst, decide_eq_true h4, hany] <;> rfl
      · refine ⟨_, rfl, kvs3, e2.tr e3, k6, k7, ?_, fun q hq => ?_⟩
        · rw [take_s hp, List.map_append, List.sum_append]
          simp only [List.map_cons, List.map_nil, List.sum_cons, List.sum_nil]
          omega
        · rw [take_s hp] at hq
          rcases List.mem_append.mp hq with hq | hq
          · exact h8 q hq
          · rw [List.mem_singleton.mp hq]
            exact h9
    · rintro σ H2 ⟨o4, rfl, kvs2, e2, h5, h6, h7, h8⟩
      rw [lvr, List.take_length] at h7 h8
      have hany : (tlD (.tuple (.str o :: ps))).any (fun p => leq p r) = false := List.any_eq_false.mpr fun q hq hh => by
        have h9 := h8 q hq
        dsimp only at h9 hh
        rw [h9] at hh
        cases hh
      exact ⟨_, rfl, kvs2, e0.tr ((sb_of e1).tr e2), h5, h6, by have hcS : ((tlD (.tuple (.str o :: ps))).map (fun p => costD n p r)).sum = (ps.map (fun p => costD n p r)).sum := rfl; omega, fun _ => hany⟩
  rintro σ' H1 ⟨o4, rfl, kvs1, e1, hk1, hK1, hle1, hno⟩
  have hno2 : (decide (hdS l = "&") && (tlD l).any fun p => leq p r) = false := by
    by_cases z : hdS l = "&"
    · rw [hno z, Bool.and_false]
    · rw [decide_eq_false z, Bool.false_and]
  refine q _ H1 kvs1 e1 hk1 hK1 hle1 ?_
  rw [hst, hno2] <;> rfl
end
end FF
/-! the order of terms: below_in, always_below, equal_everywhere, free_steps -/
namespace FF
open PySem PySem.Spec PyProof.Rows L2
def spBelowIn (K : PySem.W.Frag) : Sp := fun vs H Q _ => ∃ (lv rv : V) (l r : PyData), vs = [lv, rv] ∧ Tp K H lv l ∧ Tp K H rv r ∧ Drawn 4 l ∧ Drawn 4 r ∧ lvs l ≤ 47 ∧ lvs r ≤ 47 ∧ ∀ H', Same H H' → Q (.bl (leq l r)) H'
def ErrT (K : PySem.W.Frag) (H : Hp) (E : XK) : Prop := ∀ dd H', Same H H' → Thr ("InvalidTerm" : Str) dd H' → E (.ref (He.ga K "InvalidTerm")) dd H'
def spTwo (K : PySem.W.Frag) (B : PyData → PyData → Bool) : Sp := fun vs H Q E => ∃ (lv rv : V) (l r : PyData), vs = [lv, rv] ∧ Dp K H lv l ∧ Dp K H rv r ∧ nice l = true ∧ nice r = true ∧
  (fitsB l = true → fitsB r = true → Tp K H lv l ∧ Tp K H rv r ∧ ∀ H', Same H H' → Q (.bl (B l r)) H') ∧ ((fitsB l = false ∨ fitsB r = false) → ErrT K H E)
def spNoSteps (K : PySem.W.Frag) : Sp := fun vs H Q E => ∃ (lv rv : V) (l r : PyData), vs = [lv, rv] ∧ Dp K H lv l ∧ Dp K H rv r ∧ nice l = true ∧ nice r = true ∧ (fitsB l = false ∨ fitsB r = false) ∧ ErrT K H E
theorem fit_word {d : PyData} (h : fitsB d = true) : Drawn 4 d ∧ lvs d ≤ 47 := by
  have h : (decide (1 ≤ meas 5 d) && decide (meas 5 d ≤ 24)) = true := h
  obtain ⟨h1, h2⟩ := Bool.and_eq_true_iff.mp h
  have h1 := of_decide_eq_true h1
  have h2 := of_decide_eq_true h2
  have hd := word_of 4 d h1 h2
  exact ⟨hd, lvs_fit hd h2⟩
section
variable {P : Program} {w : World} {K : PySem.W.Frag} {mg : Str → Option Value} {base : Heap}
theorem ok_below_in {f : Addr} {fd : FuncData} (F : FunD K "below_in" "below_in" (defArgs s_below_in) (defBody s_below_in) (defScope s_below_in) [] [] f fd) (hm : mg "below_in" = some (.ref f)) (T : Top K mg)
    (M_Free : MakeD P w K mg base "Free" 1 ["self"] (spFreeInit K)) (D_Free_is_below : MethD P w K mg base "Free" "is_below" 23 ["self", "left", "right"] (spLeqG K (argsF K) resB 9 (costD 9))) : Def P w K mg base "below_in" 24 ["left", "right"] (spBelowIn K) := by
  refine def_mk F hm (F.bindsN fun _ _ _ _ _ _ us hl => match us, hl with | [_, _], _ => rfl) sc_below_in (fun vs H Q E h => ?_) (fun cdv A outer s H vs Q E hr h => ?_)
  · obtain ⟨lv, rv, l, r, rfl, _⟩ := h
    rfl
  obtain ⟨lv, rv, l, r, rfl, hl, hr', dl, dr, c1, c2, q⟩ := h
  refine ⟨_, (pss_one (ps_ret (pe_methdK K D_Free_is_below hr (by first | decide | omega) (pe_mkd0 M_Free hr (by first | decide | omega)) (pa_cons (pv 0) (pa_cons (pv 1) pa_nil))))), ?_⟩
  refine fun x dx hx hdx hne => ⟨x, dx, rfl, upd_same, fun H1 kd e1 hkd0 hfree hkd => ⟨rfl, ?_⟩⟩
  have e0 : Same H (upd (upd H dx (.own x)) x (.ins (He.ga K "Free") dx [])) := fun b u hb => by
    rw [upd_ne (ne_of_none hb hx), upd_ne (ne_of_none hb hdx)]
    exact hb
  have e01 : Same H H1 := fun b u hb => e1 b u (ne_of_none hb hx) (e0 b u hb)
  have hkd1 : H kd = none := by
    cases h : H kd with
    | none => rfl
    | some u => exact absurd ((e0 _ _ h).symm.trans hkd0) (fun z => by cases z)
  obtain ⟨dx', sv, pv, hf⟩ := id hfree
  have hc := cost_fit c1 c2
  refine ⟨x, dx', _, rfl, hf, rfl, _, rfl, _, rfl, lv, rv, kd, l, r, 4, 4, [], ⟨x, rfl, hfree⟩, hl.up (Same.T e01), hr'.up (Same.T e01), dl, dr, by decide, by decide, by decide, by decide, hkd, known_nil, by simp; omega, fun v H2 kvs2 e2 _ _ _ hres => ?_⟩
  cases hres
  exact q H2 fun b u hb => e2 b u (ne_of_none hb hkd1) (e01 b u hb)
theorem ok_always {f : Addr} {fd : FuncData} (F : FunD K "always_below" "always_below" (defArgs s_always_below) (defBody s_always_below) (defScope s_always_below) [] [] f fd) (T : Top K mg)
    (D_need_term : DefX P w K mg base "need_term" 14 ["value"] (spNeed K)) (D_below_in : Def P w K mg base "below_in" 24 ["left", "right"] (spBelowIn K)) : FnOk P w K mg base (L2.CX P w) 25 f fd ["left", "right"] (spTwo K leq) := by
  refine FunD.ok F sc_always_below (fun vs H Q E h => ?_) (fun cdv A outer s0 H vs Q E hr h => ?_)
  · obtain ⟨lv, rv, l, r, rfl, _⟩ := h
    rfl
  have tk : Takes (cxOf (L2.CX P w) P w K mg base ["left", "right"] "always_below" (defScope s_always_below) f cdv A outer s0 H E) fun cls d _ H => E cls d H := takes_of rfl rfl rfl rfl
  obtain ⟨lv, rv, l, r, rfl, hl, hr', nl, nr, q1, q2⟩ := h
  refine ⟨_, (pss_cons (ps_expr (pe_defx (E := E) D_need_term tk (fun _ _ _ _ h => h) hr (by first | decide | omega) (pa_cons (pv 0) pa_nil)))
  (pss_cons (ps_expr (pe_defx (E := E) D_need_term tk (fun _ _ _ _ h => h) hr (by first | decide | omega) (pa_cons (pv 1) pa_nil)))
  (pss_one (ps_ret (pe_def D_below_in hr (by first | decide | omega) (pa_cons (pv 0) (pa_cons (pv 1) pa_nil))))))), ?_⟩
  refine ⟨_, rfl, lv, l, rfl, hl, nl, fun f1 H1 e1 => ?_, fun f1 => q2 (.inl f1)⟩
  refine ⟨_, rfl, rv, r, rfl, up_d e1 hr', nr, fun f2 H2 e2 => ?_, fun f2 dd H' e' ht => q2 (.inr f2) dd H' (e1.trans e') ht⟩
  obtain ⟨tl, tr, q⟩ := q1 f1 f2
  obtain ⟨dl, c1⟩ := fit_word f1
  obtain ⟨dr, c2⟩ := fit_word f2
  have e12 := e1.trans e2
  exact ⟨_, rfl, _, rfl, lv, rv, l, r, rfl, tl.up (Same.T e12), tr.up (Same.T e12), dl, dr, c1, c2, fun H3 e3 => q H3 (e12.trans e3)⟩
theorem ok_equal {f : Addr} {fd : FuncData} (F : FunD K "equal_everywhere" "equal_everywhere" (defArgs s_equal_everywhere) (defBody s_equal_everywhere) (defScope s_equal_everywhere) [] [] f fd) (T : Top K mg)
    (D_need_term : DefX P w K mg base "need_term" 14 ["value"] (spNeed K)) (D_below_in : Def P w K mg base "below_in" 24 ["left", "right"] (spBelowIn K)) : FnOk P w K mg base (L2.CX P w) 25 f fd ["one", "other"] (spTwo K fun l r => leq l r && leq r l) := by
  refine FunD.ok F sc_equal_everywhere (fun vs H Q E h => ?_) (fun cdv A outer s0 H vs Q E hr h => ?_)
  · obtain ⟨lv, rv, l, r, rfl, _⟩ := h
    rfl
  have tk : Takes (cxOf (L2.CX P w) P w K mg base ["one", "other"] "equal_everywhere" (defScope s_equal_everywhere) f cdv A outer s0 H E) fun cls d _ H => E cls d H := takes_of rfl rfl rfl rfl
  obtain ⟨lv, rv, l, r, rfl, hl, hr', nl, nr, q1, q2⟩ := h
  refine ⟨_, (pss_cons (ps_expr (pe_defx (E := E) D_need_term tk (fun _ _ _ _ h => h) hr (by first | decide | omega) (pa_cons (pv 0) pa_nil)))
  (pss_cons (ps_expr (pe_defx (E := E) D_need_term tk (fun _ _ _ _ h => h) hr (by first | decide | omega) (pa_cons (pv 1) pa_nil)))
  (pss_one (ps_ret (pe_and (pe_def D_below_in hr (by first | decide | omega) (pa_cons (pv 0) (pa_cons (pv 1) pa_nil))) (pe_one (pe_def D_below_in hr (by first | decide | omega) (pa_cons (pv 1) (pa_cons (pv 0) pa_nil))))))))), ?_⟩
  refine ⟨_, rfl, lv, l, rfl, hl, nl, fun f1 H1 e1 => ?_, fun f1 => q2 (.inl f1)⟩
  refine ⟨_, rfl, rv, r, rfl, up_d e1 hr', nr, fun f2 H2 e2 => ?_, fun f2 dd H' e' ht => q2 (.inr f2) dd H' (e1.trans e') ht⟩
  obtain ⟨tl, tr, q⟩ := q1 f1 f2
  obtain ⟨dl, c1⟩ := fit_word f1
  obtain ⟨dr, c2⟩ := fit_word f2
  have e12 := e1.trans e2
  refine ⟨_, rfl, _, rfl, lv, rv, l, r, rfl, tl.up (Same.T e12), tr.up (Same.T e12), dl, dr, c1, c2, fun H3 e3 => ⟨_, rfl, if_b (fun h1 => ?_) (fun h1 => ?_)⟩⟩
  · have e13 := e12.trans e3
    refine ⟨_, rfl, _, rfl, rv, lv, r, l, rfl, tr.up (Same.T e13), tl.up (Same.T e13), dr, dl, c2, c1, fun H4 e4 => qb (q H4 (e13.trans e4)) ?_⟩
    show (leq l r && leq r l) = _
    rw [h1, Bool.true_and]
  · exact qb (q H3 (e12.trans e3)) (by show (leq l r && leq r l) = _; rw [h1, Bool.false_and])
theorem ok_free_steps {f : Addr} {fd : FuncData} (F : FunD K "free_steps" "free_steps" (defArgs s_free_steps) (defBody s_free_steps) (defScope s_free_steps) [] [] f fd) (hm : mg "free_steps" = some (.ref f)) (T : Top K mg)
    (D_need_term : DefX P w K mg base "need_term" 14 ["value"] (spNeed K)) : DefX P w K mg base "free_steps" 25 ["left", "right"] (spNoSteps K) := by
  refine defx_mk F hm (F.bindsN fun _ _ _ _ _ _ us hl => match us, hl with | [_, _], _ => rfl) sc_free_steps (fun vs H Q E h => ?_) (fun cdv A outer s0 H vs Q E hr h tk => ?_)
  · obtain ⟨lv, rv, l, r, rfl, _⟩ := h
    rfl
  obtain ⟨lv, rv, l, r, rfl, hl, hr', nl, nr, hno, q2⟩ := h
  refine ⟨_, (pss_cons (ps_expr (pe_defx (E := E) D_need_term tk (fun _ _ _ _ h => h) hr (by first | decide | omega) (pa_cons (pv 0) pa_nil)))
  (pss_cons (ps_expr (pe_defx (E := E) D_need_term tk (fun _ _ _ _ h => h) hr (by first | decide | omega) (pa_cons (pv 1) pa_nil)))
  pss_never)), ?_⟩
  refine ⟨_, rfl, lv, l, rfl, hl, nl, fun f1 H1 e1 => ?_, fun f1 => q2⟩
  refine ⟨_, rfl, rv, r, rfl, up_d e1 hr', nr, fun f2 H2 e2 => ?_, fun f2 dd H' e' ht => q2 dd H' (e1.trans e') ht⟩
  rcases hno with h | h
  · rw [h] at f1
    cases f1
  · rw [h] at f2
    cases f2
end
end FF
/-! the order of terms: rewritten terms -/
namespace FF
open PySem PySem.Spec PyProof.Rows L2
/-- some nice data of texts and tuples, at most n deep -/
def PT (K : PySem.W.Frag) (n : Nat) (v : V) (H : Hp) : Prop := ∃ d, Tp K H v d ∧ Nice n d
theorem PT.up {K : PySem.W.Frag} {n : Nat} {v : V} {H H' : Hp} (h : PT K n v H) (e : SameT H H') : PT K n v H' := let ⟨d, h1, h2⟩ := h; ⟨d, h1.up e, h2⟩
theorem PT.mono {K : PySem.W.Frag} {m n : Nat} {v : V} {H : Hp} (h : PT K m v H) (hm : m ≤ n) : PT K n v H := let ⟨d, h1, h2⟩ := h; ⟨d, h1, h2.mono hm⟩
theorem pt_str {K : PySem.W.Frag} {n : Nat} {z : Str} {H : Hp} (h : nice (.str z) = true) : PT K n (.str z) H := ⟨_, .str z, h, by rw [PyData.depth]; omega⟩
theorem pt_all {K : PySem.W.Frag} {n : Nat} {H : Hp} : ∀ {vs : List V}, (∀ v ∈ vs, PT K n v H) → ∃ ds, TpAll K H vs ds ∧ ds.length = vs.length ∧ ∀ d ∈ ds, Nice n d
  | [], _ => ⟨[], .nil, rfl, fun d h => by cases h⟩
  | v :: r, h => by
    obtain ⟨d, h1, h2⟩ := h v List.mem_cons_self
    obtain ⟨ds, h3, h4, h5⟩ := pt_all fun w hw => h w (List.mem_cons_of_mem _ hw)
    refine ⟨d :: ds, .cons h1 h3, by simp [h4], fun e he => ?_⟩
    rcases List.mem_cons.mp he with rfl | he
    · exact h2
    · exact h5 e he
theorem pt_tup {K : PySem.W.Frag} {n : Nat} {H H' : Hp} {vs : List V} {p : Addr} (h : ∀ v ∈ vs, PT K n v H) (hl : vs.length ≤ 20000) (e : SameT H H') (hp : H' p = some (.tup vs)) : PT K (n + 1) (.ref p) H' := by
  obtain ⟨ds, h1, h2, h3⟩ := pt_all h
  exact ⟨.tuple ds, .tup (.inl hp) (h1.up e), Nice.tuple (by omega) h3⟩
theorem mem3 {P : V → Prop} {a b c : V} (ha : P a) (hb : P b) (hc : P c) : ∀ v ∈ [a, b, c], P v := fun v hv => by
  simp only [List.mem_cons, List.not_mem_nil, or_false] at hv
  rcases hv with rfl | rfl | rfl
  · exact ha
  · exact hb
  · exact hc
theorem mem_cons {P : V → Prop} {a : V} {l : List V} (ha : P a) (h : ∀ v ∈ l, P v) : ∀ v ∈ a :: l, P v := fun v hv => by
  rcases List.mem_cons.mp hv with rfl | hv
  · exact ha
  · exact h v hv
theorem mem_app {P : V → Prop} {l m : List V} (h1 : ∀ v ∈ l, P v) (h2 : ∀ v ∈ m, P v) : ∀ v ∈ l ++ m, P v := fun v hv => by
  rcases List.mem_append.mp hv with hv | hv
  · exact h1 v hv
  · exact h2 v hv
theorem mem_none {P : V → Prop} : ∀ v ∈ ([] : List V), P v := fun v hv => by cases hv
theorem cut_mem {xs : List V} {lo hi : Option Int} {v : V} (h : v ∈ cutV xs lo hi) : v ∈ xs := List.mem_of_mem_drop (List.mem_of_mem_take h)
theorem sqt_updL {K : PySem.W.Frag} {H : Hp} {a b : Addr} {xs ys zs : List V} (hb : H b = some (.lst xs)) (h : SqT K H a ys) : SqT K (upd H b (.lst zs)) a ys := by
  rcases h with (h | ⟨o, h⟩) | h
  · exact .inl (.inl (by rw [upd_ne (fun z => by rw [z, hb] at h; cases h)]; exact h))
  · exact .inl (.inr ⟨o, by rw [upd_ne (fun z => by rw [z, hb] at h; cases h)]; exact h⟩)
  · exact .inr h
def spSameW (K : PySem.W.Frag) (n : Nat) : Sp := fun vs H Q _ => ∃ (s : Addr) (v kv : V) (d : PyData) (m : Nat), vs = [.ref s, v, kv] ∧ Src H s ∧ Tp K H v d ∧ Drawn m d ∧ m < n ∧ n ≤ 10 ∧ ∀ v' H', Same H H' → PT K (m + 2) v' H' → Q v' H'
theorem op_niceS {o : Str} (h : isOp (.str o) = true) : nice (.str o) = true := by
  rcases op_shape h with h | h <;> rw [h] <;> decide +kernel
section
variable {P : Program} {w : World} {K : PySem.W.Frag} {mg : Str → Option Value} {base : Heap}
theorem same_w_none {f : Addr} {fd : FuncData} (F : FunD K "_law_same_word" "_law_same_word" (defArgs s_law_same_word) (defBody s_law_same_word) (defScope s_law_same_word) [] [] f fd) (hm : mg "_law_same_word" = some (.ref f)) : Def P w K mg base "_law_same_word" 3 ["_law_source_here", "_law_word", "_law_known"] (spSameW K 0) := by
  have no : ∀ vs H Q E, ¬ spSameW K 0 vs H Q E := fun vs H Q E ⟨_, _, _, _, _, _, _, _, _, h, _⟩ => by omega
  exact ⟨f, fd, ⟨fun vs H Q E h => absurd h (no vs H Q E), fun A outer s H args us vs Q E _ _ _ _ h => absurd h (no vs H Q E)⟩, hm, F.kp, F.bindsN fun _ _ _ _ _ _ us hl => match us, hl with | [_, _, _], _ => rfl⟩
theorem ok_same_w_step {n : Nat} {f : Addr} {fd : FuncData} (F : FunD K "_law_same_word" "_law_same_word" (defArgs s_law_same_word) (defBody s_law_same_word) (defScope s_law_same_word) [] [] f fd) (hm : mg "_law_same_word" = some (.ref f)) (T : Top K mg)
    (D_law_take : Def P w K mg base "_law_take" 1 ["_law_source_here", "_law_many"] spTake) (D_law_pick : Def P w K mg base "_law_pick" 2 ["_law_source_here", "_law_row"] (spPick K)) (D_law_mixed : Def P w K mg base "_law_mixed" 2 ["_law_source_here", "_law_row"] (spMixed K))
    (D_law_same_word : Def P w K mg base "_law_same_word" (n + 3) ["_law_source_here", "_law_word", "_law_known"] (spSameW K n)) : Def P w K mg base "_law_same_word" (n + 4) ["_law_source_here", "_law_word", "_law_known"] (spSameW K (n + 1)) := by
  refine def_mk F hm (F.bindsN fun _ _ _ _ _ _ us hl => match us, hl with | [_, _, _], _ => rfl) sc_law_same_word (fun vs H Q E h => ?_) (fun cdv A outer s0 H vs Q E hr h => ?_)
  · obtain ⟨s, v, kv, d, m, rfl, _⟩ := h
    rfl
  obtain ⟨s, v, kv, d, m, rfl, hs, hv, hd, hmn, hn, q⟩ := h
  refine ⟨_, (pss_cons (ps_set (i := 3) sc_law_same_word.nd rfl (Or.inl rfl) (pe_def D_law_take hr (by first | decide | omega) (pa_cons (pv 0) (pa_cons pe_int pa_nil))))
  (pss_cons (ps_set (i := 4) sc_law_same_word.nd rfl (Or.inl rfl) (pe_def D_law_pick hr (by first | decide | omega) (pa_cons (pv 0) (pa_cons (pe_callTy (call_list_s rfl) (by rfl) T.b_list (by decide +kernel) (pa_cons pe_str pa_nil)) pa_nil))))
  (pss_cons (ps_if (pt_cmpR op_eq (pv 3) pe_int (nomark _))
  (pss_one (ps_ret (pe_tup (pa_cons pe_str (pa_cons (pv 1) (pa_cons (pe_tup (pa_cons pe_str (pa_cons (pv 1) (pa_cons (pv 4) pa_nil)))) pa_nil))))))
  pss_nil)
  (pss_cons (ps_if (pt_cmpR op_eq (pv 3) pe_int (nomark _))
  (pss_one (ps_ret (pe_tup (pa_cons pe_str (pa_cons (pe_tup (pa_cons pe_str (pa_cons (pv 4) (pa_cons (pv 1) pa_nil)))) (pa_cons (pv 1) pa_nil))))))
  pss_nil)
  (pss_cons (ps_if (pt_cmpR op_eq (pv 3) pe_int (nomark _))
  (pss_one (ps_ret (pe_tup (pa_cons pe_str (pa_cons (pv 1) (pa_cons (pv 1) pa_nil))))))
  pss_nil)
  (pss_cons (ps_if (pt_val (pe_callB (call_isK K kb_str) (by rfl) T.b_isinstance (by decide +kernel) (pa_cons (pv 1) (pa_cons (pe_bltn (v := .ty "str") (by rfl) T.b_str (by decide +kernel) rfl) pa_nil))))
  (pss_one (ps_ret (pv 1)))
  pss_nil)
  (pss_cons (ps_set (i := 5) sc_law_same_word.nd rfl (Or.inl rfl) (pe_callTy (call_list_ofK K) (by rfl) T.b_list (by decide +kernel) (pa_cons (pe_slice (sl_tupK K) (pv 1) (po_some pe_int) po_none) pa_nil)))
  (pss_cons (ps_if (pt_cmpR op_eq (pv 3) pe_int (nomark _))
  (pss_one (ps_ret (pe_callTy (call_tuple_ofK K) (by rfl) T.b_tuple (by decide +kernel) (pa_cons (pe_op op_cat (pe_lst (pa_cons (pe_ix (ix_tupK K) (pv 1) pe_int (fun _ _ => rfl)) pa_nil)) (pe_def D_law_mixed hr (by first | decide | omega) (pa_cons (pv 0) (pa_cons (pv 5) pa_nil)))) pa_nil))))
  pss_nil)
  (pss_cons (ps_if (pt_cmpR op_eq (pv 3) pe_int (nomark _))
  (pss_one (ps_ret (pe_callTy (call_tuple_ofK K) (by rfl) T.b_tuple (by decide +kernel) (pa_cons (pe_op op_cat (pe_lst (pa_cons (pe_ix (ix_tupK K) (pv 1) pe_int (fun _ _ => rfl)) (pa_cons (pe_ix (ix_tupK K) (pv 1) pe_int (fun _ _ => rfl)) pa_nil))) (pv 5)) pa_nil))))
  pss_nil)
  (C8.pss_cut (ps_if (PW.pt (pw_and (pt_cmpR op_eq (pv 3) pe_int (nomark _)) (pw_and1 (pt_cmpR op_gt (pe_callB (call_lenK K) (by rfl) T.b_len (by decide +kernel) (pa_cons (pv 5) pa_nil)) pe_int (nomark _)))))
  (pss_one (ps_ret (pe_callTy (call_tuple_ofK K) (by rfl) T.b_tuple (by decide +kernel) (pa_cons (pe_op op_cat (pe_op op_cat (pe_lst (pa_cons (pe_ix (ix_tupK K) (pv 1) pe_int (fun _ _ => rfl)) pa_nil)) (pe_slice (sl_listK K) (pv 5) po_none (po_some (pe_un un_neg pe_int)))) (pe_lst (pa_cons (pe_callTy (call_tuple_ofK K) (by rfl) T.b_tuple (by decide +kernel) (pa_cons (pe_op op_cat (pe_lst (pa_cons (pe_ix (ix_tupK K) (pv 1) pe_int (fun _ _ => rfl)) pa_nil)) (pe_slice (sl_listK K) (pv 5) (po_some (pe_un un_neg pe_int)) po_none)) pa_nil)) pa_nil))) pa_nil))))
  pss_nil)
  (pss_cons (ps_set (i := 6) sc_law_same_word.nd rfl (Or.inl rfl) (pe_def D_law_take hr (by first | decide | omega) (pa_cons (pv 0) (pa_cons (pe_callB (call_lenK K) (by rfl) T.b_len (by decide +kernel) (pa_cons (pv 5) pa_nil)) pa_nil))))
  (pss_cons (ps_asg (pe_def D_law_same_word hr (by first | decide | omega) (pa_cons (pv 0) (pa_cons (pe_ix (ix_listK K) (pv 5) (pv 6) (fun _ _ => rfl)) (pa_cons (pv 2) pa_nil)))) (pg_sub (pv 5) (pv 6) set_list))
  (pss_one (ps_ret (pe_callTy (call_tuple_ofK K) (by rfl) T.b_tuple (by decide +kernel) (pa_cons (pe_op op_cat (pe_lst (pa_cons (pe_ix (ix_tupK K) (pv 1) pe_int (fun _ _ => rfl)) pa_nil)) (pv 5)) pa_nil)))))))))))))))), ?_⟩
  refine ⟨_, rfl, s, 8, rfl, by omega, by omega, hs, fun way w0 w1 => ?_⟩
  refine ⟨_, rfl, _, rfl, (by show 8 ≤ sizeLine; decide), fun D hD => ?_⟩
  have eD := same_new hD (.lst (lettersS.cps.toList.map fun c => V.str ⟨#[c]⟩))
  refine ⟨s, D, _, rfl, hs.up eD, SqL.of upd_same, (by decide +kernel), (by decide +kernel), fun v1 hv1 => ?_⟩
  obtain ⟨ch, hch, rfl⟩ := List.mem_map.mp hv1
  have hz : isLet (.str ⟨#[ch]⟩) = true := decide_eq_true hch
  have q : ∀ v' H', Same (upd H D (.lst (lettersS.cps.toList.map fun c => V.str ⟨#[c]⟩))) H' → PT K (m + 2) v' H' → Q v' H' := fun v' H' e h => q v' H' (eD.trans e) h
  have hs := hs.up eD
  have hv := hv.up (Same.T eD)
  generalize upd H D (.lst (lettersS.cps.toList.map fun c => V.str ⟨#[c]⟩)) = H1 at q hs hv ⊢
  clear eD hD hv1
  have pv : ∀ {H'}, Same H1 H' → PT K m v H' := fun e => ⟨d, hv.up (Same.T e), drawn_nice hd⟩
  have ps : ∀ {H' : Hp} {z : Str} {k : Nat}, nice (.str z) = true → PT K k (.str z) H' := fun h => pt_str h
  refine ⟨_, rfl, rfl, _, rfl, if_int (fun h => ?_) (fun h => ?_)⟩
  · refine ⟨_, rfl, _, rfl, _, rfl, (by show 3 ≤ sizeLine; decide), fun t1 ht1 => ⟨(by show 3 ≤ sizeLine; decide), fun t2 ht2 => ?_⟩⟩
    have e1 := same_new ht1 (.tup [.str "&", v, .str ⟨#[ch]⟩])
    have e2 := same_new ht2 (.tup [.str "|", v, .ref t1])
    refine q _ _ (e1.trans e2) (pt_tup (n := m + 1) (vs := [.str "|", v, .ref t1]) (mem3 (ps (by decide +kernel)) ((pv e1).mono (by omega)) (pt_tup (n := m) (H := H1) (vs := [.str "&", v, .str ⟨#[ch]⟩]) (mem3 (ps (by decide +kernel)) (pv (Same.refl _)) (ps (let_nice hz))) (by simp) (Same.T e1) upd_same)) (by simp) (Same.T e2) upd_same)
  clear h
  refine ⟨_, rfl, rfl, _, rfl, if_int (fun h => ?_) (fun h => ?_)⟩
  · refine ⟨_, rfl, _, rfl, (by show 3 ≤ sizeLine; decide), fun t1 ht1 => ⟨_, rfl, (by show 3 ≤ sizeLine; decide), fun t2 ht2 => ?_⟩⟩
    have e1 := same_new ht1 (.tup [.str "|", .str ⟨#[ch]⟩, v])
    have e2 := same_new ht2 (.tup [.str "&", .ref t1, v])
    refine q _ _ (e1.trans e2) (pt_tup (n := m + 1) (vs := [.str "&", .ref t1, v]) (mem3 (ps (by decide +kernel)) (pt_tup (n := m) (H := H1) (vs := [.str "|", .str ⟨#[ch]⟩, v]) (mem3 (ps (by decide +kernel)) (ps (let_nice hz)) (pv (Same.refl _))) (by simp) (Same.T e1) upd_same) ((pv e1).mono (by omega))) (by simp) (Same.T e2) upd_same)
  clear h
  refine ⟨_, rfl, rfl, _, rfl, if_int (fun h => ?_) (fun h => ?_)⟩
  · refine ⟨_, rfl, _, rfl, (by show 3 ≤ sizeLine; decide), fun t1 ht1 => ?_⟩
    have e1 := same_new ht1 (.tup [.str "&", v, v])
    refine q _ _ e1 ((pt_tup (n := m) (H := H1) (vs := [.str "&", v, v]) (mem3 (ps (by decide +kernel)) (pv (Same.refl _)) (pv (Same.refl _))) (by simp) (Same.T e1) upd_same).mono (by omega))
  clear h
  refine ⟨_, rfl, v, d, rfl, hv.dp, _, rfl, ?_⟩
  rcases drawn_shape hd with ⟨z, rfl, _⟩ | ⟨o, dps, k, rfl, ho, l2, l4, rfl, hps⟩
  · cases hv with
    | str z => exact iteT ⟨_, rfl, q _ H1 (Same.refl _) ((pv (Same.refl _)).mono (by omega))⟩
  cases hv with
  | @tup ta vs _ hta ha =>
  cases ha with
  | @cons vo vr _ _ hvo hvr =>
  cases hvo with
  | str o =>
  refine iteF ?_
  have lvr := hvr.len
  have hpt : ∀ x ∈ vr, PT K k x H1 := fun x hx => by
    obtain ⟨i, hi⟩ := List.getElem?_of_mem hx
    obtain ⟨p, hp, hxp⟩ := hvr.get hi
    exact ⟨p, hxp, drawn_nice (hps p (List.mem_of_getElem? hp))⟩
  refine ⟨_, rfl, _, rfl, ta, _, rfl, hta.sqT, notWhole1, fun p hp0 => ⟨p, _, rfl, .inr (SqT.of upd_same), fun pl hpl => ?_⟩⟩
  rw [cut1] at hpl ⊢
  have e1 := same_new hp0 (.tup vr)
  have e2 := same_new hpl (.lst vr)
  have e12 := e1.trans e2
  have hpl2 : (upd (upd H1 p (.tup vr)) pl (.lst vr)) pl = some (.lst vr) := upd_same
  have hplN : H1 pl = none := by
    cases h : H1 pl with
    | none => rfl
    | some u => exact absurd ((e1 _ _ h).symm.trans hpl) (fun z => by cases z)
  generalize upd (upd H1 p (.tup vr)) pl (.lst vr) = H2 at e12 hpl2 ⊢
  have hs2 := hs.up e12
  have hta2 := up_t e12 hta.sqT
  have hpt2 : ∀ x ∈ vr, PT K k x H2 := fun x hx => (hpt x hx).up (Same.T e12)
  have hoN : nice (.str o) = true := op_niceS ho
  refine ⟨_, rfl, rfl, _, rfl, if_int (fun h => ?_) (fun h => ?_)⟩
  · refine ⟨_, rfl, ta, _, _, .str o, rfl, rfl, hta2, at0, (by show 1 ≤ sizeLine; decide), fun p1 hp1 => ?_⟩
    have f1 := same_new hp1 (.lst [.str o])
    refine ⟨_, rfl, _, rfl, s, pl, vr, rfl, hs2.up f1, SqL.of (f1 _ _ hpl2), by omega, fun p2 H3 ys hp2 f2 hys perm => ?_⟩
    refine ⟨p1, p2, _, _, rfl, rfl, f2 _ _ upd_same, hys, le_line (by simp [perm.length_eq]; omega), fun p3 hp3 => ⟨p3, _, rfl, .inl ⟨SqL.of upd_same, fun t ht => ?_⟩⟩⟩
    have f3 := same_new hp3 (.lst ([.str o] ++ ys))
    have f4 := same_new ht (.tup ([.str o] ++ ys))
    have f := f1.trans (f2.trans (f3.trans f4))
    exact q _ _ (e12.trans f) ((pt_tup (n := k) (H := H2) (mem_cons (ps hoN) fun y hy => hpt2 y (perm.mem_iff.mp hy)) (by simp [perm.length_eq]; omega) (Same.T f) upd_same).mono (by omega))
  clear h
  refine ⟨_, rfl, rfl, _, rfl, if_int (fun h => ?_) (fun h => ?_)⟩
  · obtain ⟨x0, vr', hvr0⟩ : ∃ x0 vr', vr = x0 :: vr' := by
      cases vr with
      | nil => simp at lvr; omega
      | cons x r => exact ⟨x, r, rfl⟩
    refine ⟨_, rfl, ta, _, _, .str o, rfl, rfl, hta2, at0, _, rfl, ta, _, _, x0, rfl, rfl, hta2, atI_nat (j := 1) (by rw [hvr0] <;> rfl), (by show 2 ≤ sizeLine; decide), fun p1 hp1 => ?_⟩
    have f1 := same_new hp1 (.lst [.str o, x0])
    refine ⟨_, rfl, p1, pl, _, _, rfl, rfl, upd_same, f1 _ _ hpl2, le_line (by simp; omega), fun p3 hp3 => ⟨p3, _, rfl, .inl ⟨SqL.of upd_same, fun t ht => ?_⟩⟩⟩
    have f3 := same_new hp3 (.lst ([.str o, x0] ++ vr))
    have f4 := same_new ht (.tup ([.str o, x0] ++ vr))
    have f := f1.trans (f3.trans f4)
    exact q _ _ (e12.trans f) ((pt_tup (n := k) (H := H2) (mem_cons (ps hoN) (mem_cons (hpt2 x0 (by rw [hvr0]; simp)) hpt2)) (by simp; omega) (Same.T f) upd_same).mono (by omega))
  clear h
  refine ⟨fun σ' H' => σ' = [some (.ref s), some (.ref ta), some kv, some (.int way), some (.str ⟨#[ch]⟩), some (.ref pl), none] ∧ H' = H2, ?_, ?_⟩
  · refine ⟨_, rfl, rfl, _, rfl, if_int (fun h => ?_) (fun h => ⟨rfl, rfl⟩)⟩
    refine ⟨_, rfl, _, _, rfl, .inl ⟨_, SqL.of hpl2, rfl⟩, _, _, rfl, rfl, _, rfl, if_dec (fun h => ?_) (fun h => ⟨rfl, rfl⟩)⟩
    refine ⟨_, rfl, ta, _, _, .str o, rfl, rfl, hta2, at0, (by show 1 ≤ sizeLine; decide), fun p1 hp1 => ?_⟩
    have f1 := same_new hp1 (.lst [.str o])
    refine ⟨_, rfl, 2, rfl, -2, rfl, pl, vr, rfl, SqL.of (f1 _ _ hpl2), fun p2 hp2 => ?_⟩
    have f2 := same_new hp2 (.lst (cutV vr none (some (-2))))
    have c1 := cutV_length vr none (some (-2))
    refine ⟨p1, p2, _, _, rfl, rfl, f2 _ _ upd_same, upd_same, le_line (by simp; omega), fun p3 hp3 => ?_⟩
    have f3 := same_new hp3 (.lst ([.str o] ++ cutV vr none (some (-2))))
    have f13 := f1.trans (f2.trans f3)
    have hp33 : (upd (upd (upd H2 p1 (.lst [.str o])) p2 (.lst (cutV vr none (some (-2))))) p3 (.lst ([.str o] ++ cutV vr none (some (-2))))) p3 = some (.lst ([.str o] ++ cutV vr none (some (-2)))) := upd_same
    generalize upd (upd (upd H2 p1 (.lst [.str o])) p2 (.lst (cutV vr none (some (-2))))) p3 (.lst ([.str o] ++ cutV vr none (some (-2)))) = H3 at f13 hp33 ⊢
    refine ⟨_, rfl, ta, _, _, .str o, rfl, rfl, up_t f13 hta2, at0, (by show 1 ≤ sizeLine; decide), fun p4 hp4 => ?_⟩
    have f4 := same_new hp4 (.lst [.str o])
    refine ⟨_, rfl, 2, rfl, -2, rfl, pl, vr, rfl, SqL.of (f4 _ _ (f13 _ _ hpl2)), fun p5 hp5 => ?_⟩
    have f5 := same_new hp5 (.lst (cutV vr (some (-2)) none))
    have c2 := cutV_length vr (some (-2)) none
    refine ⟨p4, p5, _, _, rfl, rfl, f5 _ _ upd_same, upd_same, le_line (by simp; omega), fun p6 hp6 => ⟨p6, _, rfl, .inl ⟨SqL.of upd_same, fun t1 ht1 => ⟨(by show 1 ≤ sizeLine; decide), fun p7 hp7 => ?_⟩⟩⟩⟩
    have f6 := same_new hp6 (.lst ([.str o] ++ cutV vr (some (-2)) none))
    have f7 := same_new ht1 (.tup ([.str o] ++ cutV vr (some (-2)) none))
    have f8 := same_new hp7 (.lst [.ref t1])
    have f48 := f4.trans (f5.trans (f6.trans (f7.trans f8)))
    have ht := pt_tup (n := k) (H := H2) (mem_cons (ps hoN) fun y hy => hpt2 y (cut_mem hy)) (by simp; omega) (Same.T (f13.trans f48)) (f8 _ _ upd_same)
    refine ⟨p3, p7, _, _, rfl, rfl, f48 _ _ hp33, upd_same, le_line (by simp; omega), fun p8 hp8 => ⟨p8, _, rfl, .inl ⟨SqL.of upd_same, fun t2 ht2 => ?_⟩⟩⟩
    have f9 := same_new hp8 (.lst ([.str o] ++ cutV vr none (some (-2)) ++ [.ref t1]))
    have f10 := same_new ht2 (.tup ([.str o] ++ cutV vr none (some (-2)) ++ [.ref t1]))
    have f910 := f9.trans f10
    refine q _ _ (e12.trans (f13.trans (f48.trans f910))) ((pt_tup (n := k + 1) (mem_app (mem_cons (ps hoN) fun y hy => ((hpt2 y (cut_mem hy)).up (Same.T (f13.trans f48))).mono (by omega)) (mem_cons ht mem_none)) (by simp; omega) (Same.T f910) upd_same).mono (by omega))
  rintro σ' H' ⟨rfl, rfl⟩
  refine ⟨_, rfl, _, rfl, _, vr.length, rfl, .inl ⟨vr, SqL.of hpl2, rfl⟩, s, vr.length, rfl, by omega, by omega, hs2, fun j j0 j1 => ?_⟩
  obtain ⟨i, rfl⟩ : ∃ i : Nat, j = i := ⟨j.toNat, by omega⟩
  have hi : i < vr.length := by omega
  obtain ⟨x, hx⟩ : ∃ x, vr[i]? = some x := ⟨vr[i], by simp [hi]⟩
  obtain ⟨p', hp', hxp⟩ := hvr.get hx
  refine ⟨_, rfl, _, rfl, _, rfl, pl, vr, _, x, rfl, rfl, SqL.of hpl2, atI_nat hx, _, rfl, s, x, kv, p', k, rfl, hs2, hxp.up (Same.T e12), hps p' (List.mem_of_getElem? hp'), by omega, by omega, fun v' H3 e3 hv' => ?_⟩
  have hpl3 := e3 _ _ hpl2
  refine ⟨_, rfl, _, rfl, pl, vr, (i : Int), i, rfl, rfl, hpl3, ?_, ?_⟩
  · unfold ixN
    rw [if_pos (by omega), if_pos (by omega)]
    rfl
  have eU : SameT H3 (upd H3 pl (.lst (vr.set i v'))) := (SameT.refl H3).updL hpl3
  have hta4 : SqT K (upd H3 pl (.lst (vr.set i v'))) ta (.str o :: vr) := sqt_updL hpl3 (up_t e3 hta2)
  have e14 : Same H1 (upd H3 pl (.lst (vr.set i v'))) := fun b u hb => by
    rw [upd_ne (ne_of_none hb hplN)]
    exact e3 _ _ (e12 _ _ hb)
  have hpt4 : ∀ y ∈ vr.set i v', PT K (k + 2) y (upd H3 pl (.lst (vr.set i v'))) := fun y hy => by
    rcases List.mem_or_eq_of_mem_set hy with hy | rfl
    · exact ((hpt2 y hy).up ((Same.T e3).trans eU)).mono (by omega)
    · exact hv'.up eU
  have hl4 : (vr.set i v').length = vr.length := List.length_set
  have hpl4 : (upd H3 pl (.lst (vr.set i v'))) pl = some (.lst (vr.set i v')) := upd_same
  generalize upd H3 pl (.lst (vr.set i v')) = H4 at eU hta4 e14 hpt4 hpl4 ⊢
  generalize vr.set i v' = ws at hpt4 hl4 hpl4
  refine ⟨_, rfl, ta, _, _, .str o, rfl, rfl, hta4, at0, (by show 1 ≤ sizeLine; decide), fun p1 hp1 => ?_⟩
  have f1 := same_new hp1 (.lst [.str o])
  refine ⟨_, rfl, p1, pl, _, _, rfl, rfl, upd_same, f1 _ _ hpl4, le_line (by simp; omega), fun p3 hp3 => ⟨p3, _, rfl, .inl ⟨SqL.of upd_same, fun t ht => ?_⟩⟩⟩
  have f3 := same_new hp3 (.lst ([.str o] ++ ws))
  have f4 := same_new ht (.tup ([.str o] ++ ws))
  have f := f1.trans (f3.trans f4)
  exact q _ _ (e14.trans f) (pt_tup (n := k + 2) (H := H4) (mem_cons (ps hoN) hpt4) (by simp; omega) (Same.T f) upd_same)
/-- a word of this law -/
def WordD (d : PyData) : Prop := Drawn 4 d ∧ meas 5 d ≤ 24
def spRewr (K : PySem.W.Frag) : Sp := fun vs H Q _ => ∃ (s : Addr) (v : V) (d : PyData) (many : Nat), vs = [.ref s, v, .int many] ∧ Src H s ∧ Tp K H v d ∧ WordD d ∧ many ≤ 100 ∧ ∀ v' H' d', Same H H' → Tp K H' v' d' → WordD d' → Q v' H'
theorem ok_rewritten {f : Addr} {fd : FuncData} (F : FunD K "_law_rewritten" "_law_rewritten" (defArgs s_law_rewritten) (defBody s_law_rewritten) (defScope s_law_rewritten) [] [] f fd) (hm : mg "_law_rewritten" = some (.ref f)) (T : Top K mg)
    (D_law_same_word : Def P w K mg base "_law_same_word" 8 ["_law_source_here", "_law_word", "_law_known"] (spSameW K 5)) (D_law_fits : Def P w K mg base "_law_fits" 13 ["_law_word"] (spFits K)) : Def P w K mg base "_law_rewritten" 14 ["_law_source_here", "_law_word", "_law_many"] (spRewr K) := by
  refine def_mk F hm (F.bindsN fun _ _ _ _ _ _ us hl => match us, hl with | [_, _, _], _ => rfl) sc_law_rewritten (fun vs H Q E h => ?_) (fun cdv A outer s0 H vs Q E hr h => ?_)
  · obtain ⟨s, v, d, many, rfl, _⟩ := h
    rfl
  obtain ⟨s, v, d, many, rfl, hs, hv, hd, hmany, q⟩ := h
  refine ⟨_, (pss_cons (ps_for PassesOwn.never rfl (pi_range1 (by rfl) T.b_range (pa_cons (pv 2) pa_nil)) (pg_name (i := 3) sc_law_rewritten.nd rfl (Or.inl rfl) (.inl rfl))
  (pss_cons (ps_set (i := 4) sc_law_rewritten.nd rfl (Or.inl rfl) (pe_def D_law_same_word hr (by first | decide | omega) (pa_cons (pv 0) (pa_cons (pv 1) (pa_cons pe_dnewK pa_nil)))))
  (pss_one (ps_if (pt_val (pe_def D_law_fits hr (by first | decide | omega) (pa_cons (pv 4) pa_nil)))
  (pss_one (ps_set (i := 1) sc_law_rewritten.nd rfl (Or.inl rfl) (pv 4)))
  pss_nil))))
  (pss_one (ps_ret (pv 1)))), ?_⟩
  refine ⟨_, rfl, (many : Int), rfl, by omega, by omega, ?_⟩
  rw [Int.toNat_natCast]
  refine for_range (lo := 0) (n := many) (fun i σ H' => ∃ v' d' o3 o4, σ = [some (.ref s), some v', some (.int many), o3, o4] ∧ Same H H' ∧ Tp K H' v' d' ∧ WordD d') ⟨v, d, none, none, rfl, Same.refl H, hv, hd⟩ ?_ ?_
  · rintro i σ H1 hi ⟨v', d', o3, o4, rfl, e1, hv1, hd1⟩
    refine ⟨_, rfl, _, rfl, fun kd hkd => ?_⟩
    have e2 := same_new hkd (.dK [])
    have e12 := e1.trans e2
    refine ⟨s, v', .ref kd, d', 4, rfl, hs.up e12, hv1.up (Same.T e2), hd1.1, by decide, by decide, fun v2 H3 e3 h3 => ?_⟩
    obtain ⟨d2, h4, h5⟩ := h3
    refine ⟨_, rfl, v2, d2, rfl, h4.dp, h5.mono (by decide), fun H4 e4 => ⟨_, rfl, if_b (fun h6 => ?_) (fun h6 => ?_)⟩⟩
    · obtain ⟨h7, h8⟩ := Bool.and_eq_true_iff.mp h6
      have h8 := of_decide_eq_true h8
      exact ⟨_, rfl, v2, d2, _, _, rfl, e12.trans (e3.trans e4), h4.up (Same.T e4), word_of 4 d2 (of_decide_eq_true h7) h8, h8⟩
    · exact ⟨v', d', _, _, rfl, e12.trans (e3.trans e4), hv1.up (Same.T (e2.trans (e3.trans e4))), hd1⟩
  · rintro σ H1 ⟨v', d', o3, o4, rfl, e1, hv1, hd1⟩
    exact ⟨_, rfl, q v' H1 d' e1 hv1 hd1⟩
def spTwoW (K : PySem.W.Frag) : Sp := fun vs H Q _ => ∃ (s : Addr), vs = [.ref s] ∧ Src H s ∧ ∀ (t : Addr) (lv rv : V) (H' : Hp) (l r : PyData), Same H H' → H' t = some (.tup [lv, rv]) → Tp K H' lv l → Tp K H' rv r → WordD l → WordD r → Q (.ref t) H'
theorem ok_two_words {f : Addr} {fd : FuncData} (F : FunD K "_law_two_words" "_law_two_words" (defArgs s_law_two_words) (defBody s_law_two_words) (defScope s_law_two_words) [] [] f fd) (hm : mg "_law_two_words" = some (.ref f)) (T : Top K mg)
    (D_law_take : Def P w K mg base "_law_take" 1 ["_law_source_here", "_law_many"] spTake) (D_law_pick : Def P w K mg base "_law_pick" 2 ["_law_source_here", "_law_row"] (spPick K))
    (D_law_signs : Def P w K mg base "_law_signs" 3 ["_law_source_here", "_law_most"] spSigns) (D_law_term : Def P w K mg base "_law_term" 8 ["_law_source_here", "_law_signs_here", "_law_deep", "_law_room"] (spTermR K 6))
    (D_law_rewritten : Def P w K mg base "_law_rewritten" 14 ["_law_source_here", "_law_word", "_law_many"] (spRewr K)) (D_law_fits : Def P w K mg base "_law_fits" 13 ["_law_word"] (spFits K)) : Def P w K mg base "_law_two_words" 15 ["_law_source_here"] (spTwoW K) := by
  refine def_mk F hm (F.bindsN fun _ _ _ _ _ _ us hl => match us, hl with | [_], _ => rfl) sc_law_two_words (fun vs H Q E h => ?_) (fun cdv A outer s0 H vs Q E hr h => ?_)
  · obtain ⟨s, rfl, _⟩ := h
    rfl
  obtain ⟨s, rfl, hs, q⟩ := h
  refine ⟨_, (pss_cons (ps_set (i := 1) sc_law_two_words.nd rfl (Or.inl rfl) (pe_def D_law_signs hr (by first | decide | omega) (pa_cons (pv 0) (pa_cons pe_int pa_nil))))
  (pss_cons (ps_set (i := 2) sc_law_two_words.nd rfl (Or.inl rfl) (pe_def D_law_term hr (by first | decide | omega) (pa_cons (pv 0) (pa_cons (pv 1) (pa_cons (pe_op op_add pe_int (pe_def D_law_take hr (by first | decide | omega) (pa_cons (pv 0) (pa_cons pe_int pa_nil)))) (pa_cons (pe_lst (pa_cons (pe_def D_law_pick hr (by first | decide | omega) (pa_cons (pv 0) (pa_cons (pe_lst (pa_cons pe_int (pa_cons pe_int (pa_cons pe_int pa_nil)))) pa_nil))) pa_nil)) pa_nil))))))
  (pss_cons (ps_set (i := 3) sc_law_two_words.nd rfl (Or.inl rfl) (pe_def D_law_term hr (by first | decide | omega) (pa_cons (pv 0) (pa_cons (pv 1) (pa_cons (pe_op op_add pe_int (pe_def D_law_take hr (by first | decide | omega) (pa_cons (pv 0) (pa_cons pe_int pa_nil)))) (pa_cons (pe_lst (pa_cons (pe_def D_law_pick hr (by first | decide | omega) (pa_cons (pv 0) (pa_cons (pe_lst (pa_cons pe_int (pa_cons pe_int (pa_cons pe_int pa_nil)))) pa_nil))) pa_nil)) pa_nil))))))
  (pss_cons (ps_set (i := 4) sc_law_two_words.nd rfl (Or.inl rfl) (pe_def D_law_take hr (by first | decide | omega) (pa_cons (pv 0) (pa_cons pe_int pa_nil))))
  (C8.pss_cut (ps_if (pt_cmpR op_eq (pv 4) pe_int (nomark _))
  (pss_one (ps_set (i := 3) sc_law_two_words.nd rfl (Or.inl rfl) (pe_def D_law_rewritten hr (by first | decide | omega) (pa_cons (pv 0) (pa_cons (pv 2) (pa_cons pe_int pa_nil))))))
  pss_nil)
  (C8.pss_cut (ps_if (PW.pt (pw_and (pt_cmpR op_eq (pv 4) pe_int (nomark _)) (pw_and1 (pt_val (pe_def D_law_fits hr (by first | decide | omega) (pa_cons (pe_tup (pa_cons pe_str (pa_cons (pv 3) (pa_cons (pv 2) pa_nil)))) pa_nil))))))
  (pss_one (ps_set (i := 3) sc_law_two_words.nd rfl (Or.inl rfl) (pe_tup (pa_cons pe_str (pa_cons (pv 3) (pa_cons (pv 2) pa_nil))))))
  pss_nil)
  (C8.pss_cut (ps_if (PW.pt (pw_and (pt_cmpR op_eq (pv 4) pe_int (nomark _)) (pw_and1 (pt_val (pe_def D_law_fits hr (by first | decide | omega) (pa_cons (pe_tup (pa_cons pe_str (pa_cons (pv 2) (pa_cons (pv 3) pa_nil)))) pa_nil))))))
  (pss_one (ps_set (i := 2) sc_law_two_words.nd rfl (Or.inl rfl) (pe_tup (pa_cons pe_str (pa_cons (pv 2) (pa_cons (pv 3) pa_nil))))))
  pss_nil)
  (pss_one (ps_ret (pe_tup (pa_cons (pv 2) (pa_cons (pv 3) pa_nil)))))))))))), ?_⟩
  refine ⟨_, rfl, s, 4, rfl, by omega, by omega, hs, fun g H1 zs e1 hg hz hzl hlet => ?_⟩
  -- one drawn term
  have one : ∀ (H0 : Hp) (σ : L2.St) (Q2 : VK), Same H1 H0 → σ[0]? = some (some (.ref s)) → σ[1]? = some (some (.ref g)) → (∀ v H' d, Same H0 H' → Tp K H' v d → WordD d → Q2 v H') →
      tCall (spTermR K 6) [] E0 (tCons (tVar 0) (tCons (tVar 1) (tCons (tOp (rI0 fun i j => V.int (i + j)) (tC (.int 1)) (tCall spTake [] E0 (tCons (tVar 0) (tCons (tC (.int 4)) tNil)))) (tCons (tLst (tCons (tCall (spPick K) [] E0 (tCons (tVar 0) (tCons (tLst (tCons (tC (.int 2)) (tCons (tC (.int 4)) (tCons (tC (.int 8)) tNil)))) tNil))) tNil)) tNil)))) σ H0 Q2 := by
    intro H0 σ Q2 e0 hσ0 hσ1 k'
    have hs0 := hs.up (e1.trans e0)
    refine ⟨_, hσ0, _, hσ1, _, hσ0, s, 4, rfl, by omega, by omega, hs0, fun t t0 t1 => ?_⟩
    refine ⟨_, _, rfl, rfl, _, hσ0, (by show 3 ≤ sizeLine; decide), fun p1 hp1 => ?_⟩
    have f1 := same_new hp1 (.lst [.int 2, .int 4, .int 8])
    refine ⟨s, p1, _, rfl, hs0.up f1, SqL.of upd_same, by simp, by simp, fun r hr1 => ?_⟩
    obtain ⟨ri, rfl, hri, hri2⟩ : ∃ i, r = .int i ∧ 0 ≤ i ∧ i ≤ 8 := by
      simp only [List.mem_cons, List.not_mem_nil, or_false] at hr1
      rcases hr1 with rfl | rfl | rfl <;> exact ⟨_, rfl, by decide, by decide⟩
    refine ⟨(by show 1 ≤ sizeLine; decide), fun p2 hp2 => ?_⟩
    obtain ⟨c, ns, h1, h2⟩ := hs0.up f1
    have f2 := same_new hp2 (.lst [.int ri])
    refine ⟨s, g, p2, c, _, ri, zs, ns, rfl, f2 _ _ h1, f2 _ _ h2, ne_of_none h2 hp2, f2 _ _ (f1 _ _ (e0 _ _ hg)), hz, by omega, hlet, upd_same, hri, by omega, by omega, fun v H' d r' e4 _ r0' _ hd1 hd2 hmm => k' v H' d ?_ hd1 ⟨drawn_mono hd2 (by omega), ?_⟩⟩
    · intro b u hu
      have hu2 := f1 _ _ hu
      exact e4 _ _ (ne_of_none hu2 hp2) (f2 _ _ hu2)
    · rw [hmm 5 (by omega)]
      omega
  refine one H1 _ _ (Same.refl H1) rfl rfl fun lv H2 l e2 hl hwl => ?_
  refine one H2 _ _ e2 rfl rfl fun rv H3 r e3 hr1 hwr => ?_
  have hl3 := hl.up (Same.T e3)
  have e13 := e1.trans (e2.trans e3)
  have hs3 := hs.up e13
  refine ⟨_, rfl, s, 5, rfl, by omega, by omega, hs3, fun way w0 w1 => ?_⟩
  have nice2 : ∀ (o : Str) (x y : PyData), nice (.str o) = true → WordD x → WordD y → Nice 60 (.tuple [.str o, x, y]) := fun o x y ho hx hy => (Nice.tuple (n := 4) (by simp) fun u hu => by
    simp only [List.mem_cons, List.not_mem_nil, or_false] at hu
    rcases hu with rfl | rfl | rfl
    · exact ⟨ho, by rw [PyData.depth]; omega⟩
    · exact drawn_nice hx.1
    · exact drawn_nice hy.1).mono (by decide)
  have fitW : ∀ d : PyData, (decide (1 ≤ meas 5 d) && decide (meas 5 d ≤ 24)) = true → WordD d := fun d h => by
    obtain ⟨h7, h8⟩ := Bool.and_eq_true_iff.mp h
    have h8 := of_decide_eq_true h8
    exact ⟨word_of 4 d (of_decide_eq_true h7) h8, h8⟩
  refine ⟨fun σ' H' => ∃ rv' r', σ' = [some (.ref s), some (.ref g), some lv, some rv', some (.int way)] ∧ Same H H' ∧ Tp K H' lv l ∧ Tp K H' rv' r' ∧ WordD r', ?_, ?_⟩
  · refine ⟨_, rfl, rfl, _, rfl, if_int (fun h => ?_) (fun h => ⟨rv, r, rfl, e13, hl3, hr1, hwr⟩)⟩
    refine ⟨_, rfl, _, rfl, s, lv, l, 3, rfl, hs3, hl3, hwl, by decide, fun v' H4 d' e4 hv' hd' => ⟨v', d', rfl, e13.trans e4, hl3.up (Same.T e4), hv', hd'⟩⟩
  clear hl hl3 hr1 hwr e3 e13 hs3 rv r
  rintro σ' H4 ⟨rv, r, rfl, e4, hl4, hr4, hwr⟩
  have hs4 := hs.up e4
  refine ⟨fun σ' H' => ∃ rv' r', σ' = [some (.ref s), some (.ref g), some lv, some rv', some (.int way)] ∧ Same H H' ∧ Tp K H' lv l ∧ Tp K H' rv' r' ∧ WordD r', ?_, ?_⟩
  · refine ⟨_, rfl, rfl, _, rfl, if_int (fun h => ?_) (fun h => ⟨rv, r, rfl, e4, hl4, hr4, hwr⟩)⟩
    refine ⟨_, rfl, _, rfl, (by show 3 ≤ sizeLine; decide), fun t ht => ?_⟩
    have f1 := same_new ht (.tup [.str "|", rv, lv])
    have ht1 : Tp K (upd H4 t (.tup [.str "|", rv, lv])) (.ref t) (.tuple [.str "|", r, l]) := .tup (.inl upd_same) (.cons (.str _) (.cons (hr4.up (Same.T f1)) (.cons (hl4.up (Same.T f1)) .nil)))
    refine ⟨.ref t, _, rfl, ht1.dp, nice2 "|" r l (by decide +kernel) hwr hwl, fun H5 e5 => ⟨_, rfl, if_b (fun h6 => ?_) (fun h6 => ?_)⟩⟩
    · refine ⟨_, rfl, _, rfl, (by show 3 ≤ sizeLine; decide), fun t2 ht2 => ?_⟩
      have f2 := same_new ht2 (.tup [.str "|", rv, lv])
      have f := f1.trans (e5.trans f2)
      exact ⟨_, .tuple [.str "|", r, l], rfl, e4.trans f, hl4.up (Same.T f), .tup (.inl upd_same) (.cons (.str _) (.cons (hr4.up (Same.T f)) (.cons (hl4.up (Same.T f)) .nil))), fitW _ h6⟩
    · have f := f1.trans e5
      exact ⟨rv, r, rfl, e4.trans f, hl4.up (Same.T f), hr4.up (Same.T f), hwr⟩
  clear hl4 hr4 hwr hs4 e4 rv r
  rintro σ' H5 ⟨rv, r, rfl, e5, hl5, hr5, hwr⟩
  refine ⟨fun σ' H' => ∃ lv' l', σ' = [some (.ref s), some (.ref g), some lv', some rv, some (.int way)] ∧ Same H H' ∧ Tp K H' lv' l' ∧ Tp K H' rv r ∧ WordD l', ?_, ?_⟩
  · refine ⟨_, rfl, rfl, _, rfl, if_int (fun h => ?_) (fun h => ⟨lv, l, rfl, e5, hl5, hr5, hwl⟩)⟩
    refine ⟨_, rfl, _, rfl, (by show 3 ≤ sizeLine; decide), fun t ht => ?_⟩
    have f1 := same_new ht (.tup [.str "&", lv, rv])
    have ht1 : Tp K (upd H5 t (.tup [.str "&", lv, rv])) (.ref t) (.tuple [.str "&", l, r]) := .tup (.inl upd_same) (.cons (.str _) (.cons (hl5.up (Same.T f1)) (.cons (hr5.up (Same.T f1)) .nil)))
    refine ⟨.ref t, _, rfl, ht1.dp, nice2 "&" l r (by decide +kernel) hwl hwr, fun H6 e6 => ⟨_, rfl, if_b (fun h6 => ?_) (fun h6 => ?_)⟩⟩
    · refine ⟨_, rfl, _, rfl, (by show 3 ≤ sizeLine; decide), fun t2 ht2 => ?_⟩
      have f2 := same_new ht2 (.tup [.str "&", lv, rv])
      have f := f1.trans (e6.trans f2)
      exact ⟨_, .tuple [.str "&", l, r], rfl, e5.trans f, .tup (.inl upd_same) (.cons (.str _) (.cons (hl5.up (Same.T f)) (.cons (hr5.up (Same.T f)) .nil))), hr5.up (Same.T f), fitW _ h6⟩
    · have f := f1.trans e6
      exact ⟨lv, l, rfl, e5.trans f, hl5.up (Same.T f), hr5.up (Same.T f), hwl⟩
  rintro σ' H6 ⟨lv', l', rfl, e6, hl6, hr6, hwl'⟩
  refine ⟨_, rfl, _, rfl, (by show 2 ≤ sizeLine; decide), fun t ht => ?_⟩
  have f := same_new ht (.tup [lv', rv])
  exact q t lv' rv _ l' r (e6.trans f) upd_same (hl6.up (Same.T f)) (hr6.up (Same.T f)) hwl' hwr
end
end FF
/-! displays whose values satisfy a relation kept by Same -/
namespace FF
open PySem PySem.Spec PyProof.Rows L2
/-! ### displays while a list (at l) may change -/
inductive All2 (R : V → PyData → Prop) : List V → List PyData → Prop
  | nil : All2 R [] []
  | cons {v : V} {d : PyData} {vs : List V} {ds : List PyData} : R v d → All2 R vs ds → All2 R (v :: vs) (d :: ds)
section
variable {R : Hp → V → PyData → Prop} {P : V → Hp → Prop} {σ : L2.St} {H : Hp}
def EvR (R : Hp → V → PyData → Prop) (te : TE) (σ : L2.St) (H : Hp) (d : PyData) : Prop := ∀ H1, Same H H1 → ∀ Q : VK, (∀ v H2, Same H1 H2 → R H2 v d → Q v H2) → te σ H1 Q
def EvRs (R : Hp → V → PyData → Prop) (ta : TA) (σ : L2.St) (H : Hp) (ds : List PyData) : Prop := ∀ H1, Same H H1 → ∀ Q : List V → Hp → Prop, (∀ vs H2, Same H1 H2 → All2 (R H2) vs ds → Q vs H2) → ta σ H1 Q
def MonoR (R : Hp → V → PyData → Prop) : Prop := ∀ (H H' : Hp) (v : V) (d : PyData), Same H H' → R H v d → R H' v d
theorem evr_c {v : V} {d : PyData} (h : ∀ H, R H v d) : EvR R (tC v) σ H d := fun H1 _ Q q => q v H1 (Same.refl H1) (h H1)
theorem evr_var (hm : MonoR R) {i : Nat} {v : V} {d : PyData} (h : σ[i]? = some (some v)) (hd : R H v d) : EvR R (tVar i) σ H d := fun H1 e Q q => ⟨v, h, q v H1 (Same.refl H1) (hm _ _ _ _ e hd)⟩
theorem evrs_nil : EvRs R tNil σ H [] := fun H1 _ Q q => q [] H1 (Same.refl H1) .nil
theorem all2_up (hm : MonoR R) {H H' : Hp} (e : Same H H') {vs : List V} {ds : List PyData} (h : All2 (R H) vs ds) : All2 (R H') vs ds := by
  induction h with
  | nil => exact .nil
  | cons a _ ih => exact .cons (hm _ _ _ _ e a) ih
theorem all2_len {R : V → PyData → Prop} {vs : List V} {ds : List PyData} (h : All2 R vs ds) : vs.length = ds.length := by
  induction h with
  | nil => rfl
  | cons a _ ih => simp [ih]
theorem evrs_cons (hm : MonoR R) {te : TE} {ta : TA} {d : PyData} {ds : List PyData} (h : EvR R te σ H d) (t : EvRs R ta σ H ds) : EvRs R (tCons te ta) σ H (d :: ds) := fun H1 e Q q =>
  h H1 e _ fun v H2 e2 hd => t H2 (e.trans e2) _ fun vs H3 e3 hs => q (v :: vs) H3 (e2.trans e3) (.cons (hm _ _ _ _ e3 hd) hs)
theorem evr_tup (hm : MonoR R) {ta : TA} {ds : List PyData} (ht : ∀ H1 p vs, Same H H1 → H1 p = none → All2 (R (upd H1 p (.tup vs))) vs ds → R (upd H1 p (.tup vs)) (.ref p) (.tuple ds)) (h : EvRs R ta σ H ds) (hl : ds.length ≤ 20000) : EvR R (tTup ta) σ H (.tuple ds) := fun H1 e Q q =>
  h H1 e _ fun vs H2 e2 hs => ⟨by rw [all2_len hs]; exact le_line hl, fun p hp => q _ _ (e2.trans (same_new hp _)) (ht H2 p vs (e.trans e2) hp (all2_up hm (same_new hp _) hs))⟩
theorem evr_lst (hm : MonoR R) {ta : TA} {ds : List PyData} (ht : ∀ H1 p vs, Same H H1 → H1 p = none → All2 (R (upd H1 p (.lst vs))) vs ds → R (upd H1 p (.lst vs)) (.ref p) (.list ds)) (h : EvRs R ta σ H ds) (hl : ds.length ≤ 20000) : EvR R (tLst ta) σ H (.list ds) := fun H1 e Q q =>
  h H1 e _ fun vs H2 e2 hs => ⟨by rw [all2_len hs]; exact le_line hl, fun p hp => q _ _ (e2.trans (same_new hp _)) (ht H2 p vs (e.trans e2) hp (all2_up hm (same_new hp _) hs))⟩
/-- rows of values of which each has P -/
def EvP (P : V → Hp → Prop) (te : TE) (σ : L2.St) (H : Hp) : Prop := ∀ H1, Same H H1 → ∀ Q : VK, (∀ v H2, Same H1 H2 → P v H2 → Q v H2) → te σ H1 Q
def EvPs (P : V → Hp → Prop) (n : Nat) (ta : TA) (σ : L2.St) (H : Hp) : Prop := ∀ H1, Same H H1 → ∀ Q : List V → Hp → Prop, (∀ vs H2, Same H1 H2 → vs.length = n → (∀ v ∈ vs, P v H2) → Q vs H2) → ta σ H1 Q
theorem evp_r {te : TE} {d : PyData} (h : EvR R te σ H d) (hp : ∀ v H2, R H2 v d → P v H2) : EvP P te σ H := fun H1 e Q q => h H1 e Q fun v H2 e2 r => q v H2 e2 (hp v H2 r)
theorem evps_nil : EvPs P 0 tNil σ H := fun H1 _ Q q => q [] H1 (Same.refl H1) rfl (fun v h => by cases h)
theorem evps_cons (hm : ∀ v H H', Same H H' → P v H → P v H') {te : TE} {ta : TA} {n : Nat} (h : EvP P te σ H) (t : EvPs P n ta σ H) : EvPs P (n + 1) (tCons te ta) σ H := fun H1 e Q q =>
  h H1 e _ fun v H2 e2 hd => t H2 (e.trans e2) _ fun vs H3 e3 hl hs => q (v :: vs) H3 (e2.trans e3) (by rw [List.length_cons, hl]) fun w hw => by
    rcases List.mem_cons.mp hw with rfl | hw
    · exact hm _ _ _ e3 hd
    · exact hs w hw
theorem evpl_lst (hm : ∀ v H H', Same H H' → P v H → P v H') {ta : TA} {n : Nat} (h : EvPs P n ta σ H) (hn : n ≤ 20000) : ∀ H1, Same H H1 → ∀ Q : VK, (∀ p vs H2, H1 p = none → Same H1 H2 → H2 p = some (.lst vs) → vs.length = n → (∀ v ∈ vs, P v H2) → Q (.ref p) H2) → tLst ta σ H1 Q := fun H1 e Q q =>
  h H1 e _ fun vs H2 e2 hl hs => ⟨by rw [hl]; exact le_line hn, fun p hp => q p vs _ ((Same.trans e2 (Same.refl _)).free hp) (e2.trans (same_new hp _)) upd_same hl fun v hv => hm _ _ _ (same_new hp _) (hs v hv)⟩
end

section
variable {K : PySem.W.Frag} {σ : L2.St} {H : Hp} {ta : TA} {ds : List PyData}
abbrev RT (K : PySem.W.Frag) (H : Hp) (v : V) (d : PyData) : Prop := Tp K H v d
theorem monoT : MonoR (RT K) := fun H H' v d e h => h.up (Same.T e)
theorem allT {vs : List V} {ds : List PyData} (h : All2 (RT K H) vs ds) : TpAll K H vs ds := by
  induction h with
  | nil => exact .nil
  | cons a _ ih => exact .cons a ih
theorem evt_tup (h : EvRs (RT K) ta σ H ds) (hn : ds.length ≤ 20000) : EvR (RT K) (tTup ta) σ H (.tuple ds) := evr_tup monoT (fun H1 p vs e hp ha => .tup (.inl upd_same) (allT ha)) h hn
end
end FF
namespace FF
open PySem PySem.Spec PyProof.Rows L2
def TBL (K : PySem.W.Frag) : List (Addr × Str) := [((He.cT K ("law", none)).2, (("law" : Str) ++ ".<locals>.") ++ "<lambda>")]
def spLaw (K : PySem.W.Frag) : Sp := fun vs H Q _ => ∃ (a : Addr) (ns : List Int), vs = [.ref a] ∧ SqL K H a (ns.map V.int) ∧ LamX.Tabs (TBL K) H ∧ ∀ H', Q (.bl true) H'
theorem Src.upN {H H' : Hp} {s : Addr} (e : LamX.ExtN H H') (h : Src H s) : Src H' s := by
  obtain ⟨c, ns, h1, h2⟩ := h
  exact ⟨c, ns, e _ _ h1 (fun ps z => by unfold hid at z; cases z), e _ _ h2 (fun ps z => by cases z)⟩
theorem tp_n {K : PySem.W.Frag} {H H' : Hp} {v : V} {d : PyData} (h : Tp K H v d) (e : LamX.ExtN H H') : Tp K H' v d := h.up fun b xs hb => e _ _ hb fun ps z => by cases z
theorem Src.upD {H H' : Hp} {s kd : Addr} {kvs : List (Key × V)} (hk : H kd = some (.dK kvs)) (e : SameB kd H H') (h : Src H s) : Src H' s := by
  obtain ⟨c, ns, h1, h2⟩ := h
  refine ⟨c, ns, e _ _ (fun z => ?_) h1, e _ _ (fun z => ?_) h2⟩
  · rw [z, hk] at h1
    unfold hid at h1
    cases h1
  · rw [z, hk] at h2
    cases h2
theorem tabs_d {T : List (Addr × Str)} {a : Addr} {H H' : Hp} {kvs : List (Key × V)} (t : LamX.Tabs T H) (ha : H a = some (.dK kvs)) (e : SameB a H H') : LamX.Tabs T H' := fun p hp => by
  obtain ⟨ps, h1, h2, h3⟩ := t p hp
  refine ⟨ps, e _ _ (fun z => by rw [z, ha] at h1; cases h1) h1, h2, fun pos cv hc => ?_⟩
  obtain ⟨c, e1, e2⟩ := h3 pos cv hc
  exact ⟨c, e1, e _ _ (fun z => by rw [z, ha] at e2; unfold LamX.CodeO at e2; cases e2) e2⟩
theorem odd_fits {d : PyData} (h : meas 9 d = 0) : fitsB d = false := by
  have h5 : meas 5 d = 0 := meas_down 5 d (meas_down 6 d (meas_down 7 d (meas_down 8 d h)))
  show (decide (1 ≤ meas 5 d) && decide (meas 5 d ≤ 24)) = false
  rw [h5] <;> rfl
theorem word_fits {d : PyData} (h : WordD d) : fitsB d = true := by
  obtain ⟨h1, _⟩ := meas_drawn h.1 5 (by decide)
  show (decide (1 ≤ meas 5 d) && decide (meas 5 d ≤ 24)) = true
  rw [decide_eq_true h1, decide_eq_true h.2] <;> rfl
theorem seq_and {ta tb : TE} {i : Nat} {u : TS} {D : Ends} {σ : L2.St} {H : Hp} {b1 b2 : Bool} (h1 : ∀ Q : VK, Q (.bl b1) H → ta σ H Q) (h2 : ∀ Q : VK, Q (.bl b2) H → tb σ H Q) (h : u D (σ.set i (some (.bl (b1 && b2)))) H) : tSeq (tAsg (tAndV ta tb) (gName i)) u D σ H := by
  refine seq_asg (h1 _ ⟨_, rfl, if_b (fun e => h2 _ ?_) (fun e => ?_)⟩)
  · rw [e, Bool.true_and] at h
    exact h
  · rw [e, Bool.false_and] at h
    exact h
abbrev RD (K : PySem.W.Frag) (H : Hp) (v : V) (d : PyData) : Prop := Dp K H v d
section
variable {K : PySem.W.Frag} {σ : L2.St} {H : Hp} {ta : TA} {ds : List PyData}
theorem monoD : MonoR (RD K) := fun H H' v d e h => up_d e h
theorem allD {vs : List V} {ds : List PyData} (h : All2 (RD K H) vs ds) : DpAll K H vs ds := by
  induction h with
  | nil => exact .nil
  | cons a _ ih => exact .cons a ih
theorem evd_tup (h : EvRs (RD K) ta σ H ds) (hn : ds.length ≤ 20000) : EvR (RD K) (tTup ta) σ H (.tuple ds) := evr_tup monoD (fun H1 p vs e hp ha => .tup (SqT.of upd_same) (allD ha)) h hn
theorem evd_lst (h : EvRs (RD K) ta σ H ds) (hn : ds.length ≤ 20000) : EvR (RD K) (tLst ta) σ H (.list ds) := evr_lst monoD (fun H1 p vs e hp ha => .lst (SqL.of upd_same) (allD ha)) h hn
end
/-- keywords in the other order, no defaults -/
theorem kb_rot {K : PySem.W.Frag} {x qual : Str} {params : Arguments} {body : List Stmt} {scope : Scope} {kws : List (Str × V)} {f : Addr} {fd : FuncData} {ps : List Str} {ks : List Str} (F : FunD K x qual params body scope [] kws f fd)
    (h : ∀ (kV doc pm : Value) (an : Option Addr) (cdv ct : Value) (us ws : List Value), us.length = 0 → ws.length = ks.length → bindArgs (PySem.W.fnOf x qual params body scope .none kV doc pm an cdv ct) ⟨us, ks.zip ws⟩ = pure (ps.zip (ws.drop 1 ++ ws.take 1))) :
    KBn K fd ps 0 ks (fun us ws => ws.drop 1 ++ ws.take 1) (fun vs zs => zs.drop 1 ++ zs.take 1) := by
  obtain ⟨oc, od, dV, kV, doc, pm, an, cdv, ct, osl, rfl, lk, hcd, hD, hK⟩ := F.ex
  rcases hD with ⟨_, rfl⟩ | ⟨e, _⟩
  · exact ⟨fun s us ws _ l1 l2 => .of_eq (h kV doc pm an cdv ct us ws l1 l2), fun r1 r2 => (r2.drop 1).append (r2.take 1)⟩
  · exact absurd rfl e
section
variable {P : Program} {w : World} {K : PySem.W.Frag} {mg : Str → Option Value} {base : Heap}
theorem ok_law {gC fA fE : Addr} {fd fdC fdA fdE : FuncData} (F : FunD K "law" "law" (defArgs s_law) (defBody s_law) (defScope s_law) [] [] (He.fAd K ("law", none)) fd) (T : Top K mg)
    (TB : LamX.TabB base mg (He.codeOf K ("law", none)) (He.cT K ("law", none)).2)
    (F_law_call : FunD K "_law_call" "_law_call" (defArgs s_law_call) (defBody s_law_call) (defScope s_law_call) [] [] gC fdC) (m_law_call : mg "_law_call" = some (.ref gC))
    (FA0 : FunD K "always_below" "always_below" (defArgs s_always_below) (defBody s_always_below) (defScope s_always_below) [] [] fA fdA) (hmA : mg "always_below" = some (.ref fA)) (FA : FnOk P w K mg base (L2.CX P w) 25 fA fdA ["left", "right"] (spTwo K leq))
    (FE0 : FunD K "equal_everywhere" "equal_everywhere" (defArgs s_equal_everywhere) (defBody s_equal_everywhere) (defScope s_equal_everywhere) [] [] fE fdE) (hmE : mg "equal_everywhere" = some (.ref fE)) (FE : FnOk P w K mg base (L2.CX P w) 25 fE fdE ["one", "other"] (spTwo K fun l r => leq l r && leq r l))
    (D_free_steps : DefX P w K mg base "free_steps" 25 ["left", "right"] (spNoSteps K))
    (D_law_source : Def P w K mg base "_law_source" 1 ["_law_script"] (spSource K)) (D_law_two_words : Def P w K mg base "_law_two_words" 15 ["_law_source_here"] (spTwoW K))
    (D_law_below : Def P w K mg base "_law_below" 23 ["_law_mone", "_law_mother", "_law_known"] (spLeqG K argsL resB 9 (costD 9)))
    (D_law_odd : Def P w K mg base "_law_odd" 3 ["_law_source_here", "_law_word"] (spOdd0 K)) (D_law_same : Def P w K mg base "_law_same" 40 ["_law_found", "_law_due"] (spSame K 40)) :
    FnOk P w K mg base CX0 42 (He.fAd K ("law", none)) fd ["_law_script"] (spLaw K) := by
  have b_law_call : Binds K fdC ["_law_ask"] [] := F_law_call.bindsN fun _ _ _ _ _ _ us hl => match us, hl with | [_], _ => rfl
  have kA : KBn K fdA ["left", "right"] 0 ["right", "left"] (fun us ws => ws.drop 1 ++ ws.take 1) (fun vs zs => zs.drop 1 ++ zs.take 1) := kb_rot FA0 fun kV doc pm an cdv ct us ws l1 l2 => match us, ws, l1, l2 with
    | [], [_, _], _, _ => rfl
  have kE : KBn K fdE ["one", "other"] 0 ["other", "one"] (fun us ws => ws.drop 1 ++ ws.take 1) (fun vs zs => zs.drop 1 ++ zs.take 1) := kb_rot FE0 fun kV doc pm an cdv ct us ws l1 l2 => match us, ws, l1, l2 with
    | [], [_, _], _, _ => rfl
  have D_always_below : DefX P w K mg base "always_below" 25 ["left", "right"] (spTwo K leq) := ⟨fA, fdA, FA, hmA, FA0.kp, FA0.bindsN fun _ _ _ _ _ _ us hl => match us, hl with | [_, _], _ => rfl⟩
  have D_equal_everywhere : DefX P w K mg base "equal_everywhere" 25 ["one", "other"] (spTwo K fun l r => leq l r && leq r l) := ⟨fE, fdE, FE, hmE, FE0.kp, FE0.bindsN fun _ _ _ _ _ _ us hl => match us, hl with | [_, _], _ => rfl⟩
  refine fn_mkC F sc_law (fun vs H Q E h => ?_) (fun cdv A outer s0 H vs Q E ec hr h => ?_)
  · obtain ⟨a, ns, rfl, _⟩ := h
    rfl
  subst ec
  obtain ⟨a, ns, rfl, hS, hT, q⟩ := h
  refine ⟨_, (pss_cons (ps_set (i := 1) sc_law.nd rfl (Or.inl rfl) (pe_def D_law_source hr (by first | decide | omega) (pa_cons (pv 0) pa_nil)))
  (pss_cons (ps_set (i := 2) sc_law.nd rfl (Or.inl rfl) pe_dnewK)
  (pss_cons (ps_for PassesOwn.never rfl (pi_range1 (by rfl) T.b_range (pa_cons pe_int pa_nil)) (pg_name (i := 3) sc_law.nd rfl (Or.inl rfl) (.inl rfl))
  (pss_cons (ps_asg (pe_def D_law_two_words hr (by first | decide | omega) (pa_cons (pv 1) pa_nil)) (pg_tupK K (n := 2) rfl (pgs_cons (pg_name (i := 4) sc_law.nd rfl (Or.inr rfl) (.inl rfl)) (pgs_cons (pg_name (i := 5) sc_law.nd rfl (Or.inr rfl) (.inl rfl)) pgs_nil))))
  (pss_cons (ps_set (i := 6) sc_law.nd rfl (Or.inl rfl) (pe_lst (pa_cons (pe_def D_law_below hr (by first | decide | omega) (pa_cons (pv 4) (pa_cons (pv 5) (pa_cons (pv 2) pa_nil)))) (pa_cons (pe_def D_law_below hr (by first | decide | omega) (pa_cons (pv 5) (pa_cons (pv 4) (pa_cons (pv 2) pa_nil)))) pa_nil))))
  (pss_cons (ps_if (pt_not (pt_val (pe_def D_law_same hr (by first | decide | omega) (pa_cons (pe_lst (pa_cons (pe_defN D_always_below hr (by first | decide | omega) (pa_cons (pv 4) (pa_cons (pv 5) pa_nil))) (pa_cons (pe_callN0 FA (hr.mono (by decide)) rfl hmA FA0.kp kA passN (pk_cons (pv 4) (pk_cons (pv 5) pk_nil))) pa_nil))) (pa_cons (pv 6) pa_nil)))))
  (pss_one (ps_ret pe_bl))
  pss_nil)
  (pss_cons (ps_set (i := 7) sc_law.nd rfl (Or.inl rfl) (pe_and (pe_ix (ix_listK K) (pv 6) pe_int (fun _ _ => rfl)) (pe_one (pe_ix (ix_listK K) (pv 6) pe_int (fun _ _ => rfl)))))
  (pss_cons (ps_if (pt_not (pt_val (pe_def D_law_same hr (by first | decide | omega) (pa_cons (pe_lst (pa_cons (pe_defN D_equal_everywhere hr (by first | decide | omega) (pa_cons (pv 4) (pa_cons (pv 5) pa_nil))) (pa_cons (pe_callN0 FE (hr.mono (by decide)) rfl hmE FE0.kp kE passN (pk_cons (pv 4) (pk_cons (pv 5) pk_nil))) pa_nil))) (pa_cons (pe_lst (pa_cons (pv 7) (pa_cons (pv 7) pa_nil))) pa_nil)))))
  (pss_one (ps_ret pe_bl))
  pss_nil)
  (pss_cons (ps_set (i := 8) sc_law.nd rfl (Or.inr rfl) (pe_def D_law_odd hr (by first | decide | omega) (pa_cons (pv 1) (pa_cons (pv 4) pa_nil))))
  (pss_cons (ps_set (i := 9) sc_law.nd rfl (Or.inl rfl) (pe_lst (pa_cons (pe_lamS (by rfl) m_law_call F_law_call b_law_call sc_law_call rfl (Or.inl rfl) (fun cdg => gives_law_call T) TB rfl rfl hr (lam_by (st := s_law) rfl (by decide +kernel)) rfl (fun _ _ _ _ _ => rfl) (fun A1 outer1 s1 H1 E1 f1 c1 hr1 => (pe_defx (E := E1) D_always_below (takes_of rfl rfl rfl rfl) (fun _ _ _ _ h => h) hr1 (by first | decide | omega) (pa_cons (pv 8) (pa_cons (pv 4) pa_nil))))) (pa_cons (pe_lamS (by rfl) m_law_call F_law_call b_law_call sc_law_call rfl (Or.inl rfl) (fun cdg => gives_law_call T) TB rfl rfl hr (lam_by (st := s_law) rfl (by decide +kernel)) rfl (fun _ _ _ _ _ => rfl) (fun A1 outer1 s1 H1 E1 f1 c1 hr1 => (pe_defx (E := E1) D_equal_everywhere (takes_of rfl rfl rfl rfl) (fun _ _ _ _ h => h) hr1 (by first | decide | omega) (pa_cons (pv 5) (pa_cons (pv 8) pa_nil))))) pa_nil))))
  (pss_one (ps_if (pt_cmpR (op_neK K hr.units) (pe_op op_cat (pv 9) (pe_lst (pa_cons (pe_lamS (by rfl) m_law_call F_law_call b_law_call sc_law_call rfl (Or.inl rfl) (fun cdg => gives_law_call T) TB rfl rfl hr (lam_by (st := s_law) rfl (by decide +kernel)) rfl (fun _ _ _ _ _ => rfl) (fun A1 outer1 s1 H1 E1 f1 c1 hr1 => (pe_defx (E := E1) D_free_steps (takes_of rfl rfl rfl rfl) (fun _ _ _ _ h => h) hr1 (by first | decide | omega) (pa_cons (pv 4) (pa_cons (pv 8) pa_nil))))) pa_nil))) (pe_op op_rep (pe_lst (pa_cons (pe_tup (pa_cons pe_non (pa_cons pe_str pa_nil))) pa_nil)) pe_int) (nomark _))
  (pss_one (ps_ret pe_bl))
  pss_nil))))))))))
  (pss_one (ps_ret pe_bl))))), ?_⟩
  refine ⟨_, rfl, a, ns, rfl, hS, fun s H1 e1 hs1 => fun kd hkd => ?_⟩
  have ek := same_new hkd (.dK [])
  refine ⟨6, rfl, by omega, by omega, ?_⟩
  refine for_range (lo := 0) (n := 6) (fun i σ H' => ∃ o3 o4 o5 o6 o7 o8 o9, σ = [some (.ref a), some (.ref s), some (.ref kd), o3, o4, o5, o6, o7, o8, o9] ∧ Src H' s ∧ LamX.Tabs (TBL K) H' ∧ ∃ kvs, H' kd = some (.dK kvs) ∧ KnownD kvs ∧ kvs.length ≤ 2260000 * i) ⟨none, none, none, none, none, none, none, rfl, hs1.up ek, (hT.ext e1).ext ek, [], upd_same, known_nil, by simp⟩ ?_ ?_
  · rintro i σ H' hi ⟨o3, o4, o5, o6, o7, o8, o9, rfl, hs, hT, kvs, hk, hK, hlen⟩
    have hi6 : i < 6 := hi
    refine ⟨_, rfl, s, rfl, hs, fun t lv rv H2 l r e2 ht hl hr' wl wr => ?_⟩
    refine ⟨t, _, rfl, SqT.of ht, rfl, _, _, rfl, _, _, rfl, rfl, ?_⟩
    dsimp only
    have hs2 := hs.up e2
    have hT2 := hT.ext e2
    have hk2 := e2 _ _ hk
    clear hs hT hk e2 ht
    have cl : lvs l ≤ 47 := lvs_fit wl.1 wl.2
    have cr : lvs r ≤ 47 := lvs_fit wr.1 wr.2
    have c1 := cost_fit cl cr
    have c2 := cost_fit cr cl
    have fl := word_fits wl
    have fr := word_fits wr
    have nl := drawn_nice wl.1
    have nr := drawn_nice wr.1
    refine ⟨_, rfl, _, rfl, _, rfl, lv, rv, kd, l, r, 4, 4, kvs, rfl, hl, hr', wl.1, wr.1, by decide, by decide, by decide, by decide, hk2, hK, by omega, fun v3 H3 kvs3 e3 hk3 hK3 hl3 hres => ?_⟩
    cases hres
    have eT3 := sameT_d hk2 e3
    refine ⟨_, rfl, _, rfl, _, rfl, rv, lv, kd, r, l, 4, 4, kvs3, rfl, hr'.up eT3, hl.up eT3, wr.1, wl.1, by decide, by decide, by decide, by decide, hk3, hK3, by omega, fun v4 H4 kvs4 e4 hk4 hK4 hl4 hres => ⟨(by show 2 ≤ sizeLine; decide), fun p hp => ?_⟩⟩
    cases hres
    have e5 := same_new hp (.lst [.bl (leq l r), .bl (leq r l)])
    have e25 := (e3.tr e4).tr (sb_of e5)
    have eT5 := sameT_d hk2 e25
    have hs5 := hs2.upD hk2 e25
    have hT5 := tabs_d hT2 hk2 e25
    have hk5 := e5 _ _ hk4
    have hl5 := hl.up eT5
    have hr5 := hr'.up eT5
    have hp5 : (upd H4 p (.lst [.bl (leq l r), .bl (leq r l)])) p = some (.lst [.bl (leq l r), .bl (leq r l)]) := upd_same
    generalize upd H4 p (.lst [.bl (leq l r), .bl (leq r l)]) = H5 at hs5 hT5 hk5 hl5 hr5 hp5 ⊢
    clear hs2 hT2 hk2 e3 hk3 hK3 e4 hk4 e5 e25 eT5 eT3 hl hr' hp
    have hlen5 : kvs4.length ≤ 2260000 * (i + 1) := by omega
    clear hl3 hl4 hlen hK
    refine ⟨_, rfl, _, rfl, lv, rv, l, r, rfl, hl5.dp, hr5.dp, nl.ok, nr.ok, fun _ _ => ⟨hl5, hr5, fun H6 e6 => ?_⟩, fun h => ?_⟩
    rotate_left
    · rcases h with h | h
      · rw [fl] at h
        cases h
      · rw [fr] at h
        cases h
    have hl6 := hl5.up (Same.T e6)
    have hr6 := hr5.up (Same.T e6)
    refine ⟨_, rfl, _, rfl, rfl, rv, lv, r, l, rfl, hr6.dp, hl6.dp, nr.ok, nl.ok, fun _ _ => ⟨hr6, hl6, fun H7 e7 => ?_⟩, fun h => ?_⟩
    rotate_left
    · rcases h with h | h
      · rw [fr] at h
        cases h
      · rw [fl] at h
        cases h
    refine ⟨(by show 2 ≤ sizeLine; decide), fun p2 hp2 => ⟨_, rfl, ?_⟩⟩
    have e8 := same_new hp2 (.lst [.bl (leq l r), .bl (leq r l)])
    have nb : ∀ x y : Bool, nice (.list [.bool x, .bool y]) = true ∧ (PyData.list [.bool x, .bool y]).depth < 40 := fun x y => by cases x <;> cases y <;> exact ⟨by decide +kernel, by decide +kernel⟩
    have e58 := e6.trans (e7.trans e8)
    refine ⟨.ref p2, .ref p, .list [.bool (leq l r), .bool (leq r l)], rfl, .lst (SqL.of upd_same) (.cons (.bl _) (.cons (.bl _) .nil)), .lst (SqL.of (e58 _ _ hp5)) (.cons (.bl _) (.cons (.bl _) .nil)), (nb _ _).1, (nb _ _).2, by decide, fun H9 e9 => ⟨_, rfl, iteF ?_⟩⟩
    have e59 := e58.trans e9
    have hs9 := hs5.up e59
    have hT9 := hT5.ext e59
    have hk9 := e59 _ _ hk5
    have hl9 := hl5.up (Same.T e59)
    have hr9 := hr5.up (Same.T e59)
    have hp9 := e59 _ _ hp5
    clear hs5 hT5 hk5 hl5 hr5 hp5 e58 e59 e8 hl6 hr6 hp2 e6 e7 e9
    unfold tNext
    dsimp only
    refine seq_and (b1 := leq l r) (b2 := leq r l) (fun Q k => ⟨_, rfl, p, _, _, .bl (leq l r), rfl, rfl, SqL.of hp9, at0, k⟩) (fun Q k => ⟨_, rfl, p, _, _, .bl (leq r l), rfl, rfl, SqL.of hp9, atI_nat (j := 1) rfl, k⟩) ?_
    refine ⟨_, rfl, _, rfl, lv, rv, l, r, rfl, hl9.dp, hr9.dp, nl.ok, nr.ok, fun _ _ => ⟨hl9, hr9, fun H6 e6 => ?_⟩, fun h => ?_⟩
    rotate_left
    · rcases h with h | h
      · rw [fl] at h
        cases h
      · rw [fr] at h
        cases h
    have hl6 := hl9.up (Same.T e6)
    have hr6 := hr9.up (Same.T e6)
    refine ⟨_, rfl, _, rfl, rfl, rv, lv, r, l, rfl, hr6.dp, hl6.dp, nr.ok, nl.ok, fun _ _ => ⟨hr6, hl6, fun H7 e7 => ?_⟩, fun h => ?_⟩
    rotate_left
    · rcases h with h | h
      · rw [fr] at h
        cases h
      · rw [fl] at h
        cases h
    dsimp only
    rw [Bool.and_comm (leq r l)]
    generalize hsb : (leq l r && leq r l) = sb
    refine ⟨(by show 2 ≤ sizeLine; decide), fun p2 hp2 => ⟨_, rfl, _, rfl, (by show 2 ≤ sizeLine; decide), fun p3 hp3 => ?_⟩⟩
    have e8 := same_new hp2 (.lst [.bl sb, .bl sb])
    have e10 := same_new hp3 (.lst [.bl sb, .bl sb])
    have e58 := e6.trans (e7.trans (e8.trans e10))
    refine ⟨.ref p2, .ref p3, .list [.bool sb, .bool sb], rfl, .lst (SqL.of (e10 _ _ upd_same)) (.cons (.bl _) (.cons (.bl _) .nil)), .lst (SqL.of upd_same) (.cons (.bl _) (.cons (.bl _) .nil)), (nb _ _).1, (nb _ _).2, by decide, fun H11 e11 => ⟨_, rfl, iteF ?_⟩⟩
    have e59 := e58.trans e11
    have hs11 := hs9.up e59
    have hT11 := hT9.ext e59
    have hk11 := e59 _ _ hk9
    have hl11 := hl9.up (Same.T e59)
    have hr11 := hr9.up (Same.T e59)
    clear hs9 hT9 hk9 hl9 hr9 hp9 e58 e59 e8 e10 hl6 hr6 hp2 hp3 e6 e7 e11
    refine ⟨_, rfl, _, rfl, s, lv, l, rfl, hs11, hl11.dp, nl.mono (by decide), fun ov H12 od e12 hod hno hmo => ?_⟩
    have hof := odd_fits hmo
    have hs12 := hs11.up e12
    have hT12 := hT11.ext e12
    have hk12 := e12 _ _ hk11
    have hl12 := hl11.up (Same.T e12)
    have hr12 := hr11.up (Same.T e12)
    clear hs11 hT11 hk11 hl11 hr11 e12
    refine ⟨hT12, fun H13 eN hT13 => ?_⟩
    have hl13 := tp_n hl12 eN
    have hr13 := tp_n hr12 eN
    have hs13 := hs12.upN eN
    have hk13 := eN _ _ hk12 (fun ps z => by cases z)
    have ho13 := sn_d eN hod
    refine ⟨_, rfl, _, rfl, ov, lv, od, l, rfl, ho13, hl13.dp, hno.ok, nl.ok, fun h => (by rw [hof] at h; cases h), fun _ dd H14 e14 ht => ⟨_, _, rfl, T.x_InvalidTerm.c, T.x_InvalidTerm.exm, ht, fun t1 ht1 => ?_⟩⟩
    have f1 := same_new ht1 (.tup [.non, .str "InvalidTerm"])
    have e15 := e14.trans f1
    have hd1 : Tp K (upd H14 t1 (.tup [.non, .str "InvalidTerm"])) (.ref t1) (.tuple [.none, .str "InvalidTerm"]) := .tup (.inl upd_same) (.cons .non (.cons (.str _) .nil))
    have hl15 := hl13.up (Same.T e15)
    have hr15 := hr13.up (Same.T e15)
    have hs15 := hs13.up e15
    have hk15 := e15 _ _ hk13
    have ho15 := up_d e15 ho13
    have hT15 := hT13.ext e15
    generalize upd H14 t1 (.tup [.non, .str "InvalidTerm"]) = H15 at hd1 hl15 hr15 hs15 hk15 ho15 hT15 ⊢
    clear f1 e15 hl13 hr13 hs13 hk13 ho13 hT13 e14 ht1 ht
    refine ⟨hT15, fun H16 eN2 hT16 => ?_⟩
    have hl16 := tp_n hl15 eN2
    have hr16 := tp_n hr15 eN2
    have hs16 := hs15.upN eN2
    have hk16 := eN2 _ _ hk15 (fun ps z => by cases z)
    have ho16 := sn_d eN2 ho15
    have hd16 := tp_n hd1 eN2
    refine ⟨_, rfl, _, rfl, rv, ov, r, od, rfl, hr16.dp, ho16, nr.ok, hno.ok, fun _ h => (by rw [hof] at h; cases h), fun _ dd H17 e17 ht => ⟨_, _, rfl, T.x_InvalidTerm.c, T.x_InvalidTerm.exm, ht, fun t2 ht2 => ?_⟩⟩
    have f2 := same_new ht2 (.tup [.non, .str "InvalidTerm"])
    refine ⟨(by show 2 ≤ sizeLine; decide), fun p5 hp5 => ?_⟩
    have f3 := same_new hp5 (.lst [.ref t1, .ref t2])
    have e18 := e17.trans (f2.trans f3)
    have hd2 : Tp K (upd (upd H17 t2 (.tup [.non, .str "InvalidTerm"])) p5 (.lst [.ref t1, .ref t2])) (.ref t2) (.tuple [.none, .str "InvalidTerm"]) := .tup (.inl (f3 _ _ upd_same)) (.cons .non (.cons (.str _) .nil))
    have hp18 : (upd (upd H17 t2 (.tup [.non, .str "InvalidTerm"])) p5 (.lst [.ref t1, .ref t2])) p5 = some (.lst [.ref t1, .ref t2]) := upd_same
    have hd1b := hd16.up (Same.T e18)
    have hl18 := hl16.up (Same.T e18)
    have hs18 := hs16.up e18
    have hk18 := e18 _ _ hk16
    have ho18 := up_d e18 ho16
    have hT18 := hT16.ext e18
    generalize upd (upd H17 t2 (.tup [.non, .str "InvalidTerm"])) p5 (.lst [.ref t1, .ref t2]) = H18 at hd2 hp18 hd1b hl18 hs18 hk18 ho18 hT18 ⊢
    clear f2 f3 e18 hl16 hr16 hs16 hk16 ho16 hT16 e17 ht2 ht hp5 hd16 hl15 hr15 hs15 hk15 ho15 hT15 hd1
    refine ⟨_, rfl, hT18, fun H19 eN3 hT19 => ?_⟩
    have hl19 := tp_n hl18 eN3
    have hs19 := hs18.upN eN3
    have hk19 := eN3 _ _ hk18 (fun ps z => by cases z)
    have ho19 := sn_d eN3 ho18
    have hd19a := tp_n hd1b eN3
    have hd19b := tp_n hd2 eN3
    have hp19 := eN3 _ _ hp18 (fun ps z => by cases z)
    refine ⟨_, rfl, _, rfl, lv, ov, l, od, rfl, hl19.dp, ho19, nl.ok, hno.ok, .inr hof, fun dd H20 e20 ht => ⟨_, _, rfl, T.x_InvalidTerm.c, T.x_InvalidTerm.exm, ht, fun t3 ht3 => ?_⟩⟩
    refine ⟨(by show 1 ≤ sizeLine; decide), fun p6 hp6 => ?_⟩
    have f1 := same_new ht3 (.tup [.non, .str "InvalidTerm"])
    have f2 := same_new hp6 (.lst [.ref t3])
    have hp21 := f2 _ _ (f1 _ _ (e20 _ _ hp19))
    refine ⟨p5, p6, _, _, rfl, rfl, hp21, upd_same, (by show 3 ≤ sizeLine; decide), fun p7 hp7 => ?_⟩
    have f3 := same_new hp7 (.lst ([.ref t1, .ref t2] ++ [.ref t3]))
    have e22 := e20.trans (f1.trans (f2.trans f3))
    have hd3 : Tp K (upd (upd (upd H20 t3 (.tup [.non, .str "InvalidTerm"])) p6 (.lst [.ref t3])) p7 (.lst ([.ref t1, .ref t2] ++ [.ref t3]))) (.ref t3) (.tuple [.none, .str "InvalidTerm"]) := .tup (.inl (f3 _ _ (f2 _ _ upd_same))) (.cons .non (.cons (.str _) .nil))
    have hp22 : (upd (upd (upd H20 t3 (.tup [.non, .str "InvalidTerm"])) p6 (.lst [.ref t3])) p7 (.lst ([.ref t1, .ref t2] ++ [.ref t3]))) p7 = some (.lst ([.ref t1, .ref t2] ++ [.ref t3])) := upd_same
    have hd22a := hd19a.up (Same.T e22)
    have hd22b := hd19b.up (Same.T e22)
    have hs22 := hs19.up e22
    have hk22 := e22 _ _ hk19
    have hT22 := hT19.ext e22
    generalize (upd (upd (upd H20 t3 (.tup [.non, .str "InvalidTerm"])) p6 (.lst [.ref t3])) p7 (.lst ([.ref t1, .ref t2] ++ [.ref t3]))) = H22 at hd3 hp22 hd22a hd22b hs22 hk22 hT22 ⊢
    refine ⟨(by show 2 ≤ sizeLine; decide), fun t4 ht4 => ⟨(by show 1 ≤ sizeLine; decide), fun p8 hp8 => ?_⟩⟩
    have g1 := same_new ht4 (.tup [.non, .str "InvalidTerm"])
    have g2 := same_new hp8 (.lst [.ref t4])
    refine ⟨p8, 3, _, rfl, rfl, upd_same, by decide, by decide, (by show 1 * 3 ≤ sizeLine; decide), fun p9 hp9 => ?_⟩
    have g3 := same_new hp9 (.lst (List.replicate (3 : Int).toNat [.ref t4]).flatten)
    have ge := g1.trans (g2.trans g3)
    have hd4 : Tp K (upd (upd (upd H22 t4 (.tup [.non, .str "InvalidTerm"])) p8 (.lst [.ref t4])) p9 (.lst (List.replicate (3 : Int).toNat [.ref t4]).flatten)) (.ref t4) (.tuple [.none, .str "InvalidTerm"]) := .tup (.inl (g3 _ _ (g2 _ _ upd_same))) (.cons .non (.cons (.str _) .nil))
    have a1 := (hd22a.up (Same.T ge)).dp
    have a2 := (hd22b.up (Same.T ge)).dp
    have a3 := (hd3.up (Same.T ge)).dp
    refine ⟨.list [.tuple [.none, .str "InvalidTerm"], .tuple [.none, .str "InvalidTerm"], .tuple [.none, .str "InvalidTerm"]], .list [.tuple [.none, .str "InvalidTerm"], .tuple [.none, .str "InvalidTerm"], .tuple [.none, .str "InvalidTerm"]], .lst (SqL.of (ge _ _ hp22)) (.cons a1 (.cons a2 (.cons a3 .nil))), .lst (SqL.of upd_same) (.cons hd4.dp (.cons hd4.dp (.cons hd4.dp .nil))), ?_⟩
    refine ⟨by decide +kernel, by decide +kernel, _, rfl, if_nb (fun h => absurd h (by decide +kernel)) (fun _ => ?_)⟩
    exact ⟨_, _, _, _, _, _, _, rfl, hs22.up ge, hT22.ext ge, kvs4, ge _ _ hk22, hK4, hlen5⟩
  · rintro σ H' ⟨o3, o4, o5, o6, o7, o8, o9, rfl, _⟩
    exact q H'
end
end FF
namespace FF
open PySem PySem.Spec PyProof.Rows L2
def d_is_letter : He.DefD := ⟨("is_letter", none), "is_letter", "is_letter", defArgs s_is_letter, defBody s_is_letter, defScope s_is_letter, [], []⟩
def d_measured : He.DefD := ⟨("measured", none), "measured", "measured", defArgs s_measured, defBody s_measured, defScope s_measured, [], []⟩
def d_is_term : He.DefD := ⟨("is_term", none), "is_term", "is_term", defArgs s_is_term, defBody s_is_term, defScope s_is_term, [], [("max_depth", .int 5), ("max_size", .int 24)]⟩
def d_need_term : He.DefD := ⟨("need_term", none), "need_term", "need_term", defArgs s_need_term, defBody s_need_term, defScope s_need_term, [], []⟩
def d_text_of : He.DefD := ⟨("text_of", none), "text_of", "text_of", defArgs s_text_of, defBody s_text_of, defScope s_text_of, [], []⟩
def d_below_in : He.DefD := ⟨("below_in", none), "below_in", "below_in", defArgs s_below_in, defBody s_below_in, defScope s_below_in, [], []⟩
def d_steps_in : He.DefD := ⟨("steps_in", none), "steps_in", "steps_in", defArgs s_steps_in, defBody s_steps_in, defScope s_steps_in, [], []⟩
def d_always_below : He.DefD := ⟨("always_below", none), "always_below", "always_below", defArgs s_always_below, defBody s_always_below, defScope s_always_below, [], []⟩
def d_equal_everywhere : He.DefD := ⟨("equal_everywhere", none), "equal_everywhere", "equal_everywhere", defArgs s_equal_everywhere, defBody s_equal_everywhere, defScope s_equal_everywhere, [], []⟩
def d_free_steps : He.DefD := ⟨("free_steps", none), "free_steps", "free_steps", defArgs s_free_steps, defBody s_free_steps, defScope s_free_steps, [], []⟩
def d_law_source : He.DefD := ⟨("_law_source", none), "_law_source", "_law_source", defArgs s_law_source, defBody s_law_source, defScope s_law_source, [], []⟩
def d_law_take : He.DefD := ⟨("_law_take", none), "_law_take", "_law_take", defArgs s_law_take, defBody s_law_take, defScope s_law_take, [], []⟩
def d_law_pick : He.DefD := ⟨("_law_pick", none), "_law_pick", "_law_pick", defArgs s_law_pick, defBody s_law_pick, defScope s_law_pick, [], []⟩
def d_law_mixed : He.DefD := ⟨("_law_mixed", none), "_law_mixed", "_law_mixed", defArgs s_law_mixed, defBody s_law_mixed, defScope s_law_mixed, [], []⟩
def d_law_same : He.DefD := ⟨("_law_same", none), "_law_same", "_law_same", defArgs s_law_same, defBody s_law_same, defScope s_law_same, [], []⟩
def d_law_call : He.DefD := ⟨("_law_call", none), "_law_call", "_law_call", defArgs s_law_call, defBody s_law_call, defScope s_law_call, [], []⟩
def d_law_text : He.DefD := ⟨("_law_text", none), "_law_text", "_law_text", defArgs s_law_text, defBody s_law_text, defScope s_law_text, [], []⟩
def d_law_term : He.DefD := ⟨("_law_term", none), "_law_term", "_law_term", defArgs s_law_term, defBody s_law_term, defScope s_law_term, [], []⟩
def d_law_signs : He.DefD := ⟨("_law_signs", none), "_law_signs", "_law_signs", defArgs s_law_signs, defBody s_law_signs, defScope s_law_signs, [], []⟩
def d_law_below : He.DefD := ⟨("_law_below", none), "_law_below", "_law_below", defArgs s_law_below, defBody s_law_below, defScope s_law_below, [], []⟩
def d_law_below_now : He.DefD := ⟨("_law_below_now", none), "_law_below_now", "_law_below_now", defArgs s_law_below_now, defBody s_law_below_now, defScope s_law_below_now, [], []⟩
def d_law_measure : He.DefD := ⟨("_law_measure", none), "_law_measure", "_law_measure", defArgs s_law_measure, defBody s_law_measure, defScope s_law_measure, [], []⟩
def d_law_fits : He.DefD := ⟨("_law_fits", none), "_law_fits", "_law_fits", defArgs s_law_fits, defBody s_law_fits, defScope s_law_fits, [], []⟩
def d_law_odd : He.DefD := ⟨("_law_odd", none), "_law_odd", "_law_odd", defArgs s_law_odd, defBody s_law_odd, defScope s_law_odd, [], []⟩
def d_law_nest : He.DefD := ⟨("_law_nest", none), "_law_nest", "_law_nest", defArgs s_law_nest, defBody s_law_nest, defScope s_law_nest, [], []⟩
def d_law_same_word : He.DefD := ⟨("_law_same_word", none), "_law_same_word", "_law_same_word", defArgs s_law_same_word, defBody s_law_same_word, defScope s_law_same_word, [], []⟩
def d_law_rewritten : He.DefD := ⟨("_law_rewritten", none), "_law_rewritten", "_law_rewritten", defArgs s_law_rewritten, defBody s_law_rewritten, defScope s_law_rewritten, [], []⟩
def d_law_two_words : He.DefD := ⟨("_law_two_words", none), "_law_two_words", "_law_two_words", defArgs s_law_two_words, defBody s_law_two_words, defScope s_law_two_words, [], []⟩
def d_law : He.DefD := ⟨("law", none), "law", "law", defArgs s_law, defBody s_law, defScope s_law, [], []⟩
def d_FaultError_init : He.DefD := ⟨("FaultError", some "__init__"), "__init__", "FaultError.__init__", defArgs s_FaultError_init, defBody s_FaultError_init, defScope s_FaultError_init, [], []⟩
def d_InvalidTerm_init : He.DefD := ⟨("InvalidTerm", some "__init__"), "__init__", "InvalidTerm.__init__", defArgs s_InvalidTerm_init, defBody s_InvalidTerm_init, defScope s_InvalidTerm_init, [], []⟩
def d_Free___init__ : He.DefD := ⟨("Free", some "__init__"), "__init__", "Free.__init__", defArgs s_Free___init__, defBody s_Free___init__, defScope s_Free___init__, [], []⟩
def d_Free_is_below : He.DefD := ⟨("Free", some "is_below"), "is_below", "Free.is_below", defArgs s_Free_is_below, defBody s_Free_is_below, defScope s_Free_is_below, [], []⟩
def d_Free_reason_for : He.DefD := ⟨("Free", some "reason_for"), "reason_for", "Free.reason_for", defArgs s_Free_reason_for, defBody s_Free_reason_for, defScope s_Free_reason_for, [], []⟩
def d_Free_added : He.DefD := ⟨("Free", some "added"), "added", "Free.added", defArgs s_Free_added, defBody s_Free_added, defScope s_Free_added, [], []⟩
def d_Free_step_for : He.DefD := ⟨("Free", some "step_for"), "step_for", "Free.step_for", defArgs s_Free_step_for, defBody s_Free_step_for, defScope s_Free_step_for, [], []⟩
def d_Free_written_reason : He.DefD := ⟨("Free", some "written_reason"), "written_reason", "Free.written_reason", defArgs s_Free_written_reason, defBody s_Free_written_reason, defScope s_Free_written_reason, [], []⟩
def fn : List He.DefD := [d_is_letter, d_measured, d_is_term, d_need_term, d_text_of, d_below_in, d_steps_in, d_always_below, d_equal_everywhere, d_free_steps, d_law_source, d_law_take, d_law_pick, d_law_mixed, d_law_same, d_law_call, d_law_text, d_law_term, d_law_signs, d_law_below, d_law_below_now, d_law_measure, d_law_fits, d_law_odd, d_law_nest, d_law_same_word, d_law_rewritten, d_law_two_words, d_law, d_FaultError_init, d_InvalidTerm_init, d_Free___init__, d_Free_is_below, d_Free_reason_for, d_Free_added, d_Free_step_for, d_Free_written_reason]
def fa : List He.Fa := [.free "IndexError", .free "LookupError", .free "ValueError", .free "all", .free "any", .free "bool", .free "dict", .free "int", .free "isinstance", .free "len", .free "list", .free "range", .free "sorted", .free "str", .free "sum", .free "tuple", .free "zip", .str "LETTERS" "abcdefgh", .glo "OPERATORS", .int "MAX_DEPTH" 5, .int "MAX_SIZE" 24, .glo "FaultError", .glo "Missing", .glo "InvalidTerm", .glo "NothingLeft", .glo "Free", .noat "Free" "known", .noat "Free" "steps", .noat "Free" "place", .cls "Free", .mkr "Free", .meth "Free" "is_below", .meth "Free" "reason_for", .meth "Free" "added", .meth "Free" "step_for", .meth "Free" "written_reason", .glo "is_letter", .glo "measured", .glo "is_term", .glo "need_term", .glo "text_of", .glo "below_in", .glo "steps_in", .glo "always_below", .glo "equal_everywhere", .glo "free_steps", .glo "_law_source", .glo "_law_take", .glo "_law_pick", .glo "_law_mixed", .glo "_law_same", .glo "_law_call", .glo "_law_text", .glo "_law_term", .glo "_law_signs", .glo "_law_below", .glo "_law_below_now", .glo "_law_measure", .glo "_law_fits", .glo "_law_odd", .glo "_law_nest", .glo "_law_same_word", .glo "_law_rewritten", .glo "_law_two_words", .glo "law"]
def ex (K : PySem.W.Frag) : Bool := He.tupB K "OPERATORS" [.str "&", .str "|"] && ownXB K "InvalidTerm" "FaultError" && feCB K "FaultError"
theorem top_of {K : PySem.W.Frag} {h : Heap} {mg : Str → Option Value} (X : K.In h) (G : h.Ns mainGlobals mg) (c : He.SaysD fa fn K) (e : ex K = true) : Top K mg where
  b_IndexError := He.free_ok X G (c.fact 0 (f := .free "IndexError") rfl)
  b_LookupError := He.free_ok X G (c.fact 1 (f := .free "LookupError") rfl)
  b_ValueError := He.free_ok X G (c.fact 2 (f := .free "ValueError") rfl)
  b_all := He.free_ok X G (c.fact 3 (f := .free "all") rfl)
  b_any := He.free_ok X G (c.fact 4 (f := .free "any") rfl)
  b_bool := He.free_ok X G (c.fact 5 (f := .free "bool") rfl)
  b_dict := He.free_ok X G (c.fact 6 (f := .free "dict") rfl)
  b_int := He.free_ok X G (c.fact 7 (f := .free "int") rfl)
  b_isinstance := He.free_ok X G (c.fact 8 (f := .free "isinstance") rfl)
  b_len := He.free_ok X G (c.fact 9 (f := .free "len") rfl)
  b_list := He.free_ok X G (c.fact 10 (f := .free "list") rfl)
  b_range := He.free_ok X G (c.fact 11 (f := .free "range") rfl)
  b_sorted := He.free_ok X G (c.fact 12 (f := .free "sorted") rfl)
  b_str := He.free_ok X G (c.fact 13 (f := .free "str") rfl)
  b_sum := He.free_ok X G (c.fact 14 (f := .free "sum") rfl)
  b_tuple := He.free_ok X G (c.fact 15 (f := .free "tuple") rfl)
  b_zip := He.free_ok X G (c.fact 16 (f := .free "zip") rfl)
  g_LETTERS := He.str_ok X G (c.fact 17 (f := .str "LETTERS" "abcdefgh") rfl)
  g_OPERATORS := He.glo_ok X G (c.fact 18 (f := .glo "OPERATORS") rfl)
  t_OPERATORS := fun H => He.tupB_ok (vs := [.str "&", .str "|"]) (by simp only [ex, Bool.and_eq_true] at e; simp only [e]) H
  g_MAX_DEPTH := He.int_ok X G (c.fact 19 (f := .int "MAX_DEPTH" 5) rfl)
  g_MAX_SIZE := He.int_ok X G (c.fact 20 (f := .int "MAX_SIZE" 24) rfl)
  c_FaultError := He.glo_ok X G (c.fact 21 (f := .glo "FaultError") rfl)
  c_Missing := He.glo_ok X G (c.fact 22 (f := .glo "Missing") rfl)
  c_InvalidTerm := He.glo_ok X G (c.fact 23 (f := .glo "InvalidTerm") rfl)
  c_NothingLeft := He.glo_ok X G (c.fact 24 (f := .glo "NothingLeft") rfl)
  c_Free := He.glo_ok X G (c.fact 25 (f := .glo "Free") rfl)
  x_InvalidTerm := ownXB_ok (by simp only [ex, Bool.and_eq_true] at e; simp only [e])
  n_Free_known := He.noat_ok (c.fact 26 (f := .noat "Free" "known") rfl)
  n_Free_steps := He.noat_ok (c.fact 27 (f := .noat "Free" "steps") rfl)
  n_Free_place := He.noat_ok (c.fact 28 (f := .noat "Free" "place") rfl)
  k_Free := He.cls_ok (c.fact 29 (f := .cls "Free") rfl)
  mk_Free := He.mkr_ok (c.fact 30 (f := .mkr "Free") rfl)
  m_Free_is_below := He.meth_ok (c.fact 31 (f := .meth "Free" "is_below") rfl)
  m_Free_reason_for := He.meth_ok (c.fact 32 (f := .meth "Free" "reason_for") rfl)
  m_Free_added := He.meth_ok (c.fact 33 (f := .meth "Free" "added") rfl)
  m_Free_step_for := He.meth_ok (c.fact 34 (f := .meth "Free" "step_for") rfl)
  m_Free_written_reason := He.meth_ok (c.fact 35 (f := .meth "Free" "written_reason") rfl)
  fe := feCB_ok (by simp only [ex, Bool.and_eq_true] at e; simp only [e])
def loose : List PySem.Str := [("FaultError" : PySem.Str), ("Missing" : PySem.Str), ("InvalidTerm" : PySem.Str), ("NothingLeft" : PySem.Str), ("LETTERS" : PySem.Str), ("OPERATORS" : PySem.Str), ("MAX_DEPTH" : PySem.Str), ("MAX_SIZE" : PySem.Str), ("is_letter" : PySem.Str), ("measured" : PySem.Str), ("is_term" : PySem.Str), ("need_term" : PySem.Str), ("text_of" : PySem.Str), ("Free" : PySem.Str), ("below_in" : PySem.Str), ("steps_in" : PySem.Str), ("always_below" : PySem.Str), ("equal_everywhere" : PySem.Str), ("free_steps" : PySem.Str), ("_law_source" : PySem.Str), ("_law_take" : PySem.Str), ("_law_pick" : PySem.Str), ("_law_mixed" : PySem.Str), ("_law_same" : PySem.Str), ("_law_call" : PySem.Str), ("_law_text" : PySem.Str), ("_law_term" : PySem.Str), ("_law_signs" : PySem.Str), ("_law_below" : PySem.Str), ("_law_below_now" : PySem.Str), ("_law_measure" : PySem.Str), ("_law_fits" : PySem.Str), ("_law_odd" : PySem.Str), ("_law_nest" : PySem.Str), ("_law_same_word" : PySem.Str), ("_law_rewritten" : PySem.Str), ("_law_two_words" : PySem.Str)]
abbrev R : PySem.W.OpenRow := PySem.W.OpenLaw.row PySem.Challenge.rw_fivefault_k42_order_of_terms_without_rul
abbrev hk : PySem.W.Hook := hookY 4 fa fn [("law", none)] ex
def ob (s : PySem.W.SharedT) : He.AlX := obsY 4 fa fn [("law", none)] ex (HandSHeadRun.getT s)
theorem ob_eq (s : PySem.W.SharedT) : ob s = hk.obs s.abs := obsY_eq (HandSHeadRun.getT_eq s)
theorem run (w : World) : HandSHeadRun.RunEq R (PySem.W.view R.prog [42]) hk ob 4000 loose w := by
  intro os
  kernel_rfl
end FF

namespace FF
open PySem PySem.Spec PyProof.Rows L2
theorem facts {P : Program} {w : World} {K : PySem.W.Frag} {h : Heap} {mg : Str → Option Value} {f : Addr} (X : K.In h) (G : h.Ns mainGlobals mg) (hfa : mg ("law" : Str) = some (.ref f)) (cx : He.SaysX fa fn [] [("law", none)] ex w h K) :
    ∃ fd : FuncData, (∀ (s : Shared) (v : Value), BindsTo s fd ⟨[v], []⟩ [("_law_script", v)]) ∧ ∀ base : Heap, K.In base → base.Ns mainGlobals mg → (∀ p ∈ [He.cT K ("law", none)], LamX.TabB base mg p.1 p.2) → FnOk P w K mg base CX0 42 f fd ["_law_script"] (spLaw K) := by
  have c := cx.t.d
  have T := top_of X G c cx.more
  obtain ⟨fd_is_letter, F_is_letter⟩ := c.def_ 0 (d := d_is_letter) rfl
  have m_is_letter := He.glo_ok X G (c.fact 36 (f := .glo "is_letter") rfl)
  obtain ⟨fd_measured, F_measured⟩ := c.def_ 1 (d := d_measured) rfl
  have m_measured := He.glo_ok X G (c.fact 37 (f := .glo "measured") rfl)
  obtain ⟨fd_is_term, F_is_term⟩ := c.def_ 2 (d := d_is_term) rfl
  have m_is_term := He.glo_ok X G (c.fact 38 (f := .glo "is_term") rfl)
  obtain ⟨fd_need_term, F_need_term⟩ := c.def_ 3 (d := d_need_term) rfl
  have m_need_term := He.glo_ok X G (c.fact 39 (f := .glo "need_term") rfl)
  obtain ⟨fd_text_of, F_text_of⟩ := c.def_ 4 (d := d_text_of) rfl
  have m_text_of := He.glo_ok X G (c.fact 40 (f := .glo "text_of") rfl)
  obtain ⟨fd_below_in, F_below_in⟩ := c.def_ 5 (d := d_below_in) rfl
  have m_below_in := He.glo_ok X G (c.fact 41 (f := .glo "below_in") rfl)
  obtain ⟨fd_steps_in, F_steps_in⟩ := c.def_ 6 (d := d_steps_in) rfl
  have m_steps_in := He.glo_ok X G (c.fact 42 (f := .glo "steps_in") rfl)
  obtain ⟨fd_always_below, F_always_below⟩ := c.def_ 7 (d := d_always_below) rfl
  have m_always_below := He.glo_ok X G (c.fact 43 (f := .glo "always_below") rfl)
  obtain ⟨fd_equal_everywhere, F_equal_everywhere⟩ := c.def_ 8 (d := d_equal_everywhere) rfl
  have m_equal_everywhere := He.glo_ok X G (c.fact 44 (f := .glo "equal_everywhere") rfl)
  obtain ⟨fd_free_steps, F_free_steps⟩ := c.def_ 9 (d := d_free_steps) rfl
  have m_free_steps := He.glo_ok X G (c.fact 45 (f := .glo "free_steps") rfl)
  obtain ⟨fd_law_source, F_law_source⟩ := c.def_ 10 (d := d_law_source) rfl
  have m_law_source := He.glo_ok X G (c.fact 46 (f := .glo "_law_source") rfl)
  obtain ⟨fd_law_take, F_law_take⟩ := c.def_ 11 (d := d_law_take) rfl
  have m_law_take := He.glo_ok X G (c.fact 47 (f := .glo "_law_take") rfl)
  obtain ⟨fd_law_pick, F_law_pick⟩ := c.def_ 12 (d := d_law_pick) rfl
  have m_law_pick := He.glo_ok X G (c.fact 48 (f := .glo "_law_pick") rfl)
  obtain ⟨fd_law_mixed, F_law_mixed⟩ := c.def_ 13 (d := d_law_mixed) rfl
  have m_law_mixed := He.glo_ok X G (c.fact 49 (f := .glo "_law_mixed") rfl)
  obtain ⟨fd_law_same, F_law_same⟩ := c.def_ 14 (d := d_law_same) rfl
  have m_law_same := He.glo_ok X G (c.fact 50 (f := .glo "_law_same") rfl)
  obtain ⟨fd_law_call, F_law_call⟩ := c.def_ 15 (d := d_law_call) rfl
  have m_law_call := He.glo_ok X G (c.fact 51 (f := .glo "_law_call") rfl)
  obtain ⟨fd_law_text, F_law_text⟩ := c.def_ 16 (d := d_law_text) rfl
  have m_law_text := He.glo_ok X G (c.fact 52 (f := .glo "_law_text") rfl)
  obtain ⟨fd_law_term, F_law_term⟩ := c.def_ 17 (d := d_law_term) rfl
  have m_law_term := He.glo_ok X G (c.fact 53 (f := .glo "_law_term") rfl)
  obtain ⟨fd_law_signs, F_law_signs⟩ := c.def_ 18 (d := d_law_signs) rfl
  have m_law_signs := He.glo_ok X G (c.fact 54 (f := .glo "_law_signs") rfl)
  obtain ⟨fd_law_below, F_law_below⟩ := c.def_ 19 (d := d_law_below) rfl
  have m_law_below := He.glo_ok X G (c.fact 55 (f := .glo "_law_below") rfl)
  obtain ⟨fd_law_below_now, F_law_below_now⟩ := c.def_ 20 (d := d_law_below_now) rfl
  have m_law_below_now := He.glo_ok X G (c.fact 56 (f := .glo "_law_below_now") rfl)
  obtain ⟨fd_law_measure, F_law_measure⟩ := c.def_ 21 (d := d_law_measure) rfl
  have m_law_measure := He.glo_ok X G (c.fact 57 (f := .glo "_law_measure") rfl)
  obtain ⟨fd_law_fits, F_law_fits⟩ := c.def_ 22 (d := d_law_fits) rfl
  have m_law_fits := He.glo_ok X G (c.fact 58 (f := .glo "_law_fits") rfl)
  obtain ⟨fd_law_odd, F_law_odd⟩ := c.def_ 23 (d := d_law_odd) rfl
  have m_law_odd := He.glo_ok X G (c.fact 59 (f := .glo "_law_odd") rfl)
  obtain ⟨fd_law_nest, F_law_nest⟩ := c.def_ 24 (d := d_law_nest) rfl
  have m_law_nest := He.glo_ok X G (c.fact 60 (f := .glo "_law_nest") rfl)
  obtain ⟨fd_law_same_word, F_law_same_word⟩ := c.def_ 25 (d := d_law_same_word) rfl
  have m_law_same_word := He.glo_ok X G (c.fact 61 (f := .glo "_law_same_word") rfl)
  obtain ⟨fd_law_rewritten, F_law_rewritten⟩ := c.def_ 26 (d := d_law_rewritten) rfl
  have m_law_rewritten := He.glo_ok X G (c.fact 62 (f := .glo "_law_rewritten") rfl)
  obtain ⟨fd_law_two_words, F_law_two_words⟩ := c.def_ 27 (d := d_law_two_words) rfl
  have m_law_two_words := He.glo_ok X G (c.fact 63 (f := .glo "_law_two_words") rfl)
  obtain ⟨fd_law, F_law⟩ := c.def_ 28 (d := d_law) rfl
  have m_law := He.glo_ok X G (c.fact 64 (f := .glo "law") rfl)
  obtain ⟨fd_FaultError_init, F_FaultError_init⟩ := c.def_ 29 (d := d_FaultError_init) rfl
  obtain ⟨fd_InvalidTerm_init, F_InvalidTerm_init⟩ := c.def_ 30 (d := d_InvalidTerm_init) rfl
  obtain ⟨fd_Free___init__, F_Free___init__⟩ := c.def_ 31 (d := d_Free___init__) rfl
  obtain ⟨fd_Free_is_below, F_Free_is_below⟩ := c.def_ 32 (d := d_Free_is_below) rfl
  obtain ⟨fd_Free_reason_for, F_Free_reason_for⟩ := c.def_ 33 (d := d_Free_reason_for) rfl
  obtain ⟨fd_Free_added, F_Free_added⟩ := c.def_ 34 (d := d_Free_added) rfl
  obtain ⟨fd_Free_step_for, F_Free_step_for⟩ := c.def_ 35 (d := d_Free_step_for) rfl
  obtain ⟨fd_Free_written_reason, F_Free_written_reason⟩ := c.def_ 36 (d := d_Free_written_reason) rfl
  have e := hfa.symm.trans m_law
  cases e
  have b := FunD.bindsA (ps := ["_law_script"]) F_law fun _ _ _ _ _ _ us hl => match us, hl with | [_], _ => rfl
  refine ⟨fd_law, fun s v => b s [v] rfl, fun base _ _ hTB => ?_⟩
  have D_take : Def P w K mg base "_law_take" 1 ["_law_source_here", "_law_many"] spTake := take_hid (ok_take F_law_take m_law_take T)
  have D_source : Def P w K mg base "_law_source" 1 ["_law_script"] (spSource K) := ok_source F_law_source m_law_source T
  have D_pick : Def P w K mg base "_law_pick" 2 ["_law_source_here", "_law_row"] (spPick K) := ok_pick F_law_pick m_law_pick T D_take
  have D_mixed : Def P w K mg base "_law_mixed" 2 ["_law_source_here", "_law_row"] (spMixed K) := ok_mixed F_law_mixed m_law_mixed T D_take
  have D_signs : Def P w K mg base "_law_signs" 3 ["_law_source_here", "_law_most"] spSigns := ok_signs F_law_signs m_law_signs T D_take D_mixed
  have D_term : Def P w K mg base "_law_term" 8 ["_law_source_here", "_law_signs_here", "_law_deep", "_law_room"] (spTermR K 6) := ok_termR F_law_term m_law_term T D_take D_pick 6
  have D_nest : Def P w K mg base "_law_nest" 1 ["_law_many"] (spNest K) := ok_nest F_law_nest m_law_nest T
  have D_odd : Def P w K mg base "_law_odd" 3 ["_law_source_here", "_law_word"] (spOdd0 K) := ok_odd0 F_law_odd m_law_odd T D_pick D_nest
  have D_same : ∀ n, Def P w K mg base "_law_same" n ["_law_found", "_law_due"] (spSame K n) := fun n => by
    induction n with
    | zero => exact same_none F_law_same m_law_same
    | succ n ih => exact ok_same_step F_law_same m_law_same T ih
  have D_let : Def P w K mg base "is_letter" 1 ["value"] (spIsLetter K) := ok_is_letter F_is_letter m_is_letter T
  have D_measured : ∀ n, Def P w K mg base "measured" (n + 1) ["value", "max_depth"] (spMeasured K n) := fun n => by
    induction n with
    | zero => exact (def_none F_measured m_measured (F_measured.bindsN fun _ _ _ _ _ _ us hl => match us, hl with | [_, _], _ => rfl) fun vs H Q E ⟨_, _, _, _, _, _, h, _⟩ => by omega).mono (Nat.zero_le _)
    | succ n ih => exact ok_measured_step F_measured m_measured T D_let ih
  have b_fe : Binds K fd_FaultError_init ["self", "code"] [] := F_FaultError_init.bindsN fun _ _ _ _ _ _ us hl => match us, hl with | [_, _], _ => rfl
  have FE : FnOk P w K mg base CX0 1 (He.ma K (He.ga K "FaultError") "__init__") fd_FaultError_init ["self", "code"] (spFE K) := fn_fe F_FaultError_init T
  have R_term : RaiseD P w K mg base "InvalidTerm" "FaultError" 2 "InvalidTerm" := ⟨T.x_InvalidTerm, T.c_InvalidTerm, fd_InvalidTerm_init, fn_InvalidTerm F_InvalidTerm_init T FE b_fe, F_InvalidTerm_init.bindsN fun _ _ _ _ _ _ us hl => match us, hl with | [_], _ => rfl⟩
  have D_need : DefX P w K mg base "need_term" 14 ["value"] (spNeed K) := ok_need_term F_need_term m_need_term T F_is_term m_is_term (fn_is_term F_is_term T (D_measured 11)) R_term
  have D_to : ∀ n, Def P w K mg base "text_of" n ["term"] (spText K n) := fun n => by
    induction n with
    | zero => exact def_none F_text_of m_text_of (F_text_of.bindsN fun _ _ _ _ _ _ us hl => match us, hl with | [_], _ => rfl) fun vs H Q E ⟨_, _, _, _, _, _, h, _⟩ => by omega
    | succ n ih => exact ok_text_of_step F_text_of m_text_of T ih
  have D_lt : ∀ n, Def P w K mg base "_law_text" n ["_law_word"] (spText K n) := fun n => by
    induction n with
    | zero => exact def_none F_law_text m_law_text (F_law_text.bindsN fun _ _ _ _ _ _ us hl => match us, hl with | [_], _ => rfl) fun vs H Q E ⟨_, _, _, _, _, _, h, _⟩ => by omega
    | succ n ih => exact ok_law_text_step F_law_text m_law_text T ih
  have D_measure : ∀ n, Def P w K mg base "_law_measure" n ["_law_word", "_law_deep"] (spMeasure K n) := fun n => by
    induction n with
    | zero => exact def_none F_law_measure m_law_measure (F_law_measure.bindsN fun _ _ _ _ _ _ us hl => match us, hl with | [_, _], _ => rfl) fun vs H Q E ⟨_, _, _, _, _, _, h, _⟩ => by omega
    | succ n ih => exact ok_law_measure_step F_law_measure m_law_measure T ih
  have D_fits : Def P w K mg base "_law_fits" 13 ["_law_word"] (spFits K) := ok_fits F_law_fits m_law_fits T (D_measure 12)
  have D_lb : ∀ n, Def P w K mg base "_law_below" (2 * n + 5) ["_law_mone", "_law_mother", "_law_known"] (spLeqG K argsL resB n (costD n)) := fun n => by
    induction n with
    | zero => exact (def_none F_law_below m_law_below (F_law_below.bindsN fun _ _ _ _ _ _ us hl => match us, hl with | [_, _, _], _ => rfl) fun vs H Q E ⟨_, _, _, _, _, _, _, _, _, _, _, _, _, _, _, _, h, _⟩ => by omega).mono (Nat.zero_le _)
    | succ n ih => exact ok_law_below F_law_below m_law_below T (D_lt 5) (ok_law_below_now F_law_below_now m_law_below_now T ih)
  have D_fb : ∀ n, MethD P w K mg base "Free" "is_below" (2 * n + 5) ["self", "left", "right"] (spLeqG K (argsF K) resB n (costD n)) := fun n => by
    induction n with
    | zero =>
      have no : ∀ vs H Q E, ¬ spLeqG K (argsF K) resB 0 (costD 0) vs H Q E := fun vs H Q E ⟨_, _, _, _, _, _, _, _, _, _, _, _, _, _, _, _, h, _⟩ => by omega
      exact ⟨⟨fd_Free_is_below, ⟨fun vs H Q E h => absurd h (no vs H Q E), fun A outer s H args us vs Q E _ _ _ _ h => absurd h (no vs H Q E)⟩, F_Free_is_below.bindsN fun _ _ _ _ _ _ us hl => match us, hl with | [_, _, _], _ => rfl⟩, T.k_Free, T.m_Free_is_below⟩
    | succ n ih => exact ok_is_below F_Free_is_below T (D_to 5) (ok_reason F_Free_reason_for T ih)
  have D_bi : Def P w K mg base "below_in" 24 ["left", "right"] (spBelowIn K) := ok_below_in F_below_in m_below_in T (ok_free_init F_Free___init__ T) (D_fb 9)
  have D_fs : DefX P w K mg base "free_steps" 25 ["left", "right"] (spNoSteps K) := ok_free_steps F_free_steps m_free_steps T D_need
  have D_sw : ∀ n, Def P w K mg base "_law_same_word" (n + 3) ["_law_source_here", "_law_word", "_law_known"] (spSameW K n) := fun n => by
    induction n with
    | zero => exact same_w_none F_law_same_word m_law_same_word
    | succ n ih => exact ok_same_w_step F_law_same_word m_law_same_word T D_take D_pick D_mixed ih
  have D_rw : Def P w K mg base "_law_rewritten" 14 ["_law_source_here", "_law_word", "_law_many"] (spRewr K) := ok_rewritten F_law_rewritten m_law_rewritten T (D_sw 5) D_fits
  have D_tw : Def P w K mg base "_law_two_words" 15 ["_law_source_here"] (spTwoW K) := ok_two_words F_law_two_words m_law_two_words T D_take D_pick D_signs D_term D_rw D_fits
  exact ok_law F_law T (hTB (He.cT K ("law", none)) (List.mem_singleton.mpr rfl)) F_law_call m_law_call F_always_below m_always_below (ok_always F_always_below T D_need D_bi) F_equal_everywhere m_equal_everywhere (ok_equal F_equal_everywhere T D_need D_bi)
    D_fs D_source D_tw (D_lb 9) D_odd (D_same 40)
end FF
open PySem PySem.W PySem.Calls PyProof.Rows
set_option maxRecDepth 100000 in
set_option maxHeartbeats 0 in
theorem PySem.Challenge.cw_fivefault_k42_order_of_terms_without_rul_holds : PySem.Challenge.rw_fivefault_k42_order_of_terms_without_rul.Holds := by
  w_on; o_law
  refine HandSHeadRun.head_any (r := PySem.W.OpenLaw.row PySem.Challenge.rw_fivefault_k42_order_of_terms_without_rul) (q := PySem.W.view (PySem.W.OpenLaw.row PySem.Challenge.rw_fivefault_k42_order_of_terms_without_rul).prog [42]) (H := FF.hk) (ob := FF.ob) (M := 4000) (loose := FF.loose) (d := HandSHeadRun.topDef (PySem.W.OpenLaw.row PySem.Challenge.rw_fivefault_k42_order_of_terms_without_rul).prog 42) (kwd := []) FF.ob_eq
    (by kernel_rfl) (fun s => by kernel_rfl) FF.run (by kernel_rfl) (by kernel_rfl) (by kernel_rfl) (by rfl) (by first | assumption | decide +kernel) (by decide +kernel) ⟨rfl, rfl, rfl, rfl, rfl, by decide +kernel⟩ ?hw ?hc
  case hw => w_witness2
  case hc =>
    refine LamX.walk_ofTsE (l := PySem.Challenge.rw_fivefault_k42_order_of_terms_without_rul) (n := 63) (k := 42) (x := "_law_script") (CX := fun _ => L2.CX0) rfl (by decide) (by kernel_rfl) ⟨rfl, by decide, by decide⟩ ?F (fun _ _ _ _ _ z => z)
    intro w mg fa h Y G hmg0
    obtain ⟨K, KX, c⟩ := Y
    have hmg : mg ("law" : PySem.Str) = some (.ref fa) := by
      have e : (HandSHeadRun.topDef (PySem.W.OpenLaw.row PySem.Challenge.rw_fivefault_k42_order_of_terms_without_rul).prog 42).name = ("law" : PySem.Str) := by kernel_rfl
      rw [← e]
      exact hmg0
    obtain ⟨fd, hb, hF⟩ := FF.facts (P := (PySem.Challenge.rw_fivefault_k42_order_of_terms_without_rul).prog) (w := w) KX G hmg c
    refine ⟨K, KX, fd, [He.cT K ("law", none)], FF.spLaw K, fun p hp => ?_, fun p hp => ?_, fun p hp => ?_, hb, fun H a ns hl _ hT hS => ⟨a, ns, rfl, hS, fun p hp => ?_, fun _ => rfl⟩, hF⟩
    · exact List.mem_singleton.mp hp ▸ c.empty ("law", none) (by simp)
    · exact List.mem_singleton.mp hp ▸ c.out ("law", none) (by simp)
    · exact List.mem_singleton.mp hp ▸ PySem.W.codeHd_of_K KX (c.hd ("law", none) (by simp))
    · exact List.mem_singleton.mp hp ▸ LamX.TabS.nil (hT (He.cT K ("law", none)) (by simp))

