import PyProof.Rows.All
import Wide.All
import OpenK.AllK
import Wide.FinOn
import HandS.ForMost
import HandS.IsInst
import HandS.Deep
import HandS.Zip
import HandS.Defaults
import HandS.More
import HandS.Conv
import HandS.Style
import HandS.Codes
import HandS.ExcInit
import HandS.ExcField
import HandS.TryMany
import HandS.ClsMeth
import HandS.Lambda
import HandS.EndTab
import HandS.HeadWalk
import HandS.WordsExc
import PyProof.P3Eq
import HandS.HeadHook4
import HandS.Head2
import HandS.HeadEnd
import PyProof.P3In
import PyProof.ListStr
import HandS.Star
import HandS.DictComp
import HandS.FStr
import HandS.StrMore
import PyProof.Rows.SortShellSt
import KE.GoesMore
import HandS.Walk
import HandS.SetKeys
import KE.DataCmp
import PySem.Challenge.RW_fivefault_k07_texts_of_rules_and_goals
set_option Elab.async false
set_option linter.all false
set_option maxRecDepth 100000
set_option maxHeartbeats 2000000
/-! Fivefault, part 1: heaps that grow, data, the draws' source. -/
namespace FF
open PySem PySem.Spec PyProof.Rows L2

/-! ### heaps that grow -/
theorem same_new {H : Hp} {p : Addr} (h : H p = none) (o : HO) : Same H (upd H p o) := fun b u q => by rw [upd_ne (ne_of_none q h)]; exact q
theorem same_rd {H H' : Hp} {a : Addr} {u : HO} (e : Same H H') (h : Rd H a u) : Rd H' a u := by
  rcases h with h | ⟨o, h⟩
  · exact .inl (e _ _ h)
  · exact .inr ⟨o, e _ _ h⟩
theorem up_l {K : PySem.W.Frag} {H H' : Hp} {a : Addr} {xs : List V} (e : Same H H') (h : SqL K H a xs) : SqL K H' a xs := by
  rcases h with h | h
  · exact .inl (same_rd e h)
  · exact .inr h
theorem up_t {K : PySem.W.Frag} {H H' : Hp} {a : Addr} {xs : List V} (e : Same H H') (h : SqT K H a xs) : SqT K H' a xs := by
  rcases h with h | h
  · exact .inl (same_rd e h)
  · exact .inr h
mutual
theorem up_d {K : PySem.W.Frag} {H H' : Hp} (e : Same H H') : ∀ {v : V} {d : PyData}, Dp K H v d → Dp K H' v d
  | _, _, .non => .non
  | _, _, .bl b => .bl b
  | _, _, .int i => .int i
  | _, _, .str x => .str x
  | _, _, .lst h a => .lst (up_l e h) (up_da e a)
  | _, _, .tup h a => .tup (up_t e h) (up_da e a)
theorem up_da {K : PySem.W.Frag} {H H' : Hp} (e : Same H H') : ∀ {vs : List V} {ds : List PyData}, DpAll K H vs ds → DpAll K H' vs ds
  | _, _, .nil => .nil
  | _, _, .cons h a => .cons (up_d e h) (up_da e a)
end
theorem da_get {K : PySem.W.Frag} {H : Hp} : ∀ {vs : List V} {ds : List PyData} {i : Nat} {v : V}, DpAll K H vs ds → vs[i]? = some v → ∃ d, ds[i]? = some d ∧ Dp K H v d
  | _, _, 0, _, .cons h _, e => by cases e; exact ⟨_, rfl, h⟩
  | _, _, i + 1, _, .cons _ t, e => da_get (i := i) t e
theorem da_len {K : PySem.W.Frag} {H : Hp} : ∀ {vs : List V} {ds : List PyData}, DpAll K H vs ds → vs.length = ds.length
  | _, _, .nil => rfl
  | _, _, .cons _ t => congrArg Nat.succ (da_len t)
theorem da_app {K : PySem.W.Frag} {H : Hp} : ∀ {vs ws : List V} {ds es : List PyData}, DpAll K H vs ds → DpAll K H ws es → DpAll K H (vs ++ ws) (ds ++ es)
  | _, _, _, _, .nil, r => r
  | _, _, _, _, .cons h t, r => .cons h (da_app t r)
theorem da_drop {K : PySem.W.Frag} {H : Hp} : ∀ (n : Nat) {vs : List V} {ds : List PyData}, DpAll K H vs ds → DpAll K H (vs.drop n) (ds.drop n)
  | 0, _, _, r => r
  | _ + 1, _, _, .nil => .nil
  | n + 1, _, _, .cons _ t => da_drop n t
theorem da_take {K : PySem.W.Frag} {H : Hp} : ∀ (n : Nat) {vs : List V} {ds : List PyData}, DpAll K H vs ds → DpAll K H (vs.take n) (ds.take n)
  | 0, _, _, _ => .nil
  | _ + 1, _, _, .nil => .nil
  | n + 1, _, _, .cons h t => .cons h (da_take n t)

/-! ### what data is -/
def tyN : PyData → String
  | .none => "NoneType"
  | .bool _ => "bool"
  | .int _ => "int"
  | .str _ => "str"
  | .list _ => "list"
  | .tuple _ => "tuple"
  | .dict _ => "dict"
theorem dp_ty {K : PySem.W.Frag} {H : Hp} {v : V} {d : PyData} (h : Dp K H v d) : TyX K H v (.type (tyN d)) := by
  cases h with
  | non => exact .base .non
  | bl b => exact .base (.bl b)
  | int i => exact .base (.int i)
  | str x => exact .base (.str x)
  | lst h _ =>
    rcases h with (h | ⟨o, h⟩) | ⟨o, _, _, h, c, _⟩
    · exact .base (.lst h)
    · exact .base (.frz h)
    · exact .kList h c
  | tup h _ =>
    rcases h with (h | ⟨o, h⟩) | ⟨o, _, _, h, c, _⟩
    · exact .base (.tup h)
    · exact .fTuple h
    · exact .kTuple h c
def isStr : PyData → Bool
  | .str _ => true
  | _ => false
def isTup : PyData → Bool
  | .tuple _ => true
  | _ => false
def isLst : PyData → Bool
  | .list _ => true
  | _ => false
def isBool : PyData → Bool
  | .bool _ => true
  | _ => false
def isInt : PyData → Bool
  | .bool _ => true
  | .int _ => true
  | _ => false
def isDict : PyData → Bool
  | .dict _ => true
  | _ => false
theorem kb_str (d : PyData) : kitB (tyN d) "str" = some (isStr d) := by cases d <;> kernel_rfl
theorem kb_tup (d : PyData) : kitB (tyN d) "tuple" = some (isTup d) := by cases d <;> kernel_rfl
theorem kb_lst (d : PyData) : kitB (tyN d) "list" = some (isLst d) := by cases d <;> kernel_rfl
theorem kb_bool (d : PyData) : kitB (tyN d) "bool" = some (isBool d) := by cases d <;> kernel_rfl
theorem kb_int (d : PyData) : kitB (tyN d) "int" = some (isInt d) := by cases d <;> kernel_rfl
theorem kb_dict (d : PyData) : kitB (tyN d) "dict" = some (isDict d) := by cases d <;> kernel_rfl
/-- isinstance(x, T) over data -/
def rIsD (K : PySem.W.Frag) (T : String) (f : PyData → Bool) : List V → Hp → VK → Prop := fun xs H Q => ∃ (x : V) (d : PyData), xs = [x, .ty T] ∧ Dp K H x d ∧ Q (.bl (f d)) H
theorem call_isD {X : Cx} {T : String} {f : PyData → Bool} (hk : ∀ d, kitB (tyN d) T = some (f d)) : CallR X (.builtin "isinstance") (rIsD X.K T f) := by
  intro pins s σ H xs us Q I r h
  obtain ⟨x, d, rfl, hd, q⟩ := h
  exact call_isi pins s σ H _ us Q I r ⟨x, .ty T, _, _, _, rfl, .ty T, dp_ty hd, kit_ty (hk d), q⟩

/-! ### defs of the text -/
/-- the def x of the top keeps the promise sp at level k -/
structure Def (P : Program) (w : World) (K : PySem.W.Frag) (mg : Str → Option Value) (base : Heap) (x : Str) (k : Nat) (ps : List Str) (sp : Sp) : Prop where
  ex : ∃ (f : Addr) (fd : FuncData), FnOk P w K mg base CX0 k f fd ps sp ∧ mg x = some (.ref f) ∧ PySem.W.keepIn K (.ref f) = true ∧ Binds K fd ps []
theorem pe_def {X : Cx} {x : Str} {k j : Nat} {ps : List Str} {sp : Sp} {e : Expr} {es : List Expr} {p pos : Pos} {t : TA} (D : Def X.prog X.w X.K X.mg X.base x k ps sp) (hr : Room j X.A) (hkj : k ≤ j) (ha : PA X (e :: es) t)
    (hg : Gl X x := by rfl) (hdb : (x == ("__debug__" : Str)) = false := by decide) (he : starEach (e :: es) X.env = (false, eval e X.env) :: starEach es X.env := by rfl) (hpl : (backTo pos (starEach es X.env)).any (·.1) = false := by rfl) :
    PE X (.Call (.Name x p) (e :: es) [] pos) (tCall sp [] E0 t) := by
  obtain ⟨f, fd, F, hm, hk, hb⟩ := D.ex
  exact pe_call F (hr.mono hkj) hg hm hk hb .nil pass0 ha hdb he hpl
theorem pe_def0 {X : Cx} {x : Str} {k j : Nat} {ps : List Str} {sp : Sp} {p pos : Pos} (D : Def X.prog X.w X.K X.mg X.base x k ps sp) (hr : Room j X.A) (hkj : k ≤ j)
    (hg : Gl X x := by rfl) (hdb : (x == ("__debug__" : Str)) = false := by decide) :
    PE X (.Call (.Name x p) [] [] pos) (tCall sp [] E0 tNil) := by
  obtain ⟨f, fd, F, hm, hk, hb⟩ := D.ex
  exact pe_call0 F (hr.mono hkj) hg hm hk hb .nil pass0 hdb
theorem Def.imp {P : Program} {w : World} {K : PySem.W.Frag} {mg : Str → Option Value} {base : Heap} {x : Str} {k : Nat} {ps : List Str} {sp sp' : Sp} (D : Def P w K mg base x k ps sp) (h : ∀ vs H Q E, sp' vs H Q E → sp vs H Q E) : Def P w K mg base x k ps sp' := by
  obtain ⟨f, fd, F, r⟩ := D.ex
  exact ⟨f, fd, F.imp h, r⟩
theorem Def.mono {P : Program} {w : World} {K : PySem.W.Frag} {mg : Str → Option Value} {base : Heap} {x : Str} {j k : Nat} {ps : List Str} {sp : Sp} (D : Def P w K mg base x j ps sp) (h : j ≤ k) : Def P w K mg base x k ps sp := by
  obtain ⟨f, fd, F, r⟩ := D.ex
  exact ⟨f, fd, F.mono h, r⟩

/-! ### a list that is hidden: its state is some good one -/
/-- at a stands a list whose items are good -/
def hid (good : List V → Prop) (a : Addr) : HO := .ext fun h => ∃ (xs : List V) (its : List Value) (n : Nat), good xs ∧ xs.length ≤ sizeLine ∧ Vals xs its ∧ h.get? a = some { cls := .type "list", data := .seq its.toArray n }
section
variable {P : Program} {w : World} {K : PySem.W.Frag} {mg : Str → Option Value} {base : Heap}
theorem upd_back {H : Hp} {a : Addr} {o u : HO} (h : H a = some u) : upd (upd H a o) a u = H := by
  funext b
  unfold upd
  split
  · next e => rw [e, h]
  · rfl
theorem hok_open {H : Hp} {h : Heap} {a : Addr} {good : List V → Prop} (hs : H a = some (hid good a)) (ok : HOk P w H h) : ∃ xs, good xs ∧ HOk P w (upd H a (.lst xs)) h := by
  obtain ⟨⟨xs, its, n, hg, hz, hv, he⟩, _, _⟩ := ok a _ hs
  refine ⟨xs, hg, fun b o e => ?_⟩
  by_cases hb : b = a
  · subst hb
    rw [upd_same] at e
    cases e
    exact ⟨hz, its, n, hv, he⟩
  · rw [upd_ne hb] at e
    refine (ok b o e).stay (fun _ _ _ q => q) (fun c q => ?_) (fun c ys q => ?_)
    · have hc : c ≠ a := by
        intro z
        rw [z, hs] at q
        cases q
      rw [upd_ne hc]
      exact q
    · have hc : c ≠ a := by
        intro z
        rw [z, hs] at q
        cases q
      rw [upd_ne hc]
      exact q
theorem hok_shut {H : Hp} {h : Heap} {a : Addr} {good : List V → Prop} {xs : List V} (hs : H a = some (.lst xs)) (hg : good xs) (ok : HOk P w H h) : HOk P w (upd H a (hid good a)) h := by
  obtain ⟨hz, its, n, hv, he⟩ := ok a _ hs
  intro b o e
  by_cases hb : b = a
  · subst hb
    rw [upd_same] at e
    cases e
    refine ⟨⟨xs, its, n, hg, hz, hv, he⟩, ⟨_, he⟩, fun h1 h2 ⟨xs1, its1, n1, g1, z1, v1, e1⟩ hk => ⟨xs1, its1, n1, g1, z1, v1, hk _ e1⟩⟩
  · rw [upd_ne hb] at e
    refine (ok b o e).stay (fun _ _ _ q => q) (fun c q => ?_) (fun c ys q => ?_)
    · have hc : c ≠ a := by
        intro z
        rw [z, hs] at q
        cases q
      rw [upd_ne hc]
      exact q
    · have hc : c ≠ a := by
        intro z
        rw [z, hs] at q
        cases q
      rw [upd_ne hc]
      exact q
/-- the list at a opened: what its items are the body may read and change; behind it the list is hidden again -/
theorem FnOk.open_ {k : Nat} {f : Addr} {fd : FuncData} {ps : List Str} {sp sp' : Sp} (F : FnOk P w K mg base CX0 k f fd ps sp) (len : ∀ vs H Q E, sp' vs H Q E → vs.length = ps.length)
    (h : ∀ vs H Q E, sp' vs H Q E → ∃ (a : Addr) (good : List V → Prop), H a = some (hid good a) ∧
      ∀ xs, good xs → sp vs (upd H a (.lst xs)) (fun v H' => ∃ ys, H' a = some (.lst ys) ∧ good ys ∧ Q v (upd H' a (hid good a))) E) : FnOk P w K mg base CX0 k f fd ps sp' := by
  refine ⟨len, fun A outer s H args us vs Q E hr e0 hb hv hsp => ?_⟩
  obtain ⟨a, good, ha, hq⟩ := h vs H Q E hsp
  obtain ⟨xs, hg, ok⟩ := hok_open ha e0.hok
  have dom : ∀ {b}, H b = none → (upd H a (.lst xs)) b = none := fun {b} n => by
    rw [upd_ne (fun z => by rw [z, ha] at n; cases n)]
    exact n
  have e1 : Env0 P w K mg base A outer s (upd H a (.lst xs)) := ⟨e0.frames, e0.mod, fun b o e => ⟨(e0.bs b o e).1, dom (e0.bs b o e).2⟩, e0.bsz, e0.funs, fun b hb => dom (e0.frf b hb), ok, e0.bare⟩
  refine codeAny_mono (F.run A outer s _ args us vs _ E hr e1 hb hv (hq xs hg)) fun r s' hc => ?_
  cases r with
  | error e => exact hc
  | ok fl =>
    cases fl with
    | ret u =>
      obtain ⟨v, H', os, bare, un, hok, rv, ys, hy, gy, q⟩ := hc
      refine ⟨v, _, os, bare, ?_, hok_shut hy gy hok, rv, q⟩
      have back : ∀ {b o}, H b = some o → b ≠ a → (upd H a (.lst xs)) b = some o := fun {b o} e hb => by rw [upd_ne hb]; exact e
      have notA : ∀ {b}, H b = none → b ≠ a := fun {b} n z => by rw [z, ha] at n; cases n
      refine ⟨fun b o e n h1 h2 => un.keep b o e (dom n) h1 h2, fun b o e n h1 h2 => un.slot b o e (dom n) h1 h2, fun b o e n h1 => ?_, un.there, fun b ys' e => ?_, fun b o u' e => ?_, fun b ps' e => ?_⟩
      · rw [upd_ne (notA n)]
        exact un.free b o e (dom n) h1
      · have hb : b ≠ a := fun z => by rw [z, ha] at e; cases e
        rw [upd_ne hb]
        exact un.tups b ys' (back e hb)
      · have hb : b ≠ a := fun z => by rw [z, ha] at e; cases e
        rw [upd_ne hb]
        exact un.frzs b o u' (back e hb)
      · have hb : b ≠ a := fun z => by rw [z, ha] at e; cases e
        rw [upd_ne hb]
        exact un.tbls b ps' (back e hb)
    | next => exact hc
    | brk => exact hc
    | cont => exact hc
/-- behind the body the list at a is hidden -/
theorem FnOk.shut_ {k : Nat} {f : Addr} {fd : FuncData} {ps : List Str} {sp sp' : Sp} (F : FnOk P w K mg base CX0 k f fd ps sp) (len : ∀ vs H Q E, sp' vs H Q E → vs.length = ps.length)
    (h : ∀ vs H Q E, sp' vs H Q E → sp vs H (fun v H' => ∃ (a : Addr) (good : List V → Prop) (ys : List V), H a = none ∧ H' a = some (.lst ys) ∧ good ys ∧ Q v (upd H' a (hid good a))) E) : FnOk P w K mg base CX0 k f fd ps sp' := by
  refine ⟨len, fun A outer s H args us vs Q E hr e0 hb hv hsp => ?_⟩
  refine codeAny_mono (F.run A outer s _ args us vs _ E hr e0 hb hv (h vs H Q E hsp)) fun r s' hc => ?_
  cases r with
  | error e => exact hc
  | ok fl =>
    cases fl with
    | ret u =>
      obtain ⟨v, H', os, bare, un, hok, rv, a, good, ys, hn, hy, gy, q⟩ := hc
      refine ⟨v, _, os, bare, ?_, hok_shut hy gy hok, rv, q⟩
      refine ⟨un.keep, un.slot, fun b o e n h1 => ?_, un.there, fun b ys' e => ?_, fun b o u' e => ?_, fun b ps' e => ?_⟩
      · have hb : b ≠ a := fun z => by
          have q1 := un.free b o e n h1
          rw [z, hy] at q1
          cases q1
        rw [upd_ne hb]
        exact un.free b o e n h1
      · rw [upd_ne (ne_of_none e hn)]
        exact un.tups b ys' e
      · rw [upd_ne (ne_of_none e hn)]
        exact un.frzs b o u' e
      · rw [upd_ne (ne_of_none e hn)]
        exact un.tbls b ps' e
    | next => exact hc
    | brk => exact hc
    | cont => exact hc
end
end FF
/-! Fivefault, part 2: defs by their bodies, names of the top, the draws' source. -/
namespace FF
open PySem PySem.Spec PyProof.Rows L2

/-! ### names of the top -/
section
variable {X : Cx} {x : Str} {pos : Pos}
theorem pe_gi {i : Int} (h : ∃ t, X.mg x = some (.int i t)) (hg : Gl X x := by rfl) (hd : (x == ("__debug__" : Str)) = false := by decide) : PE X (.Name x pos) (tC (.int i)) := by
  obtain ⟨t, h⟩ := h
  exact pe_glob hg h ⟨t, rfl⟩ hd
theorem pe_gs {z : Str} (h : ∃ t, X.mg x = some (.str z t)) (hg : Gl X x := by rfl) (hd : (x == ("__debug__" : Str)) = false := by decide) : PE X (.Name x pos) (tC (.str z)) := by
  obtain ⟨t, h⟩ := h
  exact pe_glob hg h ⟨t, rfl⟩ hd
theorem pe_gT {a : Addr} (h : X.mg x = some (.ref a)) (hg : Gl X x := by rfl) (hd : (x == ("__debug__" : Str)) = false := by decide) : PE X (.Name x pos) (tC (.ref a)) := pe_glob (v := .ref a) hg h rfl hd
end
/-! ### a def by its body -/
section
variable {P : Program} {w : World} {K : PySem.W.Frag} {mg : Str → Option Value} {base : Heap}
theorem def_mk {x : Str} {st : Stmt} {f : Addr} {fd : FuncData} {dvs : List V} {kws : List (Str × V)} {N ps : List Str} {k : Nat} {sp : Sp} (F : FunD K x x (defArgs st) (defBody st) (defScope st) dvs kws f fd) (hm : mg x = some (.ref f)) (hb : Binds K fd ps [])
    (S : FnScope N ps (defScope st)) (len : ∀ vs H Q E, sp vs H Q E → vs.length = ps.length)
    (body : ∀ (cdv : Value) (A : Around) (outer : List Env) (s : Shared) (H : Hp) (vs : List V) (Q : VK) (E : XK), Room k (A.deeper (envOfC x (defScope st) s.heap.objs.size f cdv)) → sp vs H Q E →
      ∃ t, PSs (cxOf CX0 P w K mg base N x (defScope st) f cdv A outer s H E).nox (defBody st) t ∧ t { nx := fun _ H' => Q .non H', rt := Q } (start N vs) H) : Def P w K mg base x (k + 1) ps sp :=
  ⟨f, fd, FunD.ok F S len (fun cdv A outer s H vs Q E hr h => let ⟨t, a, b⟩ := body cdv A outer s H vs Q E hr h; ⟨t, PSs.nox a, b⟩), hm, F.kp, hb⟩
/-- two more ways to say it: the list at an address hidden -/
theorem Def.open_ {x : Str} {k : Nat} {ps : List Str} {sp sp' : Sp} (D : Def P w K mg base x k ps sp) (len : ∀ vs H Q E, sp' vs H Q E → vs.length = ps.length)
    (h : ∀ vs H Q E, sp' vs H Q E → ∃ (a : Addr) (good : List V → Prop), H a = some (hid good a) ∧
      ∀ xs, good xs → sp vs (upd H a (.lst xs)) (fun v H' => ∃ ys, H' a = some (.lst ys) ∧ good ys ∧ Q v (upd H' a (hid good a))) E) : Def P w K mg base x k ps sp' := by
  obtain ⟨f, fd, F, r⟩ := D.ex
  exact ⟨f, fd, FnOk.open_ F len h, r⟩
theorem Def.shut_ {x : Str} {k : Nat} {ps : List Str} {sp sp' : Sp} (D : Def P w K mg base x k ps sp) (len : ∀ vs H Q E, sp' vs H Q E → vs.length = ps.length)
    (h : ∀ vs H Q E, sp' vs H Q E → sp vs H (fun v H' => ∃ (a : Addr) (good : List V → Prop) (ys : List V), H a = none ∧ H' a = some (.lst ys) ∧ good ys ∧ Q v (upd H' a (hid good a))) E) : Def P w K mg base x k ps sp' := by
  obtain ⟨f, fd, F, r⟩ := D.ex
  exact ⟨f, fd, FnOk.shut_ F len h, r⟩
end
/-! ### list of a text -/
theorem vals_at : ∀ {xs : List V} {us : List Value}, xs.length = us.length → (∀ (i : Nat) (x : V), xs[i]? = some x → ∃ u, us[i]? = some u ∧ RelV x u) → Vals xs us
  | [], [], _, _ => .nil
  | [], _ :: _, h, _ => by cases h
  | _ :: _, [], h, _ => by cases h
  | x :: xs, u :: us, h, k => by
    obtain ⟨u', e, r⟩ := k 0 x rfl
    cases e
    exact .cons r (vals_at (Nat.succ.inj h) fun i y hy => k (i + 1) y hy)
theorem items_signs {z : Str} {us : Array Value} (h : ItemsOf (SignAt z) us z.cps.size) : Vals (z.cps.toList.map fun c => V.str ⟨#[c]⟩) us.toList := by
  obtain ⟨h1, h2⟩ := h
  refine vals_at (by simp [h1]) fun i x hx => ?_
  rw [List.getElem?_map] at hx
  cases e : z.cps.toList[i]? with
  | none => rw [e] at hx; cases hx
  | some c =>
    rw [e] at hx
    cases hx
    have hi : i < us.size := by
      have := (List.getElem?_eq_some_iff.mp e).1
      simp at this
      omega
    obtain ⟨c', u, e1, e2⟩ := h2 i us[i] (Array.getElem?_eq_getElem hi)
    have e3 : z.cps.toList[i]? = some c' := by simpa using e1
    rw [e] at e3
    cases e3
    exact ⟨us[i], by simp [hi], u, e2⟩
def rListS : List V → Hp → VK → Prop := fun xs H Q => ∃ z : Str, xs = [.str z] ∧ z.length ≤ sizeLine ∧ ∀ l, H l = none → Q (.ref l) (upd H l (.lst (z.cps.toList.map fun c => V.str ⟨#[c]⟩)))
theorem call_list_s {X : Cx} (hc : X.calm = true) : CallR X (.type "list") rListS := by
  intro pins s σ H xs us Q I r h
  obtain ⟨z, rfl, hz, q⟩ := h
  obtain ⟨u, rfl, t, rfl⟩ := Vals.one r
  refine call_list_str (I.ok.hd hc) z t (fun h' tk acc' c' hk hl hi => ?_) hz
  have hv := items_signs hi
  exact ⟨.ref _, _, I.laid (t' := tk) (o := .lst (z.cps.toList.map fun c => V.str ⟨#[c]⟩)) hk (Nat.le_refl _) ⟨by rw [List.length_map]; exact hz, acc'.toList, c', hv, by simpa using hl⟩, rfl, q _ (I.hok.fresh (Nat.le_refl _))⟩
end FF
/-! Fivefault, part 3: data that is well formed; in, not in; measures of values. -/
namespace FF
open PySem PySem.Spec PyProof.Rows L2

/-! ### data that is well formed: texts are short, nested at most 60 deep -/
mutual
def nice : PyData → Bool
  | .none => true
  | .bool _ => true
  | .int _ => true
  | .str x => decide (x.length ≤ 20000) && PyData.strOk x
  | .list xs => decide (xs.length ≤ 20000) && niceAll xs
  | .tuple xs => decide (xs.length ≤ 20000) && niceAll xs
  | .dict _ => false
def niceAll : List PyData → Bool
  | [] => true
  | x :: xs => nice x && niceAll xs
end
mutual
theorem nice_lay : ∀ d : PyData, nice d = true → d.canLay0 = true
  | .none, _ => rfl
  | .bool _, _ => rfl
  | .int _, _ => rfl
  | .str x, h => by
    simp only [nice, Bool.and_eq_true] at h
    simp only [PyData.canLay0]
    exact h.2
  | .list xs, h => by
    simp only [nice, Bool.and_eq_true] at h
    simp only [PyData.canLay0]
    exact niceAll_lay xs h.2
  | .tuple xs, h => by
    simp only [nice, Bool.and_eq_true] at h
    simp only [PyData.canLay0]
    exact niceAll_lay xs h.2
  | .dict _, h => by simp [nice] at h
theorem niceAll_lay : ∀ ds : List PyData, niceAll ds = true → PyData.canLayAll0 ds = true
  | [], _ => rfl
  | x :: xs, h => by
    simp only [niceAll, Bool.and_eq_true] at h
    simp only [PyData.canLayAll0, nice_lay x h.1, niceAll_lay xs h.2, Bool.and_self]
end
theorem niceAll_mem : ∀ {ds : List PyData} {d : PyData}, niceAll ds = true → d ∈ ds → nice d = true
  | x :: xs, d, h, m => by
    simp only [niceAll, Bool.and_eq_true] at h
    rcases List.mem_cons.mp m with e | m
    · rw [e]; exact h.1
    · exact niceAll_mem h.2 m
theorem niceAll_of : ∀ {ds : List PyData}, (∀ d ∈ ds, nice d = true) → niceAll ds = true
  | [], _ => rfl
  | x :: xs, h => by
    simp only [niceAll, Bool.and_eq_true]
    exact ⟨h x (List.mem_cons_self ..), niceAll_of fun d m => h d (List.mem_cons_of_mem _ m)⟩
theorem depthAll_mem : ∀ {ds : List PyData} {d : PyData}, d ∈ ds → d.depth ≤ PyData.depthAll ds
  | x :: xs, d, m => by
    rw [PyData.depthAll]
    rcases List.mem_cons.mp m with e | m
    · rw [e]; omega
    · have := depthAll_mem m; omega
theorem depthAll_of : ∀ {ds : List PyData} {n : Nat}, (∀ d ∈ ds, d.depth ≤ n) → PyData.depthAll ds ≤ n
  | [], _, _ => by rw [PyData.depthAll]; omega
  | x :: xs, n, h => by
    rw [PyData.depthAll]
    have h1 := h x (List.mem_cons_self ..)
    have h2 := depthAll_of fun d m => h d (List.mem_cons_of_mem x m)
    omega
/-- nested at most n deep, with short texts -/
structure Nice (n : Nat) (d : PyData) : Prop where
  ok : nice d = true
  dp : d.depth ≤ n
theorem Nice.shaped {n : Nat} {d : PyData} (h : Nice n d) (hn : n ≤ 64 := by decide) : SeqAt.shaped d = true := by
  have h1 := nice_lay d h.ok
  have h2 : d.depth ≤ 64 := Nat.le_trans h.dp hn
  show (d.canLay0 && decide (d.depth ≤ 64)) = true
  rw [h1, decide_eq_true h2] <;> rfl
theorem Nice.mono {m n : Nat} {d : PyData} (h : Nice m d) (hm : m ≤ n) : Nice n d := ⟨h.ok, Nat.le_trans h.dp hm⟩
theorem Nice.itemT {n : Nat} {ds : List PyData} {d : PyData} (h : Nice n (.tuple ds)) (m : d ∈ ds) : Nice n d := by
  obtain ⟨h1, h2⟩ := h
  simp only [nice, Bool.and_eq_true] at h1
  simp only [PyData.depth] at h2
  have := depthAll_mem m
  exact ⟨niceAll_mem h1.2 m, by omega⟩
theorem Nice.itemL {n : Nat} {ds : List PyData} {d : PyData} (h : Nice n (.list ds)) (m : d ∈ ds) : Nice n d := by
  obtain ⟨h1, h2⟩ := h
  simp only [nice, Bool.and_eq_true] at h1
  simp only [PyData.depth] at h2
  have := depthAll_mem m
  exact ⟨niceAll_mem h1.2 m, by omega⟩
theorem Nice.tuple {n : Nat} {ds : List PyData} (hl : ds.length ≤ 20000) (h : ∀ d ∈ ds, Nice n d) : Nice (n + 1) (.tuple ds) := by
  refine ⟨by simp only [nice, Bool.and_eq_true, decide_eq_true_eq]; exact ⟨hl, niceAll_of fun d m => (h d m).ok⟩, ?_⟩
  simp only [PyData.depth]
  have := depthAll_of (n := n) fun d m => (h d m).dp
  omega
theorem Nice.list {n : Nat} {ds : List PyData} (hl : ds.length ≤ 20000) (h : ∀ d ∈ ds, Nice n d) : Nice (n + 1) (.list ds) := by
  refine ⟨by simp only [nice, Bool.and_eq_true, decide_eq_true_eq]; exact ⟨hl, niceAll_of fun d m => (h d m).ok⟩, ?_⟩
  simp only [PyData.depth]
  have := depthAll_of (n := n) fun d m => (h d m).dp
  omega
theorem nice_str {z : Str} (h : nice (.str z) = true) : z.length ≤ sizeLine := by
  simp only [nice, Bool.and_eq_true, decide_eq_true_eq] at h
  exact Nat.le_trans h.1 (by decide)

theorem nice_tl {ds : List PyData} (h : nice (.tuple ds) = true) : ds.length ≤ 20000 := by
  simp only [nice, Bool.and_eq_true, decide_eq_true_eq] at h
  exact h.1
theorem nice_ll {ds : List PyData} (h : nice (.list ds) = true) : ds.length ≤ 20000 := by
  simp only [nice, Bool.and_eq_true, decide_eq_true_eq] at h
  exact h.1
theorem nice_ti {ds : List PyData} {d : PyData} (h : nice (.tuple ds) = true) (m : d ∈ ds) : nice d = true := by
  simp only [nice, Bool.and_eq_true, decide_eq_true_eq] at h
  exact niceAll_mem h.2 m
theorem nice_li {ds : List PyData} {d : PyData} (h : nice (.list ds) = true) (m : d ∈ ds) : nice d = true := by
  simp only [nice, Bool.and_eq_true, decide_eq_true_eq] at h
  exact niceAll_mem h.2 m
theorem le_line {n : Nat} (h : n ≤ 20000) : n ≤ sizeLine := Nat.le_trans h (by decide)
theorem lt_line {n : Nat} (h : n ≤ 20000) : n < sizeLine := Nat.lt_of_le_of_lt h (by decide)

/-! ### x in a written tuple or list, for any data -/
def rInDs (K : PySem.W.Frag) (neg : Bool) : R2 := fun x y H Q => ∃ d ds, Dp K H x d ∧ (Dp K H y (.list ds) ∨ Dp K H y (.tuple ds)) ∧ SeqAt.shaped d = true ∧ SeqAt.shaped (.list ds) = true ∧ Q (.bl (if neg then !(ds.any fun z => PyData.eqv z d) else (ds.any fun z => PyData.eqv z d))) H
theorem op_inDs {X : Cx} (hu : X.A.units + 65 < cLine) : OpR X (compareOp .In) (rInDs X.K false) := by
  intro pins s σ H x y v u Q I rx ry h
  obtain ⟨d, ds, hd, he | he, sd, se, q⟩ := h
  · obtain ⟨as, r1⟩ := Dp.reads I d x v hd rx
    obtain ⟨bs, r2⟩ := Dp.reads I (.list ds) y u he ry
    exact SeqAt.in_list_reads r2 r1 (SeqAt.canLay_of_shaped se) (SeqAt.canLay_of_shaped sd) (room_in_shaped sd hu) ⟨.bl _, H, I, rfl, q⟩
  · obtain ⟨as, r1⟩ := Dp.reads I d x v hd rx
    obtain ⟨bs, r2⟩ := Dp.reads I (.tuple ds) y u he ry
    exact SeqAt.in_tuple_reads r2 r1 (SeqAt.canLay_of_shaped se) (SeqAt.canLay_of_shaped sd) (room_in_shaped sd hu) ⟨.bl _, H, I, rfl, q⟩
theorem op_notInDs {X : Cx} (hu : X.A.units + 65 < cLine) : OpR X (compareOp .NotIn) (rInDs X.K true) := by
  intro pins s σ H x y v u Q I rx ry h
  obtain ⟨d, ds, hd, he | he, sd, se, q⟩ := h
  · obtain ⟨as, r1⟩ := Dp.reads I d x v hd rx
    obtain ⟨bs, r2⟩ := Dp.reads I (.list ds) y u he ry
    exact SeqAt.notIn_list_reads r2 r1 (SeqAt.canLay_of_shaped se) (SeqAt.canLay_of_shaped sd) (room_in_shaped sd hu) ⟨.bl _, H, I, rfl, q⟩
  · obtain ⟨as, r1⟩ := Dp.reads I d x v hd rx
    obtain ⟨bs, r2⟩ := Dp.reads I (.tuple ds) y u he ry
    exact SeqAt.notIn_tuple_reads r2 r1 (SeqAt.canLay_of_shaped se) (SeqAt.canLay_of_shaped sd) (room_in_shaped sd hu) ⟨.bl _, H, I, rfl, q⟩

/-! ### letters and measures -/
abbrev lettersS : Str := "abcdefgh"
def isLetS (z : Str) : Bool := match z.cps.toList with
  | [c] => decide (c ∈ lettersS.cps.toList)
  | _ => false
def isLet : PyData → Bool
  | .str z => isLetS z
  | _ => false
def isOp : PyData → Bool
  | .str z => decide (z = ("&" : Str)) || decide (z = ("|" : Str))
  | _ => false
theorem len1 {z : Str} (h : z.length = 1) : ∃ c, z = ⟨#[c]⟩ := by
  obtain ⟨⟨l⟩⟩ := z
  match l, h with
  | [c], _ => exact ⟨c, rfl⟩
theorem isLetS_one {c : Nat} : isLetS ⟨#[c]⟩ = decide (c ∈ lettersS.cps.toList) := rfl
theorem isLetS_no {z : Str} (h : z.length ≠ 1) : isLetS z = false := by
  obtain ⟨⟨l⟩⟩ := z
  match l, h with
  | [], _ => rfl
  | [c], h => exact absurd rfl h
  | _ :: _ :: _, _ => rfl
/-- what stands in a tuple of the form of a term -/
def measP (f : PyData → Int) : PyData → Int
  | .tuple (x :: y :: z :: r) => if isOp x = true then (if (0 : Int) ∈ ((y :: z :: r).map f) then 0 else ((y :: z :: r).map f).sum) else 0
  | _ => 0
/-- the size of a value of the form of a term, at most n deep, or 0 -/
def meas : Nat → PyData → Int
  | 0, _ => 0
  | n + 1, d => if isLet d = true then 1 else if n = 0 then 0 else measP (meas n) d
theorem meas_let {n : Nat} {d : PyData} (h : isLet d = true) : meas n d = if 0 < n then 1 else 0 := by
  cases n with
  | zero => rfl
  | succ n =>
    show (if isLet d = true then (1 : Int) else _) = _
    rw [if_pos h, if_pos (Nat.succ_pos n)]
theorem meas_low {n : Nat} {d : PyData} (h : isLet d = false) (hn : n < 2) : meas n d = 0 := by
  match n, hn with
  | 0, _ => rfl
  | 1, _ =>
    show (if isLet d = true then (1 : Int) else if 0 = 0 then 0 else _) = _
    rw [if_neg (by rw [h]; decide), if_pos rfl]
theorem meas_up {n : Nat} {d : PyData} (h : isLet d = false) (hn : 0 < n) : meas (n + 1) d = measP (meas n) d := by
  show (if isLet d = true then (1 : Int) else if n = 0 then 0 else measP (meas n) d) = _
  rw [if_neg (by rw [h]; decide), if_neg (by omega)]
end FF
/-! Fivefault, part 4: hidden lists read and stored; calls with keywords; tests. -/
namespace FF
open PySem PySem.Spec PyProof.Rows L2

section
variable {X : Cx} {pins : List (Addr × Obj)} {σ : L2.St} {H : Hp} {s : Shared} {a : Addr} {good : List V → Prop}
theorem inv_open (ha : H a = some (hid good a)) (I : Inv X pins σ H s) : ∃ xs, good xs ∧ Inv X pins σ (upd H a (.lst xs)) s := by
  obtain ⟨xs, hg, ok⟩ := hok_open ha I.hok
  have dom : ∀ {b}, H b = none → (upd H a (.lst xs)) b = none := fun {b} n => by
    rw [upd_ne (fun z => by rw [z, ha] at n; cases n)]
    exact n
  have back : ∀ {b o}, H b = some o → (∀ φ, o ≠ .ext φ) → (upd H a (.lst xs)) b = some o := fun {b o} e hb => by
    rw [upd_ne (fun z => by rw [z, ha] at e; cases e; exact hb _ rfl)]
    exact e
  refine ⟨xs, hg, I.ok, I.os, I.bare, ⟨I.base.keep, I.base.slot, fun b o e n x => dom (I.base.free b o e n x), I.base.there, fun b ys e => back (I.base.tups b ys e) (fun _ z => nomatch z), fun b o u e => back (I.base.frzs b o u e) (fun _ z => nomatch z), fun b ps e => ?_⟩, I.loc, I.cell, dom I.free, fun x c e => dom (I.freeC x c e), fun p hp => ?_, ok, I.len⟩
  · obtain ⟨m, q⟩ := I.base.tbls b ps e
    exact ⟨m, back q (fun _ z => nomatch z)⟩
  · obtain ⟨h1, h2, h3⟩ := I.pin p hp
    exact ⟨h1, dom h2, h3⟩
theorem inv_shut {xs : List V} (ha : H a = some (.lst xs)) (hg : good xs) (I : Inv X pins σ H s) : Inv X pins σ (upd H a (hid good a)) s := by
  have dom : ∀ {b}, H b = none → (upd H a (hid good a)) b = none := fun {b} n => by
    rw [upd_ne (fun z => by rw [z, ha] at n; cases n)]
    exact n
  have back : ∀ {b o}, H b = some o → (∀ ys, o ≠ .lst ys) → (upd H a (hid good a)) b = some o := fun {b o} e hb => by
    rw [upd_ne (fun z => by rw [z, ha] at e; cases e; exact hb _ rfl)]
    exact e
  refine ⟨I.ok, I.os, I.bare, ⟨I.base.keep, I.base.slot, fun b o e n x => dom (I.base.free b o e n x), I.base.there, fun b ys e => back (I.base.tups b ys e) (fun _ z => nomatch z), fun b o u e => back (I.base.frzs b o u e) (fun _ z => nomatch z), fun b ps e => ?_⟩, I.loc, I.cell, dom I.free, fun x c e => dom (I.freeC x c e), fun p hp => ?_, hok_shut ha hg I.hok, I.len⟩
  · obtain ⟨m, q⟩ := I.base.tbls b ps e
    exact ⟨m, back q (fun _ z => nomatch z)⟩
  · obtain ⟨h1, h2, h3⟩ := I.pin p hp
    exact ⟨h1, dom h2, h3⟩
end
/-- xs[i] of a hidden list -/
def rIxH : R2 := fun x y H Q => ∃ (a : Addr) (good : List V → Prop) (i : Int), x = .ref a ∧ y = .int i ∧ H a = some (hid good a) ∧ ∀ xs, good xs → ∃ v, atI xs i = some v ∧ Q v H
theorem ix_hid {X : Cx} : IxR X rIxH := by
  intro value slice pins s σ H x y v u Q I rx ry h hs
  obtain ⟨a, good, i, rfl, rfl, ha, q⟩ := h
  obtain ⟨xs, hg, I1⟩ := inv_open ha I
  obtain ⟨z, hz, q⟩ := q xs hg
  refine thn (ix_list value slice pins s σ _ _ _ v u (fun v H' => H' = upd H a (.lst xs) ∧ v = z) I1 rx ry ⟨a, xs, i, z, rfl, rfl, SqL.of upd_same, hz, rfl, rfl⟩ hs) fun v s1 ⟨v', H', I2, r, e1, e2⟩ => ?_
  subst e1 e2
  have I3 := inv_shut (good := good) upd_same hg I2
  rw [upd_back ha] at I3
  exact ⟨_, H, I3, r, q⟩
/-- xs[i] = v of a hidden list -/
def rSetH : V → V → V → Hp → (Hp → Prop) → Prop := fun o i v H Q => ∃ (a : Addr) (good : List V → Prop) (k : Int), o = .ref a ∧ i = .int k ∧ H a = some (hid good a) ∧ (∀ xs, good xs → ∃ j, ixN xs.length k = some j ∧ good (xs.set j v)) ∧ Q H
theorem set_hid {X : Cx} : PSet X rSetH := by
  intro pins s σ H o i v u1 u2 u3 Q I r1 r2 r3 h
  obtain ⟨a, good, k, rfl, rfl, ha, hj, q⟩ := h
  obtain ⟨xs, hg, I1⟩ := inv_open ha I
  obtain ⟨j, e, hg2⟩ := hj xs hg
  refine thn (set_list pins s σ _ _ _ v u1 u2 u3 (fun H' => H' = upd (upd H a (.lst xs)) a (.lst (xs.set j v))) I1 r1 r2 r3 ⟨a, xs, k, j, rfl, rfl, upd_same, e, rfl⟩) fun _ s1 ⟨H', I2, e1⟩ => ?_
  subst e1
  rw [upd_upd] at I2
  have I3 : Inv X pins σ (upd (upd H a (.lst (xs.set j v))) a (hid good a)) s1 := inv_shut (good := good) upd_same hg2 I2
  rw [upd_back ha] at I3
  exact ⟨H, I3, q⟩
/-- a list that is made, hidden: the rule for a display -/
def tHide (good : List V → Prop) (te : TE) : TE := fun σ H Q => te σ H fun v H' => ∃ a xs, v = .ref a ∧ H' a = some (.lst xs) ∧ good xs ∧ Q (.ref a) (upd H' a (hid good a))
theorem pe_hide {X : Cx} {e : Expr} {te : TE} {good : List V → Prop} (h : PE X e te) : PE X e (tHide good te) := by
  refine ⟨fun pins s σ H Q I hw => ?_⟩
  refine thn (h.run pins s σ H _ I hw) fun v s1 ⟨v', H', I1, r, a, xs, e, ha, hg, q⟩ => ?_
  subst e
  exact ⟨_, _, inv_shut ha hg I1, r, q⟩

/-! ### calls with keywords -/
section
variable {K : PySem.W.Frag} {x qual : Str} {params : Arguments} {body : List Stmt} {scope : Scope} {kws : List (Str × V)} {f : Addr} {fd : FuncData} {ps : List Str}
theorem kbinds0 (F : FunD K x qual params body scope [] kws f fd) (n : Nat) (ks : List Str) (ms : List (Str × V)) (g : {α : Type} → List α → List α → List α → List α) (hk : kws ≠ []) (hms : ∀ q ∈ ms, q ∈ kws)
    (hrel : ∀ {vs mz zs : List V} {us mv ws : List Value}, Vals vs us → Vals mz mv → Vals zs ws → Vals (g vs mz zs) (g us mv ws))
    (h : ∀ (D : Addr) (doc pm : Value) (an : Option Addr) (cdv ct : Value) (us mv ws : List Value), us.length = n → mv.length = ms.length → ws.length = ks.length →
      KwChain D ((ms.map (·.1)).zip mv) (bindArgs (PySem.W.fnOf x qual params body scope .none (.ref D) doc pm an cdv ct) ⟨us, ks.zip ws⟩) (ps.zip (g us mv ws))) :
    ∃ mv : List Value, KBn K fd ps n ks (fun us ws => g us mv ws) (fun vs zs => g vs (ms.map (·.2)) zs) := by
  obtain ⟨oc, od, dV, kV, doc, pm, an, cdv, ct, osl, rfl, lk, hcd, hD, hK⟩ := F.ex
  rcases hD with ⟨_, rfl⟩ | ⟨e, _⟩
  · rcases hK with e | ⟨D, rfl, hq⟩
    · exact absurd e hk
    · obtain ⟨mv, hl, rk, hks⟩ := kwd_vals (ms := ms) fun q hm => hq q (hms q hm)
      exact ⟨mv, ⟨fun s us ws X l1 l2 => BindsTo.of_looks fun M => KwChain.looks X hks (h D doc pm an cdv ct us mv ws l1 hl l2), fun r1 r2 => hrel r1 rk r2⟩⟩
  · exact absurd rfl e
end
section
variable {X : Cx} {CX : CXT} {k n : Nat} {f : Addr} {fd : FuncData} {ps ks : List Str} {sp : Sp} {E : XK} {x : Str} {p pos : Pos} {kws : List Keyword} {tk : TA} {g : List Value → List Value → List Value} {gV : List V → List V → List V}
def tCallN0 (m : Nat) (sp : Sp) (gV : List V → List V → List V) (E : XK) (tk : TA) : TE := fun σ H Q => tk σ H fun zs H2 => zs.length = m ∧ sp (gV [] zs) H2 Q E
theorem pe_callN0 (F : FnOk X.prog X.w X.K X.mg X.base CX k f fd ps sp) (hr : Room k X.A) (hg : Gl X x) (hm : X.mg x = some (.ref f)) (hk : PySem.W.keepIn X.K (.ref f) = true) (hb : KBn X.K fd ps 0 ks g gV) (hx : Passes CX X E)
    (hkw : PK X kws tk) (hall : (backToKw pos (keywordEach kws X.env)).all (·.1.isSome) = true := by rfl) (hks : (backToKw pos (keywordEach kws X.env)).filterMap (·.1) = ks := by rfl)
    (hdb : (x == ("__debug__" : Str)) = false := by decide)
    (hpl : ((backTo pos (starEach [] X.env)).any (·.1) || (backToKw pos (keywordEach kws X.env)).any (·.1.isNone)) = false := by rfl) :
    PE X (.Call (.Name x p) [] kws pos) (tCallN0 ks.length sp gV E tk) := by
  refine ⟨fun pins s σ H Q I h => ?_⟩
  refine wpAny_Call_Name_kw (ld_glob I hg hm ?_ hdb)
  refine PySem.W.callWith_KW0 (h₀ := X.base) I.ok.mod.kin hk hall ?_ hpl
  refine thn (hkw.run pos pins s σ H _ I h) fun ws s2 ⟨zs, H2, I2, rz, l2, q2⟩ => ⟨I2.kIn, ?_⟩
  rw [hks]
  exact run_fnN F hr hb hx I2 .nil rz rfl l2 q2
end

/-! ### tests -/
theorem if_int {a b : Int} {A B : Prop} (h1 : a = b → A) (h2 : a ≠ b → B) : if decide (V.int a = V.int b) = true then A else B := by
  by_cases h : a = b
  · rw [decide_eq_true (congrArg V.int h)]
    exact iteT (h1 h)
  · rw [decide_eq_false (fun z => h (V.int.inj z))]
    exact iteF (h2 h)
theorem if_dec {p : Prop} [Decidable p] {A B : Prop} (h1 : p → A) (h2 : ¬ p → B) : if decide p = true then A else B := by
  by_cases h : p
  · rw [decide_eq_true h]
    exact iteT (h1 h)
  · rw [decide_eq_false h]
    exact iteF (h2 h)
theorem if_b {b : Bool} {A B : Prop} (h1 : b = true → A) (h2 : b = false → B) : if b = true then A else B := by
  cases b
  · exact iteF (h2 rfl)
  · exact iteT (h1 rfl)
theorem if_nb {b : Bool} {A B : Prop} (h1 : b = false → A) (h2 : b = true → B) : if (!b) = true then A else B := by
  cases b
  · exact iteT (h1 rfl)
  · exact iteF (h2 rfl)
theorem qi {Q : VK} {H : Hp} {a b : Int} (h : Q (.int a) H) (e : a = b) : Q (.int b) H := e ▸ h
theorem qb {Q : VK} {H : Hp} {a b : Bool} (h : Q (.bl a) H) (e : a = b) : Q (.bl b) H := e ▸ h
theorem r65 {k : Nat} {A : Around} (hr : Room k A) : A.units + 65 < cLine := by have := hr.un; omega
theorem at0 {α : Type} {x : α} {xs : List α} : atI (x :: xs) 0 = some x := atI_nat (j := 0) rfl
end FF
/-! Fivefault, part 5: tuples never change; comprehensions that map; slices. -/
namespace FF
open PySem PySem.Spec PyProof.Rows L2

/-! ### tuples stay -/
def SameT (H H' : Hp) : Prop := ∀ b xs, H b = some (.tup xs) → H' b = some (.tup xs)
theorem SameT.refl (H : Hp) : SameT H H := fun _ _ h => h
theorem SameT.trans {H H1 H2 : Hp} (a : SameT H H1) (b : SameT H1 H2) : SameT H H2 := fun c o h => b c o (a c o h)
theorem Same.T {H H' : Hp} (e : Same H H') : SameT H H' := fun b xs h => e b _ h
theorem SameT.upd {H H' : Hp} {p : Addr} {o : HO} (e : SameT H H') (h : ∀ xs, H' p ≠ some (.tup xs)) : SameT H (upd H' p o) := fun b xs q => by
  have := e b xs q
  rw [upd_ne (fun z => h xs (by rw [← z]; exact this))]
  exact this
theorem SameT.updL {H H' : Hp} {p : Addr} {o : HO} {ys : List V} (e : SameT H H') (h : H' p = some (.lst ys)) : SameT H (L2.upd H' p o) := e.upd fun xs z => by rw [h] at z; cases z
def SqU (K : PySem.W.Frag) (H : Hp) (a : Addr) (xs : List V) : Prop :=
  H a = some (.tup xs) ∨ ∃ (o : Obj) (its : Array Value) (n : Nat), K.lookup a = some o ∧ o.cls = .type "tuple" ∧ o.data = .seq its n ∧ its.size ≤ sizeLine ∧ Vals xs its.toList
theorem SqU.sqT {K : PySem.W.Frag} {H : Hp} {a : Addr} {xs : List V} (h : SqU K H a xs) : SqT K H a xs := by
  rcases h with h | h
  · exact .inl (.inl h)
  · exact .inr h
theorem SqU.up {K : PySem.W.Frag} {H H' : Hp} {a : Addr} {xs : List V} (e : SameT H H') (h : SqU K H a xs) : SqU K H' a xs := by
  rcases h with h | h
  · exact .inl (e _ _ h)
  · exact .inr h
mutual
/-- data of tuples, texts and the like: no lists -/
inductive Tp (K : PySem.W.Frag) (H : Hp) : V → PyData → Prop
  | non : Tp K H .non .none
  | bl (b : Bool) : Tp K H (.bl b) (.bool b)
  | int (i : Int) : Tp K H (.int i) (.int i)
  | str (x : Str) : Tp K H (.str x) (.str x)
  | tup {a : Addr} {xs : List V} {ds : List PyData} : SqU K H a xs → TpAll K H xs ds → Tp K H (.ref a) (.tuple ds)
inductive TpAll (K : PySem.W.Frag) (H : Hp) : List V → List PyData → Prop
  | nil : TpAll K H [] []
  | cons {v : V} {vs : List V} {d : PyData} {ds : List PyData} : Tp K H v d → TpAll K H vs ds → TpAll K H (v :: vs) (d :: ds)
end
section
variable {K : PySem.W.Frag} {H H' : Hp}
mutual
theorem Tp.dp : ∀ {v : V} {d : PyData}, Tp K H v d → Dp K H v d
  | _, _, .non => .non
  | _, _, .bl b => .bl b
  | _, _, .int i => .int i
  | _, _, .str x => .str x
  | _, _, .tup h a => .tup h.sqT a.dp
theorem TpAll.dp : ∀ {vs : List V} {ds : List PyData}, TpAll K H vs ds → DpAll K H vs ds
  | _, _, .nil => .nil
  | _, _, .cons h a => .cons h.dp a.dp
end
mutual
theorem Tp.up (e : SameT H H') : ∀ {v : V} {d : PyData}, Tp K H v d → Tp K H' v d
  | _, _, .non => .non
  | _, _, .bl b => .bl b
  | _, _, .int i => .int i
  | _, _, .str x => .str x
  | _, _, .tup h a => .tup (h.up e) (a.up e)
theorem TpAll.up (e : SameT H H') : ∀ {vs : List V} {ds : List PyData}, TpAll K H vs ds → TpAll K H' vs ds
  | _, _, .nil => .nil
  | _, _, .cons h a => .cons (h.up e) (a.up e)
end
theorem TpAll.len : ∀ {vs : List V} {ds : List PyData}, TpAll K H vs ds → vs.length = ds.length
  | _, _, .nil => rfl
  | _, _, .cons _ t => congrArg Nat.succ (TpAll.len t)
theorem TpAll.get : ∀ {vs : List V} {ds : List PyData} {i : Nat} {v : V}, TpAll K H vs ds → vs[i]? = some v → ∃ d, ds[i]? = some d ∧ Tp K H v d
  | _, _, 0, _, .cons h _, e => by cases e; exact ⟨_, rfl, h⟩
  | _, _, i + 1, _, .cons _ t, e => TpAll.get (i := i) t e
theorem TpAll.app : ∀ {vs ws : List V} {ds es : List PyData}, TpAll K H vs ds → TpAll K H ws es → TpAll K H (vs ++ ws) (ds ++ es)
  | _, _, _, _, .nil, r => r
  | _, _, _, _, .cons h t, r => .cons h (t.app r)
theorem TpAll.of_get : ∀ {vs : List V} {ds : List PyData}, vs.length = ds.length → (∀ (i : Nat) (v : V) (d : PyData), vs[i]? = some v → ds[i]? = some d → Tp K H v d) → TpAll K H vs ds
  | [], [], _, _ => .nil
  | [], _ :: _, h, _ => by cases h
  | _ :: _, [], h, _ => by cases h
  | v :: vs, d :: ds, h, k => .cons (k 0 v d rfl rfl) (TpAll.of_get (Nat.succ.inj h) fun i v d h1 h2 => k (i + 1) v d h1 h2)
end

/-! ### slices t[1:] -/
theorem cut1 {x : V} {xs : List V} : cutV (x :: xs) (some 1) none = xs := by
  show (((x :: xs).drop (HT.sIx (xs.length + 1) 0 (some ((1 : Nat) : Int)))).take (HT.sIx (xs.length + 1) (xs.length + 1) none - HT.sIx (xs.length + 1) 0 (some ((1 : Nat) : Int)))) = xs
  rw [HT.sIx_nat, HT.sIx_none, show min 1 (xs.length + 1) = 1 by omega]
  show xs.take (xs.length + 1 - 1) = xs
  rw [Nat.add_sub_cancel, List.take_length]
theorem notWhole1 {x : V} {xs : List V} : ¬ (HT.sIx (x :: xs).length 0 (some 1) = 0 ∧ HT.sIx (x :: xs).length (x :: xs).length none = (x :: xs).length) := by
  rintro ⟨h, _⟩
  have : HT.sIx (xs.length + 1) 0 (some ((1 : Nat) : Int)) = 0 := h
  rw [HT.sIx_nat] at this
  omega

/-! ### [e for x in xs] -/
section
variable {K : PySem.W.Frag} {a : Addr} {xs : List V} {te : TE} {vs : List Nat} {σ : L2.St} {H1 : Hp} {D : Addr} {Qd : Hp → Prop} {j : Nat}
/-- what a step of the loop over the list gives -/
theorem lc_turn {i : Nat} {H : Hp} {x : V} {R : Nat → V → Hp → Prop} (mono : ∀ i y H H', SameT H H' → R i y H → R i y H') (hD : H1 D = none)
    (p : Same H1 H ∧ ∃ ys, H D = some (.lst ys) ∧ ys.length = i ∧ ∀ m y, ys[m]? = some y → R m y H) (hi : i < sizeLine)
    (st : ∀ Q' : VK, (∀ y H3, Same H H3 → R i y H3 → Q' y H3) → te ((wipe σ vs).set j (some x)) H Q') :
    te ((wipe σ vs).set j (some x)) H fun y H4 => ∃ acc, H4 D = some (.lst acc) ∧ acc.length < sizeLine ∧ (Same H1 (upd H4 D (.lst (acc ++ [y]))) ∧ ∃ ys, (upd H4 D (.lst (acc ++ [y]))) D = some (.lst ys) ∧ ys.length = i + 1 ∧ ∀ m y', ys[m]? = some y' → R m y' (upd H4 D (.lst (acc ++ [y])))) := by
  obtain ⟨e1, ys, h2, h3, h4⟩ := p
  refine st _ fun y H3 e3 r => ?_
  have hd := e3 _ _ h2
  refine ⟨ys, hd, by omega, fun b o q => ?_, ys ++ [y], upd_same, by simp [h3], fun m y' q => ?_⟩
  · rw [upd_ne (ne_of_none q hD)]
    exact e3 _ _ (e1 _ _ q)
  · have eT : SameT H3 (upd H3 D (.lst (ys ++ [y]))) := (SameT.refl H3).updL hd
    by_cases hm : m < ys.length
    · rw [List.getElem?_append_left hm] at q
      exact mono _ _ _ _ ((Same.T e3).trans eT) (h4 m y' q)
    · have : m = ys.length := by
        have := (List.getElem?_eq_some_iff.mp q).1
        simp at this
        omega
      subst this
      rw [List.getElem?_append_right (Nat.le_refl _), Nat.sub_self] at q
      cases q
      rw [h3]
      exact mono _ _ _ _ eT r
theorem lc_mapT (R : Nat → V → Hp → Prop) (mono : ∀ i y H H', SameT H H' → R i y H → R i y H') (hD : H1 D = none) (hs : SqT K H1 a xs) (hz : xs.length ≤ sizeLine)
    (hw : ∀ x, wipe ((wipe σ vs).set j (some x)) vs = wipe σ vs)
    (step : ∀ i x H2, xs[i]? = some x → Same H1 H2 → ∀ Q' : VK, (∀ y H3, Same H2 H3 → R i y H3 → Q' y H3) → te ((wipe σ vs).set j (some x)) H2 Q')
    (done : ∀ H2 ys, Same H1 H2 → H2 D = some (.lst ys) → ys.length = xs.length → (∀ (i : Nat) (y : V), ys[i]? = some y → R i y H2) → Qd H2) :
    ∃ W : Nat → Nat → Hp → Prop, (∃ m, W 0 m (upd H1 D (.lst []))) ∧ ∀ i m H, W i m H →
      ((Itt K a).stop i H ∧ Qd H) ∨ ((Itt K a).go i H ∧ ∃ Nx : Hp → Prop, (∀ H', Nx H' → ∃ m', m' < m ∧ W (i + 1) m' H') ∧ ∀ x H', (Itt K a).yld i H x H' → gName j x (wipe σ vs) H' fun σ2 H2 => wipe σ2 vs = wipe σ vs ∧ tYes σ2 H2 fun b H3 =>
        if b = true then te σ2 H3 fun y H4 => ∃ acc, H4 D = some (.lst acc) ∧ acc.length < sizeLine ∧ Nx (upd H4 D (.lst (acc ++ [y]))) else Nx H3) :=
  lc_tup (fun i H => Same H1 H ∧ ∃ ys, H D = some (.lst ys) ∧ ys.length = i ∧ ∀ m y, ys[m]? = some y → R m y H)
    ⟨same_new hD _, [], upd_same, rfl, fun m y q => by simp at q⟩ (fun i H _ p => up_t p.1 hs)
    (fun i x H hx p => ⟨hw x, lc_turn mono hD p (Nat.lt_of_lt_of_le (List.getElem?_eq_some_iff.mp hx).1 hz) (step i x H hx p.1)⟩)
    fun H ⟨e, ys, h1, h2, h3⟩ => done H ys e h1 h2 h3
theorem lc_mapL (R : Nat → V → Hp → Prop) (mono : ∀ i y H H', SameT H H' → R i y H → R i y H') (hD : H1 D = none) (hs : SqL K H1 a xs) (hz : xs.length ≤ sizeLine)
    (hw : ∀ x, wipe ((wipe σ vs).set j (some x)) vs = wipe σ vs)
    (step : ∀ i x H2, xs[i]? = some x → Same H1 H2 → ∀ Q' : VK, (∀ y H3, Same H2 H3 → R i y H3 → Q' y H3) → te ((wipe σ vs).set j (some x)) H2 Q')
    (done : ∀ H2 ys, Same H1 H2 → H2 D = some (.lst ys) → ys.length = xs.length → (∀ (i : Nat) (y : V), ys[i]? = some y → R i y H2) → Qd H2) :
    ∃ W : Nat → Nat → Hp → Prop, (∃ m, W 0 m (upd H1 D (.lst []))) ∧ ∀ i m H, W i m H →
      ((Itl K a).stop i H ∧ Qd H) ∨ ((Itl K a).go i H ∧ ∃ Nx : Hp → Prop, (∀ H', Nx H' → ∃ m', m' < m ∧ W (i + 1) m' H') ∧ ∀ x H', (Itl K a).yld i H x H' → gName j x (wipe σ vs) H' fun σ2 H2 => wipe σ2 vs = wipe σ vs ∧ tYes σ2 H2 fun b H3 =>
        if b = true then te σ2 H3 fun y H4 => ∃ acc, H4 D = some (.lst acc) ∧ acc.length < sizeLine ∧ Nx (upd H4 D (.lst (acc ++ [y]))) else Nx H3) :=
  lc_list (fun i H => Same H1 H ∧ ∃ ys, H D = some (.lst ys) ∧ ys.length = i ∧ ∀ m y, ys[m]? = some y → R m y H)
    ⟨same_new hD _, [], upd_same, rfl, fun m y q => by simp at q⟩ (fun i H _ p => up_l p.1 hs)
    (fun i x H hx p => ⟨hw x, lc_turn mono hD p (Nat.lt_of_lt_of_le (List.getElem?_eq_some_iff.mp hx).1 hz) (step i x H hx p.1)⟩)
    fun H ⟨e, ys, h1, h2, h3⟩ => done H ys e h1 h2 h3
theorem lc_mapR {n : Nat} {lo : Int} (R : Nat → V → Hp → Prop) (mono : ∀ i y H H', SameT H H' → R i y H → R i y H') (hD : H1 D = none) (hz : n ≤ sizeLine)
    (hw : ∀ x, wipe ((wipe σ vs).set j (some x)) vs = wipe σ vs)
    (step : ∀ i H2, i < n → Same H1 H2 → ∀ Q' : VK, (∀ y H3, Same H2 H3 → R i y H3 → Q' y H3) → te ((wipe σ vs).set j (some (.int (lo + i)))) H2 Q')
    (done : ∀ H2 ys, Same H1 H2 → H2 D = some (.lst ys) → ys.length = n → (∀ (i : Nat) (y : V), ys[i]? = some y → R i y H2) → Qd H2) :
    ∃ W : Nat → Nat → Hp → Prop, (∃ m, W 0 m (upd H1 D (.lst []))) ∧ ∀ i m H, W i m H →
      ((Itr lo n).stop i H ∧ Qd H) ∨ ((Itr lo n).go i H ∧ ∃ Nx : Hp → Prop, (∀ H', Nx H' → ∃ m', m' < m ∧ W (i + 1) m' H') ∧ ∀ x H', (Itr lo n).yld i H x H' → gName j x (wipe σ vs) H' fun σ2 H2 => wipe σ2 vs = wipe σ vs ∧ tYes σ2 H2 fun b H3 =>
        if b = true then te σ2 H3 fun y H4 => ∃ acc, H4 D = some (.lst acc) ∧ acc.length < sizeLine ∧ Nx (upd H4 D (.lst (acc ++ [y]))) else Nx H3) :=
  lc_range (fun i H => Same H1 H ∧ ∃ ys, H D = some (.lst ys) ∧ ys.length = i ∧ ∀ m y, ys[m]? = some y → R m y H)
    ⟨same_new hD _, [], upd_same, rfl, fun m y q => by simp at q⟩
    (fun i H hx p => ⟨hw _, lc_turn mono hD p (Nat.lt_of_lt_of_le hx hz) (step i H hx p.1)⟩)
    fun H ⟨e, ys, h1, h2, h3⟩ => done H ys e h1 h2 h3
/-- the lists' items told by a function of the place -/
theorem eq_map_of {α : Type} {ys : List V} {ds : List α} {f : α → V} (hl : ys.length = ds.length) (h : ∀ (i : Nat) (y : V), ys[i]? = some y → ∃ d, ds[i]? = some d ∧ y = f d) : ys = ds.map f := by
  refine List.ext_getElem? fun i => ?_
  rw [List.getElem?_map]
  cases e : ys[i]? with
  | none =>
    have : ds.length ≤ i := by rw [← hl]; exact List.getElem?_eq_none_iff.mp e
    rw [List.getElem?_eq_none_iff.mpr this] <;> rfl
  | some y =>
    obtain ⟨d, h1, h2⟩ := h i y e
    rw [h1, h2] <;> rfl
end
end FF
/-! Fivefault, part 6: comprehensions over zip. -/
namespace FF
open PySem PySem.Spec PyProof.Rows L2
def ItS (S : Hp → Addr → List V → Prop) (a b : Addr) : It :=
  ⟨fun i H => ∃ (xs ys : List V) (x y : V), S H a xs ∧ S H b ys ∧ xs[i]? = some x ∧ ys[i]? = some y,
    fun i H v H' => ∃ T x y, v = .ref T ∧ H T = none ∧ H' = upd H T (.tup [x, y]) ∧ (∀ xs, S H a xs → xs[i]? = some x) ∧ ∀ ys, S H b ys → ys[i]? = some y,
    fun i H => ∃ xs ys : List V, S H a xs ∧ S H b ys ∧ (xs.length ≤ i ∨ ys.length ≤ i)⟩
section
variable {K : PySem.W.Frag} {S : Hp → Addr → List V → Prop} {a b : Addr} {xs ys : List V} {te : TE} {vs : List Nat} {σ : L2.St} {H1 : Hp} {D : Addr} {Qd : Hp → Prop} {j k : Nat}
theorem lc_zipS (up : ∀ {H H' a xs}, Same H H' → S H a xs → S H' a xs) (R : Nat → V → Hp → Prop) (mono : ∀ i y H H', SameT H H' → R i y H → R i y H') (hD : H1 D = none) (hx : S H1 a xs) (hy : S H1 b ys) (hl : xs.length = ys.length) (hz : xs.length ≤ sizeLine)
    (hw : ∀ x y, wipe (((wipe σ vs).set j (some x)).set k (some y)) vs = wipe σ vs)
    (step : ∀ i x y H2, xs[i]? = some x → ys[i]? = some y → Same H1 H2 → ∀ Q' : VK, (∀ u H3, Same H2 H3 → R i u H3 → Q' u H3) → te (((wipe σ vs).set j (some x)).set k (some y)) H2 Q')
    (done : ∀ H2 us, Same H1 H2 → H2 D = some (.lst us) → us.length = xs.length → (∀ (i : Nat) (u : V), us[i]? = some u → R i u H2) → Qd H2) :
    ∃ W : Nat → Nat → Hp → Prop, (∃ m, W 0 m (upd H1 D (.lst []))) ∧ ∀ i m H, W i m H →
      ((ItS S a b).stop i H ∧ Qd H) ∨ ((ItS S a b).go i H ∧ ∃ Nx : Hp → Prop, (∀ H', Nx H' → ∃ m', m' < m ∧ W (i + 1) m' H') ∧ ∀ x H', (ItS S a b).yld i H x H' → gTup K 2 (gCons (gName j) (gCons (gName k) gNil)) x (wipe σ vs) H' fun σ2 H2 => wipe σ2 vs = wipe σ vs ∧ tYes σ2 H2 fun b H3 =>
        if b = true then te σ2 H3 fun y H4 => ∃ acc, H4 D = some (.lst acc) ∧ acc.length < sizeLine ∧ Nx (upd H4 D (.lst (acc ++ [y]))) else Nx H3) := by
  let Pv : Nat → Hp → Prop := fun i H => Same H1 H ∧ ∃ us, H D = some (.lst us) ∧ us.length = i ∧ ∀ (m : Nat) (u : V), us[m]? = some u → R m u H
  refine ⟨fun i m H => m = xs.length - i ∧ i ≤ xs.length ∧ Pv i H, ⟨xs.length, by simp, Nat.zero_le _, same_new hD _, [], upd_same, rfl, fun m u q => by simp at q⟩, ?_⟩
  rintro i m H ⟨rfl, hi, e, us, h2, h3, h4⟩
  by_cases hlt : i < xs.length
  · refine .inr ⟨⟨xs, ys, xs[i], ys[i]'(by omega), up e hx, up e hy, by simp [hlt], by simp [show i < ys.length by omega]⟩, Pv (i + 1), fun H' p' => ⟨xs.length - (i + 1), by omega, rfl, hlt, p'⟩, ?_⟩
    rintro v H' ⟨T, x, y, rfl, nT, rfl, qx, qy⟩
    refine ⟨T, [x, y], rfl, SqT.of upd_same, rfl, x, [y], rfl, y, [], rfl, rfl, hw x y, ?_⟩
    have eT := same_new nT (.tup [x, y])
    have e' := e.trans eT
    show te (((wipe σ vs).set j (some x)).set k (some y)) (upd H T (.tup [x, y])) _
    refine step i x y _ (qx xs (up e hx)) (qy ys (up e hy)) e' _ fun u H3 e3 r => ?_
    have hd := e3 _ _ (eT _ _ h2)
    refine ⟨us, hd, by omega, fun b o q => ?_, us ++ [u], upd_same, by simp [h3], fun m u' q => ?_⟩
    · rw [upd_ne (ne_of_none q hD)]
      exact e3 _ _ (e' _ _ q)
    · have eD : SameT H3 (upd H3 D (.lst (us ++ [u]))) := (SameT.refl H3).updL hd
      by_cases hm : m < us.length
      · rw [List.getElem?_append_left hm] at q
        exact mono _ _ _ _ (((Same.T eT).trans (Same.T e3)).trans eD) (h4 m u' q)
      · have : m = us.length := by
          have := (List.getElem?_eq_some_iff.mp q).1
          simp at this
          omega
        subst this
        rw [List.getElem?_append_right (Nat.le_refl _), Nat.sub_self] at q
        cases q
        rw [h3]
        exact mono _ _ _ _ eD r
  · have hi2 : i = xs.length := by omega
    exact .inl ⟨⟨xs, ys, up e hx, up e hy, .inl (by omega)⟩, done H us e h2 (by omega) h4⟩
end
theorem all_true : ∀ (n : Nat), (List.replicate n true).all id = true
  | 0 => rfl
  | n + 1 => by rw [List.replicate_succ, List.all_cons, all_true n]; rfl
end FF
/-! Fivefault, part 7: what an expression over data gives (displays of constants and names). -/
namespace FF
open PySem PySem.Spec PyProof.Rows L2
section
variable {K : PySem.W.Frag} {σ : L2.St} {H : Hp}
def EvD (K : PySem.W.Frag) (te : TE) (σ : L2.St) (H : Hp) (d : PyData) : Prop := ∀ H1, Same H H1 → ∀ Q : VK, (∀ v H2, Same H1 H2 → Dp K H2 v d → Q v H2) → te σ H1 Q
def EvDs (K : PySem.W.Frag) (ta : TA) (σ : L2.St) (H : Hp) (ds : List PyData) : Prop := ∀ H1, Same H H1 → ∀ Q : List V → Hp → Prop, (∀ vs H2, Same H1 H2 → DpAll K H2 vs ds → Q vs H2) → ta σ H1 Q
def EvDl (K : PySem.W.Frag) (te : TE) (σ : L2.St) (H : Hp) (ds : List PyData) : Prop := ∀ H1, Same H H1 → ∀ Q : VK, (∀ p vs H2, H1 p = none → Same H1 H2 → H2 p = some (.lst vs) → DpAll K H2 vs ds → Q (.ref p) H2) → te σ H1 Q
theorem ev_non : EvD K (tC .non) σ H .none := fun H1 _ Q q => q .non H1 (Same.refl H1) .non
theorem ev_bl {b : Bool} : EvD K (tC (.bl b)) σ H (.bool b) := fun H1 _ Q q => q _ H1 (Same.refl H1) (.bl b)
theorem ev_int {i : Int} : EvD K (tC (.int i)) σ H (.int i) := fun H1 _ Q q => q _ H1 (Same.refl H1) (.int i)
theorem ev_str {z : Str} : EvD K (tC (.str z)) σ H (.str z) := fun H1 _ Q q => q _ H1 (Same.refl H1) (.str z)
theorem ev_var {i : Nat} {v : V} {d : PyData} (h : σ[i]? = some (some v)) (hd : Dp K H v d) : EvD K (tVar i) σ H d := fun H1 e Q q => ⟨v, h, q v H1 (Same.refl H1) (up_d e hd)⟩
theorem evs_nil : EvDs K tNil σ H [] := fun H1 _ Q q => q [] H1 (Same.refl H1) .nil
theorem evs_cons {te : TE} {ta : TA} {d : PyData} {ds : List PyData} (h : EvD K te σ H d) (t : EvDs K ta σ H ds) : EvDs K (tCons te ta) σ H (d :: ds) := fun H1 e Q q =>
  h H1 e _ fun v H2 e2 hd => t H2 (e.trans e2) _ fun vs H3 e3 hs => q (v :: vs) H3 (e2.trans e3) (.cons (up_d e3 hd) hs)
theorem ev_tup {ta : TA} {ds : List PyData} (h : EvDs K ta σ H ds) (hl : ds.length ≤ 20000) : EvD K (tTup ta) σ H (.tuple ds) := fun H1 e Q q =>
  h H1 e _ fun vs H2 e2 hs => ⟨by rw [da_len hs]; exact le_line hl, fun p hp => q _ _ (e2.trans (same_new hp _)) (.tup (SqT.of upd_same) (up_da (same_new hp _) hs))⟩
theorem ev_lst {ta : TA} {ds : List PyData} (h : EvDs K ta σ H ds) (hl : ds.length ≤ 20000) : EvD K (tLst ta) σ H (.list ds) := fun H1 e Q q =>
  h H1 e _ fun vs H2 e2 hs => ⟨by rw [da_len hs]; exact le_line hl, fun p hp => q _ _ (e2.trans (same_new hp _)) (.lst (SqL.of upd_same) (up_da (same_new hp _) hs))⟩
theorem evl_lst {ta : TA} {ds : List PyData} (h : EvDs K ta σ H ds) (hl : ds.length ≤ 20000) : EvDl K (tLst ta) σ H ds := fun H1 e Q q =>
  h H1 e _ fun vs H2 e2 hs => ⟨by rw [da_len hs]; exact le_line hl, fun p hp => q p vs _ ((Same.trans e2 (Same.refl _)).free hp) (e2.trans (same_new hp _)) upd_same (up_da (same_new hp _) hs)⟩
end
theorem da_mem {K : PySem.W.Frag} {H : Hp} : ∀ {vs : List V} {ds : List PyData} {v : V}, DpAll K H vs ds → v ∈ vs → ∃ d, d ∈ ds ∧ Dp K H v d
  | _, _, _, .cons h t, m => by
    rcases List.mem_cons.mp m with e | m
    · rw [e]; exact ⟨_, List.mem_cons_self .., h⟩
    · obtain ⟨d, h1, h2⟩ := da_mem t m
      exact ⟨d, List.mem_cons_of_mem _ h1, h2⟩
end FF
/-! Fivefault, part 8: the rules that name the written part, with K said outright (for comprehensions' blocks). -/
namespace FF
open PySem PySem.Spec PyProof.Rows L2
section
variable (K : PySem.W.Frag) {X : Cx}
theorem ix_listK (h : X.K = K := by rfl) : IxR X (rIxL K) := by subst h; exact ix_list
theorem ix_tupK (h : X.K = K := by rfl) : IxR X (rIxT K) := by subst h; exact ix_tup
theorem call_lenK (h : X.K = K := by rfl) : CallR X (.builtin "len") (fun xs H Q => ∃ x n, xs = [x] ∧ LenV K x H n ∧ Q (.int n) H) := by subst h; exact call_len
theorem call_isK {T : String} {f : PyData → Bool} (hk : ∀ d, kitB (tyN d) T = some (f d)) (h : X.K = K := by rfl) : CallR X (.builtin "isinstance") (rIsD K T f) := by subst h; exact call_isD hk
theorem op_eqK (hu : X.A.units + 64 < cLine) (h : X.K = K := by rfl) : OpR X (compareOp .Eq) (rEqD K) := by subst h; exact op_eqD hu
theorem op_neK (hu : X.A.units + 64 < cLine) (h : X.K = K := by rfl) : OpR X (compareOp .NotEq) (rNeD K) := by subst h; exact op_neD hu
theorem op_inK (hu : X.A.units + 65 < cLine) (h : X.K = K := by rfl) : OpR X (compareOp .In) (rInDs K false) := by subst h; exact op_inDs hu
theorem op_notInK (hu : X.A.units + 65 < cLine) (h : X.K = K := by rfl) : OpR X (compareOp .NotIn) (rInDs K true) := by subst h; exact op_notInDs hu
theorem op_in_seqK (h : X.K = K := by rfl) : OpR X (compareOp .In) (rIn K false) := by subst h; exact op_in_seq
theorem op_notIn_seqK (h : X.K = K := by rfl) : OpR X (compareOp .NotIn) (rIn K true) := by subst h; exact op_notIn_seq
theorem sl_tupK (h : X.K = K := by rfl) : SlR X (rSlT K) := by subst h; exact sl_tup
theorem sl_listK (h : X.K = K := by rfl) : SlR X (rSlL K) := by subst h; exact sl_list
theorem call_list_ofK (h : X.K = K := by rfl) : CallR X (.type "list") (fun xs H Q => ∃ p ys, xs = [.ref p] ∧ (SqL K H p ys ∨ SqT K H p ys) ∧ ∀ l, H l = none → Q (.ref l) (upd H l (.lst ys))) := by subst h; exact call_list_of
theorem call_tuple_ofK (h : X.K = K := by rfl) : CallR X (.type "tuple") (fun xs H Q => ∃ p ys, xs = [.ref p] ∧ ((SqL K H p ys ∧ ∀ l, H l = none → Q (.ref l) (upd H l (.tup ys))) ∨ (SqT K H p ys ∧ Q (.ref p) H))) := by subst h; exact call_tuple_of
theorem cr_sumK (hc : X.calm = true) (h : X.K = K := by rfl) : CallR X (.builtin "sum") (rSum K) := by subst h; exact cr_sum hc
theorem cr_allK (hc : X.calm = true) (h : X.K = K := by rfl) : CallR X (.builtin "all") (rAll K) := by subst h; exact cr_all hc
theorem cr_anyK (hc : X.calm = true) (h : X.K = K := by rfl) : CallR X (.builtin "any") (rAny K) := by subst h; exact cr_any hc
theorem cr_sortedK (h : X.K = K := by rfl) : CallR X (.builtin "sorted") (rSorted K) := by subst h; exact cr_sorted
theorem cr_sortedSK (h : X.K = K := by rfl) : CallR X (.builtin "sorted") (rSortedS K) := by subst h; exact cr_sortedS
theorem pg_tupK {es : List Expr} {k : Nat} {t : TGs} {n : Nat} {pos : Pos} (hc : X.calm = true) (h : PGs X es t) (hk : X.K = K := by rfl)
    (hn : (assignEach es X.env).length = n := by rfl) (hst : (assignEach es X.env).findIdx? (·.1) = none := by rfl) : PG X (.Tuple es k pos) (gTup K n t) := by subst hk; exact pg_tup hc h hn hst
theorem pi_listK {tg l : Expr} {tl : TE} (hl : PE X l tl) (h : X.K = K := by rfl) : PI X tg l (iList K tl) := by subst h; exact pi_list hl
theorem pi_tupK {tg l : Expr} {tl : TE} (hl : PE X l tl) (h : X.K = K := by rfl) : PI X tg l (iTup K tl) := by subst h; exact pi_tup hl
theorem pi_zipK {e e2 : Expr} {ta : TA} {p pos tpos : Pos} {elts : List Expr} {kk : Nat} (hg : Gl X "zip") (hm : X.mg "zip" = none) (ha : PA X [e, e2] ta) (h : X.K = K := by rfl)
    (hs : starEach [e, e2] X.env = (false, eval e X.env) :: starEach [e2] X.env := by rfl) (hpl : (backTo pos (starEach [e2] X.env)).any (·.1) = false := by rfl) :
    PI X (.Tuple elts kk tpos) (.Call (.Name "zip" p) [e, e2] [] pos) (RZ.iZipA K ta) := by subst h; exact RZ.pi_zipA hg hm ha hs hpl
theorem pi_enumK {e : Expr} {ta : TA} {p pos tpos : Pos} {elts : List Expr} {kk : Nat} (hg : Gl X "enumerate") (hm : X.mg "enumerate" = none) (ha : PA X [e] ta) (h : X.K = K := by rfl) (hs : starEach [e] X.env = [(false, eval e X.env)] := by rfl) :
    PI X (.Tuple elts kk tpos) (.Call (.Name "enumerate" p) [e] [] pos) (iEnum K ta) := by subst h; exact pi_enum hg hm ha hs
theorem pe_bm0K {T name id : String} {r : V → List V → Hp → VK → Prop} {o : Expr} {to : TE} {apos cpos : Pos} (pa : PlainAttrs T) (slot : Slot T name id) (hty : typeOf (.builtin id) = pure (.type "method_descriptor")) (hm : MtR X id r) (ho : PE X o to) (h : X.K = K := by rfl)
    (hbase : attributeBase o name X.env (eval o X.env) = eval o X.env := by rfl) (hline : (apos.endLine == cpos.line) = true := by rfl) : PE X (.Call (.Attribute o name apos) [] [] cpos) (tBM0 K T r to) := by subst h; exact pe_bm0 pa slot hty hm ho hbase hline
theorem pe_bmK {T name id : String} {r : V → List V → Hp → VK → Prop} {o e : Expr} {es : List Expr} {to : TE} {t : TA} {apos cpos : Pos} (pa : PlainAttrs T) (slot : Slot T name id) (hty : typeOf (.builtin id) = pure (.type "method_descriptor")) (hm : MtR X id r) (ho : PE X o to) (ha : PA X (e :: es) t) (h : X.K = K := by rfl)
    (hbase : attributeBase o name X.env (eval o X.env) = eval o X.env := by rfl)
    (hfew : ((backTo cpos (starEach (e :: es) X.env)).all (fun x => !x.1) && (backToKw cpos (keywordEach [] X.env)).all (fun x => x.1.isSome)
      && decide ((e :: es).length + ([] : List Keyword).length + (if ([] : List Keyword).isEmpty then 0 else 1) < 30)) = true := by rfl)
    (hline : (apos.endLine == cpos.line) = true := by rfl) (hs : starEach (e :: es) X.env = (false, eval e X.env) :: starEach es X.env := by rfl) (hplain : (backTo cpos (starEach es X.env)).any (·.1) = false := by rfl) :
    PE X (.Call (.Attribute o name apos) (e :: es) [] cpos) (tBM K T r to t) := by subst h; exact pe_bm pa slot hty hm ho ha hbase hfew hline hs hplain
end
end FF
namespace FF
open L2
theorem seq_asg {te : TE} {i : Nat} {u : TS} {D : Ends} {σ : L2.St} {H : Hp} (h : te σ H fun x H1 => u D (σ.set i (some x)) H1) : tSeq (tAsg te (gName i)) u D σ H := h
theorem ret_of {te : TE} {D : Ends} {σ : L2.St} {H : Hp} (h : te σ H D.rt) : tRet te D σ H := h
theorem op_of {r : R2} {ta tb : TE} {σ : L2.St} {H : Hp} {Q : VK} (h : ta σ H fun x H1 => tb σ H1 fun y H2 => r x y H2 Q) : tOp r ta tb σ H Q := h
end FF
namespace FF
open PySem PySem.Spec PyProof.Rows L2
theorem fn_mk {P : Program} {w : World} {K : PySem.W.Frag} {mg : Str → Option Value} {base : Heap} {x : Str} {st : Stmt} {f : Addr} {fd : FuncData} {dvs : List V} {kws : List (Str × V)} {N ps : List Str} {k : Nat} {sp : Sp} (F : FunD K x x (defArgs st) (defBody st) (defScope st) dvs kws f fd)
    (S : FnScope N ps (defScope st)) (len : ∀ vs H Q E, sp vs H Q E → vs.length = ps.length)
    (body : ∀ (cdv : Value) (A : Around) (outer : List Env) (s : Shared) (H : Hp) (vs : List V) (Q : VK) (E : XK), Room k (A.deeper (envOfC x (defScope st) s.heap.objs.size f cdv)) → sp vs H Q E →
      ∃ t, PSs (cxOf CX0 P w K mg base N x (defScope st) f cdv A outer s H E).nox (defBody st) t ∧ t { nx := fun _ H' => Q .non H', rt := Q } (start N vs) H) : FnOk P w K mg base CX0 (k + 1) f fd ps sp :=
  FunD.ok F S len fun cdv A outer s H vs Q E hr h => let ⟨t, a, b⟩ := body cdv A outer s H vs Q E hr h; ⟨t, PSs.nox a, b⟩
theorem da_rep {K : PySem.W.Frag} {H : Hp} {v : V} {d : PyData} (h : Dp K H v d) : ∀ n : Nat, DpAll K H (List.replicate n [v]).flatten (List.replicate n d)
  | 0 => .nil
  | n + 1 => by
    rw [List.replicate_succ, List.replicate_succ, List.flatten_cons]
    exact .cons h (da_rep h n)
theorem flat_len {v : V} : ∀ n : Nat, (List.replicate n [v]).flatten.length = n
  | 0 => rfl
  | n + 1 => by rw [List.replicate_succ, List.flatten_cons, List.length_append, flat_len n, List.length_singleton]; omega
end FF
namespace FF
open PySem PySem.Spec PyProof.Rows L2
/-- a <= b <= c, both answers at once -/
theorem chain_le {a b c : Int} {tc : TE} {σ : L2.St} {H : Hp} {Q : VK} (hc : ∀ Q' : VK, Q' (.int c) H → tc σ H Q') (h : Q (.bl (decide (a ≤ b) && decide (b ≤ c))) H) :
    rI0 (fun i j => .bl (decide (i ≤ j))) (.int a) (.int b) H fun z H3 => ∃ k, z = .bl k ∧ if k = true then tc σ H3 fun w H4 => rI0 (fun i j => .bl (decide (i ≤ j))) (.int b) w H4 Q else Q (.bl false) H3 := by
  refine ⟨_, _, rfl, rfl, _, rfl, ?_⟩
  refine if_dec (fun h1 => ?_) (fun h1 => ?_)
  · rw [decide_eq_true h1, Bool.true_and] at h
    exact hc _ ⟨_, _, rfl, rfl, h⟩
  · rw [decide_eq_false h1, Bool.false_and] at h
    exact h
end FF
namespace FF
open PySem PySem.Spec PyProof.Rows L2
/-- a promise that is never asked -/
theorem def_none {P : Program} {w : World} {K : PySem.W.Frag} {mg : Str → Option Value} {base : Heap} {x qual : Str} {params : Arguments} {body : List Stmt} {scope : Scope} {dvs : List V} {kws : List (Str × V)} {f : Addr} {fd : FuncData} {ps : List Str} {sp : Sp}
    (F : FunD K x qual params body scope dvs kws f fd) (hm : mg x = some (.ref f)) (hb : Binds K fd ps []) (no : ∀ vs H Q E, ¬ sp vs H Q E) : Def P w K mg base x 0 ps sp :=
  ⟨f, fd, ⟨fun vs H Q E h => absurd h (no vs H Q E), fun A outer s H args us vs Q E _ _ _ _ h => absurd h (no vs H Q E)⟩, hm, F.kp, hb⟩
end FF
/-! Fivefault, part 9: exceptions with own __init__s that call the base's; clauses with names; f(lambda: ..). -/
namespace FF
open PySem PySem.Spec PyProof.Rows L2
/-! ### C.m(self, ..), m a def of the class C -/
section
variable {X : Cx} {CX : CXT} {k : Nat} {C g : Addr} {mc : Value} {fd : FuncData} {ps : List Str} {sp : Sp} {E : XK} {x m : Str} {p1 p2 pos : Pos} {e : Expr} {es : List Expr} {t : TA}
theorem pe_clsfn {pl : Sem Bool} (hg : Gl X x) (hm : X.mg x = some (.ref C)) (r : ClX.CRead X.K C mc) (c : ClX.CVal X.K C mc m (.ref g) (.ref g)) (F : FnOk X.prog X.w X.K X.mg X.base CX k g fd ps sp) (hr : Room k X.A) (hk : PySem.W.keepIn X.K (.ref g) = true) (hb : Binds X.K fd ps []) (hx : Passes CX X E)
    (ha : PA X (e :: es) t) (hd : (x == ("__debug__" : Str)) = false := by decide)
    (hc : eval (.Call (.Attribute (.Name x p1) m p2) (e :: es) [] pos) X.env = (do
      let ov ← eval (.Name x p1) X.env
      standAt p2.atName
      let (f, first) ← holding [ov] (getMethod ov m pl)
      callWith pos f first (backTo pos (starEach (e :: es) X.env)) (backToKw pos (keywordEach [] X.env))) := by rfl)
    (he : starEach (e :: es) X.env = (false, eval e X.env) :: starEach es X.env := by rfl) (hpl : (backTo pos (starEach es X.env)).any (·.1) = false := by rfl) :
    PE X (.Call (.Attribute (.Name x p1) m p2) (e :: es) [] pos) (tCall sp [] E t) := by
  refine ⟨fun pins s σ H Q I h => ?_⟩
  refine PySem.W.methodCall_KW (pl := pl) (ld_glob I hg hm ?_ hd) hc
  refine PySem.W.method_cls I.kIn r.ga (ClX.getcval_ok I r c fun s' I' => ?_)
  refine PySem.W.callWith_K (h₀ := X.base) I.ok.mod.kin hk (thn (ha.run pos pins s' σ H _ I' h) fun us s1 ⟨vs, H1, I1, r1, q⟩ => ⟨I1.kIn, ?_⟩) he hpl
  exact run_fn F hr hb .nil hx I1 r1 q
end
/-! ### C(): an own exception without arguments -/
section
variable {X : Cx} {p pos : Pos}
theorem pmk_oex0 {CX : CXT} {x : Str} {C fI : Addr} {k : Nat} {fd : FuncData} {ps : List Str} {sp : Sp} (T : OexC X.K C) (iC : PySem.W.findIn X.K (.ref C) "__init__" = some (some (.ref fI))) (tI : PySem.W.typeIn X.K (.ref fI) = some (.type "function"))
    (F1 : FnOk X.prog X.w X.K X.mg X.base CX k fI fd ps sp) (hr : Room (k + 1) X.A) (hb : Binds X.K fd ps []) (hx : Passes CX X (fun _ _ _ => False)) (hg : Gl X x) (hm : X.mg x = some (.ref C)) (hdb : (x == ("__debug__" : Str)) = false := by decide) :
    PMk X (.Call (.Name x p) [] [] pos) (tMkO C sp [] tNil) := by
  intro pins s σ H Q I h
  obtain ⟨nm, q, N, bs, bm, sn, sub, ab, col, dd, k0, k1, k2, k3, k5, hC, hbm⟩ := T.cls
  refine wpAny_Call_Name_kw (ld_glob I hg hm ?_ hdb)
  refine PySem.W.callWith_K0 (first := []) I.kIn T.kC ?_
  obtain ⟨hz, q1⟩ := h
  show wpAny _ _ (call (.ref C) []) _ _ _
  obtain ⟨hp, g, dr, tk, os⟩ := s
  have hsz : hp.objs.size ≤ hp.objs.size + 1 := Nat.le_succ _
  have hn : H (hp.objs.size + 1) = none := I.hok.fresh hsz
  have hq := q1 (hp.objs.size + 1) hn
  have kk : ∀ b o, hp.get? b = some o → ((hp.push (PySem.W.kdv_tup [])).push (PySem.HandSPX.excO C hp.objs.size)).get? b = some o := fun b o e => Heap.get?_push_of_some _ (Heap.get?_push_of_some _ e)
  have hget : ((hp.push (PySem.W.kdv_tup [])).push (PySem.HandSPX.excO C hp.objs.size)).get? (hp.objs.size + 1) = some (PySem.HandSPX.excO C hp.objs.size) := by heap_get
  have I2 : Inv X pins σ (upd H (hp.objs.size + 1) (exo (hp.objs.size + 1) C none)) ⟨(hp.push (PySem.W.kdv_tup [])).push (PySem.HandSPX.excO C hp.objs.size), g, dr, tk, os⟩ :=
    I.laid (t' := tk) (a := hp.objs.size + 1) (o := exo (hp.objs.size + 1) C none) (h' := (hp.push (PySem.W.kdv_tup [])).push (PySem.HandSPX.excO C hp.objs.size)) kk hsz (exo_ok hget)
  have r2 : Vals [V.ref (hp.objs.size + 1)] [Value.ref (hp.objs.size + 1)] := .cons rfl .nil
  have hl : ([Value.ref (hp.objs.size + 1)] ++ ([] : List Value)).length = ps.length := by
    have e := F1.len _ _ _ _ hq
    show 1 = ps.length
    exact e
  refine wpAny_call (PySem.HandSPX.call_own F.excBase_ValueError (fun Y => PySem.HandSPX.refsVE_contains Y bm hbm) (I.kIn _ _ hC) (PySem.W.looks_findIn I.kIn iC) (fun self => PySem.W.bind_fn I.kIn self tI) (Nat.zero_le _)
    (codeAny_mono (F1.run _ X.stack _ _ ⟨[Value.ref (hp.objs.size + 1)], []⟩ [Value.ref (hp.objs.size + 1)] _ _ (fun _ _ _ => False) (hr.make C [] []) (I2.env0.make C [] []) (hb _ [Value.ref (hp.objs.size + 1)] I2.kIn hl) r2 hq) fun r s' hq' => ?_))
  cases r with
  | error er => exact hx pins σ _ _ er s' I2 hq'
  | ok fl =>
    cases fl with
    | ret u =>
      obtain ⟨v, H2, os2, bare2, un2, hok2, rv, ev, d, fs, ea, ed, hd1, q2⟩ := hq'
      subst ev
      obtain ⟨h2, g2, d2, t2, os'⟩ := s'
      exact ⟨rv, mk_end (raises_own T.exC T.tyC) I hsz kk un2 hok2 os2 bare2 ea ed hd1 q2⟩
    | next => exact False.elim hq'
    | brk => exact False.elim hq'
    | cont => exact False.elim hq'
end
/-! ### try .. except A as e: .. except B as e: .. -/
abbrev asEnds (i : Nat) (D : Ends) : Ends := { nx := fun σ' H' => D.nx (σ'.set i none) H', rt := D.rt, bk := fun σ' H' => D.bk (σ'.set i none) H', ct := fun σ' H' => D.ct (σ'.set i none) H' }
def wManyA (K : PySem.W.Frag) (i : Nat) (Wout : WX) (D : Ends) : List (Value × (Addr → Value → Option Addr → TS)) → WX
  | [] => Wout
  | (c, ts) :: r => fun cls d σ H => ∃ b, PySem.W.exmOne K cls c = some b ∧ (b = true → ∀ a, H a = none → ts a cls d (asEnds i D) (σ.set i (some (.ref a))) H) ∧ (b = false → wManyA K i Wout D r cls d σ H)
inductive HdsA (X : Cx) (n : Str) : List ExceptHandler → List (Value × (Addr → Value → Option Addr → TS)) → Prop
  | nil : HdsA X n [] []
  | cons {x : Str} {c : Value} {ts : Addr → Value → Option Addr → TS} {b₀ : Stmt} {suite : List Stmt} {np pos' : Pos} {hds : List ExceptHandler} {l : List (Value × (Addr → Value → Option Addr → TS))} (hc : Names X x c)
      (hsu : ∀ (a : Addr) (oe : Obj) (cls : Value) (d : Option Addr) (pn : List (Addr × Obj)), Zc cls d oe → (∃ vs, oe.data = .fields vs) → PSs (X.suite a ((a, oe) :: pn)) (b₀ :: suite) (ts a cls d)) (r : HdsA X n hds l) :
      HdsA X n (.ExceptHandler (some (.Name x np)) (some n) (b₀ :: suite) pos' :: hds) ((c, ts) :: l)
section
variable {X : Cx} {n : Str} {i : Nat} {body : List Stmt} {h₀ : ExceptHandler} {hds : List ExceptHandler} {l : List (Value × (Addr → Value → Option Addr → TS))} {pos : Pos} {tb : WX → TS} {Wout : WX}
theorem ps_try_manyA (hs : X.stack = X.env :: X.outer) (hf : X.env.frame = some X.env.locals) (hN : X.N.Nodup) (hi : X.N[i]? = some n) (hln : X.env.kindOf n = some .local) (tk : Takes X Wout)
    (hb : ∀ (W : WX) (pn : List (Addr × Obj)) (xe : Value → Shared → Prop), Takes (X.tr pn xe) W → PassesOwn (model X.prog X.w) X.A X.env xe → PSs (X.tr pn xe) body (tb W))
    (hh : HdsA X n (h₀ :: hds) l) : PS X (.Try body (h₀ :: hds) [] [] pos) (fun D σ H => tb (wManyA X.K i Wout D l) D σ H) := by
  refine ⟨fun pins s σ H D I h => ?_⟩
  have ok := I.ok
  have hfr : X.A.frames = some (X.env :: X.outer) := by rw [ok.frames, hs]
  have hloc : Loc X.env.scope n := .inl hln
  refine wpAny_Try_except ?_
  refine wpAny_mono ((hb (wManyA X.K i Wout D l) (X.pn ++ pins) (fun e s₁ => wpAny (model X.prog X.w) X.A (noteFrame e X.env) (fun _ s₂ => wpAny (model X.prog X.w) X.A (setFlight e none) (fun _ s₃ =>
    wpAny (model X.prog X.w) X.A (handleBy e X.env (h₀ :: hds)) (SP X pins D) X.xe s₃) X.xe s₂) X.xe s₁) (fun u s' xx => ?_) PassesOwn.looking).run [] s σ H D (I.toTry _) h) (fun f s1 hsp => ?_) (fun e s1 he => he)
  · obtain ⟨a, B, sI, pins', σ', H', cls, d, rfl, J', nb, up, sky, na, os, ag, w⟩ := xx
    have J : Inv X pins σ' H' sI := J'.ofTry ok
    have sky' : Sky B (X.env :: X.outer) a (Zc cls d) X.env.locals s'.heap := by rw [← hs]; exact sky
    show wpAny (model X.prog X.w) X.A (noteFrame (.ref a) X.env) _ _ _
    refine Sky.land Zc.steady hfr hf sky' fun h3 fl3 up3 => ?_
    have J3 : Inv X pins σ' H' { s' with heap := h3 } := J.landed nb fl3.1 (up.trans up3) os ag
    obtain ⟨oe3, vs3, he3, hz3, hd3⟩ := fl3.there
    have notFr : ∀ {h : Heap} {o : Obj} {vs : Array Value}, h.FunFrames B (X.env :: X.outer) → h.get? a = some o → o.data = .fields vs → a ∉ frs (X.env :: X.outer) := fun {h o vs} ff e dd hm => by
      obtain ⟨_, o', e', hnf⟩ := ff.mem hm
      rw [e] at e'; cases e'
      exact hnf _ dd
    have nfr := notFr fl3.2.2.1 he3 hd3
    have nL : a ≠ X.env.locals := fun z => nfr (List.mem_filterMap.mpr ⟨X.env, List.mem_cons_self, by rw [hf, z]⟩)
    have nF : a ∉ X.fs := fun hm => by
      obtain ⟨e, he, q⟩ := List.mem_filterMap.mp hm
      exact nfr (List.mem_filterMap.mpr ⟨e, List.mem_cons_of_mem _ he, q⟩)
    have S3 := J3.suite he3 hd3 na nL nF
    have go : ∀ {hds' : List ExceptHandler} {l' : List (Value × (Addr → Value → Option Addr → TS))}, HdsA X n hds' l' → wManyA X.K i Wout D l' cls d σ' H' →
        wpAny (model X.prog X.w) X.A (handleBy (.ref a) X.env hds') (SP X pins D) X.xe { s' with heap := h3 } := by
      intro hds' l' hk
      induction hk with
      | nil =>
        intro w
        refine wpAny_handleBy_nil ?_
        obtain ⟨k1, k2, k3, oe, vs, T, oT, ts', he, hz, hd, h1, hr⟩ := id fl3
        unfold PySem.passOn
        refine wpAny_bind (wpAny_field he hd h1 ?_)
        rw [if_neg (show ¬ ((Value.ref T == Value.none) = true) from by simp)]
        have fin : wpAny (model X.prog X.w) X.A (setFlight (.ref a) X.env.frame) (fun _ s4 => wpAny (model X.prog X.w) X.A (throw (.ref a) : Sem Flow) (SP X pins D) X.xe s4) X.xe { s' with heap := h3 } := by
          rw [hf]
          refine HandSPX.setFlight_upZ fl3 fun h4 hh4 up4 => wpAny_throw (tk _ _ ?_)
          exact ⟨a, B, sI, pins, σ', H', cls, d, rfl, J, nb, (up.trans up3).trans up4, .inr (.inr (by rw [hs]; exact hh4)), na, os, ag, w⟩
        first
          | exact wpAny_bind (wpAny_pure (wpAny_bind fin))
          | exact wpAny_bind fin
      | @cons x c ts b₀ suite np pos' hds2 l2 hc hsu r ih =>
        intro w
        obtain ⟨b, hb1, hyes, hno⟩ := w
        refine wpAny_handleBy_cons (codeAny_handlers_test ?_) (by intro q; cases q)
        have LT : PySem.W.Looks (model X.prog X.w) h3 (typeOf (.ref a)) cls := fun A Q E s k q => wpAny_typeOf_ref (k _ _ he3) (by rw [hz3.1]; exact q)
        have LM := PySem.W.exm_one (M := model X.prog X.w) (J3.kIn) LT hb1
        have test : ∀ {Q : Value → Shared → Prop} {E : Value → Shared → Prop}, Q c { s' with heap := h3 } → wpAny (model X.prog X.w) (X.A.mark (some (.ref a))) (eval (.Name x np) X.env) Q E { s' with heap := h3 } := fun {Q E} q => by
          obtain ⟨hg, hdbg, hm | ⟨hm, hv, hnn⟩⟩ := hc
          · exact ld_glob (X := X.suite a ((a, oe3) :: (X.pn ++ pins))) S3 hg hm q hdbg
          · exact ld_blt (X := X.suite a ((a, oe3) :: (X.pn ++ pins))) S3 hg hm hv q hnn hdbg
        refine test (LM.here ?_)
        cases b with
        | true =>
          refine codeAny_handlers_suite_as ?_
          refine HandSPX.lands_againZ fl3 fun h4 fl4 up4 => ?_
          have J4 : Inv X pins σ' H' { s' with heap := h4 } := J.landed nb fl4.1 ((up.trans up3).trans up4) os ag
          obtain ⟨oe4, vs4, he4, hz4, hd4⟩ := fl4.there
          have S4 := J4.suite he4 hd4 na nL nF
          refine store_ok (X := X.suite a ((a, oe4) :: (X.pn ++ pins))) (v := .ref a) S4 hN hi hloc rfl (fun s5 S5 => ?_) (.inr hln)
          refine wpAny_mono ((hsu a oe4 cls d (X.pn ++ pins) hz4 ⟨_, hd4⟩).run [] s5 _ H' _ S5 (hyes rfl a na)) (fun f s6 hsp => ?_) (fun _ _ z => False.elim z)
          have end_ : ∀ {σ6 : L2.St} {H6 : Hp} {Q : Shared → Prop}, Inv (X.suite a ((a, oe4) :: (X.pn ++ pins))) [] σ6 H6 s6 → (∀ s7, Inv X pins (σ6.set i none) H6 s7 → Q s7) →
              wpAny (model X.prog X.w) X.A (do bindName X.env n .none; unbindBehindTheSuite X.env n pos') (fun _ s7 => Q s7) X.xe s6 := fun {σ6 H6 Q} S6 hq => gone_ok (S6.unsuite ok) hN hi hln hq
          cases f with
          | next =>
            obtain ⟨σ6, H6, S6, q6⟩ := hsp
            exact end_ S6 fun s7 J7 => ⟨_, _, J7, q6⟩
          | brk =>
            obtain ⟨σ6, H6, S6, q6⟩ := hsp
            exact end_ S6 fun s7 J7 => ⟨_, _, J7, q6⟩
          | cont =>
            obtain ⟨σ6, H6, S6, q6⟩ := hsp
            exact end_ S6 fun s7 J7 => ⟨_, _, J7, q6⟩
          | ret u =>
            obtain ⟨v6, σ6, H6, S6, r6, q6⟩ := hsp
            exact end_ S6 fun s7 J7 => ⟨_, _, _, J7, r6, q6⟩
        | false =>
          show wpAny _ X.A (handleBy (.ref a) X.env hds2) _ _ _
          exact ih (hno rfl)
    exact go hh w
  · cases f with
    | next =>
      obtain ⟨σ', H', J', q⟩ := hsp
      exact wpAny_execs_nil ⟨σ', H', J'.ofTry ok, q⟩
    | brk =>
      obtain ⟨σ', H', J', q⟩ := hsp
      exact ⟨σ', H', J'.ofTry ok, q⟩
    | cont =>
      obtain ⟨σ', H', J', q⟩ := hsp
      exact ⟨σ', H', J'.ofTry ok, q⟩
    | ret u =>
      obtain ⟨v, σ', H', J', r, q⟩ := hsp
      exact ⟨v, σ', H', J'.ofTry ok, r, q⟩
end
theorem pss_ex {X : Cx} {st : List Stmt} {α : Type} {p : α → Prop} {t : α → TS} (h : ∀ c, p c → PSs X st (t c)) : PSs X st (fun D σ H => ∃ c, p c ∧ t c D σ H) :=
  ⟨fun pins s σ H D I ⟨c, hc, q⟩ => (h c hc).run pins s σ H D I q⟩
end FF
/-! Fivefault, part 10: own exceptions told of, defs that raise, f(lambda: ..) caught by clauses. -/
namespace FF
open PySem PySem.Spec PyProof.Rows L2
/-! ### what the written part says of an own class of exceptions, by a Bool -/
def oexB (K : PySem.W.Frag) (C : Addr) : Bool := match K.lookup C with
  | some ⟨.type "type", _, .cls cd, sl⟩ => (match cd.mro, sl.toList with
    | .ref C' :: bm, [_, _, _, _, some (.builtin n), _] => C' == C && n == "ValueError.__new__" && !cd.hasDel && cd.hasDict && PySem.HandSPX.refsVE bm
    | _, _ => false)
  | _ => false
theorem oexB_ok {K : PySem.W.Frag} {C : Addr} (q : oexB K C = true) : ∃ nm q N bs bm sn sub ab col dd k0 k1 k2 k3 k5, K.lookup C = some (excClassObj nm q C N bs bm true sn sub ab col dd k0 k1 k2 k3 k5 "ValueError.__new__") ∧ PySem.HandSPX.refsVE bm = true := by
  unfold oexB at q
  split at q
  · rename_i dd cd sl ho
    split at q
    · rename_i C' bm k0 k1 k2 k3 n k5 hm hs
      simp only [Bool.and_eq_true, beq_iff_eq, Bool.not_eq_true'] at q
      obtain ⟨⟨⟨⟨rfl, rfl⟩, hdel⟩, hdict⟩, ht⟩ := q
      obtain ⟨nm, bs, mro, ns, qn, hd, sn, sub, ab, col, del⟩ := cd
      dsimp only at hm hdel hdict
      subst hm hdel hdict
      have hsl : sl = #[k0, k1, k2, k3, some (.builtin "ValueError.__new__"), k5] := by
        obtain ⟨l⟩ := sl
        simp only at hs
        rw [hs]
      subst hsl
      exact ⟨nm, qn, ns, bs, bm, sn, sub, ab, col, dd, k0, k1, k2, k3, k5, ho, ht⟩
    · cases q
  · cases q
/-- an own class C of exceptions: raised, caught, its code read -/
structure OwnC (K : PySem.W.Frag) (C : Addr) : Prop where
  o : OexC K C
  xf : XfC K C
  noc : PySem.W.findIn K (.ref C) "code" = some none
def ownCB (K : PySem.W.Frag) (C : Addr) : Bool := oexB K C && (He.eqO (PySem.W.findIn K (.ref C) "__setattr__") (some (some (.builtin "object.__setattr__"))) && (decide (PySem.W.subIn K (.ref C) (.type "BaseException") = some true) && (decide (PySem.W.typeIn K (.ref C) = some (.type "type")) &&
  (PySem.W.keepIn K (.ref C) && (xfB K C && He.eqO (PySem.W.findIn K (.ref C) "code") (some none))))))
theorem ownCB_ok {K : PySem.W.Frag} {C : Addr} (h : ownCB K C = true) : OwnC K C := by
  obtain ⟨h1, h⟩ := He.ba h
  obtain ⟨h2, h⟩ := He.ba h
  obtain ⟨h3, h⟩ := He.ba h
  obtain ⟨h4, h⟩ := He.ba h
  obtain ⟨h5, h⟩ := He.ba h
  obtain ⟨h6, h7⟩ := He.ba h
  exact ⟨⟨oexB_ok h1, He.eqO_ok h2, of_decide_eq_true h3, of_decide_eq_true h4, h5⟩, xfB_ok h6, He.eqO_ok h7⟩
/-- the class x: an own class whose own __init__ is a def; caught as y -/
structure OwnX (K : PySem.W.Frag) (x y : Str) : Prop where
  c : OwnC K (He.ga K x)
  ini : PySem.W.findIn K (.ref (He.ga K x)) "__init__" = some (some (.ref (He.ma K (He.ga K x) "__init__")))
  tyI : PySem.W.typeIn K (.ref (He.ma K (He.ga K x) "__init__")) = some (.type "function")
  exm : PySem.W.exmOne K (.ref (He.ga K x)) (.ref (He.ga K y)) = some true
def ownXB (K : PySem.W.Frag) (x y : Str) : Bool := ownCB K (He.ga K x) && (He.eqO (PySem.W.findIn K (.ref (He.ga K x)) "__init__") (some (some (.ref (He.ma K (He.ga K x) "__init__")))) && (decide (PySem.W.typeIn K (.ref (He.ma K (He.ga K x) "__init__")) = some (.type "function")) &&
  decide (PySem.W.exmOne K (.ref (He.ga K x)) (.ref (He.ga K y)) = some true)))
theorem ownXB_ok {K : PySem.W.Frag} {x y : Str} (h : ownXB K x y = true) : OwnX K x y := by
  obtain ⟨h1, h⟩ := He.ba h
  obtain ⟨h2, h⟩ := He.ba h
  obtain ⟨h3, h4⟩ := He.ba h
  exact ⟨ownCB_ok h1, He.eqO_ok h2, of_decide_eq_true h3, of_decide_eq_true h4⟩
/-- x.__init__ read from the class x; ValueError.__init__ -/
structure FeC (K : PySem.W.Frag) (x : Str) : Prop where
  rd : ClX.CRead K (He.ga K x) (.type "type")
  at_ : PySem.W.findCls K (.ref (He.ga K x)) (.type "type") "__init__" = some (.val (.ref (He.ma K (He.ga K x) "__init__")))
  kp : PySem.W.keepIn K (.ref (He.ma K (He.ga K x) "__init__")) = true
  ve : PySem.W.findCls K (.type "ValueError") (.type "type") "__init__" = some (.val (.builtin "ValueError.__init__"))
def fcl (o : Option PySem.W.CFound) (v : Value) : Bool := match o with
  | some (.val u) => decide (u = v)
  | _ => false
theorem fcl_ok {o : Option PySem.W.CFound} {v : Value} (h : fcl o v = true) : o = some (.val v) := by
  cases o with
  | none => cases h
  | some f =>
    cases f with
    | val u => rw [of_decide_eq_true (show decide (u = v) = true from h)]
    | _ => cases h
def feCB (K : PySem.W.Frag) (x : Str) : Bool := PySem.W.readsIn K (He.ga K x) (.type "type") && (He.eqO (PySem.W.specialIn K (.ref (He.ga K x)) "__getattribute__") (some (some (.builtin "type.__getattribute__"))) && (fcl (PySem.W.findCls K (.ref (He.ga K x)) (.type "type") "__init__") (.ref (He.ma K (He.ga K x) "__init__")) &&
  (PySem.W.keepIn K (.ref (He.ma K (He.ga K x) "__init__")) && fcl (PySem.W.findCls K (.type "ValueError") (.type "type") "__init__") (.builtin "ValueError.__init__"))))
theorem feCB_ok {K : PySem.W.Frag} {x : Str} (h : feCB K x = true) : FeC K x := by
  obtain ⟨h1, h⟩ := He.ba h
  obtain ⟨h2, h⟩ := He.ba h
  obtain ⟨h3, h⟩ := He.ba h
  obtain ⟨h4, h5⟩ := He.ba h
  exact ⟨⟨h1, He.eqO_ok h2⟩, fcl_ok h3, h4, fcl_ok h5⟩
/-! ### the __init__s -/
def spFE (K : PySem.W.Frag) : Sp := fun vs H Q _ => ∃ (a C : Addr) (z : V), vs = [.ref a, z] ∧ OexC K C ∧ PySem.W.findIn K (.ref C) "code" = some none ∧ H a = some (exo a C none) ∧
  ∀ dx, H dx = none → dx ≠ a → Q .non (upd (upd H dx (exd dx [("code", z)])) a (exo a C (some dx)))
def spIni (K : PySem.W.Frag) (z : Str) : Sp := fun vs H Q _ => ∃ (a C : Addr), vs = [.ref a] ∧ OexC K C ∧ PySem.W.findIn K (.ref C) "code" = some none ∧ H a = some (exo a C none) ∧
  ∀ dx, H dx = none → dx ≠ a → Q .non (upd (upd H dx (exd dx [("code", .str z)])) a (exo a C (some dx)))
/-- an exception in the air: its dict d, its code z -/
def Thr (z : Str) (d : Option Addr) (H : Hp) : Prop := ∃ (dd : Addr) (fs : List (Str × V)), d = some dd ∧ H dd = some (.xd fs) ∧ fs.lookup ("code" : Str) = some (V.str z)
/-- the class x raised: x() makes an exception with the code z -/
structure RaiseD (P : Program) (w : World) (K : PySem.W.Frag) (mg : Str → Option Value) (base : Heap) (x y : Str) (k : Nat) (z : Str) : Prop where
  own : OwnX K x y
  hm : mg x = some (.ref (He.ga K x))
  ini : ∃ fd, FnOk P w K mg base CX0 k (He.ma K (He.ga K x) "__init__") fd ["self"] (spIni K z) ∧ Binds K fd ["self"] []
def tOwn (K : PySem.W.Frag) (x z : Str) : L2.St → Hp → XK → Prop := fun _ H Q => ∀ d H', Same H H' → Thr z d H' → Q (.ref (He.ga K x)) d H'
theorem pmk_imp {X : Cx} {e : Expr} {t t' : L2.St → Hp → XK → Prop} (h : PMk X e t) (i : ∀ σ H Q, t' σ H Q → t σ H Q) : PMk X e t' := fun pins s σ H Q I q => h pins s σ H Q I (i _ _ _ q)
theorem pmk_raise {X : Cx} {x y z : Str} {k j : Nat} {p pos : Pos} (D : RaiseD X.prog X.w X.K X.mg X.base x y k z) (hr : Room j X.A) (hkj : k + 1 ≤ j) (hg : Gl X x := by rfl) (hdb : (x == ("__debug__" : Str)) = false := by decide) : PMk X (.Call (.Name x p) [] [] pos) (tOwn X.K x z) := by
  obtain ⟨fd, F, hb⟩ := D.ini
  refine pmk_imp (pmk_oex0 D.own.c.o D.own.ini D.own.tyI F (hr.mono hkj) hb pass0 hg D.hm hdb) fun σ H Q q => ?_
  refine ⟨by simp [sizeLine], fun a ha => ⟨a, He.ga X.K x, rfl, D.own.c.o, D.own.c.noc, upd_same, fun dx hdx hne => ⟨rfl, dx, [("code", .str z)], upd_same, ?_, ?_, ?_⟩⟩⟩
  · rw [upd_ne hne, upd_same]
  · rwa [upd_ne hne] at hdx
  · have hdx2 : H dx = none := by rwa [upd_ne hne] at hdx
    refine q _ _ (fun b u hb => ?_) ⟨dx, _, rfl, upd_same, rfl⟩
    have b1 : b ≠ dx := ne_of_none hb hdx2
    have b2 : b ≠ a := ne_of_none hb ha
    rw [upd_ne b1, del_ne b2, upd_ne b2, upd_ne b1, upd_ne b2]
    exact hb
/-! ### defs that may raise -/
structure DefX (P : Program) (w : World) (K : PySem.W.Frag) (mg : Str → Option Value) (base : Heap) (x : Str) (k : Nat) (ps : List Str) (sp : Sp) : Prop where
  ex : ∃ (f : Addr) (fd : FuncData), FnOk P w K mg base (L2.CX P w) k f fd ps sp ∧ mg x = some (.ref f) ∧ PySem.W.keepIn K (.ref f) = true ∧ Binds K fd ps []
theorem DefX.mono {P : Program} {w : World} {K : PySem.W.Frag} {mg : Str → Option Value} {base : Heap} {x : Str} {j k : Nat} {ps : List Str} {sp : Sp} (D : DefX P w K mg base x j ps sp) (h : j ≤ k) : DefX P w K mg base x k ps sp := by
  obtain ⟨f, fd, F, r⟩ := D.ex
  exact ⟨f, fd, F.mono h, r⟩
/-- called where an exception is taken -/
theorem pe_defx {X : Cx} {W : WX} {E : XK} {x : Str} {k j : Nat} {ps : List Str} {sp : Sp} {e : Expr} {es : List Expr} {p pos : Pos} {t : TA} (D : DefX X.prog X.w X.K X.mg X.base x k ps sp) (tk : Takes X W) (hW : ∀ cls d σ' H', E cls d H' → W cls d σ' H') (hr : Room j X.A) (hkj : k ≤ j) (ha : PA X (e :: es) t)
    (hg : Gl X x := by rfl) (hdb : (x == ("__debug__" : Str)) = false := by decide) (he : starEach (e :: es) X.env = (false, eval e X.env) :: starEach es X.env := by rfl) (hpl : (backTo pos (starEach es X.env)).any (·.1) = false := by rfl) :
    PE X (.Call (.Name x p) (e :: es) [] pos) (tCall sp [] E t) := by
  obtain ⟨f, fd, F, hm, hk, hb⟩ := D.ex
  exact pe_call F (hr.mono hkj) hg hm hk hb .nil (passes_call tk hW) ha hdb he hpl
theorem passN {X : Cx} : Passes (L2.CX X.prog X.w) X (fun _ _ _ => False) := fun _ _ _ _ _ _ _ h => by
  obtain ⟨_, _, _, _, _, _, _, _, _, _, _, _, z⟩ := h
  exact z.elim
/-- called where none comes -/
theorem pe_defN {X : Cx} {x : Str} {k j : Nat} {ps : List Str} {sp : Sp} {e : Expr} {es : List Expr} {p pos : Pos} {t : TA} (D : DefX X.prog X.w X.K X.mg X.base x k ps sp) (hr : Room j X.A) (hkj : k ≤ j) (ha : PA X (e :: es) t)
    (hg : Gl X x := by rfl) (hdb : (x == ("__debug__" : Str)) = false := by decide) (he : starEach (e :: es) X.env = (false, eval e X.env) :: starEach es X.env := by rfl) (hpl : (backTo pos (starEach es X.env)).any (·.1) = false := by rfl) :
    PE X (.Call (.Name x p) (e :: es) [] pos) (tCall sp [] (fun _ _ _ => False) t) := by
  obtain ⟨f, fd, F, hm, hk, hb⟩ := D.ex
  exact pe_call F (hr.mono hkj) hg hm hk hb .nil passN ha hdb he hpl
theorem defx_mk {P : Program} {w : World} {K : PySem.W.Frag} {mg : Str → Option Value} {base : Heap} {x : Str} {st : Stmt} {f : Addr} {fd : FuncData} {dvs : List V} {kws : List (Str × V)} {N ps : List Str} {k : Nat} {sp : Sp} (F : FunD K x x (defArgs st) (defBody st) (defScope st) dvs kws f fd) (hm : mg x = some (.ref f)) (hb : Binds K fd ps [])
    (S : FnScope N ps (defScope st)) (len : ∀ vs H Q E, sp vs H Q E → vs.length = ps.length)
    (body : ∀ (cdv : Value) (A : Around) (outer : List Env) (s : Shared) (H : Hp) (vs : List V) (Q : VK) (E : XK), Room k (A.deeper (envOfC x (defScope st) s.heap.objs.size f cdv)) → sp vs H Q E →
      (Takes (cxOf (L2.CX P w) P w K mg base N x (defScope st) f cdv A outer s H E) fun cls d _ H => E cls d H) →
      ∃ t, PSs (cxOf (L2.CX P w) P w K mg base N x (defScope st) f cdv A outer s H E) (defBody st) t ∧ t { nx := fun _ H' => Q .non H', rt := Q } (start N vs) H) : DefX P w K mg base x (k + 1) ps sp :=
  ⟨f, fd, FunD.ok F S len (fun cdv A outer s H vs Q E hr h => body cdv A outer s H vs Q E hr h (takes_of rfl rfl rfl rfl)), hm, F.kp, hb⟩
/-! ### _law_call -/
/-- the first clause's class is FE -/
def TTc (K : PySem.W.Frag) (FE : Addr) : (XK → Hp → VK → Prop) → Hp → VK → Prop := fun tl H Q =>
  tl (fun cls d H' => ∃ (C : Addr) (z : Str), cls = .ref C ∧ OwnC K C ∧ PySem.W.exmOne K (.ref C) (.ref FE) = some true ∧ Thr z d H' ∧ ∀ p, H' p = none → Q (.ref p) (upd H' p (.tup [.non, .str z])))
    H (fun v H' => ∀ p, H' p = none → Q (.ref p) (upd H' p (.tup [v, .str ""])))
end FF
/-! Fivefault, part 11: f(lambda: ..), the promise of an exception told of the slots at the call. -/
namespace FF
open PySem PySem.Spec PyProof.Rows L2 LamX
section
variable {X : Cx} {pins : List (Addr × Obj)} {σ : L2.St} {H HZ : Hp} {s s1 : Shared}
theorem pe_actS {CXg : CXT} {Eg : XK} {Ng : List Str} {qg : Str} {sg : Scope} {g f c' : Addr} {cdg pm ctv : Value} {params : Arguments} {body : Expr} {scope : Scope} {k i : Nat} {a : Str} {pn : List (Addr × Obj)} {xe : Value → Shared → Prop} {W : WX} {tb : XK → TE} {p1 p2 : Pos}
    (I : Inv X pins σ H s) (L : LamS X.env.scope scope) (hf : s.heap.get? f = some (PySem.W.kla_obj "<lambda>" (X.env.qual ++ "<lambda>") params body scope (cloFrom X.env.cells scope.names []) pm c' ctv)) (hfn : H f = none) (hfr : f ∉ frs X.stack)
    (hbind : bindArgs (PySem.W.kla_fn "<lambda>" (X.env.qual ++ "<lambda>") params body scope (cloFrom X.env.cells scope.names []) pm (.ref c') ctv) ⟨[], []⟩ = pure [])
    (tk : Takes ((cxOf CXg X.prog X.w X.K X.mg X.base Ng qg sg g cdg X.A X.stack s H Eg).tr pn xe) W) (hr : Room (k + 1) (X.A.deeper (envOfC qg sg s.heap.objs.size g cdg)))
    (hbody : ∀ (A : Around) (outer : List Env) (s : Shared) (H : Hp) (E : XK), Room k (A.deeper (lamEnv X scope s.heap.objs.size f c')) → PE (lamCx X A outer s H E scope f c') body (tb E))
    (hN : Ng[i]? = some a) (hv : Vis sg a) (hd : (a == ("__debug__" : Str)) = false := by decide) (hcd : (a == ("__classdict__" : Str)) = false := by decide) :
    PE ((cxOf CXg X.prog X.w X.K X.mg X.base Ng qg sg g cdg X.A X.stack s H Eg).tr pn xe) (.Call (.Name a p1) [] [] p2)
      (fun σZ HZ Q => σZ[i]? = some (some (.ref f)) ∧ HZ c' = some (CodeO c' (X.env.qual ++ "<lambda>")) ∧ ∃ E : XK, (∀ cls d H', E cls d H' → W cls d σZ H') ∧ tb E σ HZ Q) := by
  refine ⟨fun pinsZ sZ σZ HZ Q IZ h => ?_⟩
  obtain ⟨hs, hc, E, hW, ht⟩ := h
  refine wpAny_Call_Name_kw (thn ((pe_var (pos := p1) (i := i) hN hv hd hcd).run pinsZ sZ σZ HZ (fun v H1 => v = .ref f ∧ H1 = HZ) IZ ⟨.ref f, hs, rfl, rfl⟩) fun u s1 ⟨v, H1, I1, r1, q1⟩ => ?_)
  obtain ⟨ev, eH⟩ := q1
  subst ev
  rw [eH] at I1
  obtain rfl : u = Value.ref f := r1
  have of1 := I1.base.keep f _ hf hfn hfr (fun z => nomatch (show f ∈ ([] : List Addr) from z))
  refine PySem.W.callWith_F0 ⟨_, _, _, _, of1⟩ ?_
  have un : Un (frs X.stack) [] H HZ s.heap s1.heap := I1.base
  obtain ⟨⟨oc, vs, t, hoc, hdc, hvc⟩, _, _⟩ := I1.hok c' _ hc
  have rc : codeAny (model X.prog X.w) (X.A.deeper (envOfC qg sg s.heap.objs.size g cdg)) (.call (.ref f) ⟨[], []⟩) (CR (L2.CX X.prog X.w) (envOfC qg sg s.heap.objs.size g cdg :: X.stack) X.prog X.w HZ s1 Q E) s1 := by
    refine PySem.W.kla_callFunE hr.depth of1 rfl L.co L.gen rfl ⟨c', oc, vs, t, rfl, hoc, hdc, hvc⟩ ?_
    rw [hbind]
    refine wpAny_pure (wpAny_newFunctionEnv (fun y hy => (L.own y hy).2) (fun y hy => absurd hy (by simp)) (fun h₁ hns hsb => ⟨I1.nolimit.fresh _ hsb, ?_⟩) L.kind)
    show codeAny _ _ (.expr body (lamEnv X scope s1.heap.objs.size f c')) _ _
    have kp : ∀ b o, s1.heap.get? b = some o → h₁.get? b = some o := fun b o e => hsb.extBut b o (Nat.ne_of_lt (Heap.lt_size e)) (Heap.get?_push_of_some _ e)
    have J := lam_start2 (f := f) (c' := c') (E := E) (tk := s1.toks + ([] : List (Str × Value)).length) I L I1.env0 hr.hd un hns kp
    refine PySem.W.kla_codeExpr (wpAny_mono ((hbody _ _ s1 HZ E (hr.deeper _)).run [] _ _ HZ Q J ht) (fun v s' hq => ?_) fun e s' hq => hq)
    obtain ⟨w', H', J', rv, q⟩ := hq
    exact ⟨w', H', J'.os, J'.bare, J'.base, J'.hok, rv, q⟩
  refine wpAny_call (codeAny_mono rc fun r s' hq => ?_)
  cases r with
  | error e => exact tk e s' (XE.of_call I1 (fun cls d H' h => hW cls d H' h) hq)
  | ok fl =>
    cases fl with
    | ret u => exact I1.after hq
    | next => exact False.elim hq
    | brk => exact False.elim hq
    | cont => exact False.elim hq
end
/-- the def that calls what it got -/
def GivesS (X : Cx) (Ng : List Str) (x : Str) (sg : Scope) (g : Addr) (cdg : Value) (bg : List Stmt) (a : Str) (q : Str) (TT : (XK → Hp → VK → Prop) → Hp → VK → Prop) : Prop :=
  ∀ (f c' : Addr) (s : Shared) (H : Hp) (Q : VK) (tl : XK → Hp → VK → Prop),
    (∀ (W : WX) (pn : List (Addr × Obj)) (xe : Value → Shared → Prop) (p1 p2 : Pos), Takes ((cxOf C8.CX0 X.prog X.w X.K X.mg X.base Ng x sg g cdg X.A X.stack s H C8.E0).tr pn xe) W →
      PE ((cxOf C8.CX0 X.prog X.w X.K X.mg X.base Ng x sg g cdg X.A X.stack s H C8.E0).tr pn xe) (.Call (.Name a p1) [] [] p2) (fun σZ HZ Q => σZ[0]? = some (some (.ref f)) ∧ HZ c' = some (CodeO c' q) ∧ ∃ E : XK, (∀ cls d H', E cls d H' → W cls d σZ H') ∧ tl E HZ Q)) →
    H c' = some (CodeO c' q) → TT tl H Q →
    ∃ t, PSs (cxOf C8.CX0 X.prog X.w X.K X.mg X.base Ng x sg g cdg X.A X.stack s H C8.E0).nox bg t ∧ t { nx := fun _ H' => Q .non H', rt := Q } (L2.start Ng [.ref f]) H
/-- x(lambda: body), x a def of the top -/
theorem pe_lamS {X : Cx} {T : List (Addr × Str)} {TT : (XK → Hp → VK → Prop) → Hp → VK → Prop} {x a : Str} {g c P : Addr} {k : Nat} {st : Stmt} {fd : FuncData} {Ng : List Str} {params : Arguments} {body : Expr} {scope : Scope} {t : XK → TE} {p lpos pos : Pos}
    (hg : Gl X x) (hm : X.mg x = some (.ref g)) (F : FunD X.K x x (defArgs st) (defBody st) (defScope st) [] [] g fd) (hb : L2.Binds X.K fd [a] []) (Sg : FnScope Ng [a] (defScope st)) (hNg : Ng[0]? = some a) (hva : Vis (defScope st) a)
    (hG : ∀ cdg, GivesS X Ng x (defScope st) g cdg (defBody st) a (X.env.qual ++ "<lambda>") TT)
    (TB : TabB X.base X.mg c P) (hcode : X.env.code = .ref c) (hT : T = [(P, X.env.qual ++ "<lambda>")]) (hr : Room (k + 2) X.A) (L : LamS X.env.scope scope) (hdef : defaultsOf params X.env = ([], []))
    (hbind : ∀ (q : Str) (cl : List (Str × Addr)) (pm cv ctv : Value), bindArgs (PySem.W.kla_fn "<lambda>" q params body scope cl pm cv ctv) ⟨[], []⟩ = pure [])
    (hbody : ∀ (A : Around) (outer : List Env) (s : Shared) (H : Hp) (E : XK) (f c' : Addr), Room k (A.deeper (lamEnv X scope s.heap.objs.size f c')) → PE (lamCx X A outer s H E scope f c') body (t E))
    (hdb : (x == ("__debug__" : Str)) = false := by decide) (hd : (a == ("__debug__" : Str)) = false := by decide) (hcd : (a == ("__classdict__" : Str)) = false := by decide) :
    PE X (.Call (.Name x p) [.Lambda params body scope lpos] [] pos) (tLam T TT t) := by
  obtain ⟨oc, od, dV, kV, doc, pm, an, cdv, ct, osl, rfl, lk, hcg, _, _⟩ := F.ex
  refine ⟨fun pins s σ H Q I h => ?_⟩
  obtain ⟨hTs, h⟩ := h
  refine wpAny_Call_Name_kw (ld_glob I hg hm ?_ hdb)
  refine PySem.W.callWith_K (h₀ := X.base) I.ok.mod.kin F.kp ?_ (by rfl) (by rfl)
  show wpAny _ _ (spliced ((false, eval (.Lambda params body scope lpos) X.env) :: backTo pos (starEach [] X.env))) _ _ s
  have hmT : (P, X.env.qual ++ "<lambda>") ∈ T := by rw [hT]; exact List.mem_singleton.mpr rfl
  have hu : ∀ p ∈ T, p.1 = P → p.2 = X.env.qual ++ "<lambda>" := fun p hp _ => by rw [hT] at hp; rw [List.mem_singleton.mp hp]
  refine Calls.spliced_cons (lam_make2 I TB hcode hmT hu hTs hdef (L.has I.ok) fun f c' pm' ctv H1 s' I1 eN T1 hf hfn hfr hco => ?_)
  refine Calls.spliced_nil ⟨I1.kIn, ?_⟩
  have rc : codeAny (model X.prog X.w) X.A (.call (.ref g) ⟨[.ref f], []⟩) (CR C8.CX0 X.stack X.prog X.w H1 s' Q C8.E0) s' := by
    refine run_ofS (N := Ng) (ps := [a]) (us := [.ref f]) (vs := [.ref f]) lk hcg Sg hr I1.env0 (hb s' [.ref f] I1.kIn rfl) (.cons rfl .nil) rfl fun hr' => ?_
    obtain ⟨t', ht', hq'⟩ := hG cdv f c' s' H1 Q (fun E H' Q' => t E σ H' Q') (fun W pn xe p1 p2 tk => pe_actS (i := 0) I1 L hf hfn hfr (hbind _ _ _ _ _) tk hr' (fun A outer s H E hr2 => hbody A outer s H E f c' hr2) hNg hva hd hcd) hco (h H1 eN T1)
    exact ⟨t', ht'.nox, hq'⟩
  refine wpAny_call (codeAny_mono rc fun r s2 hq => ?_)
  cases r with
  | error e => exact (show False from hq).elim
  | ok fl =>
    cases fl with
    | ret u => exact I1.after hq
    | next => exact False.elim hq
    | brk => exact False.elim hq
    | cont => exact False.elim hq
/-- a def told with its code object -/
theorem fn_mkC {P : Program} {w : World} {K : PySem.W.Frag} {mg : Str → Option Value} {base : Heap} {x : Str} {st : Stmt} {fd : FuncData} {dvs : List V} {kws : List (Str × V)} {N ps : List Str} {k : Nat} {sp : Sp} {p : He.Defn} (F : FunD K x x (defArgs st) (defBody st) (defScope st) dvs kws (He.fAd K p) fd)
    (S : FnScope N ps (defScope st)) (len : ∀ vs H Q E, sp vs H Q E → vs.length = ps.length)
    (body : ∀ (cdv : Value) (A : Around) (outer : List Env) (s : Shared) (H : Hp) (vs : List V) (Q : VK) (E : XK), cdv = .ref (He.codeOf K p) → Room k (A.deeper (envOfC x (defScope st) s.heap.objs.size (He.fAd K p) cdv)) → sp vs H Q E →
      ∃ t, PSs (cxOf CX0 P w K mg base N x (defScope st) (He.fAd K p) cdv A outer s H E).nox (defBody st) t ∧ t { nx := fun _ H' => Q .non H', rt := Q } (start N vs) H) : FnOk P w K mg base CX0 (k + 1) (He.fAd K p) fd ps sp := by
  obtain ⟨oc, od, dV, kV, doc, pm, an, cdv, ct, osl, rfl, lk, hcd, _, _⟩ := F.ex
  obtain ⟨c, ec⟩ := He.codeIn_ref hcd
  have e : cdv = .ref (He.codeOf K p) := by rw [ec, He.codeOf_eq lk (show (PySem.W.fnOf x x (defArgs st) (defBody st) (defScope st) dV kV doc pm an cdv ct).code = .ref c from ec)]
  exact fn_of lk hcd S len fun A outer s H vs Q E hr hsp => let ⟨t, a, b⟩ := body cdv A outer s H vs Q E e hr hsp; ⟨t, PSs.nox a, b⟩
/-! ### heaps in which all but the tables stay -/
theorem sn_rd {H H' : Hp} {a : Addr} {u : HO} (e : ExtN H H') (h : Rd H a u) (n : ∀ ps, u ≠ .tbl ps) : Rd H' a u := by
  rcases h with h | ⟨o, h⟩
  · exact .inl (e _ _ h n)
  · exact .inr ⟨o, e _ _ h fun ps z => by cases z⟩
theorem sn_l {K : PySem.W.Frag} {H H' : Hp} {a : Addr} {xs : List V} (e : ExtN H H') (h : SqL K H a xs) : SqL K H' a xs := by
  rcases h with h | h
  · exact .inl (sn_rd e h fun ps z => by cases z)
  · exact .inr h
theorem sn_t {K : PySem.W.Frag} {H H' : Hp} {a : Addr} {xs : List V} (e : ExtN H H') (h : SqT K H a xs) : SqT K H' a xs := by
  rcases h with h | h
  · exact .inl (sn_rd e h fun ps z => by cases z)
  · exact .inr h
mutual
theorem sn_d {K : PySem.W.Frag} {H H' : Hp} (e : ExtN H H') : ∀ {v : V} {d : PyData}, Dp K H v d → Dp K H' v d
  | _, _, .non => .non
  | _, _, .bl b => .bl b
  | _, _, .int i => .int i
  | _, _, .str x => .str x
  | _, _, .lst h a => .lst (sn_l e h) (sn_da e a)
  | _, _, .tup h a => .tup (sn_t e h) (sn_da e a)
theorem sn_da {K : PySem.W.Frag} {H H' : Hp} (e : ExtN H H') : ∀ {vs : List V} {ds : List PyData}, DpAll K H vs ds → DpAll K H' vs ds
  | _, _, .nil => .nil
  | _, _, .cons h a => .cons (sn_d e h) (sn_da e a)
end
theorem sn_of {H H' : Hp} (e : Same H H') : ExtN H H' := ExtN.of e
end FF
/-! Fivefault, part 12: defs with *v alone. -/
namespace FF
open PySem PySem.Spec PyProof.Rows L2 StX
structure DefS (P : Program) (w : World) (K : PySem.W.Frag) (mg : Str → Option Value) (base : Heap) (x : Str) (k : Nat) (sp : Sp) : Prop where
  ex : ∃ f : Addr, FnR P w K mg base (L2.CX P w) k f sp ∧ mg x = some (.ref f) ∧ PySem.W.keepIn K (.ref f) = true
section
variable {X : Cx} {W : WX} {E : XK} {x : Str} {k j : Nat} {sp : Sp} {e : Expr} {es : List Expr} {p pos : Pos} {t : TA}
theorem pe_defs (D : DefS X.prog X.w X.K X.mg X.base x k sp) (tk : Takes X W) (hW : ∀ cls d σ' H', E cls d H' → W cls d σ' H') (hr : Room j X.A) (hkj : k ≤ j) (ha : PA X (e :: es) t)
    (hg : Gl X x := by rfl) (hd : (x == ("__debug__" : Str)) = false := by decide) (he : starEach (e :: es) X.env = (false, eval e X.env) :: starEach es X.env := by rfl) (hpl : (backTo pos (starEach es X.env)).any (·.1) = false := by rfl) :
    PE X (.Call (.Name x p) (e :: es) [] pos) (tCall sp [] E t) := by
  obtain ⟨f, F, hm, hk⟩ := D.ex
  refine ⟨fun pins s σ H Q I h => ?_⟩
  refine wpAny_Call_Name_kw (ld_glob I hg hm ?_ hd)
  refine PySem.W.callWith_K (h₀ := X.base) I.ok.mod.kin hk (thn (ha.run pos pins s σ H _ I h) fun us s1 ⟨vs, H1, I1, r, q⟩ => ⟨I1.kIn, ?_⟩) he hpl
  have q2 : sp (vs ++ []) H1 Q E := q
  rw [List.append_nil] at q2
  exact wpAny_call (run_fnR F (hr.mono hkj) (passes_call tk hW) I1 r q2)
theorem pe_defs0 (D : DefS X.prog X.w X.K X.mg X.base x k sp) (tk : Takes X W) (hW : ∀ cls d σ' H', E cls d H' → W cls d σ' H') (hr : Room j X.A) (hkj : k ≤ j)
    (hg : Gl X x := by rfl) (hd : (x == ("__debug__" : Str)) = false := by decide) :
    PE X (.Call (.Name x p) [] [] pos) (fun _ H Q => sp [] H Q E) := by
  obtain ⟨f, F, hm, hk⟩ := D.ex
  refine ⟨fun pins s σ H Q I h => ?_⟩
  refine wpAny_Call_Name_kw (ld_glob I hg hm ?_ hd)
  refine PySem.W.callWith_K0 I.kIn hk ?_
  exact wpAny_call (run_fnR F (hr.mono hkj) (passes_call tk hW) I .nil h)
end
/-- a reading with a wish that is stronger -/
theorem pe_mono {X : Cx} {e : Expr} {t : TE} (h : PE X e t) : PE X e (fun σ H Q => ∃ Q' : VK, (∀ v H', Q' v H' → Q v H') ∧ t σ H Q') :=
  ⟨fun pins s σ H Q I ⟨Q', hq, ht⟩ => thn (h.run pins s σ H Q' I ht) fun u s1 ⟨v, H1, I1, r, q⟩ => ⟨v, H1, I1, r, hq v H1 q⟩⟩
theorem lam_by {X : Cx} {scope : Scope} (st : Stmt) (h : X.env.scope = defScope st) (hb : LamX.lamSB (defScope st) scope = true) : LamX.LamS X.env.scope scope := by
  rw [h]
  exact LamX.lamS_by hb
theorem bind_star0 {B : List Value → Sem (List (Str × Value))} {pv : Str} (h0 : B [] = (newTuple [] >>= fun t => pure [(pv, t)])) (h1 : ∀ r rs, B (r :: rs) = (newTuple (r :: rs) >>= fun t => pure [(pv, t)])) :
    ∀ us rest : List Value, us.length = ([] : List Str).length → B (us ++ rest) = (newTuple rest >>= fun t => pure (([] : List Str).zip us ++ [(pv, t)]))
  | [], [], _ => h0
  | [], r :: rs, _ => h1 r rs
theorem defs_mk {P : Program} {w : World} {K : PySem.W.Frag} {mg : Str → Option Value} {base : Heap} {x pv : Str} {st : Stmt} {f : Addr} {fd : FuncData} {N : List Str} {k : Nat} {sp : Sp} (F : FunD K x x (defArgs st) (defBody st) (defScope st) [] [] f fd) (hm : mg x = some (.ref f))
    (S : FnScope N [pv] (defScope st)) (h0 : ∀ (kV doc pm : Value) (an : Option Addr) (cdv ct : Value), bindArgs (PySem.W.fnOf x x (defArgs st) (defBody st) (defScope st) .none kV doc pm an cdv ct) ⟨[], []⟩ = (newTuple [] >>= fun t => pure [(pv, t)]))
    (h1 : ∀ (kV doc pm : Value) (an : Option Addr) (cdv ct : Value) (r : Value) (rs : List Value), bindArgs (PySem.W.fnOf x x (defArgs st) (defBody st) (defScope st) .none kV doc pm an cdv ct) ⟨r :: rs, []⟩ = (newTuple (r :: rs) >>= fun t => pure [(pv, t)]))
    (body : ∀ (cdv : Value) (A : Around) (outer : List Env) (s : Shared) (H : Hp) (vs : List V) (Q : VK) (E : XK), Room k (A.deeper (envOfC x (defScope st) s.heap.objs.size f cdv)) → sp vs H Q E →
      (Takes (cxOf (L2.CX P w) P w K mg base N x (defScope st) f cdv A outer s H E) fun cls d _ H => E cls d H) →
      ∃ t, PSs (cxOf (L2.CX P w) P w K mg base N x (defScope st) f cdv A outer s H E) (defBody st) t ∧ t { nx := fun _ H' => Q .non H', rt := Q } (start N vs) H) :
    DefS P w K mg base x (k + 1) (fun vs H Q E => vs.length ≤ sizeLine ∧ ∀ p, H p = none → sp [V.ref p] (upd H p (.tup vs)) Q E) := by
  have kp := F.kp
  obtain ⟨oc, od, dV, kV, doc, pm, an, cdv, ct, osl, rfl, lk, hcd, hD, _⟩ := F.ex
  obtain rfl : dV = .none := by
    rcases hD with ⟨_, e⟩ | ⟨e, _⟩
    · exact e
    · exact absurd rfl e
  refine ⟨f, FnR.imp (fn_star (ps := []) (sp := sp) lk hcd S cxUp (bind_star0 (B := fun us => bindArgs (PySem.W.fnOf x x (defArgs st) (defBody st) (defScope st) .none kV doc pm an cdv ct) ⟨us, []⟩) (h0 _ _ _ _ _ _) (h1 _ _ _ _ _ _))
    fun A outer s H vs Q E hr h => body cdv A outer s H vs Q E hr h (takes_of rfl rfl rfl rfl)) fun vs H Q E ⟨hz, h⟩ => ⟨[], vs, rfl, rfl, hz, h⟩, hm, kp⟩
end FF
/-! Fivefault, part 13: a list that stands aside during a call. -/
namespace FF
open PySem PySem.Spec PyProof.Rows L2
section
variable {P : Program} {w : World} {K : PySem.W.Frag} {mg : Str → Option Value} {base : Heap}
abbrev veil (H : Hp) (a : Addr) (xs : List V) : Hp := upd H a (hid (fun ys => ys = xs) a)
/-- the list at a is not seen by the body; it stays as it is -/
theorem FnOk.veil_ {k : Nat} {f : Addr} {fd : FuncData} {ps : List Str} {sp sp' : Sp} (F : FnOk P w K mg base CX0 k f fd ps sp) (len : ∀ vs H Q E, sp' vs H Q E → vs.length = ps.length)
    (h : ∀ vs H Q E, sp' vs H Q E → ∃ (a : Addr) (xs : List V), H a = some (.lst xs) ∧ sp vs (veil H a xs) (fun v H' => H' a = some (hid (fun ys => ys = xs) a) ∧ Q v (upd H' a (.lst xs))) E) : FnOk P w K mg base CX0 k f fd ps sp' := by
  refine ⟨len, fun A outer s H args us vs Q E hr e0 hb hv hsp => ?_⟩
  obtain ⟨a, xs, ha, hq⟩ := h vs H Q E hsp
  have ok := hok_shut (good := fun ys => ys = xs) ha rfl e0.hok
  have dom : ∀ {b}, H b = none → (veil H a xs) b = none := fun {b} n => by
    show upd _ _ _ _ = _
    rw [upd_ne (fun z => by rw [z, ha] at n; cases n)]
    exact n
  have e1 : Env0 P w K mg base A outer s (veil H a xs) := ⟨e0.frames, e0.mod, fun b o e => ⟨(e0.bs b o e).1, dom (e0.bs b o e).2⟩, e0.bsz, e0.funs, fun b hb => dom (e0.frf b hb), ok, e0.bare⟩
  refine codeAny_mono (F.run A outer s _ args us vs _ E hr e1 hb hv hq) fun r s' hc => ?_
  cases r with
  | error e => exact hc
  | ok fl =>
    cases fl with
    | ret u =>
      obtain ⟨v, H', os, bare, un, hok, rv, hy, q⟩ := hc
      obtain ⟨zs, rfl, hok2⟩ := hok_open hy hok
      refine ⟨v, _, os, bare, ?_, hok2, rv, q⟩
      have back : ∀ {b o}, H b = some o → b ≠ a → (veil H a zs) b = some o := fun {b o} e hb => by
        show upd _ _ _ _ = _
        rw [upd_ne hb]
        exact e
      have notA : ∀ {b}, H b = none → b ≠ a := fun {b} n z => by rw [z, ha] at n; cases n
      refine ⟨fun b o e n h1 h2 => un.keep b o e (dom n) h1 h2, fun b o e n h1 h2 => un.slot b o e (dom n) h1 h2, fun b o e n h1 => ?_, un.there, fun b ys' e => ?_, fun b o u' e => ?_, fun b ps' e => ?_⟩
      · rw [upd_ne (notA n)]
        exact un.free b o e (dom n) h1
      · have hb : b ≠ a := fun z => by rw [z, ha] at e; cases e
        rw [upd_ne hb]
        exact un.tups b ys' (back e hb)
      · have hb : b ≠ a := fun z => by rw [z, ha] at e; cases e
        rw [upd_ne hb]
        exact un.frzs b o u' (back e hb)
      · have hb : b ≠ a := fun z => by rw [z, ha] at e; cases e
        rw [upd_ne hb]
        exact un.tbls b ps' (back e hb)
    | next => exact hc
    | brk => exact hc
    | cont => exact hc
theorem Def.veil_ {x : Str} {k : Nat} {ps : List Str} {sp sp' : Sp} (D : Def P w K mg base x k ps sp) (len : ∀ vs H Q E, sp' vs H Q E → vs.length = ps.length)
    (h : ∀ vs H Q E, sp' vs H Q E → ∃ (a : Addr) (xs : List V), H a = some (.lst xs) ∧ sp vs (veil H a xs) (fun v H' => H' a = some (hid (fun ys => ys = xs) a) ∧ Q v (upd H' a (.lst xs))) E) : Def P w K mg base x k ps sp' := by
  obtain ⟨f, fd, F, r⟩ := D.ex
  exact ⟨f, fd, FnOk.veil_ F len h, r⟩
end
theorem hid_lst {good : List V → Prop} {a : Addr} {xs : List V} : hid good a ≠ .lst xs := fun z => by unfold hid at z; cases z
theorem hid_tup {good : List V → Prop} {a : Addr} {xs : List V} : hid good a ≠ .tup xs := fun z => by unfold hid at z; cases z
theorem hid_frz {good : List V → Prop} {a : Addr} {o : Obj} {u : HO} : hid good a ≠ .frz o u := fun z => by unfold hid at z; cases z
theorem rd_off {H : Hp} {a b : Addr} {good : List V → Prop} {u o : HO} (h : H a = some (hid good a)) (r : Rd H b u) (n : hid good a ≠ u) : Rd (upd H a o) b u := by
  have hb : b ≠ a := fun z => by
    subst z
    rcases r with r | ⟨p, r⟩
    · rw [h] at r
      exact n (Option.some.inj r)
    · rw [h] at r
      exact hid_frz (Option.some.inj r)
  rcases r with r | ⟨p, r⟩
  · exact .inl (by rw [upd_ne hb]; exact r)
  · exact .inr ⟨p, by rw [upd_ne hb]; exact r⟩
mutual
/-- data that does not pass the hidden list -/
theorem off_d {K : PySem.W.Frag} {H : Hp} {a : Addr} {good : List V → Prop} {o : HO} (h : H a = some (hid good a)) : ∀ {v : V} {d : PyData}, Dp K H v d → Dp K (upd H a o) v d
  | _, _, .non => .non
  | _, _, .bl b => .bl b
  | _, _, .int i => .int i
  | _, _, .str x => .str x
  | _, _, .lst hs ds => .lst (hs.elim (fun r => .inl (rd_off h r hid_lst)) .inr) (off_da h ds)
  | _, _, .tup hs ds => .tup (hs.elim (fun r => .inl (rd_off h r hid_tup)) .inr) (off_da h ds)
theorem off_da {K : PySem.W.Frag} {H : Hp} {a : Addr} {good : List V → Prop} {o : HO} (h : H a = some (hid good a)) : ∀ {vs : List V} {ds : List PyData}, DpAll K H vs ds → DpAll K (upd H a o) vs ds
  | _, _, .nil => .nil
  | _, _, .cons x r => .cons (off_d h x) (off_da h r)
end
theorem da_set {K : PySem.W.Frag} {H : Hp} {v : V} {d : PyData} (h : Dp K H v d) : ∀ {vs : List V} {ds : List PyData} (j : Nat), DpAll K H vs ds → DpAll K H (vs.set j v) (ds.set j d)
  | _, _, _, .nil => .nil
  | _, _, 0, .cons _ r => .cons h r
  | _, _, j + 1, .cons x r => .cons x (da_set h j r)
/-- all but the object at a stays -/
def SameB (a : Addr) (H H' : Hp) : Prop := ∀ b u, b ≠ a → H b = some u → H' b = some u
theorem tabs_b {T : List (Addr × Str)} {a : Addr} {H H' : Hp} {xs : List V} (t : LamX.Tabs T H) (ha : H a = some (.lst xs)) (e : SameB a H H') : LamX.Tabs T H' := fun p hp => by
  obtain ⟨ps, h1, h2, h3⟩ := t p hp
  refine ⟨ps, e _ _ (fun z => by rw [z, ha] at h1; cases h1) h1, h2, fun pos cv hc => ?_⟩
  obtain ⟨c, e1, e2⟩ := h3 pos cv hc
  exact ⟨c, e1, e _ _ (fun z => by rw [z, ha] at e2; unfold LamX.CodeO at e2; cases e2) e2⟩
theorem sameT_b {a : Addr} {H H' : Hp} {xs : List V} (ha : H a = some (.lst xs)) (e : SameB a H H') : SameT H H' := fun b ys h => e b _ (fun z => by rw [z, ha] at h; cases h) h
end FF
/-! Fivefault, part 14: the Hook, with the interpreter's own statics in sight. -/
namespace FF
open PySem PySem.Spec PyProof.Rows L2
def obsY (n : Nat) (fa : List He.Fa) (fn : List He.DefD) (tf : List He.Defn) (ex : PySem.W.Frag → Bool) (g : Addr → Option Obj) : He.AlX :=
  (He.obsT fa fn [] (He.frT g (He.asD g n ++ [PySem.cStatics])), ex (He.frT g (He.asD g n ++ [PySem.cStatics])) && He.tabsB g tf (He.frT g (He.asD g n ++ [PySem.cStatics])))
theorem saysY_of {fa : List He.Fa} {fn : List He.DefD} {tf : List He.Defn} {ex : PySem.W.Frag → Bool} {w : World} {h : Heap} {l : List Addr} (e : ((He.obsT fa fn [] (He.frT h.get? l), ex (He.frT h.get? l) && He.tabsB h.get? tf (He.frT h.get? l)) : He.AlX) = He.valX fn [] w) : He.SaysX fa fn [] tf ex w h (He.frT h.get? l) := by
  have e1 : He.obsT fa fn [] (He.frT h.get? l) = He.valT fn [] w := congrArg (fun z : He.AlX => z.1) e
  have e2 : (ex (He.frT h.get? l) && He.tabsB h.get? tf (He.frT h.get? l)) = true := congrArg (fun z : He.AlX => z.2) e
  obtain ⟨h1, h2⟩ := He.ba e2
  have key := fun p hp => He.ba (List.all_eq_true.mp h2 p hp)
  have tab : ∀ p ∈ tf, ∃ o, h.get? (He.cT (He.frT h.get? l) p).2 = some o ∧ He.emptyTab o = true := fun p hp => by
    have h4 := (key p hp).2
    cases q : h.get? (He.cT (He.frT h.get? l) p).2 with
    | none =>
      rw [q] at h4
      cases h4
    | some o =>
      rw [q] at h4
      exact ⟨o, rfl, h4⟩
  exact ⟨e1, h1, fun p hp => (key p hp).1, fun p hp => let ⟨_, q, z⟩ := tab p hp; He.frT_none q z, fun p hp => by
    obtain ⟨_, q, z⟩ := tab p hp
    rw [q, He.emptyTab_eq z]⟩
def hookY (n : Nat) (fa : List He.Fa) (fn : List He.DefD) (tf : List He.Defn) (ex : PySem.W.Frag → Bool) : PySem.W.Hook where
  α := He.AlX
  obs := fun s => obsY n fa fn tf ex s.heap.get?
  val := fun w => He.valX fn [] w
  says := fun w h => ∃ K : PySem.W.Frag, K.In h ∧ He.SaysX fa fn [] tf ex w h K
  of := fun _ _ e => ⟨_, He.frT_in, saysY_of e⟩
  keeps := fun _ _ _ ⟨K, hK, c⟩ k => ⟨K, PySem.W.Frag.In.keeps hK k, ⟨c.t, c.more, c.hd, c.out, fun p hp => k _ _ (c.empty p hp)⟩⟩
theorem obsY_eq {n : Nat} {fa : List He.Fa} {fn : List He.DefD} {tf : List He.Defn} {ex : PySem.W.Frag → Bool} {g : Addr → Option Obj} {s : Shared} (h : ∀ a, g a = s.heap.get? a) : obsY n fa fn tf ex g = (hookY n fa fn tf ex).obs s := by
  have e : g = s.heap.get? := funext h
  rw [e] <;> rfl
end FF
/-! Fivefault, part 15: comprehensions with a test, over a text; dicts made of pairs. -/
namespace FF
open PySem PySem.Spec PyProof.Rows L2
section
variable {K : PySem.W.Frag} {a D : Addr} {xs : List V} {tt : TT} {te : TE} {vs : List Nat} {j : Nat} {σ : L2.St} {H1 : Hp} {Qd : Hp → Prop}
theorem same_at {H H1 : Hp} {D : Addr} {o : HO} (hD : H1 D = none) (e : Same H1 H) : Same H1 (upd H D o) := fun b u hb => by
  rw [upd_ne (ne_of_none hb hD)]
  exact e _ _ hb
theorem lc_filtL (hD : H1 D = none) (hs : SqL K H1 a xs) (hz : xs.length ≤ sizeLine)
    (hw : ∀ x, wipe ((wipe σ vs).set j (some x)) vs = wipe σ vs)
    (test : ∀ (i : Nat) (x : V) (H2 : Hp), xs[i]? = some x → Same H1 H2 → ∀ Qb : Bool → Hp → Prop, (∀ b H3, Same H2 H3 → Qb b H3) → tt ((wipe σ vs).set j (some x)) H2 Qb)
    (elt : ∀ x H2 (Q' : VK), Q' x H2 → te ((wipe σ vs).set j (some x)) H2 Q')
    (done : ∀ H2 ys, Same H1 H2 → H2 D = some (.lst ys) → ys.length ≤ xs.length → (∀ y ∈ ys, y ∈ xs) → Qd H2) :
    ∃ W : Nat → Nat → Hp → Prop, (∃ m, W 0 m (upd H1 D (.lst []))) ∧ ∀ i m H, W i m H →
      ((Itl K a).stop i H ∧ Qd H) ∨ ((Itl K a).go i H ∧ ∃ Nx : Hp → Prop, (∀ H', Nx H' → ∃ m', m' < m ∧ W (i + 1) m' H') ∧ ∀ x H', (Itl K a).yld i H x H' → gName j x (wipe σ vs) H' fun σ2 H2 => wipe σ2 vs = wipe σ vs ∧ tt σ2 H2 fun b H3 =>
        if b = true then te σ2 H3 fun y H4 => ∃ acc, H4 D = some (.lst acc) ∧ acc.length < sizeLine ∧ Nx (upd H4 D (.lst (acc ++ [y]))) else Nx H3) :=
  lc_list (fun i H => Same H1 H ∧ ∃ ys, H D = some (.lst ys) ∧ ys.length ≤ i ∧ ∀ y ∈ ys, y ∈ xs)
    ⟨same_new hD _, [], upd_same, Nat.le_refl _, fun y h => by cases h⟩ (fun i H _ p => up_l p.1 hs)
    (fun i x H hx ⟨e, ys, h1, h2, h3⟩ => ⟨hw x, test i x H hx e _ fun b H3 e3 => by
      cases b with
      | false => exact ⟨e.trans e3, ys, e3 _ _ h1, Nat.le_succ_of_le h2, h3⟩
      | true =>
        refine elt x H3 _ ⟨ys, e3 _ _ h1, ?_, same_at hD (e.trans e3), _, upd_same, ?_, fun y hy => ?_⟩
        · exact Nat.lt_of_le_of_lt h2 (Nat.lt_of_lt_of_le (List.getElem?_eq_some_iff.mp hx).1 hz)
        · rw [List.length_append, List.length_singleton]
          exact Nat.succ_le_succ h2
        · rcases List.mem_append.mp hy with hy | hy
          · exact h3 y hy
          · rw [List.mem_singleton.mp hy]
            exact List.mem_of_getElem? hx⟩)
    fun H ⟨e, ys, h1, h2, h3⟩ => done H ys e h1 h2 h3
theorem lc_str {x : Str} (R : V → Hp → Prop) (mono : ∀ y H H', SameT H H' → R y H → R y H') (hD : H1 D = none) (hz : x.cps.size ≤ sizeLine)
    (hw : ∀ v, wipe ((wipe σ vs).set j (some v)) vs = wipe σ vs)
    (step : ∀ (i c : Nat) (H2 : Hp), x.cps[i]? = some c → Same H1 H2 → ∀ Q' : VK, (∀ y H3, Same H2 H3 → R y H3 → Q' y H3) → te ((wipe σ vs).set j (some (.str ⟨#[c]⟩))) H2 Q')
    (done : ∀ H2 ys, Same H1 H2 → H2 D = some (.lst ys) → ys.length ≤ x.cps.size → (∀ y ∈ ys, R y H2) → Qd H2) :
    ∃ W : Nat → Nat → Hp → Prop, (∃ m, W 0 m (upd H1 D (.lst []))) ∧ ∀ i m H, W i m H →
      ((Its x).stop i H ∧ Qd H) ∨ ((Its x).go i H ∧ ∃ Nx : Hp → Prop, (∀ H', Nx H' → ∃ m', m' < m ∧ W (i + 1) m' H') ∧ ∀ v H', (Its x).yld i H v H' → gName j v (wipe σ vs) H' fun σ2 H2 => wipe σ2 vs = wipe σ vs ∧ tYes σ2 H2 fun b H3 =>
        if b = true then te σ2 H3 fun y H4 => ∃ acc, H4 D = some (.lst acc) ∧ acc.length < sizeLine ∧ Nx (upd H4 D (.lst (acc ++ [y]))) else Nx H3) := by
  refine ⟨fun i m H => m = x.cps.size - i ∧ i ≤ x.cps.size ∧ Same H1 H ∧ ∃ ys, H D = some (.lst ys) ∧ ys.length ≤ i ∧ ∀ y ∈ ys, R y H, ⟨_, rfl, Nat.zero_le _, same_new hD _, [], upd_same, Nat.le_refl _, fun y h => by cases h⟩, ?_⟩
  rintro i m H ⟨rfl, hi, e, ys, h1, h2, h3⟩
  by_cases hlt : i < x.cps.size
  · refine .inr ⟨hlt, fun H' => i + 1 ≤ x.cps.size ∧ Same H1 H' ∧ ∃ ys, H' D = some (.lst ys) ∧ ys.length ≤ i + 1 ∧ ∀ y ∈ ys, R y H', fun H' p' => ⟨x.cps.size - (i + 1), by omega, rfl, p'⟩, fun v H' y => ?_⟩
    obtain ⟨rfl, c, hc, rfl⟩ := y
    refine ⟨hw _, ?_⟩
    unfold tYes
    dsimp only
    rw [if_pos rfl]
    refine step i c _ hc e _ fun y H3 e3 r => ⟨ys, e3 _ _ h1, Nat.lt_of_le_of_lt h2 (Nat.lt_of_lt_of_le hlt hz), hlt, same_at hD (e.trans e3), _, upd_same, ?_, fun z hz => ?_⟩
    · rw [List.length_append, List.length_singleton]
      exact Nat.succ_le_succ h2
    · have eT : ∀ {H : Hp}, H D = some (.lst ys) → ∀ o, SameT H (upd H D o) := fun hl o b xs hb => by
        rw [upd_ne (fun z => by rw [z, hl] at hb; cases hb)]
        exact hb
      rcases List.mem_append.mp hz with hz | hz
      · exact mono _ _ _ (eT (e3 _ _ h1) _) (mono _ _ _ (Same.T e3) (h3 z hz))
      · rw [List.mem_singleton.mp hz]
        exact mono _ _ _ (eT (e3 _ _ h1) _) r
  · exact .inl ⟨Nat.le_of_not_lt hlt, done H ys e h1 (Nat.le_trans h2 hi) h3⟩
end
/-- every parameter by name or place, no defaults -/
theorem kb_plain {K : PySem.W.Frag} {x qual : Str} {params : Arguments} {body : List Stmt} {scope : Scope} {kws : List (Str × V)} {f : Addr} {fd : FuncData} {ps : List Str} {n : Nat} {ks : List Str} (F : FunD K x qual params body scope [] kws f fd)
    (h : ∀ (kV doc pm : Value) (an : Option Addr) (cdv ct : Value) (us ws : List Value), us.length = n → ws.length = ks.length → bindArgs (PySem.W.fnOf x qual params body scope .none kV doc pm an cdv ct) ⟨us, ks.zip ws⟩ = pure (ps.zip (us ++ ws))) :
    KBn K fd ps n ks (fun us ws => us ++ ws) (fun vs zs => vs ++ zs) := by
  obtain ⟨oc, od, dV, kV, doc, pm, an, cdv, ct, osl, rfl, lk, hcd, hD, hK⟩ := F.ex
  rcases hD with ⟨_, rfl⟩ | ⟨e, _⟩
  · exact ⟨fun s us ws _ l1 l2 => .of_eq (h kV doc pm an cdv ct us ws l1 l2), fun r1 r2 => r1.append r2⟩
  · exact absurd rfl e
/-! ### dicts made of pairs -/
def BlK (kvs : List (Key × V)) : Prop := (kvs.map (·.1)).Nodup ∧ ∀ p ∈ kvs, ∃ b, p.2 = V.bl b
theorem putK_bl {kvs : List (Key × V)} {k : Key} {b : Bool} (h : BlK kvs) : BlK (putK kvs k (.bl b)) := by
  unfold putK
  by_cases e : (kvs.any fun kv => decide (kv.1 = k)) = true
  · rw [if_pos e]
    refine ⟨?_, fun p hp => ?_⟩
    · rw [List.map_map, show ((fun x : Key × V => x.1) ∘ fun kv : Key × V => if kv.1 = k then (kv.1, V.bl b) else kv) = fun x => x.1 from funext fun x => by
        show (if x.1 = k then (x.1, V.bl b) else x).1 = x.1
        split <;> rfl]
      exact h.1
    · obtain ⟨q, hq, rfl⟩ := List.mem_map.mp hp
      by_cases z : q.1 = k
      · rw [if_pos z]
        exact ⟨b, rfl⟩
      · rw [if_neg z]
        exact h.2 q hq
  · rw [if_neg e]
    refine ⟨?_, fun p hp => ?_⟩
    · rw [List.map_append]
      refine List.nodup_append.mpr ⟨h.1, by simp, fun x hx y hy z => ?_⟩
      obtain ⟨q, hq, rfl⟩ := List.mem_map.mp hx
      have hy2 : y = k := by simpa using hy
      exact e (List.any_eq_true.mpr ⟨q, hq, decide_eq_true (z.trans hy2)⟩)
    · rcases List.mem_append.mp hp with hp | hp
      · exact h.2 p hp
      · rw [List.mem_singleton.mp hp]
        exact ⟨b, rfl⟩
theorem mergeK_bl : ∀ {more kvs : List (Key × V)}, BlK kvs → (∀ p ∈ more, ∃ b, p.2 = V.bl b) → BlK (mergeK kvs more)
  | [], _, h, _ => h
  | (k, v) :: r, kvs, h, hm => by
    obtain ⟨b, hb⟩ := hm (k, v) List.mem_cons_self
    have hb' : v = .bl b := hb
    subst hb'
    exact mergeK_bl (more := r) (putK_bl h) fun p hp => hm p (List.mem_cons_of_mem _ hp)
theorem blK_nil : BlK [] := ⟨.nil, fun p h => by cases h⟩
end FF
/-! Fivefault, part 16: keywords gathered in a dict (def f(a, .., **d), called with keywords). -/
namespace FF
open PySem PySem.Spec PyProof.Rows L2
section
variable {prog : Program} {w : World} {A : Around} {E : Value → Shared → Prop} {d : Addr}
theorem kw_set {s : Shared} {es : List DictEntry} {n : Nat} {k : Str} {v : Value} {Q : Unit → Shared → Prop} (D : s.heap.get? d = some (PySem.W.dictOf es n)) (hs : ∀ e ∈ es, e.key.isStr k = false) (hr : ∀ e ∈ es, e.refKey = false)
    (h : ∀ h', h'.get? d = some (PySem.W.dictOf (es ++ [⟨PyData.keyHash w.params k, .str k s.toks, v⟩]) (n + 1)) → (∀ b, b ≠ d → h'.get? b = s.heap.get? b) → h'.objs.size = s.heap.objs.size → Q () { s with heap := h', toks := s.toks + 1 }) :
    wpAny (model prog w) A (nsSet d k v) Q E s := by
  have e1 : es.any (·.key.isStr k) = false := by
    rw [Bool.eq_false_iff]
    intro q
    obtain ⟨e, he, z⟩ := List.any_eq_true.mp q
    rw [hs e he] at z
    cases z
  have e2 : es.any (·.refKey) = false := by
    rw [Bool.eq_false_iff]
    intro q
    obtain ⟨e, he, z⟩ := List.any_eq_true.mp q
    rw [hr e he] at z
    cases z
  have e : Obj.putName k (PyData.keyHash w.params k) (.str k s.toks) v (PySem.W.dictOf es n) = PySem.W.dictOf (es ++ [⟨PyData.keyHash w.params k, .str k s.toks, v⟩]) (n + 1) := by
    rw [PySem.W.putName_dict, PySem.W.putL_new hs]
    show PySem.W.dictOf _ (if es.any (·.key.isStr k) then n else n + 1) = _
    rw [e1, if_neg Bool.false_ne_true]
  have c : aRefKeyMayBeTheName k es.toArray = false := by
    rw [aRefKeyMayBeTheName_at, ← Array.any_toList, ← Array.any_toList]
    show (!es.any (·.key.isStr k) && es.any (·.refKey)) = false
    rw [e2, Bool.and_false]
  unfold nsSet
  refine wpAny_bind (wpAny_bind (wpAny_askSetting (wpAny_pure (wpAny_bind (wpAny_mkText (wpAny_bind (wpAny_loadPart D ?_)))))))
  dsimp only
  rw [c]
  refine wpAny_updatePart D (h _ ?_ (fun b hb => Heap.get?_update_other _ _ (Ne.symm hb)) (Heap.size_update ..))
  have U := Heap.get?_update_self (Obj.putName k (PyData.keyHash w.params k) (.str k s.toks) v) D (by rw [e] <;> rfl)
  rw [e] at U
  exact U
theorem kw_fill {Q : PUnit → Shared → Prop} : ∀ (ex : List (Str × Value)) (s : Shared) (es : List DictEntry) (n : Nat), s.heap.get? d = some (PySem.W.dictOf es n) →
    (∀ e ∈ es, ∀ x ∈ ex, e.key.isStr x.1 = false) → (∀ e ∈ es, e.refKey = false) → (ex.map (·.1)).Nodup →
    (∀ h', h'.get? d = some (PySem.W.dictOf (es ++ PySem.W.kwEs w.params s.toks ex) (n + ex.length)) → (∀ b, b ≠ d → h'.get? b = s.heap.get? b) → h'.objs.size = s.heap.objs.size → Q ⟨⟩ { s with heap := h', toks := s.toks + ex.length }) →
    wpAny (model prog w) A (forIn ex PUnit.unit fun x _ => (nsSet d x.1 x.2 >>= fun _ => pure (ForInStep.yield PUnit.unit))) Q E s
  | [], s, es, n, D, _, _, _, h => by
    rw [List.forIn_nil]
    refine wpAny_pure (h s.heap ?_ (fun _ _ => rfl) rfl)
    show s.heap.get? d = some (PySem.W.dictOf (es ++ []) n)
    rw [List.append_nil]
    exact D
  | x :: r, s, es, n, D, hs, hr, hn, h => by
    obtain ⟨hn1, hn2⟩ := List.nodup_cons.mp (show (x.1 :: r.map (·.1)).Nodup from hn)
    rw [List.forIn_cons]
    refine wpAny_bind (wpAny_bind (kw_set D (fun e he => hs e he x List.mem_cons_self) hr fun h' D' k1 z1 => wpAny_pure ?_))
    show wpAny (model prog w) A (forIn r PUnit.unit fun x _ => (nsSet d x.1 x.2 >>= fun _ => pure (ForInStep.yield PUnit.unit))) Q E { s with heap := h', toks := s.toks + 1 }
    refine kw_fill r { s with heap := h', toks := s.toks + 1 } _ _ D' (fun e he y hy => ?_) (fun e he => ?_) hn2 fun h'' D'' k2 z2 => ?_
    · rcases List.mem_append.mp he with he | he
      · exact hs e he y (List.mem_cons_of_mem _ hy)
      · obtain rfl := List.mem_singleton.mp he
        show (x.1 == y.1) = false
        exact beq_eq_false_iff_ne.mpr fun q => hn1 (by rw [q]; exact List.mem_map_of_mem hy)
    · rcases List.mem_append.mp he with he | he
      · exact hr e he
      · obtain rfl := List.mem_singleton.mp he
        rfl
    · have t1 : s.toks + 1 + r.length = s.toks + (r.length + 1) := by omega
      have t2 : n + 1 + r.length = n + (r.length + 1) := by omega
      show Q ⟨⟩ { s with heap := h'', toks := s.toks + 1 + r.length }
      rw [t1]
      refine h h'' ?_ (fun b hb => (k2 b hb).trans (k1 b hb)) (z2.trans z1)
      rw [t2, List.append_assoc] at D''
      exact D''
theorem kwEs_mix : ∀ (ex : List (Str × Value)) (t : Tok), Pairs (mixKind prog w) (PySem.W.kwEs w.params t ex) (ex.map fun x => ((.inr x.1 : Key), x.2))
  | [], _ => Pairs.nil
  | x :: r, t => Pairs.cons (by show decide _ = true; exact decide_eq_true rfl) rfl (kwEs_mix r (t + 1))
theorem kwEs_dict {h : Heap} {ex : List (Str × Value)} {t : Tok} {n : Nat} (D : h.get? d = some (PySem.W.dictOf (PySem.W.kwEs w.params t ex) n)) (hn : (ex.map (·.1)).Nodup) : h.DictOf (mixKind prog w) d (ex.map fun x => ((.inr x.1 : Key), x.2)) := by
  refine ⟨_, _, n, D, ⟨rfl, rfl, rfl⟩, rfl, fun e he => ?_, kwEs_mix ex t, ?_⟩
  · obtain ⟨k, u, hk, hh⟩ := PySem.W.kwEs_key ex t e (List.mem_toArray.mp he)
    exact ⟨.inr k, by rw [hk]; show decide _ = true; exact decide_eq_true rfl, hh.trans rfl⟩
  · rw [List.map_map]
    have e : ((fun x : Key × Value => x.1) ∘ fun x : Str × Value => ((.inr x.1 : Key), x.2)) = fun x : Str × Value => (.inr x.1 : Key) := rfl
    rw [e]
    have : (ex.map fun x : Str × Value => (.inr x.1 : Key)) = (ex.map (·.1)).map Sum.inr := by rw [List.map_map] <;> rfl
    rw [this]
    exact hn.map Sum.inr fun a b h z => h (Sum.inr.inj z)
end
end FF
/-! Fivefault, part 17: defs with **d, called with keywords. -/
namespace FF
open PySem PySem.Spec PyProof.Rows L2 StX
/-- the entries that keywords make -/
def kwK (ks : List Str) (zs : List V) : List (Key × V) := (ks.zip zs).map fun x => (.inr x.1, x.2)
theorem kv_of : ∀ {ks : List Str} {zs : List V} {ws : List Value}, Vals zs ws → KV (kwK ks zs) ((ks.zip ws).map fun x => ((.inr x.1 : Key), x.2))
  | [], _, _, _ => by
    simp only [kwK, List.zip_nil_left, List.map_nil]
    exact .nil
  | k :: ks, [], _, .nil => .nil
  | k :: ks, z :: zs, w :: ws, .cons a r => .cons ⟨rfl, a⟩ (kv_of r)
def FnKw (P : Program) (w : World) (K : PySem.W.Frag) (mg : Str → Option Value) (base : Heap) (CX : CXT) (k : Nat) (f : Addr) (n : Nat) (ks : List Str) (sp : Sp) : Prop :=
  ∀ (A : Around) (outer : List Env) (s : Shared) (H : Hp) (us ws : List Value) (vs zs : List V) (Q : VK) (E : XK), Room k A → Env0 P w K mg base A outer s H → Vals vs us → Vals zs ws → vs.length = n → zs.length = ks.length → sp (vs ++ zs) H Q E →
    codeAny (model P w) A (.call (.ref f) ⟨us, ks.zip ws⟩) (CR CX outer P w H s Q E) s
structure DefK (P : Program) (w : World) (K : PySem.W.Frag) (mg : Str → Option Value) (base : Heap) (x : Str) (k n : Nat) (ks : List Str) (sp : Sp) : Prop where
  ex : ∃ f : Addr, FnKw P w K mg base (L2.CX P w) k f n ks sp ∧ mg x = some (.ref f) ∧ PySem.W.keepIn K (.ref f) = true
theorem defk_mk {P : Program} {w : World} {K : PySem.W.Frag} {mg : Str → Option Value} {base : Heap} {x pd : Str} {st : Stmt} {f : Addr} {fd : FuncData} {N ps ks : List Str} {k : Nat} {sp : Sp} (F : FunD K x x (defArgs st) (defBody st) (defScope st) [] [] f fd) (hm : mg x = some (.ref f))
    (S : FnScope N (ps ++ [pd]) (defScope st)) (hnd : ks.Nodup) (hsm : ks.length ≤ 1000)
    (hb : ∀ (kV doc pm : Value) (an : Option Addr) (cdv ct : Value) (us ws : List Value), us.length = ps.length → ws.length = ks.length → bindArgs (PySem.W.fnOf x x (defArgs st) (defBody st) (defScope st) .none kV doc pm an cdv ct) ⟨us, ks.zip ws⟩ =
      ((alloc ({ cls := .type "dict", data := .dict #[] } : Obj) : Sem Addr) >>= fun d => (forIn (ks.zip ws) PUnit.unit fun x _ => (nsSet d x.1 x.2 >>= fun _ => pure (ForInStep.yield PUnit.unit))) >>= fun _ => pure (ps.zip us ++ [(pd, Value.ref d)])))
    (body : ∀ (cdv : Value) (A : Around) (outer : List Env) (s : Shared) (H : Hp) (vs : List V) (Q : VK) (E : XK), Room k (A.deeper (envOfC x (defScope st) s.heap.objs.size f cdv)) → sp vs H Q E →
      (Takes (cxOf (L2.CX P w) P w K mg base N x (defScope st) f cdv A outer s H E) fun cls d _ H => E cls d H) →
      ∃ t, PSs (cxOf (L2.CX P w) P w K mg base N x (defScope st) f cdv A outer s H E) (defBody st) t ∧ t { nx := fun _ H' => Q .non H', rt := Q } (start N vs) H) :
    DefK P w K mg base x (k + 1) ps.length ks (fun xs H Q E => ∃ vs zs, xs = vs ++ zs ∧ vs.length = ps.length ∧ ∀ p, H p = none → sp (vs ++ [V.ref p]) (upd H p (.dK (kwK ks zs))) Q E) := by
  have kp := F.kp
  obtain ⟨oc, od, dV, kV, doc, pm, an, cdv, ct, osl, rfl, lk, hcd, hD, _⟩ := F.ex
  obtain rfl : dV = .none := by
    rcases hD with ⟨_, e⟩ | ⟨e, _⟩
    · exact e
    · exact absurd rfl e
  refine ⟨f, fun A outer s H us ws vs zs Q E hr e0 r rz l1 l2 ⟨vs', zs', ev, lv, hq⟩ => ?_, hm, kp⟩
  obtain ⟨rfl, rfl⟩ : vs = vs' ∧ zs = zs' := List.append_inj ev (l1.trans lv.symm)
  have hn : H s.heap.objs.size = none := e0.hok.fresh (Nat.le_refl _)
  have lu : us.length = ps.length := r.length.symm.trans l1
  have lw : ws.length = ks.length := rz.length.symm.trans l2
  refine run_bnd lk hcd S hr e0 (G := fun xs H2 => ∃ p, H p = none ∧ xs = vs ++ [V.ref p] ∧ H2 = upd H p (.dK (kwK ks zs))) (fun A' Ex Q' h => ?_) fun s2 H2 xs ⟨p, hp, ex, eH⟩ hr' => ?_
  · rw [hb kV doc pm an cdv ct us ws lu lw]
    refine wpAny_bind (wpAny_alloc (wpAny_bind ?_))
    have nd : ((ks.zip ws).map (·.1)).Nodup := by
      have : (ks.zip ws).map (·.1) = ks := by
        rw [List.map_fst_zip]
        omega
      rw [this]
      exact hnd
    refine kw_fill (ks.zip ws) _ [] 0 (Heap.get?_push_size _ rfl) (fun _ he => nomatch he) (fun _ he => nomatch he) nd fun h' D' k1 z1 => wpAny_pure ?_
    have k2 : ∀ b o, s.heap.get? b = some o → h'.get? b = some o := fun b o e => (k1 b (Nat.ne_of_lt (Heap.lt_size e))).trans (Heap.get?_push_of_some _ e)
    have dd := kwEs_dict (prog := P) (w := w) (ex := ks.zip ws) (by rw [List.nil_append] at D'; exact D') nd
    have new : ObjOk P w (upd H s.heap.objs.size (.dK (kwK ks zs))) h' s.heap.objs.size (.dK (kwK ks zs)) := dk_new (le_line (by unfold kwK; rw [List.length_map, List.length_zip]; omega)) (beq_eq_false_iff_ne.mpr (Ne.symm (Nat.ne_of_lt (env0_big e0)))) (kv_of rz) dd
    have un : Un (frs outer) [] H (upd H s.heap.objs.size (.dK (kwK ks zs))) s.heap h' := Un.laid k2 (Nat.le_refl _) hn
    have e1 : Env0 P w K mg base A outer { s with heap := h', toks := s.toks + (ks.zip ws).length } (upd H s.heap.objs.size (.dK (kwK ks zs))) := by
      refine ⟨e0.frames, e0.mod, fun b x e => ⟨k2 b x (e0.bs b x e).1, ?_⟩, ?_, Heap.FunFrames.of_keeps (fun b x e _ => ⟨x, k2 b x e, rfl⟩) e0.funs, fun b hb => ?_, e0.hok.laid k2 (Nat.le_refl _) new, e0.bare⟩
      · rw [upd_ne (Nat.ne_of_lt (Heap.lt_size (e0.bs b x e).1))]
        exact (e0.bs b x e).2
      · show base.objs.size ≤ h'.objs.size
        rw [z1]
        show base.objs.size ≤ (s.heap.push _).objs.size
        rw [Heap.size_push]
        exact Nat.le_succ_of_le e0.bsz
      · obtain ⟨_, x, hx, _⟩ := e0.funs.mem hb
        rw [upd_ne (Nat.ne_of_lt (Heap.lt_size hx))]
        exact e0.frf b hb
    have z := h _ _ (vs ++ [V.ref s.heap.objs.size]) (us ++ [Value.ref s.heap.objs.size]) e1 un rfl (fun e s' => cxUp outer s H _ _ E e s' un k2 rfl) (r.append (.cons rfl .nil)) (by rw [List.length_append, List.length_append, l1] <;> rfl) ⟨_, hn, rfl, rfl⟩
    rw [List.zip_append lu.symm] at z
    exact z
  · subst ex eH
    exact body cdv A outer s2 _ _ Q E hr' (hq p hp) (takes_of rfl rfl rfl rfl)
/-- x(e, .., k = v, ..) of such a def -/
theorem pe_defk {X : Cx} {E : XK} {x : Str} {k j n : Nat} {ks : List Str} {sp : Sp} {e : Expr} {es : List Expr} {kws : List Keyword} {p pos : Pos} {t tk : TA} (D : DefK X.prog X.w X.K X.mg X.base x k n ks sp) (hx : Passes (L2.CX X.prog X.w) X E) (hr : Room j X.A) (hkj : k ≤ j)
    (ha : PA X (e :: es) t) (hkw : PK X kws tk) (hg : Gl X x := by rfl) (hall : (backToKw pos (keywordEach kws X.env)).all (·.1.isSome) = true := by rfl) (hks : (backToKw pos (keywordEach kws X.env)).filterMap (·.1) = ks := by rfl)
    (hdb : (x == ("__debug__" : Str)) = false := by decide) (he : starEach (e :: es) X.env = (false, eval e X.env) :: starEach es X.env := by rfl)
    (hpl : ((backTo pos (starEach (e :: es) X.env)).any (·.1) || (backToKw pos (keywordEach kws X.env)).any (·.1.isNone)) = false := by rfl) :
    PE X (.Call (.Name x p) (e :: es) kws pos) (tCallN n ks.length sp (fun vs zs => vs ++ zs) E t tk) := by
  obtain ⟨f, F, hm, hk⟩ := D.ex
  refine ⟨fun pins s σ H Q I h => ?_⟩
  refine wpAny_Call_Name_kw (ld_glob I hg hm ?_ hdb)
  refine PySem.W.callWith_KW (h₀ := X.base) I.ok.mod.kin hk hall (thn (ha.run pos pins s σ H _ I h) fun us s1 ⟨vs, H1, I1, r, q⟩ => ?_) hpl he
  refine thn (hkw.run pos pins s1 σ H1 _ I1 q) fun ws s2 ⟨zs, H2, I2, rz, l1, l2, q2⟩ => ⟨I2.kIn, ?_⟩
  rw [hks]
  refine wpAny_call (codeAny_mono (F X.A X.stack s2 H2 us ws vs zs Q E (hr.mono hkj) I2.env0 r rz l1 l2 q2) fun r s' hq => ?_)
  cases r with
  | error e => exact hx pins σ H2 s2 e s' I2 hq
  | ok fl =>
    cases fl with
    | ret u => exact I2.after hq
    | next => exact False.elim hq
    | brk => exact False.elim hq
    | cont => exact False.elim hq
theorem pe_defk0 {X : Cx} {E : XK} {x : Str} {k j n : Nat} {sp : Sp} {e : Expr} {es : List Expr} {p pos : Pos} {t : TA} (D : DefK X.prog X.w X.K X.mg X.base x k n [] sp) (hx : Passes (L2.CX X.prog X.w) X E) (hr : Room j X.A) (hkj : k ≤ j)
    (ha : PA X (e :: es) t) (hg : Gl X x := by rfl) (hd : (x == ("__debug__" : Str)) = false := by decide) (he : starEach (e :: es) X.env = (false, eval e X.env) :: starEach es X.env := by rfl) (hpl : (backTo pos (starEach es X.env)).any (·.1) = false := by rfl) :
    PE X (.Call (.Name x p) (e :: es) [] pos) (fun σ H Q => t σ H fun vs H1 => vs.length = n ∧ sp (vs ++ []) H1 Q E) := by
  obtain ⟨f, F, hm, hk⟩ := D.ex
  refine ⟨fun pins s σ H Q I h => ?_⟩
  refine wpAny_Call_Name_kw (ld_glob I hg hm ?_ hd)
  refine PySem.W.callWith_K (h₀ := X.base) I.ok.mod.kin hk (thn (ha.run pos pins s σ H _ I h) fun us s1 ⟨vs, H1, I1, r, l1, q⟩ => ⟨I1.kIn, ?_⟩) he hpl
  refine wpAny_call (codeAny_mono (F X.A X.stack s1 H1 us [] vs [] Q E (hr.mono hkj) I1.env0 r .nil l1 rfl q) fun r s' hq => ?_)
  cases r with
  | error e => exact hx pins σ H1 s1 e s' I1 hq
  | ok fl =>
    cases fl with
    | ret u => exact I1.after hq
    | next => exact False.elim hq
    | brk => exact False.elim hq
    | cont => exact False.elim hq
end FF
/-! Fivefault, part 18: own exceptions with one field. -/
namespace FF
open PySem PySem.Spec PyProof.Rows L2
/-- C.__init__(self, y): the code z, the field f -/
def spIni1 (K : PySem.W.Frag) (z f : Str) : Sp := fun vs H Q _ => ∃ (a C : Addr) (y : V), vs = [.ref a, y] ∧ OexC K C ∧ PySem.W.findIn K (.ref C) "code" = some none ∧ PySem.W.findIn K (.ref C) f = some none ∧ H a = some (exo a C none) ∧
  ∀ dx, H dx = none → dx ≠ a → Q .non (upd (upd (upd H dx (exd dx [("code", .str z)])) a (exo a C (some dx))) dx (exd dx [(f, y), ("code", .str z)]))
structure RaiseD1 (P : Program) (w : World) (K : PySem.W.Frag) (mg : Str → Option Value) (base : Heap) (x y : Str) (k : Nat) (z f : Str) : Prop where
  own : OwnX K x y
  nof : PySem.W.findIn K (.ref (He.ga K x)) f = some none
  hm : mg x = some (.ref (He.ga K x))
  ini : ∃ fd, FnOk P w K mg base CX0 k (He.ma K (He.ga K x) "__init__") fd ["self", f] (spIni1 K z f) ∧ Binds K fd ["self", f] []
def tOwn1 (K : PySem.W.Frag) (x z f : Str) (ta : TA) : L2.St → Hp → XK → Prop := fun σ H Q => ta σ H fun vs H1 => ∃ y, vs = [y] ∧ ∀ dd H', Same H1 H' → H' dd = some (.xd [(f, y), ("code", .str z)]) → Q (.ref (He.ga K x)) (some dd) H'
theorem pmk_raise1 {X : Cx} {x y z f : Str} {k j : Nat} {e : Expr} {p pos : Pos} {ta : TA} (D : RaiseD1 X.prog X.w X.K X.mg X.base x y k z f) (hr : Room j X.A) (hkj : k + 1 ≤ j) (ha : PA X [e] ta) (hg : Gl X x := by rfl) (hdb : (x == ("__debug__" : Str)) = false := by decide)
    (he : starEach [e] X.env = (false, eval e X.env) :: starEach [] X.env := by rfl) (hpl : (backTo pos (starEach [] X.env)).any (·.1) = false := by rfl) (mono : ∀ σ H (Q Q' : List V → Hp → Prop), (∀ vs H1, Q vs H1 → Q' vs H1) → ta σ H Q → ta σ H Q') :
    PMk X (.Call (.Name x p) [e] [] pos) (tOwn1 X.K x z f ta) := by
  obtain ⟨fd, F, hb⟩ := D.ini
  refine pmk_imp (pmk_oex D.own.c.o D.own.ini D.own.tyI F (hr.mono hkj) hb .nil pass0 hg D.hm ha hdb he hpl) fun σ H Q q => ?_
  refine mono σ H _ _ (fun vs H1 ⟨y, ev, q⟩ => ?_) q
  subst ev
  refine ⟨by simp, fun a ha => ⟨a, He.ga X.K x, y, rfl, D.own.c.o, D.own.c.noc, D.nof, upd_same, fun dx hdx hne => ⟨rfl, dx, [(f, y), ("code", .str z)], ?_, upd_same, ?_, ?_⟩⟩⟩
  · rw [upd_ne (Ne.symm hne), upd_same]
  · rwa [upd_ne hne] at hdx
  · have hdx2 : H1 dx = none := by rwa [upd_ne hne] at hdx
    refine q dx _ (fun b u hb => ?_) upd_same
    have b1 : b ≠ dx := ne_of_none hb hdx2
    have b2 : b ≠ a := ne_of_none hb ha
    rw [upd_ne b1, del_ne b2, upd_ne b1, upd_ne b2, upd_ne b1, upd_ne b2]
    exact hb
end FF
/-! Fivefault, part 19: a, *b = t. -/
namespace FF
open PySem PySem.Spec PyProof.Rows L2
theorem tup_tail {prog : Program} {w : World} {A : Around} (hh : A.handled = none) (I ax : Addr) (hne : ax ≠ I) (x : Value) (items : List Value) :
    Walks prog w A I [I, ax] [I] items.length (fun i v => items[i]? = some v) (fun i h => h.IsTupleIter I ax (i + 1) ∧ h.IsTuple ax (x :: items).toArray) :=
  let W := Walks.tuple (prog := prog) (w := w) hh I ax hne (x :: items).toArray
  { sub := W.sub
    frame := fun i h h' st hk => W.frame (i + 1) h h' st hk
    item := fun i s Q E hi st hQ => W.item (i + 1) s Q E (by simpa using hi) st fun v h' tk hP st' hk => hQ v h' tk (by simpa using hP) st' hk
    done := fun s Q E st hQ => W.done s Q E (by simpa using st) hQ
    self := fun i s Q E st hQ => W.self (i + 1) s Q E st hQ }
theorem unpack_star {prog : Program} {w : World} {A : Around} {E : Value → Shared → Prop} {s : Shared} {t : Addr} {x : Value} {items : List Value} {Q : List Value → Shared → Prop} (hh : A.handled = none) (ht : s.heap.IsTuple t (x :: items).toArray) (hz : items.length ≤ sizeLine)
    (hQ : ∀ (h' : Heap) (tk : Nat), (∀ b o, s.heap.get? b = some o → h'.get? b = some o) → Q [x, .ref h'.objs.size] { s with heap := h'.push { cls := .type "list", data := .seq items.toArray }, toks := tk }) :
    wpAny (model prog w) A (unpackItems (.ref t) 2 (some 1)) Q E s := by
  have hlt : t ≠ s.heap.objs.size := by obtain ⟨o, ho, _⟩ := ht; exact Nat.ne_of_lt (Heap.lt_size ho)
  unfold unpackItems
  refine wpAny_bind ?_
  unfold notIterableAtAll
  refine wpAny_bind (wpAny_specialOf ht.typeIs PySem.F.slot_tuple_iter.lookup ?_)
  refine wpAny_pure ?_
  simp only [Bool.false_eq_true, if_false]
  refine wpAny_bind (wpAny_holding (wpAny_pyIter_tuple ht ?_))
  refine wpAny_bind (wpAny_holding (wpAny_draw_tuple hlt 1 0 _ _ ⟨_, Heap.get?_push_size _ rfl, rfl, rfl⟩ (ht.push _) (by simp) fun h₁ hit₁ hs₁ => ?_))
  have e1 : List.take 1 (List.drop 0 (x :: items).toArray.toList) = [x] := by simp
  rw [e1, if_neg (by simp)]
  have ht₁ : h₁.IsTuple t (x :: items).toArray := (ht.push _).extBut hs₁.extBut hlt
  have k1 : ∀ b o, s.heap.get? b = some o → h₁.get? b = some o := fun b o e => hs₁.extBut b o (Nat.ne_of_lt (Heap.lt_size e)) (Heap.get?_push_of_some _ e)
  have hin : s.heap.objs.size < h₁.objs.size := by
    obtain ⟨o, ho, _⟩ := hit₁
    exact Heap.lt_size ho
  have htn : t < h₁.objs.size := by
    obtain ⟨o, ho, _⟩ := ht₁
    exact Heap.lt_size ho
  refine wpAny_bind (wpAny_holding (wpAny_collect_iter (T := "tuple_iterator") (.inr (.inr (.inr rfl))) (Walks.toS (tup_tail (A := A.in1) hh s.heap.objs.size t hlt x items)) (fun i s st => st.1.typeIs) ⟨hit₁, ht₁⟩ (fun b hb => ?_) (by simp) (fun s' acc mv it => ?_) hz))
  · simp only [List.mem_cons, List.not_mem_nil, or_false] at hb
    rcases hb with rfl | rfl
    · exact hin
    · exact htn
  have ea : acc.toList = items := by
    apply List.ext_getElem?
    intro j
    rw [Array.getElem?_toList]
    cases h : acc[j]? with
    | some v => exact (it.2 j v h).symm
    | none =>
      have := Array.getElem?_eq_none_iff.mp h
      rw [it.1] at this
      exact (List.getElem?_eq_none this).symm
  rw [ea, if_neg (by omega)]
  have em : List.take (items.length - (2 - 1 - 1)) items = items := by simp
  have ed : List.drop (items.length - (2 - 1 - 1)) items = [] := by simp
  rw [em, ed]
  obtain ⟨h2, g2, d2, t2, o2⟩ := s'
  obtain ⟨mh, mg, md, mo, mt⟩ := mv
  have mg : g2 = s.gens := mg
  have md : d2 = s.drawn := md
  have mo : o2 = s.os := mo
  subst mg md mo
  refine wpAny_bind (wpAny_newList (wpAny_pure (hQ h2 t2 fun b o e => mh b o (fun hm => ?_) (k1 b o e))) hz)
  rw [List.mem_singleton.mp hm] at e
  exact Nat.lt_irrefl _ (Heap.lt_size e)
/-- a, *b = t -/
theorem pg_star2 {X : Cx} {e1 e2 : Expr} {p3 pos : Pos} {k : Nat} {t : TGs} (hc : X.calm = true) (h : PGs X [e1, e2] t) (hm : (assignEach [e1, .Starred e2 p3] X.env).map (·.2) = (assignEach [e1, e2] X.env).map (·.2) := by rfl)
    (hn : (assignEach [e1, .Starred e2 p3] X.env).length = 2 := by rfl) (hst : (assignEach [e1, .Starred e2 p3] X.env).findIdx? (·.1) = some 1 := by rfl) :
    PG X (.Tuple [e1, .Starred e2 p3] k pos) (fun v σ H Q => ∃ a x0 xs, v = .ref a ∧ SqT X.K H a (x0 :: xs) ∧ ∀ p, H p = none → t [x0, .ref p] σ (upd H p (.lst xs)) Q) := by
  refine ⟨fun pins s σ H v u Q I r hw => ?_⟩
  obtain ⟨a, x0, xs, rfl, hq, hw⟩ := hw
  cases r
  obtain ⟨its, rv, ht, hz⟩ := I.tuple hq
  cases rv with
  | @cons _ u0 _ us r0 rs =>
  have hl : us.length ≤ sizeLine := by
    have := rs.length
    rw [List.length_cons] at hz
    omega
  rw [PyProof.Rows.assign_Tuple]
  refine wpAny_bind (wpAny_standAt ?_)
  unfold unpack
  rw [hn, hst, hm]
  refine wpAny_bind (wpAny_holding (unpack_star (I.ok.hd hc) ht hl fun h' tk kp => ?_))
  have I1 : Inv X pins σ H { s with heap := h', toks := tk } := I.kept kp
  have hf : H h'.objs.size = none := I1.hok.fresh (Nat.le_refl _)
  have I2 : Inv X pins σ (upd H h'.objs.size (.lst xs)) { s with heap := h'.push { cls := .type "list", data := .seq us.toArray }, toks := tk } :=
    I1.laid (t' := tk) (fun b u e => Heap.get?_push_of_some _ e) (Nat.le_refl _) ⟨by rw [rs.length]; exact hl, us, 0, rs, Heap.get?_push_size _ rfl⟩
  exact h.run pins _ σ _ [x0, .ref h'.objs.size] [u0, .ref h'.objs.size] Q I2 (.cons r0 (.cons rfl .nil)) (hw _ hf)
end FF
/-! Fivefault, part 20: methods of own classes, some of which raise; instances whose fields change. -/
namespace FF
open PySem PySem.Spec PyProof.Rows L2
structure MethX (P : Program) (w : World) (K : PySem.W.Frag) (mg : Str → Option Value) (base : Heap) (C m : Str) (k : Nat) (ps : List Str) (sp : Sp) : Prop where
  ex : ∃ fd, FnOk P w K mg base (L2.CX P w) k (He.ma K (He.ga K C) m) fd ps sp ∧ Binds K fd ps []
  cl : Cls K (He.ga K C)
  me : Meth K (He.ga K C) m (He.ma K (He.ga K C) m)
structure MethD (P : Program) (w : World) (K : PySem.W.Frag) (mg : Str → Option Value) (base : Heap) (C m : Str) (k : Nat) (ps : List Str) (sp : Sp) : Prop where
  ex : ∃ fd, FnOk P w K mg base CX0 k (He.ma K (He.ga K C) m) fd ps sp ∧ Binds K fd ps []
  cl : Cls K (He.ga K C)
  me : Meth K (He.ga K C) m (He.ma K (He.ga K C) m)
section
variable {X : Cx} {W : WX} {E : XK} {C m : Str} {k j : Nat} {ps : List Str} {sp : Sp} {o e : Expr} {es : List Expr} {apos pos : Pos} {to : TE} {t : TA} {pl : Sem Bool}
theorem pe_methx (D : MethX X.prog X.w X.K X.mg X.base C m k ps sp) (tk : Takes X W) (hW : ∀ cls d σ' H', E cls d H' → W cls d σ' H') (hr : Room j X.A) (hkj : k ≤ j) (ho : PE X o to) (ha : PA X (e :: es) t)
    (hst : starEach (e :: es) X.env = (false, eval e X.env) :: starEach es X.env := by rfl) (hpl : (backTo pos (starEach es X.env)).any (·.1) = false := by rfl)
    (ht : eval (.Call (.Attribute o m apos) (e :: es) [] pos) X.env = (do
      let ov ← eval o X.env
      standAt apos.atName
      let (f, first) ← holding [ov] (getMethod ov m pl)
      callWith pos f first (backTo pos (starEach (e :: es) X.env)) (backToKw pos (keywordEach [] X.env))) := by rfl) :
    PE X (.Call (.Attribute o m apos) (e :: es) [] pos) (tMeth (He.ga X.K C) m sp [] E to t) := by
  obtain ⟨fd, F, hb⟩ := D.ex
  exact pe_meth ho D.cl D.me F (hr.mono hkj) hb .nil (passes_call tk hW) ha hst hpl ht
theorem pe_methd (D : MethD X.prog X.w X.K X.mg X.base C m k ps sp) (hr : Room j X.A) (hkj : k ≤ j) (ho : PE X o to) (ha : PA X (e :: es) t)
    (hst : starEach (e :: es) X.env = (false, eval e X.env) :: starEach es X.env := by rfl) (hpl : (backTo pos (starEach es X.env)).any (·.1) = false := by rfl)
    (ht : eval (.Call (.Attribute o m apos) (e :: es) [] pos) X.env = (do
      let ov ← eval o X.env
      standAt apos.atName
      let (f, first) ← holding [ov] (getMethod ov m pl)
      callWith pos f first (backTo pos (starEach (e :: es) X.env)) (backToKw pos (keywordEach [] X.env))) := by rfl) :
    PE X (.Call (.Attribute o m apos) (e :: es) [] pos) (tMeth (He.ga X.K C) m sp [] E0 to t) := by
  obtain ⟨fd, F, hb⟩ := D.ex
  exact pe_meth ho D.cl D.me F (hr.mono hkj) hb .nil pass0 ha hst hpl ht
theorem pe_methd0 (D : MethD X.prog X.w X.K X.mg X.base C m k ps sp) (hr : Room j X.A) (hkj : k ≤ j) (ho : PE X o to)
    (ht : eval (.Call (.Attribute o m apos) [] [] pos) X.env = (do
      let ov ← eval o X.env
      standAt apos.atName
      let (f, first) ← holding [ov] (getMethod ov m pl)
      callWith pos f first (backTo pos (starEach [] X.env)) (backToKw pos (keywordEach [] X.env))) := by rfl) :
    PE X (.Call (.Attribute o m apos) [] [] pos) (tMeth (He.ga X.K C) m sp [] E0 to tNil) := by
  obtain ⟨fd, F, hb⟩ := D.ex
  exact pe_meth0 ho D.cl D.me F (hr.mono hkj) hb .nil pass0 ht
end
/-- C(..): the class C with an own __init__ that raises nothing -/
structure MakeD (P : Program) (w : World) (K : PySem.W.Frag) (mg : Str → Option Value) (base : Heap) (C : Str) (k : Nat) (ps : List Str) (sp : Sp) : Prop where
  ex : ∃ fd, FnOk P w K mg base CX0 k (He.ma K (He.ga K C) "__init__") fd ps sp ∧ Binds K fd ps []
  mkr : Mk K (He.ga K C) (He.ma K (He.ga K C) "__init__")
  hm : mg C = some (.ref (He.ga K C))
theorem pe_mkd {X : Cx} {C : Str} {k j : Nat} {ps : List Str} {sp : Sp} {e : Expr} {es : List Expr} {p pos : Pos} {t : TA} (D : MakeD X.prog X.w X.K X.mg X.base C k ps sp) (hr : Room j X.A) (hkj : k + 1 ≤ j) (ha : PA X (e :: es) t)
    (hg : Gl X C := by rfl) (hdb : (C == ("__debug__" : Str)) = false := by decide) (he : starEach (e :: es) X.env = (false, eval e X.env) :: starEach es X.env := by rfl) (hpl : (backTo pos (starEach es X.env)).any (·.1) = false := by rfl) :
    PE X (.Call (.Name C p) (e :: es) [] pos) (tMake (He.ga X.K C) sp [] E0 t) := by
  obtain ⟨fd, F, hb⟩ := D.ex
  exact pe_make D.mkr F (hr.mono hkj) hg D.hm hb .nil pass0 ha hdb he hpl
section
variable {P : Program} {w : World} {K : PySem.W.Frag} {mg : Str → Option Value} {base : Heap}
theorem methx_mk {C m qual : Str} {st : Stmt} {fd : FuncData} {dvs : List V} {kws : List (Str × V)} {N ps : List Str} {k : Nat} {sp : Sp} (F : FunD K m qual (defArgs st) (defBody st) (defScope st) dvs kws (He.ma K (He.ga K C) m) fd) (hb : Binds K fd ps [])
    (cl : Cls K (He.ga K C)) (me : Meth K (He.ga K C) m (He.ma K (He.ga K C) m)) (S : FnScope N ps (defScope st)) (len : ∀ vs H Q E, sp vs H Q E → vs.length = ps.length)
    (body : ∀ (cdv : Value) (A : Around) (outer : List Env) (s : Shared) (H : Hp) (vs : List V) (Q : VK) (E : XK), Room k (A.deeper (envOfC qual (defScope st) s.heap.objs.size (He.ma K (He.ga K C) m) cdv)) → sp vs H Q E →
      (Takes (cxOf (L2.CX P w) P w K mg base N qual (defScope st) (He.ma K (He.ga K C) m) cdv A outer s H E) fun cls d _ H => E cls d H) →
      ∃ t, PSs (cxOf (L2.CX P w) P w K mg base N qual (defScope st) (He.ma K (He.ga K C) m) cdv A outer s H E) (defBody st) t ∧ t { nx := fun _ H' => Q .non H', rt := Q } (start N vs) H) : MethX P w K mg base C m (k + 1) ps sp :=
  ⟨⟨fd, FunD.ok F S len (fun cdv A outer s H vs Q E hr h => body cdv A outer s H vs Q E hr h (takes_of rfl rfl rfl rfl)), hb⟩, cl, me⟩
theorem fnm_mk {C m qual : Str} {st : Stmt} {fd : FuncData} {dvs : List V} {kws : List (Str × V)} {N ps : List Str} {k : Nat} {sp : Sp} (F : FunD K m qual (defArgs st) (defBody st) (defScope st) dvs kws (He.ma K (He.ga K C) m) fd)
    (S : FnScope N ps (defScope st)) (len : ∀ vs H Q E, sp vs H Q E → vs.length = ps.length)
    (body : ∀ (cdv : Value) (A : Around) (outer : List Env) (s : Shared) (H : Hp) (vs : List V) (Q : VK) (E : XK), Room k (A.deeper (envOfC qual (defScope st) s.heap.objs.size (He.ma K (He.ga K C) m) cdv)) → sp vs H Q E →
      ∃ t, PSs (cxOf CX0 P w K mg base N qual (defScope st) (He.ma K (He.ga K C) m) cdv A outer s H E).nox (defBody st) t ∧ t { nx := fun _ H' => Q .non H', rt := Q } (start N vs) H) : FnOk P w K mg base CX0 (k + 1) (He.ma K (He.ga K C) m) fd ps sp :=
  FunD.ok F S len fun cdv A outer s H vs Q E hr h => let ⟨t, a, b⟩ := body cdv A outer s H vs Q E hr h; ⟨t, PSs.nox a, b⟩
theorem methd_mk {C m qual : Str} {st : Stmt} {fd : FuncData} {dvs : List V} {kws : List (Str × V)} {N ps : List Str} {k : Nat} {sp : Sp} (F : FunD K m qual (defArgs st) (defBody st) (defScope st) dvs kws (He.ma K (He.ga K C) m) fd) (hb : Binds K fd ps [])
    (cl : Cls K (He.ga K C)) (me : Meth K (He.ga K C) m (He.ma K (He.ga K C) m)) (S : FnScope N ps (defScope st)) (len : ∀ vs H Q E, sp vs H Q E → vs.length = ps.length)
    (body : ∀ (cdv : Value) (A : Around) (outer : List Env) (s : Shared) (H : Hp) (vs : List V) (Q : VK) (E : XK), Room k (A.deeper (envOfC qual (defScope st) s.heap.objs.size (He.ma K (He.ga K C) m) cdv)) → sp vs H Q E →
      ∃ t, PSs (cxOf CX0 P w K mg base N qual (defScope st) (He.ma K (He.ga K C) m) cdv A outer s H E).nox (defBody st) t ∧ t { nx := fun _ H' => Q .non H', rt := Q } (start N vs) H) : MethD P w K mg base C m (k + 1) ps sp :=
  ⟨⟨fd, fnm_mk F S len body, hb⟩, cl, me⟩
theorem MethX.mono {C m : Str} {j k : Nat} {ps : List Str} {sp : Sp} (D : MethX P w K mg base C m j ps sp) (h : j ≤ k) : MethX P w K mg base C m k ps sp := by
  obtain ⟨fd, F, r⟩ := D.ex
  exact ⟨⟨fd, F.mono h, r⟩, D.cl, D.me⟩
theorem MethD.mono {C m : Str} {j k : Nat} {ps : List Str} {sp : Sp} (D : MethD P w K mg base C m j ps sp) (h : j ≤ k) : MethD P w K mg base C m k ps sp := by
  obtain ⟨fd, F, r⟩ := D.ex
  exact ⟨⟨fd, F.mono h, r⟩, D.cl, D.me⟩
/-- a promise that is never asked -/
theorem methx_none {C m qual : Str} {params : Arguments} {body : List Stmt} {scope : Scope} {fd : FuncData} {dvs : List V} {kws : List (Str × V)} {ps : List Str} {sp : Sp} (_F : FunD K m qual params body scope dvs kws (He.ma K (He.ga K C) m) fd) (hb : Binds K fd ps [])
    (cl : Cls K (He.ga K C)) (me : Meth K (He.ga K C) m (He.ma K (He.ga K C) m)) (no : ∀ vs H Q E, ¬ sp vs H Q E) : MethX P w K mg base C m 0 ps sp :=
  ⟨⟨fd, ⟨fun vs H Q E h => absurd h (no vs H Q E), fun A outer s H args us vs Q E _ _ _ _ h => absurd h (no vs H Q E)⟩, hb⟩, cl, me⟩
end
/-! ### all but one object stays -/
theorem sameT_i {a C dx : Addr} {fs : List (Str × V)} {H H' : Hp} (ha : H a = some (.ins C dx fs)) (e : SameB a H H') : SameT H H' := fun b ys h => e b _ (fun z => by rw [z, ha] at h; cases h) h
theorem sb_refl {a : Addr} {H : Hp} : SameB a H H := fun _ _ _ h => h
theorem SameB.tr {a : Addr} {H H1 H2 : Hp} (x : SameB a H H1) (y : SameB a H1 H2) : SameB a H H2 := fun b u n h => y b u n (x b u n h)
theorem sb_of {a : Addr} {H H1 : Hp} (x : Same H H1) : SameB a H H1 := fun b u _ h => x b u h
theorem sb_upd {a : Addr} {H : Hp} {o : HO} : SameB a H (upd H a o) := fun b u n h => by rw [upd_ne n]; exact h
theorem sb_same {a : Addr} {H H1 : Hp} (ha : H a = none) (x : SameB a H H1) : Same H H1 := fun b u h => x b u (ne_of_none h ha) h
end FF
/-! Fivefault, part 21: {k: v for a in xs for b in ys}. -/
namespace FF
open PySem PySem.Spec PyProof.Rows L2
section
variable {prog : Program} {w : World} {A : Around} {R : Result → Shared → Prop} {s : Shared} {ek ev ga ia gb ib : Expr} {cs ds : List Expr} {scope : Scope} {pos : Pos} {it : Value} {D : Addr} {env : Env}
abbrev dcE (ek ev ga ia gb ib : Expr) (cs ds : List Expr) (scope : Scope) (pos : Pos) : Expr := .DictComp ek ev [⟨ga, ia, cs, 0⟩, ⟨gb, ib, ds, 0⟩] scope pos
abbrev okE (A : Around) (prog : Program) (w : World) (env : Env) (R : Result → Shared → Prop) : Value → Shared → Prop := notedBy (model prog w) A env fun e s' => R (.error e) s'
abbrev testsOf (cs : List Expr) (env : Env) : Sem Bool := forIn cs true fun c r => if r = true then do let ok ← isTrue c env (eval c env); pure (ForInStep.yield ok) else pure (ForInStep.yield r)
theorem dturn_out : compTurn (dcE ek ev ga ia gb ib cs ds scope pos) 0 it (.ref D) env = (do
      standAt ia.pos
      match ← pyNext it with
      | none => pure (.done .next)
      | some v =>
        letOwnedTupleGo ga it v
        assign ga env v
        let mut ok := true
        for c in cs do
          if ok then ok ← isTrue c env (eval c env)
        if ok then
          let x ← eval ib env
          standAt ib.pos
          let x ← foldedSetIterable ib env x
          let _ ← runOwn (.compStart (dcE ek ev ga ia gb ib cs ds scope pos) 1 (← holding [x] (pyIter x)) (.ref D) env) env
        again (.compLoop (dcE ek ev ga ia gb ib cs ds scope pos) 0 it (.ref D) env)) := by rfl
theorem dturn_in : compTurn (dcE ek ev ga ia gb ib cs ds scope pos) 1 it (.ref D) env = (do
      standAt ib.pos
      match ← pyNext it with
      | none => pure (.done .next)
      | some v =>
        letOwnedTupleGo gb it v
        assign gb env v
        let mut ok := true
        for c in ds do
          if ok then ok ← isTrue c env (eval c env)
        if ok then
          (do
            let kv ← eval ek env
            let vv ← holding [kv] (eval ev env)
            standAt { ek.pos with endLine := ev.pos.endLine, endCol := ev.pos.endCol }
            holding [kv, vv] (dictSet D kv vv))
        again (.compLoop (dcE ek ev ga ia gb ib cs ds scope pos) 1 it (.ref D) env)) := by rfl
/-- the loop over the first source -/
theorem dloop_out (hs : ∀ x, foldedSetIterable ib env x = pure x) (J : Nat → Shared → Prop)
    (turn : ∀ n s, J n s → wpAny (model prog w) A (pyNext it) (fun r s₁ => match r with
      | none => R (.ok .next) s₁
      | some v => wpAny (model prog w) A (letOwnedTupleGo ga it v) (fun _ sa => wpAny (model prog w) A (assign ga env v) (fun _ sb => wpAny (model prog w) A (testsOf cs env) (fun ok sc =>
          if ok = true then wpAny (model prog w) A (eval ib env) (fun x sd => wpAny (model prog w) A (pyIter x) (fun i2 se => codeAny (model prog w) A (.compStart (dcE ek ev ga ia gb ib cs ds scope pos) 1 i2 (.ref D) env) (fun r s' => match r with
            | .ok _ => ∃ m, m < n ∧ J m s'
            | .error _ => False) se) (okE A prog w env R) sd) (okE A prog w env R) sc
          else ∃ m, m < n ∧ J m sc) (okE A prog w env R) sb) (okE A prog w env R) sa) (okE A prog w env R) s₁) (okE A prog w env R) s)
    (n : Nat) (h : J n s) : codeAny (model prog w) A (.compLoop (dcE ek ev ga ia gb ib cs ds scope pos) 0 it (.ref D) env) R s := by
  refine codeAny_loop rfl J (fun n s hJ => ?_) n h
  show wpAny _ A ((compTurn (dcE ek ev ga ia gb ib cs ds scope pos) 0 it (.ref D) env).onRaise (fun x => do noteFrame x env; theTreesLotGoes x)) _ _ s
  refine wpAny_noted ?_
  rw [dturn_out]
  refine wpAny_bind (wpAny_standAt (wpAny_bind (wpAny_mono (turn n s hJ) (fun r sa ha => ?_) fun _ _ z => z)))
  match r, ha with
  | none, ha => exact wpAny_pure ha
  | some v, ha =>
    refine wpAny_bind (wpAny_mono ha (fun _ sb hb => wpAny_bind (wpAny_mono hb (fun _ sc hc => wpAny_bind (wpAny_mono hc (fun ok sd hd => ?_) fun _ _ z => z)) fun _ _ z => z)) fun _ _ z => z)
    match ok, hd with
    | false, hd => exact wpAny_pure ⟨rfl, hd⟩
    | true, hd =>
      refine wpAny_bind (wpAny_mono hd (fun x se he => wpAny_bind (wpAny_standAt (wpAny_bind (wpAny_of_eq (hs x) (wpAny_bind (wpAny_holding (wpAny_mono he (fun i2 sf hf => ?_) fun _ _ z => z))))))) fun _ _ z => z)
      refine wpAny_bind (wpAny_runOwn ?_)
      rw [Around.mark_none]
      refine codeAny_mono hf fun r s' hr => ?_
      match r, hr with
      | .ok f, hr =>
        first
          | exact wpAny_pure ⟨rfl, hr⟩
          | exact wpAny_bind (wpAny_pure (wpAny_pure ⟨rfl, hr⟩))
      | .error e, hr => exact hr.elim
/-- the loop over the second -/
theorem dloop_in (J : Nat → Shared → Prop)
    (turn : ∀ n s, J n s → wpAny (model prog w) A (pyNext it) (fun r s₁ => match r with
      | none => R (.ok .next) s₁
      | some v => wpAny (model prog w) A (letOwnedTupleGo gb it v) (fun _ sa => wpAny (model prog w) A (assign gb env v) (fun _ sb => wpAny (model prog w) A (testsOf ds env) (fun ok sc =>
          if ok = true then wpAny (model prog w) A (eval ek env) (fun kv sd => wpAny (model prog w) A (eval ev env) (fun vv se => wpAny (model prog w) A (dictSet D kv vv) (fun _ sf => ∃ m, m < n ∧ J m sf) (okE A prog w env R) se) (okE A prog w env R) sd) (okE A prog w env R) sc
          else ∃ m, m < n ∧ J m sc) (okE A prog w env R) sb) (okE A prog w env R) sa) (okE A prog w env R) s₁) (okE A prog w env R) s)
    (n : Nat) (h : J n s) : codeAny (model prog w) A (.compLoop (dcE ek ev ga ia gb ib cs ds scope pos) 1 it (.ref D) env) R s := by
  refine codeAny_loop rfl J (fun n s hJ => ?_) n h
  show wpAny _ A ((compTurn (dcE ek ev ga ia gb ib cs ds scope pos) 1 it (.ref D) env).onRaise (fun x => do noteFrame x env; theTreesLotGoes x)) _ _ s
  refine wpAny_noted ?_
  rw [dturn_in]
  refine wpAny_bind (wpAny_standAt (wpAny_bind (wpAny_mono (turn n s hJ) (fun r sa ha => ?_) fun _ _ z => z)))
  match r, ha with
  | none, ha => exact wpAny_pure ha
  | some v, ha =>
    refine wpAny_bind (wpAny_mono ha (fun _ sb hb => wpAny_bind (wpAny_mono hb (fun _ sc hc => wpAny_bind (wpAny_mono hc (fun ok sd hd => ?_) fun _ _ z => z)) fun _ _ z => z)) fun _ _ z => z)
    match ok, hd with
    | false, hd => exact wpAny_pure ⟨rfl, hd⟩
    | true, hd =>
      exact wpAny_bind (wpAny_bind (wpAny_mono hd (fun kv se he => wpAny_bind (wpAny_holding (wpAny_mono he (fun vv sf hf => wpAny_bind (wpAny_standAt (wpAny_holding (wpAny_mono hf (fun _ sg hg => wpAny_pure ⟨rfl, hg⟩) fun _ _ z => z)))) fun _ _ z => z))) fun _ _ z => z))
theorem dstart_in (h0 : codeAny (model prog w) A (.compLoop (dcE ek ev ga ia gb ib cs ds scope pos) 1 it (.ref D) env) R s)
    (h : wpAny (model prog w) A (pyIter it) (fun i2 s' => codeAny (model prog w) A (.compLoop (dcE ek ev ga ia gb ib cs ds scope pos) 1 i2 (.ref D) env) R s') (okE A prog w env R) s) :
    codeAny (model prog w) A (.compStart (dcE ek ev ga ia gb ib cs ds scope pos) 1 it (.ref D) env) R s := by
  refine codeAny_of_tree ?_
  show wpAny _ _ ((compStart (dcE ek ev ga ia gb ib cs ds scope pos) 1 it (.ref D) env).onRaise (fun x => do noteFrame x env; standAt theWindowsPlace)) _ _ s
  refine wpAny_notedAt ?_
  unfold compStart
  show wpAny _ _ (ask >>= _) _ _ s
  refine wpAny_bind (wpAny_askSetting (wpAny_ite ?_))
  split
  · first
      | exact wpAny_bind (wpAny_pure (wpAny_pure (And.intro rfl h0)))
      | exact wpAny_pure (And.intro rfl h0)
  · first
      | exact wpAny_bind (wpAny_rule (wpAny_bind (wpAny_standAt (wpAny_bind (wpAny_mono h (fun i2 s' z => wpAny_pure (And.intro rfl z)) fun _ _ x => x)))))
      | (refine wpAny_bind (wpAny_rule ?_); show wpAny _ _ (standAt ib.pos >>= _) _ _ s; exact wpAny_bind (wpAny_standAt (wpAny_bind (wpAny_mono h (fun i2 s' z => wpAny_pure (And.intro rfl z)) fun _ _ x => x))))
end
/-- in every block of the comprehension -/
abbrev InBlk (X : Cx) (scope : Scope) (p : Cx → Prop) : Prop := ∀ (s : Shared) (H : Hp) (C : Addr) (cl : List (Str × Addr)) (fp : List Addr), p (X.blk s H scope (compEnvC scope cl C X.env) fp)
/-- the inner loop of {k: v for a in xs for b in ys} -/
def tDcIn (J : It) (g : TG) (tt : TT) (tk tv : TE) (D : Addr) (vs : List Nat) (σ : L2.St) (H : Hp) (Nx : Hp → Prop) : Prop := ∃ W : Nat → Nat → Hp → Prop, (∃ m, W 0 m H) ∧ ∀ j k H, W j k H →
  (J.stop j H ∧ Nx H) ∨ (J.go j H ∧ ∃ N : Hp → Prop, (∀ H', N H' → ∃ k', k' < k ∧ W (j + 1) k' H') ∧ ∀ x H', J.yld j H x H' → g x (wipe σ vs) H' fun σ3 H5 => wipe σ3 vs = wipe σ vs ∧ tt σ3 H5 fun b H6 =>
    if b = true then tk σ3 H6 fun y H7 => tv σ3 H7 fun z H8 => ∃ kvs key, y = kV key ∧ H8 D = some (.dK kvs) ∧ kvs.length < sizeLine ∧ N (upd H8 D (.dK (putK kvs key z))) else N H6)
def tDc2 (wi : TI) (g : TG) (tt : TT) (wi1 : TI) (g1 : TG) (tt1 : TT) (tk tv : TE) (vs vs1 : List Nat) : TE := fun σ H Q => wi σ H fun J H1 => ∀ D, H1 D = none → ∃ W : Nat → Nat → Hp → Prop, (∃ m, W 0 m (upd H1 D (.dK []))) ∧ ∀ i m H, W i m H →
  (J.stop i H ∧ Q (.ref D) H) ∨ (J.go i H ∧ ∃ Nx : Hp → Prop, (∀ H', Nx H' → ∃ m', m' < m ∧ W (i + 1) m' H') ∧ ∀ x H', J.yld i H x H' → g x (wipe σ vs) H' fun σ2 H2 => wipe σ2 vs = wipe σ vs ∧ tt σ2 H2 fun b H3 =>
    if b = true then wi1 σ2 H3 fun J1 H4 => tDcIn J1 g1 tt1 tk tv D vs1 σ2 H4 Nx else Nx H3)
theorem pe_dc2 {X : Cx} {ek ev ga ia gb ib : Expr} {cs ds : List Expr} {scope : Scope} {own : List (Str × Nat)} {vs1 : List Nat} {pos : Pos} {wi wi1 : TI} {g g1 : TG} {tt tt1 : TT} {tk tv : TE} (calm : X.calm = true) (nd : X.N.Nodup) (pia : PI X ga ia wi) (ok : BlkOk X.N X.env.scope scope own) (sub : ∀ i ∈ vs1, i ∈ own.map (·.2))
    (pga : InBlk X scope fun Y => PG Y ga g) (pta : InBlk X scope fun Y => PTs Y cs tt) (pib : InBlk X scope fun Y => PI Y gb ib wi1) (pgb : InBlk X scope fun Y => PG Y gb g1) (ptb : InBlk X scope fun Y => PTs Y ds tt1) (pek : InBlk X scope fun Y => PE Y ek tk) (pev : InBlk X scope fun Y => PE Y ev tv)
    (fa : ∀ x, foldedSetIterable ia X.env x = pure x := by intro _; rfl) (fb : ∀ env x, foldedSetIterable ib env x = pure x := by intro _ _; rfl) : PE X (dcE ek ev ga ia gb ib cs ds scope pos) (tDc2 wi g tt wi1 g1 tt1 tk tv (own.map (·.2)) vs1) := by
  refine ⟨fun pins s σ H Q I h => ?_⟩
  show wpAny _ X.A (eval (.DictComp ek ev [⟨ga, ia, cs, 0⟩, ⟨gb, ib, ds, 0⟩] scope pos) X.env) _ _ _
  rw [arm_eval_DictComp]
  have cells : ∀ y ∈ scope.names, y.2 = .free → ∃ c, X.env.cells.lookup y.1 = some c := fun y hy e => (ok.free y hy e).elim (fun k => I.ok.has _ (.inl k)) fun k => I.ok.has _ (.inr k)
  refine wpAny_comprehension_free rfl fa (closure_ok cells) ok.kind (fun y hy e => by rw [ok.uniq y hy, e]) (thn (pia.run pins s σ H _ I h) fun xv sa hx => thn hx fun itv sb hb => ?_)
  obtain ⟨it, fp, tn, J, H2, rfl, I2, T, t2, f2, q⟩ := hb
  refine wpAny_newObj_type (newEnv_comp ?_)
  generalize hD : sb.heap.objs.size = D
  have freeD : H2 D = none := I2.hok.fresh (Nat.le_of_eq hD)
  obtain ⟨W, ⟨m0, w0⟩, turn⟩ := q D freeD
  generalize hs3 : ({ sb with heap := sb.heap.push { cls := .type "dict", data := .dict #[] } } : Shared) = s3
  have heap3 : s3.heap = sb.heap.push { cls := .type "dict", data := .dict #[] } := by rw [← hs3]
  have I3 : Inv X pins σ (upd H2 D (.dK [])) s3 := by
    rw [← hs3]
    exact I2.laid (t' := sb.toks) (fun b o e => Heap.get?_push_of_some _ e) (Nat.le_of_eq hD) (by rw [← hD]; exact dk_empty sb.heap I2.big)
  have below : ∀ b ∈ fp, b < sb.heap.objs.size := fun b hb => let ⟨o, e, _⟩ := T.obj _ _ t2 b hb; Heap.lt_size e
  have f3 : ∀ b ∈ fp, FpOk X pins (upd H2 D (.dK [])) b ∧ b < s3.heap.objs.size := fun b hb => by
    refine ⟨⟨?_, (f2 b hb).2⟩, by rw [heap3, Heap.size_push]; exact Nat.lt_succ_of_lt (below b hb)⟩
    rw [upd_ne (by rw [← hD]; exact Nat.ne_of_lt (below b hb))]
    exact (f2 b hb).1
  have t3 : tn 0 s3.heap := T.keep _ _ _ t2 fun b _ o e => by rw [heap3]; exact Heap.get?_push_of_some _ e
  have I4 := block_start I3 ok nd f3
  have off3 : ∀ b ∈ fp, (upd H2 D (.dK [])) b = none := fun b hb => (f3 b hb).1.1
  show codeAny _ _ (.compStart (dcE ek ev ga ia gb ib cs ds scope pos) 0 (.ref it) (.ref D) (compEnvC scope (cellsFrom (s3.heap.objs.size + 1) scope.names (cloFrom X.env.cells scope.names [])) s3.heap.objs.size X.env)) (compPost (model X.prog X.w) X.A X.xe none (EP X pins σ Q) (.ref D) s3.heap.objs.size) { s3 with heap := pushCells (s3.heap.push { cls := .type "dict", data := .dict #[] }) scope.names }
  generalize hcl : cellsFrom (s3.heap.objs.size + 1) scope.names (cloFrom X.env.cells scope.names []) = cl at I4 ⊢
  have rga := pga s3 (upd H2 D (.dK [])) s3.heap.objs.size cl fp
  have rta := pta s3 (upd H2 D (.dK [])) s3.heap.objs.size cl fp
  have rib := pib s3 (upd H2 D (.dK [])) s3.heap.objs.size cl fp
  have rgb := pgb s3 (upd H2 D (.dK [])) s3.heap.objs.size cl fp
  have rtb := ptb s3 (upd H2 D (.dK [])) s3.heap.objs.size cl fp
  have rek := pek s3 (upd H2 D (.dK [])) s3.heap.objs.size cl fp
  have rev := pev s3 (upd H2 D (.dK [])) s3.heap.objs.size cl fp
  have fbe := fb (compEnvC scope cl s3.heap.objs.size X.env)
  generalize hce : compEnvC scope cl s3.heap.objs.size X.env = ce at I4 rga rta rib rgb rtb rek rev fbe ⊢
  have loc : ce.locals = s3.heap.objs.size := by subst hce; rfl
  generalize hH3 : upd H2 D (.dK []) = H3 at I3 I4 rga rta rib rgb rtb rek rev w0 off3 f3
  generalize hs4 : ({ s3 with heap := pushCells (s3.heap.push { cls := .type "dict", data := .dict #[] }) scope.names } : Shared) = s4 at I4 ⊢
  have t4 : tn 0 s4.heap := T.keep _ _ _ t3 fun b _ o e => by rw [← hs4]; exact pushCells_keeps _ _ _ _ (Heap.get?_push_of_some _ e)
  let B := X.blk s3 H3 scope ce fp
  have foot : ∀ {σ' : L2.St} {H' : Hp} {s' : Shared}, Inv B [] σ' H' s' → (∀ b ∈ fp, H' b = none) → ∀ b ∈ fp, FpOk B [] H' b := fun {σ' H' s'} I' hn b hb =>
    ⟨hn b hb, (I'.ok.exf b hb).1, I'.ok.exfs b hb, .inl hb, fun x c e => (I'.ok.exf b hb).2 x c e, fun p hp => absurd (show p ∈ ([] : List (Addr × Obj)) ++ [] from hp) (by simp)⟩
  let Sj : Nat → Shared → Prop := fun n s' => ∃ i H', Inv B [] (wipe σ (own.map (·.2))) H' s' ∧ tn i s'.heap ∧ (∀ b ∈ fp, H' b = none) ∧ W i n H'
  have loop := dloop_out (prog := X.prog) (w := X.w) (A := X.A) (it := .ref it) (D := D) (ek := ek) (ev := ev) (ga := ga) (ia := ia) (gb := gb) (cs := cs) (ds := ds) (scope := scope) (pos := pos) (R := compPost (model X.prog X.w) X.A X.xe none (EP X pins σ Q) (.ref D) s3.heap.objs.size) fbe Sj (fun n s5 hs5 => ?_) m0 (show Sj m0 s4 from ⟨0, H3, I4, t4, off3, w0⟩)
  · exact codeAny_compStart_dict loop (T.self X.A 0 _ _ _ t4 loop)
  obtain ⟨i, H5, I5, t5, n5, w5⟩ := hs5
  rcases turn i n H5 w5 with ⟨stop, qq⟩ | ⟨go, Nx, hNx, step⟩
  · refine thnF (T.done B rfl rfl rfl calm i [] s5 _ H5 (fun _ _ => False) I5 (foot I5 n5) t5 stop) fun r s6 ⟨hr, I6⟩ => ?_
    subst hr
    have I7 : Inv X pins σ H5 s6 := I3.call' (ch := fp) I6.os I6.base I6.hok I6.bare fun b hb => ⟨(f3 b hb).1.2.2.2.1, (f3 b hb).1.2.1, (f3 b hb).1.2.2.2.2.1, (f3 b hb).1.2.2.2.2.2⟩
    have freeC : H5 s3.heap.objs.size = none := loc ▸ (show H5 ce.locals = none from I6.free)
    obtain ⟨m, hn, _⟩ := I6.loc
    have hn : s6.heap.Ns s3.heap.objs.size m := loc ▸ (show s6.heap.Ns ce.locals m from hn)
    obtain ⟨k0, k1, k2, k3, k4, k5⟩ := I3.fpOk (Nat.le_refl _) freeC
    exact ⟨m, hn, fun h'' same => ⟨.ref D, H5, I7.turned (t' := s6.toks) (fun b o hb e => (same.2 b hb).trans e) k0 k1 k3 k4 k5, rfl, qq⟩⟩
  refine thnF (T.item B rfl rfl rfl calm i [] s5 _ H5 (fun _ _ => False) I5 (foot I5 n5) t5 go) fun r s6 ⟨u, hr, h6⟩ => ?_
  subst hr
  refine thnF h6 fun _ s7 ⟨x, H7, I7, r7, y7, t7, n7⟩ => ?_
  refine thnF (rga.run _ s7 _ H7 x u _ (I7.pinned (foot I7 n7) (T.obj _ _ t7)) r7 (step x H7 y7)) fun _ s8 ⟨σ8, H8, I8, hw8, q8⟩ => ?_
  refine thnF (rta.run _ s8 σ8 H8 _ I8 q8) fun b s9 ⟨H9, I9, q9⟩ => ?_
  have turnEnd : ∀ {σ9 : L2.St} {s' : Shared} {H' : Hp}, Inv B ([] ++ pinsAt fp s7.heap) σ9 H' s' → (wipe σ (own.map (·.2))).length = σ9.length → (∀ (j : Nat) v, (wipe σ (own.map (·.2)))[j]? = some (some v) → σ9[j]? = some (some v)) → Nx H' → ∃ m, m < n ∧ Sj m s' := fun {σ9 s' H'} I' hl hk nx => by
    obtain ⟨m', hm, w'⟩ := hNx H' nx
    have stays : ∀ b ∈ fp, ∀ o, s7.heap.get? b = some o → s'.heap.get? b = some o ∧ H' b = none := fun b hb o e =>
      let z := I'.pin (b, o) (List.mem_append_right _ (List.mem_append_right _ (mem_pinsAt hb e)))
      ⟨z.1, z.2.1⟩
    exact ⟨m', hm, i + 1, H', (I'.unpinned (pins := [])).weak hl hk, T.keep _ _ _ t7 fun b hb o e => (stays b hb o e).1, fun b hb => let ⟨o, e, _⟩ := T.obj _ _ t7 b hb; (stays b hb o e).2, w'⟩
  have len8 : (wipe σ (own.map (·.2))).length = σ8.length := by rw [← hw8, wipe_length]
  have keep8 : ∀ (j : Nat) v, (wipe σ (own.map (·.2)))[j]? = some (some v) → σ8[j]? = some (some v) ∧ j ∉ own.map (·.2) := fun j v e => by
    rw [← hw8] at e
    exact wipe_some e
  cases b with
  | false => exact turnEnd I9 len8 (fun j v e => (keep8 j v e).1) (by simpa using q9)
  | true =>
  simp only [if_true] at q9 ⊢
  refine thnF (rib.run _ s9 σ8 H9 _ I9 q9) fun yv s10 hy => thnF hy fun itv s11 h11 => ?_
  obtain ⟨i1, fp1, tn1, J1, H11, rfl, I11, T1, t11, f11, W1, ⟨m1, w1⟩, turn1⟩ := h11
  have foot1 : ∀ {H' : Hp}, (∀ b ∈ fp1, H' b = none) → ∀ b ∈ fp1, FpOk B ([] ++ pinsAt fp s7.heap) H' b := fun hn b hb => ⟨hn b hb, (f11 b hb).2⟩
  let Sk : Nat → Shared → Prop := fun k s' => ∃ j H', Inv B ([] ++ pinsAt fp s7.heap) (wipe σ8 vs1) H' s' ∧ tn1 j s'.heap ∧ (∀ b ∈ fp1, H' b = none) ∧ W1 j k H'
  have loop1 := dloop_in (prog := X.prog) (w := X.w) (A := X.A) (env := ce) (it := .ref i1) (D := D) (ek := ek) (ev := ev) (ga := ga) (ia := ia) (gb := gb) (ib := ib) (cs := cs) (ds := ds) (scope := scope) (pos := pos) (R := fun r s' => match r with
    | .ok _ => ∃ m, m < n ∧ Sj m s'
    | .error _ => False) Sk (fun k s12 hs12 => ?_) m1 (show Sk m1 s11 from ⟨0, H11, I11.weak (wipe_length _ _) (fun j v e => (wipe_some e).1), t11, fun b hb => (f11 b hb).1, w1⟩)
  · exact dstart_in loop1 (T1.self X.A 0 _ _ _ t11 loop1)
  obtain ⟨j, H12, I12, t12, n12, w12⟩ := hs12
  rcases turn1 j k H12 w12 with ⟨stop1, nx1⟩ | ⟨go1, N1, hN1, step1⟩
  · refine thnF (T1.done B rfl rfl rfl calm j _ s12 (wipe σ8 vs1) H12 (fun _ _ => False) I12 (foot1 n12) t12 stop1) fun r s13 ⟨hr, I13⟩ => ?_
    subst hr
    refine turnEnd I13 (len8.trans (wipe_length σ8 vs1).symm) (fun j v e => ?_) nx1
    obtain ⟨e1, e2⟩ := keep8 j v e
    rw [wipe_out fun z => e2 (sub j z)]
    exact e1
  refine thnF (T1.item B rfl rfl rfl calm j _ s12 (wipe σ8 vs1) H12 (fun _ _ => False) I12 (foot1 n12) t12 go1) fun r s13 ⟨u1, hr, h13⟩ => ?_
  subst hr
  refine thnF h13 fun _ s14 ⟨x1, H14, I14, r14, y14, t14, n14⟩ => ?_
  refine thnF (rgb.run _ s14 (wipe σ8 vs1) H14 x1 u1 _ (I14.pinned (foot1 n14) (T1.obj _ _ t14)) r14 (step1 x1 H14 y14)) fun _ s15 ⟨σ15, H15, I15, hw15, q15⟩ => ?_
  refine thnF (rtb.run _ s15 σ15 H15 _ I15 q15) fun b1 s16 ⟨H16, I16, q16⟩ => ?_
  have innerEnd : ∀ {s' : Shared} {H' : Hp}, Inv B (([] ++ pinsAt fp s7.heap) ++ pinsAt fp1 s14.heap) σ15 H' s' → N1 H' → ∃ m, m < k ∧ Sk m s' := fun {s' H'} I' nx => by
    obtain ⟨m', hm, w'⟩ := hN1 H' nx
    have stays : ∀ b ∈ fp1, ∀ o, s14.heap.get? b = some o → s'.heap.get? b = some o ∧ H' b = none := fun b hb o e =>
      let z := I'.pin (b, o) (List.mem_append_right _ (List.mem_append_right _ (mem_pinsAt hb e)))
      ⟨z.1, z.2.1⟩
    exact ⟨m', hm, j + 1, H', I'.unpinned.weak (by rw [← hw15, wipe_length]) (fun j v e => by rw [← hw15] at e; exact (wipe_some e).1), T1.keep _ _ _ t14 fun b hb o e => (stays b hb o e).1, fun b hb => let ⟨o, e, _⟩ := T1.obj _ _ t14 b hb; (stays b hb o e).2, w'⟩
  cases b1 with
  | false => exact innerEnd I16 (by simpa using q16)
  | true =>
  simp only [if_true] at q16 ⊢
  refine thnF (rek.run _ s16 σ15 H16 _ I16 q16) fun yk s17 ⟨kk, H17, I17, r17, q17⟩ => ?_
  refine thnF (rev.run _ s17 σ15 H17 _ I17 q17) fun yv2 s18 ⟨vv, H18, I18, r18, kvs, key, ek2, hD18, hz18, nx⟩ => ?_
  subst ek2
  exact d_dictSet (X := B) I18 hD18 hz18 r17 r18 fun s19 I19 => innerEnd I19 nx
end FF
/-! Fivefault, part 22: sorted(d), a dict with any number of text keys. -/
namespace FF
open PySem PySem.Spec PyProof.Rows L2
def rSortedDA (H0 : Unit) : List V → Hp → VK → Prop := fun xs H Q => ∃ (a : Addr) (kvs : List (Key × V)) (ks : List Str), xs = [.ref a] ∧ H a = some (.dK kvs) ∧ kvs.map (·.1) = ks.map Sum.inr ∧ ∀ ys p, ys.Perm ks → sortedS ys = true → H p = none → Q (.ref p) (upd H p (.lst (ys.map V.str)))
theorem cr_sortedDA {X : Cx} (calm : X.calm = true) : CallR X (.builtin "sorted") (rSortedDA ()) := by
  intro pins s σ H xs us Q I r h
  obtain ⟨a, kvs, ks, rfl, hd, hk, q⟩ := h
  obtain ⟨u, rfl, rx⟩ := vals1 r
  cases rx
  obtain ⟨z, big, vs, rel, dd⟩ := dk_rd I.hok (.inl hd)
  obtain ⟨ep, hat⟩ := dd.dictAt
  have keys : vs.map (·.1) = ks.map Sum.inr := rel.keys.symm.trans hk
  have len : vs.length = ks.length := by simpa using congrArg List.length keys
  have line : vs.length ≤ sizeLine := rel.length ▸ z
  refine Calls.call_function_entry PyProof.Rows.kind_sorted PyProof.Rows.plain_sorted PyProof.Rows.entry_sorted (PyProof.Rows.args_sorted1 _) ?_
  unfold Builtin.«sorted»
  refine wpAny_bind (m := checkCount "sorted" 1 1 _) (wpAny_pure ?_)
  refine wpAny_bind (PySem.W.kdu_collect (A := X.A.in1) (PySem.W.kdl_dict (knd := mixKind X.prog X.w) (kvs := vs) (ep := ep) big) (I.ok.hd calm) hat line fun h' tk acc hkeep hacc => ?_)
  have la : acc.toList.length = ks.length := by rw [Array.length_toList, hacc.1, len]
  have hS : StrsAre acc.toList ks := strs_at la fun j v e => by
    obtain ⟨k, x, e1, e2⟩ := hacc.2 j v (by rw [← Array.getElem?_toList]; exact e)
    have e3 : (ks.map Sum.inr : List Key)[j]? = some k := by
      rw [← keys, List.getElem?_map, e1]
      rfl
    rw [List.getElem?_map] at e3
    match hj : ks[j]?, e3 with
    | some y, e3 =>
      cases Option.some.inj e3
      obtain ⟨t, ev⟩ := Value.isStrOf_shape (x := y) (v := v) e2
      exact ⟨y, t, rfl, ev⟩
  have I1 : Inv X pins σ H { s with heap := h', toks := tk } := I.kept hkeep
  refine wpAny_bind (wpAny_newList ?_ (by rw [la, ← len]; exact line))
  have new : (h'.push (seqObj "list" acc.toList.toArray 0)).get? h'.objs.size = some (seqObj "list" acc.toList.toArray 0) := Heap.get?_push_size _ rfl
  show wpAny _ _ _ _ _ { s with heap := h'.push (seqObj "list" acc.toList.toArray 0), toks := tk }
  refine wpAny_bind (wpAny_holding (wpAny_call_entry PyProof.Rows.slot_list_sort ⟨_, new, rfl⟩ PyProof.Rows.entry_list_sort
    (list_sort_treeKSt strKind_oneLt (s := { s with heap := h'.push (seqObj "list" acc.toList.toArray 0), toks := tk }) new hS.keysOf (fun v1 v2 rest e => keyKind_strs (by rw [← e]; exact hS)) (by rw [la, ← len]; exact line) fun st' hp hs _ => ⟨_, rfl, ?_⟩)
    (PyProof.Rows.args_list_sort _)))
  obtain ⟨ys, g1, g2, g3⟩ := sorted_out_str hS hp hs
  obtain ⟨e', he'⟩ := PyProof.Rows.sortedHeap_at (vs := acc.toList) (out := (arrOf st').map (·.2)) new
  have size : (ys.map V.str).length ≤ sizeLine := by rw [List.length_map, g2.length_eq, ← len]; exact line
  have old : ∀ b o, h'.get? b = some o → (sortedHeap (h'.push (seqObj "list" acc.toList.toArray 0)) h'.objs.size acc.toList ((arrOf st').map (·.2))).get? b = some o := fun b o e => by
    have hb := Heap.lt_size e
    rw [PyProof.Rows.sortedHeap_old (Nat.ne_of_lt hb) (by rw [size_push']; exact Nat.lt_succ_of_lt hb)]
    exact Heap.get?_push_of_some _ e
  exact wpAny_pure ⟨_, rfl, .ref h'.objs.size, upd H h'.objs.size (.lst (ys.map V.str)), I1.laid (t' := tk) old (Nat.le_refl _) ⟨size, ((arrOf st').map (·.2)).toList, e', vals_of_strs g1, by rw [Array.toArray_toList]; exact he'⟩, rfl, q ys _ g2 g3 (I1.hok.fresh (Nat.le_refl _))⟩
end FF
/-! Fivefault, part 23: enumerate over a tuple; what is a list or a tuple, walked. -/
namespace FF
open PySem PySem.Spec PyProof.Rows L2
open Sem (wp)
set_option maxHeartbeats 4000000 in
theorem enumT_new {v : Value} {o : Obj} {p : Heap → Prop} (B : Begins v o p) : Meets (Builtin.«enumerate.__new__» ⟨[.type "enumerate", v], []⟩) (fun _ R s => p s.heap ∧
      R (.ok (.ret (.ref (s.heap.push o).objs.size))) { s with heap := (s.heap.push o).push { cls := .type "enumerate", data := .fields #[.none, .bool false, .ref s.heap.objs.size, rawInt 0, .none, .none] } }) :=
  .of_wp fun prog w A R s h => by
    obtain ⟨hp, g, d, tk, os⟩ := s
    obtain ⟨h1, h⟩ := h
    have hsub := sub_enumerate
    have begin' : ∀ {A' : Around} {E : Value → Shared → Prop} {Q : Value → Shared → Prop}, Q (.ref hp.objs.size) ⟨hp.push o, g, d, tk, os⟩ → wpAny (model prog w) A' (pyIter v) Q E ⟨hp, g, d, tk, os⟩ :=
      fun q => B.iter prog w _ _ ⟨hp, g, d, tk, os⟩ _ h1 q
    wp_walk using begin'
    refine wpAny_stack_any fun st => wpAny_pure ?_
    split
    · rename_i c _ _ _ _ _
      cases (c == Value.type "enumerate") <;> (wp_walk using begin'; exact ⟨_, rfl, h⟩)
    · wp_walk using begin'
      exact ⟨_, rfl, h⟩
section
variable {prog : Program} {w : World} {A : Around} {E : Value → Shared → Prop} {s : Shared}
theorem enumT_call {t : Addr} {items : Array Value} {Q : Value → Shared → Prop} (ht : s.heap.IsTuple t items)
    (h : ∀ h', IsEnum h' (s.heap.objs.size + 1) s.heap.objs.size 0 .none → h'.IsTupleIter s.heap.objs.size t 0 → (∀ b o, s.heap.get? b = some o → h'.get? b = some o) → Q (.ref (s.heap.objs.size + 1)) { s with heap := h' }) :
    wpAny (model prog w) A (call (.type "enumerate") [.ref t]) Q E s := by
  refine callType_new F.called_enumerate (by decide) (F.typeCall_enumerate_1 _) (F.newCall_enumerate_1 _) (fun obj => F.args_object_init_2 obj _) F.entry_enumerate_new (enumT_new (begins_tuple t items)) ⟨ht, ?_⟩
  have two : (s.heap.push { cls := .type "tuple_iterator", data := .fields #[.ref t, .int 0 0] }).objs.size = s.heap.objs.size + 1 := Heap.size_push ..
  show _ ∧ _
  rw [two]
  have he := Heap.get?_push_size (s.heap.push { cls := .type "tuple_iterator", data := .fields #[.ref t, .int 0 0] }) (o := { cls := .type "enumerate", data := .fields #[.none, .bool false, .ref s.heap.objs.size, rawInt 0, .none, .none] }) rfl
  rw [two] at he
  exact ⟨⟨_, he, rfl⟩, h _ he ⟨_, Heap.get?_push_of_some _ (Heap.get?_push_size _ rfl), rfl, rfl⟩ fun b o x => Heap.get?_push_of_some _ (Heap.get?_push_of_some _ x)⟩
end
/-- the tuple at a, each item in a new pair -/
def Itet (K : PySem.W.Frag) (a : Addr) : It :=
  ⟨fun i H => ∃ (xs : List V) (x : V), SqT K H a xs ∧ xs[i]? = some x, fun i H v H' => ∃ T x, v = .ref T ∧ H T = none ∧ H' = upd H T (.tup [.int (i : Nat), x]) ∧ ∀ xs, SqT K H a xs → xs[i]? = some x, fun i H => ∃ xs : List V, SqT K H a xs ∧ xs.length ≤ i⟩
theorem turn_enumT {P : Program} {w : World} {K : PySem.W.Frag} {elts : List Expr} {kk : Nat} {tpos : Pos} (a e it : Addr) :
    Turn P w K (.Tuple elts kk tpos) (Itet K a) [e, it] e (fun i h => (∃ old, IsEnum h e it ((i : Nat) : Int) old) ∧ h.IsTupleIter it a i ∧ e ≠ it) where
  mem := by simp
  obj := fun i h st b hb => by
    obtain ⟨⟨old, he⟩, ⟨o, ho, hc, hd⟩, _⟩ := st
    rcases (show b = e ∨ b = it by simpa using hb) with z | z
    · rw [z]; exact ⟨_, he, fun v q => nomatch q⟩
    · rw [z]; exact ⟨o, ho, fun v q => by rw [hd] at q; cases q⟩
  keep := fun i h h' st k => let ⟨⟨old, he⟩, hi, hne⟩ := st; ⟨⟨old, k e (by simp) _ he⟩, hi.at fun o q => k it (by simp) o q, hne⟩
  item := by
    intro X hP hw hK hc i pins s σ H E I hf st hg
    subst hP hw hK
    obtain ⟨⟨old, he⟩, hit, hne⟩ := st
    obtain ⟨xs, x, hq, hx⟩ := hg
    obtain ⟨its, rv, p, hz⟩ := I.tuple hq
    have hT : s.heap.IsTuple a its.toArray := p
    obtain ⟨u, hu, ru⟩ := rv.get hx
    have hel : e < s.heap.objs.size := Heap.lt_size he
    have hil : it < s.heap.objs.size := by obtain ⟨_, q, _⟩ := hit; exact Heap.lt_size q
    have nei : a ≠ it := fun z => by
      subst z
      obtain ⟨o, ho, hc', _⟩ := hT
      obtain ⟨o', ho', hc2, _⟩ := hit
      rw [ho] at ho'
      cases ho'
      rw [hc'] at hc2
      exact absurd hc2 (by intro z; injection z with z; exact absurd z (by decide))
    have nee : e ≠ a := fun z => by
      subst z
      obtain ⟨o, ho, hc', _⟩ := hT
      have he : s.heap.get? e = some _ := he
      rw [ho] at he
      cases he
      exact absurd hc' (by intro z; injection z with z; exact absurd z (by decide))
    have hlt : i < its.toArray.size := by
      have := (List.getElem?_eq_some_iff.mp hu).1
      simpa using this
    refine wpAny_pyNext_enum_itemD (Draws.tuple (A := X.A.in1) (I.ok.hd hc) it a nei its.toArray) he ⟨hit, hT⟩ hlt hne (by simp [hne, nee]) fun x' h' tk hP' ho hst hT' hsz hk => ?_
    have ex : x' = u := by
      have h1 : its.toArray[i]? = some x' := hP'
      rw [List.getElem?_toArray, hu] at h1
      exact (Option.some.inj h1).symm
    subst ex
    refine ⟨_, rfl, wpAny_letOwnedTupleGo_enum (s := { s with heap := h', toks := tk + 1 }) ho fun h'' he' sb => ?_⟩
    have hT2 : h''.get? s.heap.objs.size = some { cls := .type "tuple", data := .seq #[.int i tk, x'] } := (sb.2 _ (Nat.ne_of_gt hel)).trans hT'
    have new : ObjOk X.prog X.w (upd H s.heap.objs.size (.tup [.int (i : Nat), x])) h'' s.heap.objs.size (.tup [.int (i : Nat), x]) :=
      ⟨by show 2 ≤ sizeLine; decide, [.int i tk, x'], .cons ⟨_, rfl⟩ (.cons ru .nil), ⟨_, hT2, rfl, _, rfl⟩⟩
    have I1 : Inv X pins σ (upd H s.heap.objs.size (.tup [.int (i : Nat), x])) { s with heap := h'', toks := tk + 1 } :=
      I.turnedNew (ch := [e, it]) (fun b ob hb q => (sb.2 b (fun z => hb (by simp [z]))).trans (hk b ob (fun z => hb (by simp [z])) (fun z => hb (by simp [z])) q)) hf (Nat.le_refl _) new
    refine ⟨.ref s.heap.objs.size, _, I1, rfl, ⟨_, x, rfl, I.hok.fresh (Nat.le_refl _), rfl, fun ys hy => by rw [I.tuple_inj hy hq]; exact hx⟩, ⟨⟨x', ?_⟩, hst.1.at fun o q => (sb.2 it (Ne.symm hne)).trans q, hne⟩, fun b hb => ?_⟩
    · rw [show ((i + 1 : Nat) : Int) = (i : Int) + 1 by omega]
      exact he'
    · have hb' : b < s.heap.objs.size := by
        rcases (show b = e ∨ b = it by simpa using hb) with z | z
        · rw [z]; exact hel
        · rw [z]; exact hil
      rw [upd_ne (Nat.ne_of_lt hb')]
      exact (hf b hb).1
  done := by
    intro X hP hw hK hc i pins s σ H E I hf st hg
    subst hP hw hK
    obtain ⟨⟨old, he⟩, hit, hne⟩ := st
    obtain ⟨xs, hq, hx⟩ := hg
    obtain ⟨its, rv, p, hz⟩ := I.tuple hq
    have hT : s.heap.IsTuple a its.toArray := p
    have last : its.toArray[i]? = none := by
      have := rv.length
      rw [List.getElem?_toArray]
      exact List.getElem?_eq_none_iff.mpr (by omega)
    have D : Draws X.prog X.w X.A.in1 it [it, a] i (fun _ _ => True) (fun j h => j = i ∧ h.IsTupleIter it a i ∧ h.IsTuple a its.toArray) :=
      { live := fun _ _ st => let ⟨o, ho, _⟩ := st.2.1; ⟨o, ho⟩
        frame := fun _ _ _ st k => ⟨st.1, st.2.1.at fun o q => k it (by simp) o q, st.2.2.at fun o q => k a (by simp) o q⟩
        item := fun j s Q E hj st _ => absurd st.1 (Nat.ne_of_lt hj)
        done := fun s Q E st hE => wpAny_nextOf_tuple_end (I.ok.hd hc) st.2.1 st.2.2 last hE }
    obtain ⟨f0, f1, f2, f3, f4, f5⟩ := hf it (by simp)
    exact wpAny_pyNext_enum_endD D he ⟨rfl, hit, hT⟩ fun h' eb => ⟨rfl, I.turned (t' := s.toks) (fun b o hb q => eb b o hb q) f0 f1 f3 f4 f5⟩
  self := fun A i s Q E st h => let ⟨⟨_, he⟩, _⟩ := st; wpAny_pyIter_enum he h
/-- enumerate(e), e a list or a tuple -/
def iEnumS (K : PySem.W.Frag) (ta : TA) : TI := fun σ H R => ta σ H fun vs H1 => ∃ a xs, vs = [.ref a] ∧ ((SqL K H1 a xs ∧ R (Ite K a) H1) ∨ (SqT K H1 a xs ∧ R (Itet K a) H1))
theorem pi_enumS (K : PySem.W.Frag) {X : Cx} {e : Expr} {ta : TA} {p pos tpos : Pos} {elts : List Expr} {kk : Nat} (hg : Gl X "enumerate") (hm : X.mg "enumerate" = none) (ha : PA X [e] ta) (hK : X.K = K := by rfl) (hs : starEach [e] X.env = [(false, eval e X.env)] := by rfl) :
    PI X (.Tuple elts kk tpos) (.Call (.Name "enumerate" p) [e] [] pos) (iEnumS K ta) := by
  subst hK
  refine ⟨fun pins s σ H R I h => ?_⟩
  refine Call_ (ld_blt I hg hm boot_enumerate (PyProof.Rows.callWith_type1 (thn (ha.run pos pins s σ H _ I h) fun us s1 ⟨vs, H1, I1, r1, q1⟩ => ?_) hs rfl))
  obtain ⟨a, xs, ex, q⟩ := q1
  subst ex
  cases r1 with
  | cons r rr =>
  cases rr
  cases r
  have foot : ∀ {h' : Heap}, Inv X pins σ H1 { s1 with heap := h' } → ∀ b ∈ [s1.heap.objs.size + 1, s1.heap.objs.size], FpOk X pins H1 b := fun _ b hb => by
    have hle : s1.heap.objs.size ≤ b := by
      rcases (show b = s1.heap.objs.size + 1 ∨ b = s1.heap.objs.size by simpa using hb) with z | z
      · rw [z]; exact Nat.le_succ _
      · rw [z]; exact Nat.le_refl _
    exact I1.fpOk hle (I1.hok.fresh hle)
  rcases q with ⟨hq, q⟩ | ⟨hq, q⟩
  · obtain ⟨its, rv, p', hz⟩ := I1.list hq
    refine call_enumerate_list p'.isList fun h' he hit _ hk => wpAny_pyIter_enum he ?_
    have I2 : Inv X pins σ H1 { s1 with heap := h' } := I1.kept (t' := s1.toks) hk
    exact ⟨s1.heap.objs.size + 1, _, _, _, H1, rfl, I2, turn_enum a (s1.heap.objs.size + 1) s1.heap.objs.size, ⟨⟨.none, he⟩, hit, Nat.succ_ne_self _⟩, foot I2, q⟩
  · obtain ⟨its, rv, p', hz⟩ := I1.tuple hq
    refine enumT_call (show s1.heap.IsTuple a its.toArray from p') fun h' he hit hk => wpAny_pyIter_enum he ?_
    have I2 : Inv X pins σ H1 { s1 with heap := h' } := I1.kept (t' := s1.toks) hk
    exact ⟨s1.heap.objs.size + 1, _, _, _, H1, rfl, I2, turn_enumT a (s1.heap.objs.size + 1) s1.heap.objs.size, ⟨⟨.none, he⟩, hit, Nat.succ_ne_self _⟩, foot I2, q⟩
/-- e, a list or a tuple, walked -/
def iSeq (K : PySem.W.Frag) (tl : TE) : TI := fun σ H R => tl σ H fun v H1 => ∃ a xs, v = .ref a ∧ ((SqL K H1 a xs ∧ R (Itl K a) H1) ∨ (SqT K H1 a xs ∧ R (Itt K a) H1))
theorem pi_seqK (K : PySem.W.Frag) {X : Cx} {tg l : Expr} {tl : TE} (hl : PE X l tl) (hK : X.K = K := by rfl) : PI X tg l (iSeq K tl) := by
  subst hK
  refine ⟨fun pins s σ H R I h => ?_⟩
  refine thn (hl.run pins s σ H _ I h) fun v s1 ⟨x, H1, I1, r1, a, xs, e, q⟩ => ?_
  subst e
  cases r1
  have foot : ∀ b ∈ [s1.heap.objs.size], FpOk X pins H1 b := fun b hb => by
    rw [show b = s1.heap.objs.size by simpa using hb]
    exact I1.fpOk (Nat.le_refl _) (I1.hok.fresh (Nat.le_refl _))
  rcases q with ⟨hq, q⟩ | ⟨hq, q⟩
  · obtain ⟨its, rv, p, hz⟩ := I1.list hq
    exact wpAny_pyIter_list p.isList ⟨s1.heap.objs.size, _, _, _, H1, rfl, I1.kept (t' := s1.toks) fun b o e => Heap.get?_push_of_some _ e, turn_list a _, ⟨_, Heap.get?_push_size _ rfl, rfl, rfl⟩, foot, q⟩
  · obtain ⟨its, rv, p, hz⟩ := I1.tuple hq
    exact wpAny_pyIter_tuple (show s1.heap.IsTuple a its.toArray from p) ⟨s1.heap.objs.size, _, _, _, H1, rfl, I1.kept (t' := s1.toks) fun b o e => Heap.get?_push_of_some _ e, turn_tuple a _, ⟨_, Heap.get?_push_size _ rfl, rfl, rfl⟩, foot, q⟩
end FF
/-! Fivefault, part 24: several except clauses, with and without names. -/
namespace FF
open PySem PySem.Spec PyProof.Rows L2
def wManyB (K : PySem.W.Frag) (Wout : WX) (D : Ends) : List (Value × (Addr → Value → Option Addr → TS)) → WX
  | [] => Wout
  | (c, ts) :: r => fun cls d σ H => ∃ b, PySem.W.exmOne K cls c = some b ∧ (b = true → ∀ a, H a = none → ts a cls d D σ H) ∧ (b = false → wManyB K Wout D r cls d σ H)
/-- the readings of a clause with a name (slot i) -/
abbrev nmd (i : Nat) (ts : Addr → Value → Option Addr → TS) : Addr → Value → Option Addr → TS := fun a cls d D σ H => ts a cls d (asEnds i D) (σ.set i (some (.ref a))) H
inductive HdsB (X : Cx) (n : Str) (i : Nat) : List ExceptHandler → List (Value × (Addr → Value → Option Addr → TS)) → Prop
  | nil : HdsB X n i [] []
  | cons {x : Str} {c : Value} {ts : Addr → Value → Option Addr → TS} {b₀ : Stmt} {suite : List Stmt} {np pos' : Pos} {hds : List ExceptHandler} {l : List (Value × (Addr → Value → Option Addr → TS))} (hc : Names X x c)
      (hsu : ∀ (a : Addr) (oe : Obj) (cls : Value) (d : Option Addr) (pn : List (Addr × Obj)), Zc cls d oe → (∃ vs, oe.data = .fields vs) → PSs (X.suite a ((a, oe) :: pn)) (b₀ :: suite) (ts a cls d)) (r : HdsB X n i hds l) :
      HdsB X n i (.ExceptHandler (some (.Name x np)) (some n) (b₀ :: suite) pos' :: hds) ((c, nmd i ts) :: l)
  | cons0 {x : Str} {c : Value} {ts : Addr → Value → Option Addr → TS} {b₀ : Stmt} {suite : List Stmt} {np pos' : Pos} {hds : List ExceptHandler} {l : List (Value × (Addr → Value → Option Addr → TS))} (hc : Names X x c)
      (hsu : ∀ (a : Addr) (oe : Obj) (cls : Value) (d : Option Addr) (pn : List (Addr × Obj)), Zc cls d oe → (∃ vs, oe.data = .fields vs) → PSs (X.suite a ((a, oe) :: pn)) (b₀ :: suite) (ts a cls d)) (r : HdsB X n i hds l) :
      HdsB X n i (.ExceptHandler (some (.Name x np)) none (b₀ :: suite) pos' :: hds) ((c, ts) :: l)
section
variable {X : Cx} {n : Str} {i : Nat} {body : List Stmt} {h₀ : ExceptHandler} {hds : List ExceptHandler} {l : List (Value × (Addr → Value → Option Addr → TS))} {pos : Pos} {tb : WX → TS} {Wout : WX}
theorem ps_try_manyB (hs : X.stack = X.env :: X.outer) (hf : X.env.frame = some X.env.locals) (hN : X.N.Nodup) (hi : X.N[i]? = some n) (hln : X.env.kindOf n = some .local) (tk : Takes X Wout)
    (hb : ∀ (W : WX) (pn : List (Addr × Obj)) (xe : Value → Shared → Prop), Takes (X.tr pn xe) W → PassesOwn (model X.prog X.w) X.A X.env xe → PSs (X.tr pn xe) body (tb W))
    (hh : HdsB X n i (h₀ :: hds) l) : PS X (.Try body (h₀ :: hds) [] [] pos) (fun D σ H => tb (wManyB X.K Wout D l) D σ H) := by
  refine ⟨fun pins s σ H D I h => ?_⟩
  have ok := I.ok
  have hfr : X.A.frames = some (X.env :: X.outer) := by rw [ok.frames, hs]
  have hloc : Loc X.env.scope n := .inl hln
  refine wpAny_Try_except ?_
  refine wpAny_mono ((hb (wManyB X.K Wout D l) (X.pn ++ pins) (fun e s₁ => wpAny (model X.prog X.w) X.A (noteFrame e X.env) (fun _ s₂ => wpAny (model X.prog X.w) X.A (setFlight e none) (fun _ s₃ =>
    wpAny (model X.prog X.w) X.A (handleBy e X.env (h₀ :: hds)) (SP X pins D) X.xe s₃) X.xe s₂) X.xe s₁) (fun u s' xx => ?_) PassesOwn.looking).run [] s σ H D (I.toTry _) h) (fun f s1 hsp => ?_) (fun e s1 he => he)
  · obtain ⟨a, B, sI, pins', σ', H', cls, d, rfl, J', nb, up, sky, na, os, ag, w⟩ := xx
    have J : Inv X pins σ' H' sI := J'.ofTry ok
    have sky' : Sky B (X.env :: X.outer) a (Zc cls d) X.env.locals s'.heap := by rw [← hs]; exact sky
    show wpAny (model X.prog X.w) X.A (noteFrame (.ref a) X.env) _ _ _
    refine Sky.land Zc.steady hfr hf sky' fun h3 fl3 up3 => ?_
    have J3 : Inv X pins σ' H' { s' with heap := h3 } := J.landed nb fl3.1 (up.trans up3) os ag
    obtain ⟨oe3, vs3, he3, hz3, hd3⟩ := fl3.there
    have notFr : ∀ {h : Heap} {o : Obj} {vs : Array Value}, h.FunFrames B (X.env :: X.outer) → h.get? a = some o → o.data = .fields vs → a ∉ frs (X.env :: X.outer) := fun {h o vs} ff e dd hm => by
      obtain ⟨_, o', e', hnf⟩ := ff.mem hm
      rw [e] at e'; cases e'
      exact hnf _ dd
    have nfr := notFr fl3.2.2.1 he3 hd3
    have nL : a ≠ X.env.locals := fun z => nfr (List.mem_filterMap.mpr ⟨X.env, List.mem_cons_self, by rw [hf, z]⟩)
    have nF : a ∉ X.fs := fun hm => by
      obtain ⟨e, he, q⟩ := List.mem_filterMap.mp hm
      exact nfr (List.mem_filterMap.mpr ⟨e, List.mem_cons_of_mem _ he, q⟩)
    have S3 := J3.suite he3 hd3 na nL nF
    have go : ∀ {hds' : List ExceptHandler} {l' : List (Value × (Addr → Value → Option Addr → TS))}, HdsB X n i hds' l' → wManyB X.K Wout D l' cls d σ' H' →
        wpAny (model X.prog X.w) X.A (handleBy (.ref a) X.env hds') (SP X pins D) X.xe { s' with heap := h3 } := by
      intro hds' l' hk
      induction hk with
      | nil =>
        intro w
        refine wpAny_handleBy_nil ?_
        obtain ⟨k1, k2, k3, oe, vs, T, oT, ts', he, hz, hd, h1, hr⟩ := id fl3
        unfold PySem.passOn
        refine wpAny_bind (wpAny_field he hd h1 ?_)
        rw [if_neg (show ¬ ((Value.ref T == Value.none) = true) from by simp)]
        have fin : wpAny (model X.prog X.w) X.A (setFlight (.ref a) X.env.frame) (fun _ s4 => wpAny (model X.prog X.w) X.A (throw (.ref a) : Sem Flow) (SP X pins D) X.xe s4) X.xe { s' with heap := h3 } := by
          rw [hf]
          refine HandSPX.setFlight_upZ fl3 fun h4 hh4 up4 => wpAny_throw (tk _ _ ?_)
          exact ⟨a, B, sI, pins, σ', H', cls, d, rfl, J, nb, (up.trans up3).trans up4, .inr (.inr (by rw [hs]; exact hh4)), na, os, ag, w⟩
        first
          | exact wpAny_bind (wpAny_pure (wpAny_bind fin))
          | exact wpAny_bind fin
      | @cons x c ts b₀ suite np pos' hds2 l2 hc hsu r ih =>
        intro w
        obtain ⟨b, hb1, hyes, hno⟩ := w
        refine wpAny_handleBy_cons (codeAny_handlers_test ?_) (by intro q; cases q)
        have LT : PySem.W.Looks (model X.prog X.w) h3 (typeOf (.ref a)) cls := fun A Q E s k q => wpAny_typeOf_ref (k _ _ he3) (by rw [hz3.1]; exact q)
        have LM := PySem.W.exm_one (M := model X.prog X.w) (J3.kIn) LT hb1
        have test : ∀ {Q : Value → Shared → Prop} {E : Value → Shared → Prop}, Q c { s' with heap := h3 } → wpAny (model X.prog X.w) (X.A.mark (some (.ref a))) (eval (.Name x np) X.env) Q E { s' with heap := h3 } := fun {Q E} q => by
          obtain ⟨hg, hdbg, hm | ⟨hm, hv, hnn⟩⟩ := hc
          · exact ld_glob (X := X.suite a ((a, oe3) :: (X.pn ++ pins))) S3 hg hm q hdbg
          · exact ld_blt (X := X.suite a ((a, oe3) :: (X.pn ++ pins))) S3 hg hm hv q hnn hdbg
        refine test (LM.here ?_)
        cases b with
        | true =>
          refine codeAny_handlers_suite_as ?_
          refine HandSPX.lands_againZ fl3 fun h4 fl4 up4 => ?_
          have J4 : Inv X pins σ' H' { s' with heap := h4 } := J.landed nb fl4.1 ((up.trans up3).trans up4) os ag
          obtain ⟨oe4, vs4, he4, hz4, hd4⟩ := fl4.there
          have S4 := J4.suite he4 hd4 na nL nF
          refine store_ok (X := X.suite a ((a, oe4) :: (X.pn ++ pins))) (v := .ref a) S4 hN hi hloc rfl (fun s5 S5 => ?_) (.inr hln)
          refine wpAny_mono ((hsu a oe4 cls d (X.pn ++ pins) hz4 ⟨_, hd4⟩).run [] s5 _ H' _ S5 (hyes rfl a na)) (fun f s6 hsp => ?_) (fun _ _ z => False.elim z)
          have end_ : ∀ {σ6 : L2.St} {H6 : Hp} {Q : Shared → Prop}, Inv (X.suite a ((a, oe4) :: (X.pn ++ pins))) [] σ6 H6 s6 → (∀ s7, Inv X pins (σ6.set i none) H6 s7 → Q s7) →
              wpAny (model X.prog X.w) X.A (do bindName X.env n .none; unbindBehindTheSuite X.env n pos') (fun _ s7 => Q s7) X.xe s6 := fun {σ6 H6 Q} S6 hq => gone_ok (S6.unsuite ok) hN hi hln hq
          cases f with
          | next =>
            obtain ⟨σ6, H6, S6, q6⟩ := hsp
            exact end_ S6 fun s7 J7 => ⟨_, _, J7, q6⟩
          | brk =>
            obtain ⟨σ6, H6, S6, q6⟩ := hsp
            exact end_ S6 fun s7 J7 => ⟨_, _, J7, q6⟩
          | cont =>
            obtain ⟨σ6, H6, S6, q6⟩ := hsp
            exact end_ S6 fun s7 J7 => ⟨_, _, J7, q6⟩
          | ret u =>
            obtain ⟨v6, σ6, H6, S6, r6, q6⟩ := hsp
            exact end_ S6 fun s7 J7 => ⟨_, _, _, J7, r6, q6⟩
        | false =>
          show wpAny _ X.A (handleBy (.ref a) X.env hds2) _ _ _
          exact ih (hno rfl)
      | @cons0 x c ts b₀ suite np pos' hds2 l2 hc hsu r ih =>
        intro w
        obtain ⟨b, hb1, hyes, hno⟩ := w
        refine wpAny_handleBy_cons (codeAny_handlers_test ?_) (by intro q; cases q)
        have LT : PySem.W.Looks (model X.prog X.w) h3 (typeOf (.ref a)) cls := fun A Q E s k q => wpAny_typeOf_ref (k _ _ he3) (by rw [hz3.1]; exact q)
        have LM := PySem.W.exm_one (M := model X.prog X.w) (J3.kIn) LT hb1
        have test : ∀ {Q : Value → Shared → Prop} {E : Value → Shared → Prop}, Q c { s' with heap := h3 } → wpAny (model X.prog X.w) (X.A.mark (some (.ref a))) (eval (.Name x np) X.env) Q E { s' with heap := h3 } := fun {Q E} q => by
          obtain ⟨hg, hdbg, hm | ⟨hm, hv, hnn⟩⟩ := hc
          · exact ld_glob (X := X.suite a ((a, oe3) :: (X.pn ++ pins))) S3 hg hm q hdbg
          · exact ld_blt (X := X.suite a ((a, oe3) :: (X.pn ++ pins))) S3 hg hm hv q hnn hdbg
        refine test (LM.here ?_)
        cases b with
        | true =>
          refine codeAny_handlers_suite ?_
          refine HandSPX.lands_againZ fl3 fun h4 fl4 up4 => ?_
          have J4 : Inv X pins σ' H' { s' with heap := h4 } := J.landed nb fl4.1 ((up.trans up3).trans up4) os ag
          obtain ⟨oe4, vs4, he4, hz4, hd4⟩ := fl4.there
          have S4 := J4.suite he4 hd4 na nL nF
          refine wpAny_mono ((hsu a oe4 cls d (X.pn ++ pins) hz4 ⟨_, hd4⟩).run [] _ _ H' _ S4 (hyes rfl a na)) (fun f s6 hsp => ?_) (fun _ _ z => False.elim z)
          cases f with
          | next => let ⟨σ6, H6, S6, q6⟩ := hsp; exact ⟨_, _, S6.unsuite ok, q6⟩
          | brk => let ⟨σ6, H6, S6, q6⟩ := hsp; exact ⟨_, _, S6.unsuite ok, q6⟩
          | cont => let ⟨σ6, H6, S6, q6⟩ := hsp; exact ⟨_, _, S6.unsuite ok, q6⟩
          | ret u => let ⟨v6, σ6, H6, S6, r6, q6⟩ := hsp; exact ⟨_, _, _, S6.unsuite ok, r6, q6⟩
        | false =>
          show wpAny _ X.A (handleBy (.ref a) X.env hds2) _ _ _
          exact ih (hno rfl)
    exact go hh w
  · cases f with
    | next =>
      obtain ⟨σ', H', J', q⟩ := hsp
      exact wpAny_execs_nil ⟨σ', H', J'.ofTry ok, q⟩
    | brk =>
      obtain ⟨σ', H', J', q⟩ := hsp
      exact ⟨σ', H', J'.ofTry ok, q⟩
    | cont =>
      obtain ⟨σ', H', J', q⟩ := hsp
      exact ⟨σ', H', J'.ofTry ok, q⟩
    | ret u =>
      obtain ⟨v, σ', H', J', r, q⟩ := hsp
      exact ⟨v, σ', H', J'.ofTry ok, r, q⟩
end
end FF
/-! Fivefault, part 25: walks over what is a list or a tuple; over the signs of a text. -/
namespace FF
open PySem PySem.Spec PyProof.Rows L2
section
variable {K : PySem.W.Frag} {a : Addr} {xs : List V} {H : Hp}
theorem walkL_same (h : SqL K H a xs) : Walk (Itl K a) xs.length (Same H) (YAt xs) :=
  ⟨fun i H' hi e => ⟨xs, xs[i], up_l e h, by simp [hi]⟩, fun H' e => ⟨xs, up_l e h, Nat.le_refl _⟩, fun i H' x H2 _ e y => ⟨y.1, y.2 xs (up_l e h)⟩⟩
theorem walkT_same (h : SqT K H a xs) : Walk (Itt K a) xs.length (Same H) (YAt xs) :=
  ⟨fun i H' hi e => ⟨xs, xs[i], up_t e h, by simp [hi]⟩, fun H' e => ⟨xs, up_t e h, Nat.le_refl _⟩, fun i H' x H2 _ e y => ⟨y.1, y.2 xs (up_t e h)⟩⟩
abbrev YEn (xs : List V) : Nat → Hp → V → Hp → Prop := YPair (fun i => some (.int (i : Nat))) fun i => xs[i]?
theorem walkE_same (h : SqL K H a xs) : Walk (Ite K a) xs.length (Same H) (YEn xs) :=
  ⟨fun i H' hi e => ⟨xs, xs[i], up_l e h, by simp [hi]⟩, fun H' e => ⟨xs, up_l e h, Nat.le_refl _⟩, fun i H' v H2 _ e ⟨t, x, e1, n, e2, y⟩ => ⟨t, _, x, e1, n, e2, rfl, y xs (up_l e h)⟩⟩
theorem walkET_same (h : SqT K H a xs) : Walk (Itet K a) xs.length (Same H) (YEn xs) :=
  ⟨fun i H' hi e => ⟨xs, xs[i], up_t e h, by simp [hi]⟩, fun H' e => ⟨xs, up_t e h, Nat.le_refl _⟩, fun i H' v H2 _ e ⟨t, x, e1, n, e2, y⟩ => ⟨t, _, x, e1, n, e2, rfl, y xs (up_t e h)⟩⟩
theorem seq_of {R : It → Hp → Prop} (h : SqL K H a xs ∨ SqT K H a xs) (hw : ∀ J, Walk J xs.length (Same H) (YAt xs) → R J H) : ∃ a' xs', V.ref a = .ref a' ∧ ((SqL K H a' xs' ∧ R (Itl K a') H) ∨ (SqT K H a' xs' ∧ R (Itt K a') H)) :=
  ⟨a, xs, rfl, h.imp (fun h => ⟨h, hw _ (walkL_same h)⟩) fun h => ⟨h, hw _ (walkT_same h)⟩⟩
theorem enum_of {R : It → Hp → Prop} (h : SqL K H a xs ∨ SqT K H a xs) (hw : ∀ J, Walk J xs.length (Same H) (YEn xs) → R J H) : ∃ a' xs', [V.ref a] = [.ref a'] ∧ ((SqL K H a' xs' ∧ R (Ite K a') H) ∨ (SqT K H a' xs' ∧ R (Itet K a') H)) :=
  ⟨a, xs, rfl, h.imp (fun h => ⟨h, hw _ (walkE_same h)⟩) fun h => ⟨h, hw _ (walkET_same h)⟩⟩
theorem up_s {H' : Hp} (e : Same H H') (h : SqL K H a xs ∨ SqT K H a xs) : SqL K H' a xs ∨ SqT K H' a xs := h.imp (up_l e) (up_t e)
theorem len_s {n : Nat} (h : SqL K H a xs ∨ SqT K H a xs) (e : n = xs.length) : LenV K (.ref a) H n := h.imp (fun h => ⟨xs, h, e⟩) fun h => ⟨xs, h, e⟩
end
/-- [e for x in z]: the i-th item told by the i-th sign -/
theorem lc_strI {te : TE} {vs : List Nat} {j D : Nat} {σ : L2.St} {H1 : Hp} {Qd : Hp → Prop} {z : Str} (f : Nat → V) (hD : H1 D = none) (hz : z.length ≤ sizeLine) (hw : ∀ v, wipe ((wipe σ vs).set j (some v)) vs = wipe σ vs)
    (step : ∀ c H2, c ∈ z.cps.toList → ∀ Q' : VK, (∀ H3, Same H2 H3 → Q' (f c) H3) → te ((wipe σ vs).set j (some (.str ⟨#[c]⟩))) H2 Q')
    (done : ∀ H2, Same H1 H2 → H2 D = some (.lst (z.cps.toList.map f)) → Qd H2) :
    ∃ W : Nat → Nat → Hp → Prop, (∃ m, W 0 m (upd H1 D (.lst []))) ∧ ∀ i m H, W i m H →
      ((Its z).stop i H ∧ Qd H) ∨ ((Its z).go i H ∧ ∃ Nx : Hp → Prop, (∀ H', Nx H' → ∃ m', m' < m ∧ W (i + 1) m' H') ∧ ∀ v H', (Its z).yld i H v H' → gName j v (wipe σ vs) H' fun σ2 H2 => wipe σ2 vs = wipe σ vs ∧ tYes σ2 H2 fun b H3 =>
        if b = true then te σ2 H3 fun y H4 => ∃ acc, H4 D = some (.lst acc) ∧ acc.length < sizeLine ∧ Nx (upd H4 D (.lst (acc ++ [y]))) else Nx H3) := by
  refine ⟨fun i m H => m = z.cps.size - i ∧ i ≤ z.cps.size ∧ Same H1 H ∧ H D = some (.lst ((z.cps.toList.take i).map f)), ⟨_, rfl, Nat.zero_le _, same_new hD _, upd_same⟩, ?_⟩
  rintro i m H ⟨rfl, hi, e, h1⟩
  by_cases hlt : i < z.cps.size
  · refine .inr ⟨hlt, fun H' => i + 1 ≤ z.cps.size ∧ Same H1 H' ∧ H' D = some (.lst ((z.cps.toList.take (i + 1)).map f)), fun H' p' => ⟨z.cps.size - (i + 1), by omega, rfl, p'⟩, fun v H' y => ?_⟩
    obtain ⟨rfl, c, hc, rfl⟩ := y
    refine ⟨hw _, ?_⟩
    show te _ _ _
    have hc2 : z.cps.toList[i]? = some c := by rw [Array.getElem?_toList]; exact hc
    refine step c _ (List.mem_of_getElem? hc2) _ fun H3 e3 => ⟨_, e3 _ _ h1, ?_, hlt, same_at hD (e.trans e3), ?_⟩
    · rw [List.length_map, List.length_take, Array.length_toList]
      exact Nat.lt_of_lt_of_le (by omega) (show z.cps.size ≤ sizeLine from hz)
    · have : z.cps.toList.take (i + 1) = z.cps.toList.take i ++ [c] := by
        rw [List.take_add_one, hc2] <;> rfl
      rw [this, List.map_append, upd_same] <;> rfl
  · have : i = z.cps.size := by omega
    subst this
    rw [show z.cps.size = z.cps.toList.length from rfl, List.take_length] at h1
    exact .inl ⟨Nat.le_refl _, done H e h1⟩
/-- an if by what its test is -/
theorem if_bb {p b : Bool} {A B : Prop} (e : p = b) (h1 : b = true → A) (h2 : b = false → B) : if p = true then A else B := by
  subst e
  exact if_b h1 h2
theorem if_t {A B : Prop} (h : A) : if true = true then A else B := h
end FF
/-! Fivefault, part 26: fors and comprehensions over what is a list or a tuple. -/
namespace FF
open PySem PySem.Spec PyProof.Rows L2
section
variable {K : PySem.W.Frag} {a : Addr} {xs : List V} {g : TG} {tb : TS} {D : Ends} {σ : L2.St} {H : Hp}
abbrev ForR (J : It) (g : TG) (tb : TS) (D : Ends) (σ : L2.St) (H : Hp) : Prop := ∃ W : Nat → Nat → L2.St → Hp → Prop, (∃ m, W 0 m σ H) ∧ ∀ i m σ H, W i m σ H →
      (J.stop i H ∧ D.nx σ H) ∨ (J.go i H ∧ ∃ N : L2.St → Hp → Prop, (∀ σ' H', N σ' H' → ∃ m', m' < m ∧ W (i + 1) m' σ' H') ∧ ∀ x H', J.yld i H x H' → g x σ H' fun σ2 H2 => tb { D with nx := N, ct := N, bk := D.nx } σ2 H2)
theorem for_enumS {H0 : Hp} (h : SqL K H0 a xs ∨ SqT K H0 a xs) (e0 : Same H0 H) (Pv : Nat → L2.St → Hp → Prop) (h0 : Pv 0 σ H) (hG : ∀ i σ H', i ≤ xs.length → Pv i σ H' → Same H0 H')
    (hs : ∀ i x σ H1 t, xs[i]? = some x → Pv i σ H1 → H1 t = none → g (.ref t) σ (upd H1 t (.tup [.int (i : Nat), x])) fun σ2 H2 => tb { D with nx := Pv (i + 1), ct := Pv (i + 1), bk := D.nx } σ2 H2) (hd : ∀ σ H, Pv xs.length σ H → D.nx σ H) :
    ∃ a' xs', [V.ref a] = [.ref a'] ∧ ((SqL K H a' xs' ∧ ForR (Ite K a') g tb D σ H) ∨ (SqT K H a' xs' ∧ ForR (Itet K a') g tb D σ H)) := by
  have key : ∀ J, Walk J xs.length (Same H0) (YEn xs) → ForR J g tb D σ H := fun J wk => for_it wk Pv h0 hG (fun i x σ H1 H2 hi hp ⟨t, x1, y1, e1, n, e2, e3, e4⟩ => by
    cases e3
    subst e1 e2
    exact hs i y1 σ H1 t e4 hp n) hd
  exact ⟨a, xs, rfl, h.imp (fun h => ⟨up_l e0 h, key _ (walkE_same h)⟩) fun h => ⟨up_t e0 h, key _ (walkET_same h)⟩⟩
theorem for_seqS {H0 : Hp} (h : SqL K H0 a xs ∨ SqT K H0 a xs) (e0 : Same H0 H) (Pv : Nat → L2.St → Hp → Prop) (h0 : Pv 0 σ H) (hG : ∀ i σ H', i ≤ xs.length → Pv i σ H' → Same H0 H')
    (hs : ∀ i x σ H1, xs[i]? = some x → Pv i σ H1 → g x σ H1 fun σ2 H2 => tb { D with nx := Pv (i + 1), ct := Pv (i + 1), bk := D.nx } σ2 H2) (hd : ∀ σ H, Pv xs.length σ H → D.nx σ H) :
    ∃ a' xs', V.ref a = .ref a' ∧ ((SqL K H a' xs' ∧ ForR (Itl K a') g tb D σ H) ∨ (SqT K H a' xs' ∧ ForR (Itt K a') g tb D σ H)) := by
  have key : ∀ J, Walk J xs.length (Same H0) (YAt xs) → ForR J g tb D σ H := fun J wk => for_it wk Pv h0 hG (fun i x σ H1 H2 hi hp ⟨e1, e2⟩ => by
    subst e1
    exact hs i x σ _ e2 hp) hd
  exact ⟨a, xs, rfl, h.imp (fun h => ⟨up_l e0 h, key _ (walkL_same h)⟩) fun h => ⟨up_t e0 h, key _ (walkT_same h)⟩⟩
end
section
variable {K : PySem.W.Frag} {a : Addr} {xs : List V} {g : TG} {te : TE} {vs : List Nat} {σ : L2.St} {H1 : Hp} {Q : Addr → Hp → Prop}
abbrev LcR (J : It) (g : TG) (tt : TT) (te : TE) (vs : List Nat) (σ : L2.St) (H1 : Hp) (D : Addr) (Qd : Hp → Prop) : Prop := ∃ W : Nat → Nat → Hp → Prop, (∃ m, W 0 m (upd H1 D (.lst []))) ∧ ∀ i m H, W i m H →
      (J.stop i H ∧ Qd H) ∨ (J.go i H ∧ ∃ Nx : Hp → Prop, (∀ H', Nx H' → ∃ m', m' < m ∧ W (i + 1) m' H') ∧ ∀ x H', J.yld i H x H' → g x (wipe σ vs) H' fun σ2 H2 => wipe σ2 vs = wipe σ vs ∧ tt σ2 H2 fun b H3 =>
        if b = true then te σ2 H3 fun y H4 => ∃ acc, H4 D = some (.lst acc) ∧ acc.length < sizeLine ∧ Nx (upd H4 D (.lst (acc ++ [y]))) else Nx H3)
/-- [e for target in xs], any target, xs a list or a tuple -/
theorem lc_mapS (R : Nat → V → Hp → Prop) (mono : ∀ i y H H', SameT H H' → R i y H → R i y H') (h : SqL K H1 a xs ∨ SqT K H1 a xs) (hz : xs.length ≤ sizeLine)
    (step : ∀ i x H2, xs[i]? = some x → Same H1 H2 → ∀ Q' : VK, (∀ y H3, Same H2 H3 → R i y H3 → Q' y H3) → g x (wipe σ vs) H2 fun σ2 H3 => wipe σ2 vs = wipe σ vs ∧ te σ2 H3 Q')
    (gm : ∀ x H2 (A B : L2.St → Hp → Prop), (∀ σ H, A σ H → B σ H) → g x (wipe σ vs) H2 A → g x (wipe σ vs) H2 B)
    (done : ∀ H2 D ys, Same H1 H2 → H1 D = none → H2 D = some (.lst ys) → ys.length = xs.length → (∀ (i : Nat) (y : V), ys[i]? = some y → R i y H2) → Q D H2) :
    ∃ a' xs', V.ref a = .ref a' ∧ ((SqL K H1 a' xs' ∧ ∀ D, H1 D = none → LcR (Itl K a') g tYes te vs σ H1 D (Q D)) ∨ (SqT K H1 a' xs' ∧ ∀ D, H1 D = none → LcR (Itt K a') g tYes te vs σ H1 D (Q D))) := by
  have key : ∀ J, Walk J xs.length (Same H1) (YAt xs) → ∀ D, H1 D = none → LcR J g tYes te vs σ H1 D (Q D) := fun J wk D hD =>
    lc_it wk (fun i H => Same H1 H ∧ ∃ ys, H D = some (.lst ys) ∧ ys.length = i ∧ ∀ m y, ys[m]? = some y → R m y H) ⟨same_new hD _, [], upd_same, rfl, fun m y q => by simp at q⟩ (fun i H _ p => p.1)
      (fun i x H H' hi ⟨e, ys, h2, h3, h4⟩ ⟨e1, e2⟩ => by
        subst e1
        refine gm _ _ _ _ (fun σ2 H3 q => ⟨q.1, by unfold tYes; dsimp only; rw [if_pos rfl]; exact q.2⟩) (step i x _ e2 e _ fun y H3 e3 r => ?_)
        have hd := e3 _ _ h2
        have eT : SameT H3 (upd H3 D (.lst (ys ++ [y]))) := (SameT.refl H3).updL hd
        refine ⟨ys, hd, by omega, fun b o q => ?_, ys ++ [y], upd_same, by simp [h3], fun m y' q => ?_⟩
        · rw [upd_ne (ne_of_none q hD)]
          exact e3 _ _ (e _ _ q)
        · by_cases hm : m < ys.length
          · rw [List.getElem?_append_left hm] at q
            exact mono _ _ _ _ ((Same.T e3).trans eT) (h4 m y' q)
          · have : m = ys.length := by
              have := (List.getElem?_eq_some_iff.mp q).1
              simp at this
              omega
            subst this
            rw [List.getElem?_append_right (Nat.le_refl _), Nat.sub_self] at q
            cases q
            rw [h3]
            exact mono _ _ _ _ eT r)
      fun H ⟨e, ys, h1, h2, h3⟩ => done H D ys e hD h1 h2 h3
  exact ⟨a, xs, rfl, h.imp (fun h => ⟨h, key _ (walkL_same h)⟩) fun h => ⟨h, key _ (walkT_same h)⟩⟩
end
end FF
/-! Fivefault, part 27: [x for x in xs if test], the test told by x. -/
namespace FF
open PySem PySem.Spec PyProof.Rows L2
theorem lc_filtV {K : PySem.W.Frag} {a D : Addr} {xs : List V} {tt : TT} {te : TE} {vs : List Nat} {j : Nat} {σ : L2.St} {H1 : Hp} {Qd : Hp → Prop} (f : V → Bool) (hD : H1 D = none) (hs : SqL K H1 a xs) (hz : xs.length ≤ sizeLine)
    (hw : ∀ x, wipe ((wipe σ vs).set j (some x)) vs = wipe σ vs)
    (test : ∀ (x : V) (H2 : Hp), x ∈ xs → ∀ Qb : Bool → Hp → Prop, (∀ H3, Same H2 H3 → Qb (f x) H3) → tt ((wipe σ vs).set j (some x)) H2 Qb)
    (elt : ∀ x H2 (Q' : VK), Q' x H2 → te ((wipe σ vs).set j (some x)) H2 Q')
    (done : ∀ H2, Same H1 H2 → H2 D = some (.lst (xs.filter f)) → Qd H2) :
    ∃ W : Nat → Nat → Hp → Prop, (∃ m, W 0 m (upd H1 D (.lst []))) ∧ ∀ i m H, W i m H →
      ((Itl K a).stop i H ∧ Qd H) ∨ ((Itl K a).go i H ∧ ∃ Nx : Hp → Prop, (∀ H', Nx H' → ∃ m', m' < m ∧ W (i + 1) m' H') ∧ ∀ x H', (Itl K a).yld i H x H' → gName j x (wipe σ vs) H' fun σ2 H2 => wipe σ2 vs = wipe σ vs ∧ tt σ2 H2 fun b H3 =>
        if b = true then te σ2 H3 fun y H4 => ∃ acc, H4 D = some (.lst acc) ∧ acc.length < sizeLine ∧ Nx (upd H4 D (.lst (acc ++ [y]))) else Nx H3) :=
  lc_list (fun i H => Same H1 H ∧ H D = some (.lst ((xs.take i).filter f)))
    ⟨same_new hD _, upd_same⟩ (fun i H _ p => up_l p.1 hs)
    (fun i x H hx ⟨e, h1⟩ => ⟨hw x, test x H (List.mem_of_getElem? hx) _ fun H3 e3 => by
      have take1 : xs.take (i + 1) = xs.take i ++ [x] := by
        rw [List.take_add_one, hx] <;> rfl
      cases hb : f x with
      | false =>
        refine iteF ⟨e.trans e3, ?_⟩
        rw [take1, List.filter_append, List.filter_cons_of_neg (by rw [hb]; decide), List.filter_nil, List.append_nil]
        exact e3 _ _ h1
      | true =>
        refine iteT (elt x H3 _ ⟨_, e3 _ _ h1, ?_, same_at hD (e.trans e3), ?_⟩)
        · refine Nat.lt_of_le_of_lt (List.length_filter_le _ _) ?_
          rw [List.length_take]
          have := (List.getElem?_eq_some_iff.mp hx).1
          omega
        · rw [take1, List.filter_append, List.filter_cons_of_pos hb, List.filter_nil, upd_same]⟩)
    fun H ⟨e, h1⟩ => done H e (by rw [List.take_length] at h1; exact h1)
end FF
/-! Fivefault, part 28: [x for l in ls for x in l] over a tuple of lists or tuples; defs with *v called where no exception comes. -/
namespace FF
open PySem PySem.Spec PyProof.Rows L2 StX
section
variable {X : Cx} {x : Str} {k j : Nat} {sp : Sp} {e : Expr} {es : List Expr} {p pos : Pos} {t : TA}
theorem pe_defsN (D : DefS X.prog X.w X.K X.mg X.base x k sp) (hr : Room j X.A) (hkj : k ≤ j) (ha : PA X (e :: es) t)
    (hg : Gl X x := by rfl) (hd : (x == ("__debug__" : Str)) = false := by decide) (he : starEach (e :: es) X.env = (false, eval e X.env) :: starEach es X.env := by rfl) (hpl : (backTo pos (starEach es X.env)).any (·.1) = false := by rfl) :
    PE X (.Call (.Name x p) (e :: es) [] pos) (tCall sp [] (fun _ _ _ => False) t) := by
  obtain ⟨f, F, hm, hk⟩ := D.ex
  refine ⟨fun pins s σ H Q I h => ?_⟩
  refine wpAny_Call_Name_kw (ld_glob I hg hm ?_ hd)
  refine PySem.W.callWith_K (h₀ := X.base) I.ok.mod.kin hk (thn (ha.run pos pins s σ H _ I h) fun us s1 ⟨vs, H1, I1, r, q⟩ => ⟨I1.kIn, ?_⟩) he hpl
  have q2 : sp (vs ++ []) H1 Q (fun _ _ _ => False) := q
  rw [List.append_nil] at q2
  exact wpAny_call (run_fnR F (hr.mono hkj) passN I1 r q2)
theorem pe_defsN0 (D : DefS X.prog X.w X.K X.mg X.base x k sp) (hr : Room j X.A) (hkj : k ≤ j)
    (hg : Gl X x := by rfl) (hd : (x == ("__debug__" : Str)) = false := by decide) :
    PE X (.Call (.Name x p) [] [] pos) (fun _ H Q => sp [] H Q (fun _ _ _ => False)) := by
  obtain ⟨f, F, hm, hk⟩ := D.ex
  refine ⟨fun pins s σ H Q I h => ?_⟩
  refine wpAny_Call_Name_kw (ld_glob I hg hm ?_ hd)
  refine PySem.W.callWith_K0 I.kIn hk ?_
  exact wpAny_call (run_fnR F (hr.mono hkj) passN I .nil h)
end
theorem take_flat {α : Type} {l : List (List α)} {i : Nat} {x : List α} (h : l[i]? = some x) : (l.take (i + 1)).flatten = (l.take i).flatten ++ x := by
  rw [List.take_add_one, h]
  simp
theorem flat_at {α : Type} {l : List (List α)} {i : Nat} {x : List α} (h : l[i]? = some x) : (l.take i).flatten.length + x.length ≤ l.flatten.length := by
  have e : l = l.take i ++ (x :: l.drop (i + 1)) := by
    obtain ⟨hi, rfl⟩ := List.getElem?_eq_some_iff.mp h
    rw [← List.drop_eq_getElem_cons hi, List.take_append_drop]
  conv => rhs; rw [e]
  simp
section
variable {K : PySem.W.Frag} {a : Addr} {xs : List V} {uss : List (List V)} {vs vs1 : List Nat} {jo ji : Nat} {σ : L2.St} {H1 : Hp} {Q : Addr → Hp → Prop}
theorem lc2_flat (hs : SqT K H1 a xs) (hl : xs.length = uss.length) (hz : uss.flatten.length ≤ sizeLine)
    (hx : ∀ (i : Nat) (v : V) (us : List V), xs[i]? = some v → uss[i]? = some us → ∃ b, v = .ref b ∧ (SqL K H1 b us ∨ SqT K H1 b us))
    (hw : ∀ x, wipe ((wipe σ vs).set jo (some x)) vs = wipe σ vs) (ho : ∀ x, ((wipe σ vs).set jo (some x))[jo]? = some (some x))
    (hw1 : ∀ x y, wipe ((wipe ((wipe σ vs).set jo (some x)) vs1).set ji (some y)) vs1 = wipe ((wipe σ vs).set jo (some x)) vs1) (hi1 : ∀ x y, ((wipe ((wipe σ vs).set jo (some x)) vs1).set ji (some y))[ji]? = some (some y))
    (done : ∀ H2 D, Same H1 H2 → H1 D = none → H2 D = some (.lst uss.flatten) → Q D H2) :
    ∀ D, H1 D = none → ∃ W : Nat → Nat → Hp → Prop, (∃ m, W 0 m (upd H1 D (.lst []))) ∧ ∀ i m H, W i m H →
      ((Itt K a).stop i H ∧ Q D H) ∨ ((Itt K a).go i H ∧ ∃ Nx : Hp → Prop, (∀ H', Nx H' → ∃ m', m' < m ∧ W (i + 1) m' H') ∧ ∀ x H', (Itt K a).yld i H x H' → gName jo x (wipe σ vs) H' fun σ2 H2 => wipe σ2 vs = wipe σ vs ∧ tYes σ2 H2 fun b H3 =>
        if b = true then iSeq K (tVar jo) σ2 H3 fun J1 H4 => ∃ W1 : Nat → Nat → Hp → Prop, (∃ m, W1 0 m H4) ∧ ∀ j k H, W1 j k H →
          (J1.stop j H ∧ Nx H) ∨ (J1.go j H ∧ ∃ Nx1 : Hp → Prop, (∀ H', Nx1 H' → ∃ k', k' < k ∧ W1 (j + 1) k' H') ∧ ∀ x H', J1.yld j H x H' → gName ji x (wipe σ2 vs1) H' fun σ3 H5 => wipe σ3 vs1 = wipe σ2 vs1 ∧ tYes σ3 H5 fun b H6 =>
            if b = true then tVar ji σ3 H6 fun y H7 => ∃ acc, H7 D = some (.lst acc) ∧ acc.length < sizeLine ∧ Nx1 (upd H7 D (.lst (acc ++ [y]))) else Nx1 H6)
        else Nx H3) := by
  intro D hD
  have wo := walkT_same hs
  refine ⟨fun i m H => m = xs.length - i ∧ i ≤ xs.length ∧ Same H1 H ∧ H D = some (.lst (uss.take i).flatten), ⟨_, rfl, Nat.zero_le _, same_new hD _, upd_same⟩, ?_⟩
  rintro i m H ⟨rfl, hi, e, h1⟩
  by_cases hlt : i < xs.length
  · refine .inr ⟨wo.goes i H hlt e, fun H' => i + 1 ≤ xs.length ∧ Same H1 H' ∧ H' D = some (.lst (uss.take (i + 1)).flatten), fun H' p => ⟨xs.length - (i + 1), by omega, rfl, p⟩, fun v H' y => ?_⟩
    obtain ⟨rfl, hv⟩ := wo.yields i H v H' hlt e y
    obtain ⟨us, hus⟩ : ∃ us, uss[i]? = some us := ⟨uss[i]'(by omega), by simp [hl ▸ hlt]⟩
    obtain ⟨b, rfl, hb⟩ := hx i v us hv hus
    refine ⟨hw _, ?_⟩
    unfold tYes
    dsimp only
    rw [if_pos rfl]
    have inner : ∀ J1 : It, Walk J1 us.length (Same H1) (YAt us) → ∃ W1 : Nat → Nat → Hp → Prop, (∃ m, W1 0 m H') ∧ ∀ j k H, W1 j k H →
          (J1.stop j H ∧ (i + 1 ≤ xs.length ∧ Same H1 H ∧ H D = some (.lst (uss.take (i + 1)).flatten))) ∨ (J1.go j H ∧ ∃ Nx1 : Hp → Prop, (∀ H', Nx1 H' → ∃ k', k' < k ∧ W1 (j + 1) k' H') ∧ ∀ x H', J1.yld j H x H' → gName ji x (wipe ((wipe σ vs).set jo (some (.ref b))) vs1) H' fun σ3 H5 => wipe σ3 vs1 = wipe ((wipe σ vs).set jo (some (.ref b))) vs1 ∧ tYes σ3 H5 fun b H6 =>
            if b = true then tVar ji σ3 H6 fun y H7 => ∃ acc, H7 D = some (.lst acc) ∧ acc.length < sizeLine ∧ Nx1 (upd H7 D (.lst (acc ++ [y]))) else Nx1 H6) := by
      intro J1 wi
      refine ⟨fun j k H => k = us.length - j ∧ j ≤ us.length ∧ Same H1 H ∧ H D = some (.lst ((uss.take i).flatten ++ us.take j)), ⟨_, rfl, Nat.zero_le _, e, by rw [h1, List.take_zero, List.append_nil]⟩, ?_⟩
      rintro j k H ⟨rfl, hj, e2, h2⟩
      by_cases hjt : j < us.length
      · refine .inr ⟨wi.goes j H hjt e2, fun H' => j + 1 ≤ us.length ∧ Same H1 H' ∧ H' D = some (.lst ((uss.take i).flatten ++ us.take (j + 1))), fun H' p => ⟨us.length - (j + 1), by omega, rfl, p⟩, fun w H' y => ?_⟩
        obtain ⟨rfl, hw2⟩ := wi.yields j H w H' hjt e2 y
        refine ⟨hw1 _ _, ?_⟩
        unfold tYes
        dsimp only
        rw [if_pos rfl]
        refine ⟨_, hi1 _ _, _, h2, ?_, hjt, same_at hD e2, ?_⟩
        · have := flat_at hus
          rw [List.length_append, List.length_take]
          omega
        · rw [upd_same, List.append_assoc, List.take_add_one, hw2]
          rfl
      · have : j = us.length := by omega
        subst this
        refine .inl ⟨wi.stops H e2, by omega, e2, ?_⟩
        rw [h2, List.take_length, take_flat hus]
    exact ⟨_, ho _, b, us, rfl, hb.imp (fun z => ⟨up_l e z, inner _ (walkL_same z)⟩) fun z => ⟨up_t e z, inner _ (walkT_same z)⟩⟩
  · have : i = xs.length := by omega
    subst this
    rw [hl, List.take_length] at h1
    exact .inl ⟨wo.stops H e, done H D e hD h1⟩
end
end FF
/-! Fivefault, part 29: is, where the left side is None or a bool. -/
namespace FF
open PySem PySem.Spec PyProof.Rows L2
def rIsOb : R2 := fun x y H Q => ∃ b : Bool, y = .bl b ∧ (x = .non ∨ ∃ a : Bool, x = .bl a) ∧ Q (.bl (decide (x = .bl b))) H
theorem op_isOb {X : Cx} : OpR X (compareOp .Is) rIsOb := by
  intro pins s σ H x y v u Q I rx ry h
  obtain ⟨b, rfl, hx, q⟩ := h
  cases (show u = Value.bool b from ry)
  rcases hx with rfl | ⟨a, rfl⟩
  · cases (show v = Value.none from rx)
    exact wpAny_is_other rfl (fun z => by cases z) ⟨.bl false, H, I, rfl, by simpa using q⟩
  · cases (show v = Value.bool a from rx)
    by_cases e : a = b
    · subst e
      exact wpAny_is_self rfl ⟨.bl true, H, I, rfl, by simpa using q⟩
    · exact wpAny_is_other rfl (fun z => e (Value.bool.inj z)) ⟨.bl false, H, I, rfl, by simpa [e] using q⟩
end FF
/-! Fivefault, part 30: a, *b = xs (a list at the right); {**d, k: v}. -/
namespace FF
open PySem PySem.Spec PyProof.Rows L2
theorem lst_tail {prog : Program} {w : World} {A : Around} (hh : A.handled = none) (I ax : Addr) (hne : ax ≠ I) (x : Value) (items : List Value) :
    Walks prog w A I [I, ax] [I] items.length (fun i v => items[i]? = some v) (fun i h => h.IsListIter I ax (i + 1) ∧ h.IsList ax (x :: items).toArray) :=
  let W := Walks.list (prog := prog) (w := w) hh I ax hne (x :: items).toArray
  { sub := W.sub
    frame := fun i h h' st hk => W.frame (i + 1) h h' st hk
    item := fun i s Q E hi st hQ => W.item (i + 1) s Q E (by simpa using hi) st fun v h' tk hP st' hk => hQ v h' tk (by simpa using hP) st' hk
    done := fun s Q E st hQ => W.done s Q E (by simpa using st) hQ
    self := fun i s Q E st hQ => W.self (i + 1) s Q E st hQ }
theorem unpack_starL {prog : Program} {w : World} {A : Around} {E : Value → Shared → Prop} {s : Shared} {t : Addr} {x : Value} {items : List Value} {Q : List Value → Shared → Prop} (hh : A.handled = none) (ht : s.heap.IsList t (x :: items).toArray) (hz : items.length ≤ sizeLine)
    (hQ : ∀ (h' : Heap) (tk : Nat), (∀ b o, s.heap.get? b = some o → h'.get? b = some o) → Q [x, .ref h'.objs.size] { s with heap := h'.push { cls := .type "list", data := .seq items.toArray }, toks := tk }) :
    wpAny (model prog w) A (unpackItems (.ref t) 2 (some 1)) Q E s := by
  have hlt : t ≠ s.heap.objs.size := by obtain ⟨o, ho, _⟩ := ht; exact Nat.ne_of_lt (Heap.lt_size ho)
  unfold unpackItems
  refine wpAny_bind ?_
  unfold notIterableAtAll
  refine wpAny_bind (wpAny_specialOf ht.typeIs slot_list_iter.lookup ?_)
  refine wpAny_pure ?_
  simp only [Bool.false_eq_true, if_false]
  refine wpAny_bind (wpAny_holding (wpAny_pyIter_list ht ?_))
  refine wpAny_bind (wpAny_holding (PySem.W.kun_draw hlt 1 0 _ _ ⟨_, Heap.get?_push_size _ rfl, rfl, rfl⟩ (ht.push _) (by simp) fun h₁ hit₁ hs₁ => ?_))
  have e1 : List.take 1 (List.drop 0 (x :: items).toArray.toList) = [x] := by simp
  rw [e1, if_neg (by simp)]
  have ht₁ : h₁.IsList t (x :: items).toArray := (ht.push _).extBut hs₁.extBut hlt
  have k1 : ∀ b o, s.heap.get? b = some o → h₁.get? b = some o := fun b o e => hs₁.extBut b o (Nat.ne_of_lt (Heap.lt_size e)) (Heap.get?_push_of_some _ e)
  have hin : s.heap.objs.size < h₁.objs.size := by
    obtain ⟨o, ho, _⟩ := hit₁
    exact Heap.lt_size ho
  have htn : t < h₁.objs.size := by
    obtain ⟨o, ho, _⟩ := ht₁
    exact Heap.lt_size ho
  refine wpAny_bind (wpAny_holding (wpAny_collect_iter (T := "list_iterator") (.inr (.inr (.inl rfl))) (Walks.toS (lst_tail (A := A.in1) hh s.heap.objs.size t hlt x items)) (fun i s st => st.1.typeIs) ⟨hit₁, ht₁⟩ (fun b hb => ?_) (by simp) (fun s' acc mv it => ?_) hz))
  · simp only [List.mem_cons, List.not_mem_nil, or_false] at hb
    rcases hb with rfl | rfl
    · exact hin
    · exact htn
  have ea : acc.toList = items := by
    apply List.ext_getElem?
    intro j
    rw [Array.getElem?_toList]
    cases h : acc[j]? with
    | some v => exact (it.2 j v h).symm
    | none =>
      have := Array.getElem?_eq_none_iff.mp h
      rw [it.1] at this
      exact (List.getElem?_eq_none this).symm
  rw [ea, if_neg (by omega)]
  have em : List.take (items.length - (2 - 1 - 1)) items = items := by simp
  have ed : List.drop (items.length - (2 - 1 - 1)) items = [] := by simp
  rw [em, ed]
  obtain ⟨h2, g2, d2, t2, o2⟩ := s'
  obtain ⟨mh, mg, md, mo, mt⟩ := mv
  have mg : g2 = s.gens := mg
  have md : d2 = s.drawn := md
  have mo : o2 = s.os := mo
  subst mg md mo
  refine wpAny_bind (wpAny_newList (wpAny_pure (hQ h2 t2 fun b o e => mh b o (fun hm => ?_) (k1 b o e))) hz)
  rw [List.mem_singleton.mp hm] at e
  exact Nat.lt_irrefl _ (Heap.lt_size e)
/-- a, *b = xs, xs a list -/
theorem pg_star2L {X : Cx} {e1 e2 : Expr} {p3 pos : Pos} {k : Nat} {t : TGs} (hc : X.calm = true) (h : PGs X [e1, e2] t) (hm : (assignEach [e1, .Starred e2 p3] X.env).map (·.2) = (assignEach [e1, e2] X.env).map (·.2) := by rfl)
    (hn : (assignEach [e1, .Starred e2 p3] X.env).length = 2 := by rfl) (hst : (assignEach [e1, .Starred e2 p3] X.env).findIdx? (·.1) = some 1 := by rfl) :
    PG X (.Tuple [e1, .Starred e2 p3] k pos) (fun v σ H Q => ∃ a x0 xs, v = .ref a ∧ SqL X.K H a (x0 :: xs) ∧ ∀ p, H p = none → t [x0, .ref p] σ (upd H p (.lst xs)) Q) := by
  refine ⟨fun pins s σ H v u Q I r hw => ?_⟩
  obtain ⟨a, x0, xs, rfl, hq, hw⟩ := hw
  cases r
  obtain ⟨its, rv, pl, hz⟩ := I.list hq
  cases rv with
  | @cons _ u0 _ us r0 rs =>
  have hl : us.length ≤ sizeLine := by
    have := rs.length
    rw [List.length_cons] at hz
    omega
  rw [PyProof.Rows.assign_Tuple]
  refine wpAny_bind (wpAny_standAt ?_)
  unfold unpack
  rw [hn, hst, hm]
  refine wpAny_bind (wpAny_holding (unpack_starL (I.ok.hd hc) pl.isList hl fun h' tk kp => ?_))
  have I1 : Inv X pins σ H { s with heap := h', toks := tk } := I.kept kp
  have hf : H h'.objs.size = none := I1.hok.fresh (Nat.le_refl _)
  have I2 : Inv X pins σ (upd H h'.objs.size (.lst xs)) { s with heap := h'.push { cls := .type "list", data := .seq us.toArray }, toks := tk } :=
    I1.laid (t' := tk) (fun b u e => Heap.get?_push_of_some _ e) (Nat.le_refl _) ⟨by rw [rs.length]; exact hl, us, 0, rs, Heap.get?_push_size _ rfl⟩
  exact h.run pins _ σ _ [x0, .ref h'.objs.size] [u0, .ref h'.objs.size] Q I2 (.cons r0 (.cons rfl .nil)) (hw _ hf)
section
variable {prog : Program} {w : World} {K : Type} [DecidableEq K] {knd : KeyKind prog w K} {A : Around} {E : Value → Shared → Prop} {s : Shared}
theorem dictPut_pairs {d : Addr} {kvs : List (K × Value)} {k : K} {key v : Value} {Q : Unit → Shared → Prop} (hkey : knd.is k key = true) (hm : s.heap.DictOf knd d kvs)
    (hQ : ∀ h', h'.DictOf knd d (stored kvs k v) → Heap.SameBut d s.heap h' → Q () { s with heap := h' })
    (hsz : kvs.length ≤ sizeLine := by size_fits) :
    wpAny (model prog w) A (dictPut d (knd.hash k) key v) Q E s := by
  obtain ⟨o, es, ep, ho, hc, hd, hk, hp, hn⟩ := hm
  have hes : es.size ≤ sizeLine := by have e1 := hp.length; have e2 : es.toList.length = es.size := by simp
                                      omega
  unfold dictPut
  refine wpAny_bind (wpAny_dictFind_of hkey ho hd hk ?_)
  have hidx : (es.findIdx? fun e => knd.is k e.key) = kvs.findIdx? fun kv => decide (kv.1 = k) := by
    rw [← hp.findIdx k]; obtain ⟨l⟩ := es; simp
  cases hi : es.findIdx? fun e => knd.is k e.key with
  | some i =>
    refine wpAny_updateDict ho hd (hQ _ ⟨_, _, ep, Heap.get?_update_self _ ho (Obj.isFreed_of_dict (Obj.data_mapDict hd _)),
      hc.mapDict _, Obj.data_mapDict hd _, hk.modify _ _, ?_, ?_⟩ (Heap.SameBut.update ..))
    · rw [stored, if_pos (any_of_findIdx_some (hidx ▸ hi))]
      have hl : (es.toList.findIdx? fun e => knd.is k e.key) = some i := by rw [← hi]; obtain ⟨l⟩ := es; simp
      have := hp.modify hn hl v
      obtain ⟨l⟩ := es
      simpa using this
    · rw [stored, if_pos (any_of_findIdx_some (hidx ▸ hi)), keys_map_store]; exact hn
  | none =>
    have hnot : k ∉ kvs.map (·.1) := not_mem_of_findIdx_none (hidx ▸ hi)
    have hany : ¬ (kvs.any fun kv => decide (kv.1 = k)) = true := by
      rw [List.any_eq_true]; rintro ⟨kv, hkv, he⟩
      exact hnot (List.mem_map.mpr ⟨kv, hkv, of_decide_eq_true he⟩)
    refine wpAny_updateDictKeys (hz := hes) ho hd (hQ _ ⟨_, _, ep + 1, Heap.get?_update_self _ ho (Obj.isFreed_of_dict (Obj.data_mapDictKeys hd _)),
      hc.mapDictKeys _, Obj.data_mapDictKeys hd _, hk.push hkey _, ?_, ?_⟩ (Heap.SameBut.update ..))
    · rw [stored, if_neg hany]
      have := hp.append hkey (knd.hash k) v
      obtain ⟨l⟩ := es
      simpa using this
    · rw [stored, if_neg hany, List.map_append, List.nodup_append]
      refine ⟨hn, by simp, ?_⟩
      intro a ha b hb
      simp only [List.map_cons, List.map_nil, List.mem_singleton] at hb
      subst hb
      exact fun e => hnot (e ▸ ha)
theorem mergeMapping_pairs {d o : Addr} {kvs more : List (K × Value)} {Q : Unit → Shared → Prop} (hnr : ∀ k a, knd.is k (.ref a) = false) (hdo : d ≠ o) (hoS : (o == sysModules) = false)
    (hd : s.heap.DictOf knd d kvs) (ho : s.heap.DictOf knd o more)
    (hQ : ∀ h', h'.DictOf knd d (merged kvs more) → h'.DictOf knd o more → Heap.SameBut d s.heap h' → Q () { s with heap := h' })
    (hsz : kvs.length + more.length ≤ sizeLine := by size_fits) :
    wpAny (model prog w) A (mergeMapping d (.ref o) false) Q E s := by
  obtain ⟨od, esd, epd, hod, hcd, hdd, hkd, hpd, hnd⟩ := id hd
  obtain ⟨oo, eso, epo, hoo, hco, hdo', hko, hpo, hno⟩ := id ho
  have hlen : more.length = eso.size := by rw [← hpo.length]; simp
  unfold mergeMapping
  refine wpAny_bind (wpAny_isInstance ho.typeIs isSubtype_dict_dict ?_)
  rw [if_pos rfl]
  refine wpAny_bind (wpAny_specialOf ho.typeIs F.slot_dict_iter.lookup (wpAny_bind (wpAny_pure ?_)))
  rw [beq_self_eq_true]
  dsimp only
  rw [if_neg (by rw [hoS]; exact Bool.false_ne_true)]
  refine wpAny_bind (wpAny_dictEntries hod hdd ?_)
  have loop : wpAny (model prog w) A (do
      let l ← dictEntries o
      let epoch ← dictEpoch o
      forIn (List.range l.size) PUnit.unit fun i (_ : PUnit) => (do
          let l' ← dictEntries o
          match l'[i]? with
            | some e => do
              holding [e.key, e.val] (dictPut d e.hash e.key e.val)
              let ep' ← dictEpoch o
              if (ep' != epoch) = true then do
                  (unsupported "dict.changed-during-merge" : Sem PUnit)
                  pure (ForInStep.yield PUnit.unit)
                else pure (ForInStep.yield PUnit.unit)
            | _ => do
              (unsupported "dict.changed-during-merge" : Sem PUnit)
              pure (ForInStep.yield PUnit.unit) : Sem (ForInStep PUnit))
      pure ()) Q E s := by
    refine wpAny_bind (wpAny_dictEntries hoo hdo' ?_)
    refine wpAny_bind (wpAny_dictEpoch hoo hdo' ?_)
    refine wpAny_bind ?_
    refine wpAny_forIn_list _
      (fun rest _ s' => ∃ h' i, s' = { s with heap := h' } ∧ rest = List.range' i (eso.size - i) ∧ i ≤ eso.size ∧ h'.DictOf knd d (merged kvs (more.take i)) ∧ h'.get? o = some oo ∧ Heap.SameBut d s.heap h')
      _ ?_ ?_ _ _ ⟨s.heap, 0, rfl, by simp [List.range_eq_range'], Nat.zero_le _, by simpa [merged] using hd, hoo, Heap.SameBut.refl _ _⟩
    · rintro x rest b s' ⟨h', i, rfl, hr, hi, hd', hoo', hs'⟩
      have hlt : i < eso.size := by
        rcases Nat.lt_or_ge i eso.size with h | h
        · exact h
        · rw [Nat.sub_eq_zero_of_le h] at hr; simp at hr
      obtain ⟨rfl, hrest⟩ : x = i ∧ rest = List.range' (i + 1) (eso.size - (i + 1)) := by
        have e : eso.size - i = (eso.size - (i + 1)) + 1 := by omega
        rw [e, List.range'_succ] at hr
        injection hr with h1 h2
        exact ⟨h1, h2⟩
      refine wpAny_bind (wpAny_dictEntries hoo' hdo' ?_)
      rw [Array.getElem?_eq_getElem hlt]
      obtain ⟨kv, hkv⟩ : ∃ kv, more[x]? = some kv := ⟨more[x]'(by rw [hlen]; exact hlt), List.getElem?_eq_getElem _⟩
      obtain ⟨k, v⟩ := kv
      obtain ⟨hkey, hval⟩ := hpo.get? (e := eso[x]) (by simp [hlt]) hkv
      obtain ⟨k', hkey', hhash⟩ := hko eso[x] (Array.getElem_mem hlt)
      obtain rfl : k' = k := knd.inj _ _ _ hkey' hkey
      show wpAny _ _ (holding [eso[x].key, eso[x].val] (dictPut d eso[x].hash eso[x].key eso[x].val) >>= _) _ _ _
      rw [hhash, hval]
      have hmx : (merged kvs (more.take x)).length ≤ sizeLine := by
        have e1 := merged_length_le kvs (more.take x)
        have e2 : (more.take x).length ≤ more.length := by rw [List.length_take]; omega
        omega
      refine wpAny_bind (wpAny_holding (dictPut_pairs (hsz := hmx) hkey hd' fun h'' hd'' hs'' => ?_))
      have hoo'' : h''.get? o = some oo := (hs''.2 o (Ne.symm hdo)).trans hoo'
      refine wpAny_bind (wpAny_dictEpoch hoo'' hdo' ?_)
      rw [if_neg (by simp)]
      exact wpAny_pure ⟨h'', x + 1, rfl, hrest, hlt, by rw [merged_take_succ kvs more x (k', v) hkv]; exact hd'', hoo'', hs'.trans hs''⟩
    · rintro b s' ⟨h', i, rfl, hr, hi, hd', hoo', hs'⟩
      have hin : i = eso.size := by
        rcases Nat.lt_or_ge i eso.size with h | h
        · have e : eso.size - i = (eso.size - (i + 1)) + 1 := by omega
          rw [e, List.range'_succ] at hr; exact nomatch hr
        · exact Nat.le_antisymm hi h
      refine wpAny_pure (hQ h' ?_ ⟨oo, eso, epo, hoo', hco, hdo', hko, hpo, hno⟩ hs')
      rw [hin, ← hlen, List.take_length] at hd'; exact hd'
  split
  · refine wpAny_bind (wpAny_dictEntries hoo hdo' ?_)
    refine wpAny_bind (PySem.MeetsSeq2.wpAny_forIn_array _ (fun rest _ s' => s' = s ∧ ∀ e ∈ rest, e ∈ eso) _ ?_ ?_ _ _ ⟨rfl, fun e he => Array.mem_toList_iff.mp he⟩)
    · rintro x rest b s' ⟨rfl, hm⟩
      obtain ⟨k, hk, _⟩ := hko x (hm x List.mem_cons_self)
      have nr : ∀ a, x.key ≠ .ref a := fun a e => by
        rw [e, hnr] at hk
        cases hk
      split
      · rename_i a e
        exact absurd e (nr a)
      · exact wpAny_pure ⟨rfl, fun e he => hm e (List.mem_cons_of_mem _ he)⟩
    · rintro b s' ⟨rfl, _⟩
      exact loop
  · exact loop
end
/-- {**d, k: v} -/
def tDStar (td tk tv : TE) : TE := fun σ H Q => ∀ p, H p = none → td σ (upd H p (.dK [])) fun x H1 => ∃ a kvs, x = .ref a ∧ a ≠ p ∧ H1 p = some (.dK []) ∧ H1 a = some (.dK kvs) ∧ kvs.length < sizeLine ∧
  ∀ q, upd H1 p (.dK kvs) q = none → tk σ (upd (upd H1 p (.dK kvs)) q (.dK [])) fun y H2 => tv σ H2 fun z H3 => ∃ k : Key, y = kV k ∧ H3 p = some (.dK kvs) ∧ H3 q = some (.dK []) ∧ Q (.ref p) (upd (upd H3 q (.dK [(k, z)])) p (.dK (putK kvs k z)))
theorem mix_ref {P : Program} {w : World} (k : Key) (a : Addr) : (mixKind P w).is k (.ref a) = false := by
  cases k <;> rfl
theorem pe_dstar {X : Cx} {pos : Pos} {de ke ve : Expr} {td tk tv : TE} (hd : PE X de td) (hk : PE X ke tk) (hv : PE X ve tv) : PE X (.Dict [none, some ke] [de, ve] pos) (tDStar td tk tv) := by
  refine ⟨fun pins s σ H Q I h => ?_⟩
  have hn := I.hok.fresh (Nat.le_refl s.heap.objs.size)
  have I1 := I.laid (a := s.heap.objs.size) (o := .dK []) (h' := s.heap.push { cls := .type "dict", data := .dict #[] }) (t' := s.toks) (fun _ _ q => Heap.get?_push_of_some _ q) (Nat.le_refl _) (dk_empty s.heap I.big)
  rw [arm_eval_Dict]
  refine wpAny_bind (wpAny_standAt ?_)
  show wpAny _ _ (dictDisplay [(none, do let x ← eval de X.env; standAt pos; pure x), (some (eval ke X.env), do let x ← eval ve X.env; standAt pos; pure x)]) _ _ _
  unfold dictDisplay
  dsimp only
  rw [List.forIn_cons]
  dsimp only
  refine wpAny_bind (wpAny_bind (wpAny_bind ?_))
  rw [List.isEmpty_nil, if_pos rfl]
  refine wpAny_pure ?_
  dsimp only
  refine wpAny_bind (wpAny_alloc ?_)
  refine wpAny_bind (wpAny_holding (wpAny_bind (thn (hd.run pins _ σ _ _ I1 (h _ hn)) fun u s1 ⟨x, H1, I2, rx, a, kvs, ex, ap, hp, ha, hl, q1⟩ => wpAny_bind (wpAny_standAt (wpAny_pure ?_)))))
  subst ex
  obtain rfl : u = Value.ref a := rx
  obtain ⟨z0, hd0, vs0, r0, dd0⟩ := dk_of I2.hok hp
  cases r0
  obtain ⟨z1, hd1, vs1, r1, dd1⟩ := dk_of I2.hok ha
  have n1 : (vs1.map (·.1)).Nodup := by
    obtain ⟨_, _, _, _, _, _, _, _, hnd⟩ := dd1
    exact hnd
  have l1 : kvs.length = vs1.length := r1.length
  refine wpAny_bind (wpAny_onRaise (wpAny_tryCatch (wpAny_onRaise (wpAny_holding (mergeMapping_pairs (knd := mixKind X.prog X.w) mix_ref (Ne.symm ap) hd1 dd0 dd1 (fun h' d1 d2 sb => ?_) (by rw [List.length_nil]; omega))))))
  rw [merged_nil_of_nodup vs1 n1] at d1
  have he1 : ∃ q, h'.get? s.heap.objs.size = some q := let ⟨q, _, _, hq, _⟩ := d1; ⟨q, hq⟩
  have I3 : Inv X pins σ (upd H1 s.heap.objs.size (.dK kvs)) { s1 with heap := h' } := d_write (t' := s1.toks) I2 (by rw [hp]; exact True.intro) sb he1 (dk_new z1 hd0 r1 d1)
  refine wpAny_pure (wpAny_pure ?_)
  dsimp only
  rw [if_neg (by simp)]
  have hq0 := I3.hok.fresh (Nat.le_refl h'.objs.size)
  have I4 := I3.laid (a := h'.objs.size) (o := .dK []) (h' := h'.push { cls := .type "dict", data := .dict #[] }) (t' := s1.toks) (fun _ _ q => Heap.get?_push_of_some _ q) (Nat.le_refl _) (dk_empty h' I3.big)
  have hPP : PPs X pos [some ke] [ve] [(tk, tv)] := pps_cons hk hv pps_nil
  let Qp : List (V × V) → Hp → Prop := fun ps H3 => match ps with
    | [(y, z)] => ∃ k : Key, y = kV k ∧ H3 s.heap.objs.size = some (.dK kvs) ∧ H3 h'.objs.size = some (.dK []) ∧ Q (.ref s.heap.objs.size) (upd (upd H3 h'.objs.size (.dK [(k, z)])) s.heap.objs.size (.dK (putK kvs k z)))
    | _ => False
  have hT : tPairs [(tk, tv)] σ (upd (upd H1 s.heap.objs.size (.dK kvs)) h'.objs.size (.dK [])) Qp := q1 _ hq0
  have hpq : h'.objs.size ≠ s.heap.objs.size := fun e => by
    rw [e, upd_same] at hq0
    cases hq0
  refine wpAny_bind (wpAny_bind (wpAny_holding (wpAny_subDict (knd := mixKind X.prog X.w) (by simp) (thn (hPP.run pins _ σ _ Qp I4 hT) fun ws s2 ⟨ps, H2, I5, rel, hps⟩ => ?_))))
  obtain ⟨y, z, rfl, k, rfl, hp2, hq2, q2⟩ : ∃ y z, ps = [(y, z)] ∧ ∃ k : Key, y = kV k ∧ H2 s.heap.objs.size = some (.dK kvs) ∧ H2 h'.objs.size = some (.dK []) ∧ Q (.ref s.heap.objs.size) (upd (upd H2 h'.objs.size (.dK [(k, z)])) s.heap.objs.size (.dK (putK kvs k z))) := by
    match ps, hps with
    | [(y, z)], h => exact ⟨y, z, rfl, h⟩
  obtain ⟨rs, c, rk⟩ := carries_of (P := X.prog) (w := X.w) (kvs := [(k, z)]) rel
  obtain ⟨z2, hd2, vs2, r2, dd2⟩ := dk_of I5.hok hq2
  cases r2
  refine ⟨rs, c, dd2, fun h2 dq sq => ?_⟩
  have rl : rs.length = 1 := rk.length.symm
  have heq : ∃ o, h2.get? h'.objs.size = some o := let ⟨o, _, _, ho, _⟩ := dq; ⟨o, ho⟩
  have I6 : Inv X pins σ (upd H2 h'.objs.size (.dK [(k, z)])) { s2 with heap := h2, toks := s2.toks + ws.length } :=
    d_write (t' := s2.toks + ws.length) I5 (by rw [hq2]; exact True.intro) sq heq (dk_new (by rw [sizeLine_eq]; simp) hd2 (rk.merge .nil) dq)
  have hp3 : (upd H2 h'.objs.size (.dK [(k, z)])) s.heap.objs.size = some (.dK kvs) := by rw [upd_ne (Ne.symm hpq)]; exact hp2
  have hq3 : (upd H2 h'.objs.size (.dK [(k, z)])) h'.objs.size = some (.dK [(k, z)]) := upd_same
  obtain ⟨z3, hd3, vs3, r3, dd3⟩ := dk_of I6.hok hp3
  obtain ⟨z4, hd4, vs4, r4, dd4⟩ := dk_of I6.hok hq3
  have l3 : kvs.length = vs3.length := r3.length
  have l4 : 1 = vs4.length := r4.length
  refine wpAny_bind (wpAny_onRaise (wpAny_holding (mergeMapping_pairs (knd := mixKind X.prog X.w) mix_ref (Ne.symm hpq) hd4 dd3 dd4 (fun h3 d3 d4 sb3 => ?_) (by omega))))
  have he3 : ∃ o, h3.get? s.heap.objs.size = some o := let ⟨o, _, _, ho, _⟩ := d3; ⟨o, ho⟩
  have hz : (putK kvs k z).length ≤ sizeLine := by
    have := length_putK kvs k z
    omega
  have I7 := d_write (t' := s2.toks + ws.length) (ob := .dK (putK kvs k z)) I6 (by rw [hp3]; exact True.intro) sb3 he3 (dk_new hz hd3 (r4.merge r3) d3)
  refine wpAny_pure (wpAny_pure ?_)
  exact ⟨.ref s.heap.objs.size, _, I7, rfl, q2⟩
end FF
/-! Fivefault, part 31: more comprehensions: a test told with the heap; a choice of any target; items that are new objects. -/
namespace FF
open PySem PySem.Spec PyProof.Rows L2
theorem lc_filtW {K : PySem.W.Frag} {a D : Addr} {xs : List V} {tt : TT} {te : TE} {vs : List Nat} {j : Nat} {σ : L2.St} {H1 : Hp} {Qd : Hp → Prop} (f : V → Bool) (hD : H1 D = none) (hs : SqL K H1 a xs) (hz : xs.length ≤ sizeLine)
    (hw : ∀ x, wipe ((wipe σ vs).set j (some x)) vs = wipe σ vs)
    (test : ∀ (i : Nat) (x : V) (H2 : Hp), xs[i]? = some x → Same H1 H2 → ∀ Qb : Bool → Hp → Prop, (∀ H3, Same H2 H3 → Qb (f x) H3) → tt ((wipe σ vs).set j (some x)) H2 Qb)
    (elt : ∀ x H2 (Q' : VK), Q' x H2 → te ((wipe σ vs).set j (some x)) H2 Q')
    (done : ∀ H2, Same H1 H2 → H2 D = some (.lst (xs.filter f)) → Qd H2) :
    ∃ W : Nat → Nat → Hp → Prop, (∃ m, W 0 m (upd H1 D (.lst []))) ∧ ∀ i m H, W i m H →
      ((Itl K a).stop i H ∧ Qd H) ∨ ((Itl K a).go i H ∧ ∃ Nx : Hp → Prop, (∀ H', Nx H' → ∃ m', m' < m ∧ W (i + 1) m' H') ∧ ∀ x H', (Itl K a).yld i H x H' → gName j x (wipe σ vs) H' fun σ2 H2 => wipe σ2 vs = wipe σ vs ∧ tt σ2 H2 fun b H3 =>
        if b = true then te σ2 H3 fun y H4 => ∃ acc, H4 D = some (.lst acc) ∧ acc.length < sizeLine ∧ Nx (upd H4 D (.lst (acc ++ [y]))) else Nx H3) :=
  lc_list (fun i H => Same H1 H ∧ H D = some (.lst ((xs.take i).filter f)))
    ⟨same_new hD _, upd_same⟩ (fun i H _ p => up_l p.1 hs)
    (fun i x H hx ⟨e, h1⟩ => ⟨hw x, test i x H hx e _ fun H3 e3 => by
      have take1 : xs.take (i + 1) = xs.take i ++ [x] := by
        rw [List.take_add_one, hx] <;> rfl
      cases hb : f x with
      | false =>
        refine iteF ⟨e.trans e3, ?_⟩
        rw [take1, List.filter_append, List.filter_cons_of_neg (by rw [hb]; decide), List.filter_nil, List.append_nil]
        exact e3 _ _ h1
      | true =>
        refine iteT (elt x H3 _ ⟨_, e3 _ _ h1, ?_, same_at hD (e.trans e3), ?_⟩)
        · refine Nat.lt_of_le_of_lt (List.length_filter_le _ _) ?_
          rw [List.length_take]
          have := (List.getElem?_eq_some_iff.mp hx).1
          omega
        · rw [take1, List.filter_append, List.filter_cons_of_pos hb, List.filter_nil, upd_same]⟩)
    fun H ⟨e, h1⟩ => done H e (by rw [List.take_length] at h1; exact h1)
section
variable {K : PySem.W.Frag} {a : Addr} {xs : List V} {g : TG} {tt : TT} {te : TE} {vs : List Nat} {σ : L2.St} {H1 : Hp} {Q : Addr → Hp → Prop}
/-- [e for target in xs if test], xs a list or a tuple: which items, told by the place -/
theorem lc_selS (F : Nat → Option V) (h : SqL K H1 a xs ∨ SqT K H1 a xs) (hz : xs.length ≤ sizeLine)
    (step : ∀ i x H2, xs[i]? = some x → Same H1 H2 → ∀ (Qy : VK) (Qn : Hp → Prop), (∀ y H3, Same H2 H3 → F i = some y → Qy y H3) → (∀ H3, Same H2 H3 → F i = none → Qn H3) →
      g x (wipe σ vs) H2 fun σ2 H3 => wipe σ2 vs = wipe σ vs ∧ tt σ2 H3 fun b H4 => if b = true then te σ2 H4 Qy else Qn H4)
    (done : ∀ H2 D, Same H1 H2 → H1 D = none → H2 D = some (.lst ((List.range xs.length).filterMap F)) → Q D H2) :
    ∃ a' xs', V.ref a = .ref a' ∧ ((SqL K H1 a' xs' ∧ ∀ D, H1 D = none → LcR (Itl K a') g tt te vs σ H1 D (Q D)) ∨ (SqT K H1 a' xs' ∧ ∀ D, H1 D = none → LcR (Itt K a') g tt te vs σ H1 D (Q D))) := by
  have key : ∀ J, Walk J xs.length (Same H1) (YAt xs) → ∀ D, H1 D = none → LcR J g tt te vs σ H1 D (Q D) := fun J wk D hD =>
    lc_it wk (fun i H => Same H1 H ∧ H D = some (.lst ((List.range i).filterMap F))) ⟨same_new hD _, upd_same⟩ (fun i H _ p => p.1)
      (fun i x H H' hi ⟨e, h2⟩ ⟨e1, e2⟩ => by
        subst e1
        refine step i x _ e2 e _ _ (fun y H3 e3 hF => ?_) (fun H3 e3 hF => ?_)
        · refine ⟨_, e3 _ _ h2, ?_, same_at hD (e.trans e3), ?_⟩
          · refine Nat.lt_of_le_of_lt (List.length_filterMap_le _ _) ?_
            rw [List.length_range]
            omega
          · rw [upd_same, List.range_succ, List.filterMap_append, List.filterMap_cons_some hF, List.filterMap_nil]
        · refine ⟨e.trans e3, ?_⟩
          rw [List.range_succ, List.filterMap_append, List.filterMap_cons_none hF, List.filterMap_nil, List.append_nil]
          exact e3 _ _ h2)
      fun H ⟨e, h1⟩ => done H D e hD h1
  exact ⟨a, xs, rfl, h.imp (fun h => ⟨h, key _ (walkL_same h)⟩) fun h => ⟨h, key _ (walkT_same h)⟩⟩
end
section
variable {K : PySem.W.Frag} {a : Addr} {xs : List V} {te : TE} {vs : List Nat} {σ : L2.St} {H1 : Hp} {D : Addr} {Qd : Hp → Prop} {j : Nat}
/-- [e for x in t], t a tuple, the items told by objects other than the new list -/
theorem lc_mapTB (R : Nat → V → Hp → Prop) (mono : ∀ i y H H', SameB D H H' → R i y H → R i y H') (hD : H1 D = none) (hs : SqT K H1 a xs) (hz : xs.length ≤ sizeLine)
    (hw : ∀ x, wipe ((wipe σ vs).set j (some x)) vs = wipe σ vs)
    (step : ∀ i x H2, xs[i]? = some x → Same H1 H2 → (∃ o, H2 D = some o) → ∀ Q' : VK, (∀ y H3, Same H2 H3 → R i y H3 → Q' y H3) → te ((wipe σ vs).set j (some x)) H2 Q')
    (done : ∀ H2 ys, Same H1 H2 → H2 D = some (.lst ys) → ys.length = xs.length → (∀ (i : Nat) (y : V), ys[i]? = some y → R i y H2) → Qd H2) :
    ∃ W : Nat → Nat → Hp → Prop, (∃ m, W 0 m (upd H1 D (.lst []))) ∧ ∀ i m H, W i m H →
      ((Itt K a).stop i H ∧ Qd H) ∨ ((Itt K a).go i H ∧ ∃ Nx : Hp → Prop, (∀ H', Nx H' → ∃ m', m' < m ∧ W (i + 1) m' H') ∧ ∀ x H', (Itt K a).yld i H x H' → gName j x (wipe σ vs) H' fun σ2 H2 => wipe σ2 vs = wipe σ vs ∧ tYes σ2 H2 fun b H3 =>
        if b = true then te σ2 H3 fun y H4 => ∃ acc, H4 D = some (.lst acc) ∧ acc.length < sizeLine ∧ Nx (upd H4 D (.lst (acc ++ [y]))) else Nx H3) :=
  lc_tup (fun i H => Same H1 H ∧ ∃ ys, H D = some (.lst ys) ∧ ys.length = i ∧ ∀ (m : Nat) (y : V), ys[m]? = some y → R m y H)
    ⟨same_new hD _, [], upd_same, rfl, fun m y h => by simp at h⟩ (fun i H _ p => up_t p.1 hs)
    (fun i x H hx ⟨e, ys, h1, h2, h3⟩ => ⟨hw x, by
      unfold tYes
      dsimp only
      rw [if_pos rfl]
      have hi := (List.getElem?_eq_some_iff.mp hx).1
      refine step i x H hx e ⟨_, h1⟩ _ fun y H3 e3 r => ?_
      refine ⟨_, e3 _ _ h1, by omega, same_at hD (e.trans e3), ys ++ [y], upd_same, by simp [h2], fun m y' q => ?_⟩
      have eU : SameB D H3 (upd H3 D (.lst (ys ++ [y]))) := sb_upd
      by_cases hm : m < ys.length
      · rw [List.getElem?_append_left hm] at q
        exact mono _ _ _ _ ((sb_of e3).tr eU) (h3 m y' q)
      · have : m = ys.length := by
          have := (List.getElem?_eq_some_iff.mp q).1
          simp at this
          omega
        subst this
        rw [List.getElem?_append_right (Nat.le_refl _), Nat.sub_self] at q
        cases q
        rw [h2]
        exact mono _ _ _ _ eU r⟩)
    fun H ⟨e, ys, h1, h2, h3⟩ => done H ys e h1 h2 h3
end
end FF
/-! Fivefault, part 32: x[i] of a text or a tuple; C() of an own class. -/
namespace FF
open PySem PySem.Spec PyProof.Rows L2
def rIxW (K : PySem.W.Frag) : R2 := fun x y H Q => rIxT K x y H Q ∨ rIxS x y H Q
theorem ix_wordK {X : Cx} (K : PySem.W.Frag) (h : X.K = K := by rfl) : IxR X (rIxW K) := by
  subst h
  intro value slice pins s σ H x y v u Q I rx ry q hs
  rcases q with q | q
  · exact ix_tup value slice pins s σ H x y v u Q I rx ry q hs
  · exact ix_str value slice pins s σ H x y v u Q I rx ry q hs
theorem pe_mkd0 {X : Cx} {C : Str} {k j : Nat} {ps : List Str} {sp : Sp} {p pos : Pos} (D : MakeD X.prog X.w X.K X.mg X.base C k ps sp) (hr : Room j X.A) (hkj : k + 1 ≤ j)
    (hg : Gl X C := by rfl) (hdb : (C == ("__debug__" : Str)) = false := by decide) :
    PE X (.Call (.Name C p) [] [] pos) (tMake (He.ga X.K C) sp [] E0 tNil) := by
  obtain ⟨fd, F, hb⟩ := D.ex
  exact pe_make0 D.mkr F (hr.mono hkj) hg D.hm hb .nil pass0 hdb
/-- o.m(e, ..), within a comprehension too -/
theorem pe_methdK {X : Cx} (K : PySem.W.Frag) {C m : Str} {k j : Nat} {ps : List Str} {sp : Sp} {o e : Expr} {es : List Expr} {apos pos : Pos} {to : TE} {t : TA} {pl : Sem Bool} (D : MethD X.prog X.w X.K X.mg X.base C m k ps sp) (hr : Room j X.A) (hkj : k ≤ j) (ho : PE X o to) (ha : PA X (e :: es) t) (hK : X.K = K := by rfl)
    (hst : starEach (e :: es) X.env = (false, eval e X.env) :: starEach es X.env := by rfl) (hpl : (backTo pos (starEach es X.env)).any (·.1) = false := by rfl)
    (ht : eval (.Call (.Attribute o m apos) (e :: es) [] pos) X.env = (do
      let ov ← eval o X.env
      standAt apos.atName
      let (f, first) ← holding [ov] (getMethod ov m pl)
      callWith pos f first (backTo pos (starEach (e :: es) X.env)) (backToKw pos (keywordEach [] X.env))) := by rfl) :
    PE X (.Call (.Attribute o m apos) (e :: es) [] pos) (tMeth (He.ga K C) m sp [] E0 to t) := by
  subst hK
  exact pe_methd D hr hkj ho ha hst hpl ht
end FF
/-! Fivefault, part 33: a text times an int. -/
namespace FF
open PySem PySem.Spec PyProof.Rows L2
theorem fold_rep {α : Type} (a : Array α) : ∀ (n : Nat) (b : Array α), ((List.replicate n a).foldl (· ++ ·) b).size = b.size + a.size * n
  | 0, b => by simp
  | n + 1, b => by
    rw [List.replicate_succ, List.foldl_cons, fold_rep a n, Array.size_append, Nat.mul_succ]
    omega
theorem op_rep_str {X : Cx} : OpR X (binaryOp .Mult) (fun x y H Q => ∃ z k, x = .str z ∧ y = .int k ∧ 2 ≤ k ∧ k < 2147483648 ∧ 1 ≤ z.length ∧ z.length * k.toNat ≤ 100000 ∧ ∀ w : Str, w.length = z.length * k.toNat → Q (.str w) H) := by
  intro pins s σ H x y v u Q I rx ry h
  obtain ⟨z, k, rfl, rfl, h2, hk, h1, hl, q⟩ := h
  obtain ⟨t, rfl⟩ := rx
  obtain ⟨t', rfl⟩ := ry
  have e1 : ¬ k < 1 := by omega
  have e2 : ¬ ((k == 1 || z.length == 0) = true) := by
    rw [beq_eq_false_iff_ne.mpr (show k ≠ 1 by omega), beq_eq_false_iff_ne.mpr (show z.length ≠ 0 by omega)]
    decide
  refine PySem.P.mul_str (by rw [decide_eq_false (by omega), decide_eq_false (by omega)] <;> rfl) (fun _ _ => ?_) (fun _ _ => ?_) ?_
  · have hm : (z.length : Int) * k ≤ 2 ^ 63 - 1 := by
      have e : ((z.length * k.toNat : Nat) : Int) = (z.length : Int) * k := by
        rw [Int.natCast_mul, Int.toNat_of_nonneg (by omega)]
      rw [← e]
      have : (z.length * k.toNat : Nat) ≤ 100000 := hl
      omega
    have := (Int.le_ediv_iff_mul_le (show 0 < k by omega)).mpr hm
    omega
  · show decide (z.length * k.toNat > sizeLine) = false
    exact decide_eq_false (Nat.not_lt.mpr (Nat.le_trans hl (by decide)))
  · rw [if_neg e1, if_neg e2]
    have len : (⟨(List.replicate k.toNat z.cps).foldl (· ++ ·) #[]⟩ : Str).length = z.length * k.toNat := by
      show ((List.replicate k.toNat z.cps).foldl (· ++ ·) #[]).size = _
      rw [fold_rep]
      show 0 + z.cps.size * k.toNat = z.length * k.toNat
      rw [Nat.zero_add] <;> rfl
    have qq := q _ len
    refine ⟨?_, ?_⟩
    · rw [len]
      exact Nat.le_trans hl (by decide)
    · exact ⟨.str _, H, I.tok _, ⟨_, rfl⟩, qq⟩
end FF
namespace FF
open PySem PySem.Spec PyProof.Rows L2
def top (i : Nat) : Stmt := PySem.Challenge.pw_fivefault_k07_texts_of_rules_and_goals.main.body.getD i (.Pass ⟨0, 0, 0, 0⟩)
def clsSt (s : Stmt) (i : Nat) : Stmt := match s with
  | .ClassDef _ _ _ b .. => b.getD i (.Pass ⟨0, 0, 0, 0⟩)
  | _ => .Pass ⟨0, 0, 0, 0⟩
abbrev s_is_letter : Stmt := top 12
theorem sc_is_letter : FnScope ["value"] ["value"] (defScope s_is_letter) := ⟨rfl, rfl, rfl, by decide +kernel, rfl, by decide +kernel, by decide +kernel⟩
abbrev s_measured : Stmt := top 13
theorem sc_measured : FnScope ["value", "max_depth", "sizes", "part"] ["value", "max_depth"] (defScope s_measured) := ⟨rfl, rfl, rfl, by decide +kernel, rfl, by decide +kernel, by decide +kernel⟩
abbrev s_is_term : Stmt := top 14
theorem sc_is_term : FnScope ["value", "max_depth", "max_size"] ["value", "max_depth", "max_size"] (defScope s_is_term) := ⟨rfl, rfl, rfl, by decide +kernel, rfl, by decide +kernel, by decide +kernel⟩
abbrev s_is_name : Stmt := top 19
theorem sc_is_name : FnScope ["text", "sign"] ["text"] (defScope s_is_name) := ⟨rfl, rfl, rfl, by decide +kernel, rfl, by decide +kernel, by decide +kernel⟩
abbrev s_text_of : Stmt := top 20
theorem sc_text_of : FnScope ["term", "operator", "parts", "texts", "part"] ["term"] (defScope s_text_of) := ⟨rfl, rfl, rfl, by decide +kernel, rfl, by decide +kernel, by decide +kernel⟩
abbrev s_parse_term : Stmt := top 22
theorem sc_parse_term : FnScope ["text", "reader", "found"] ["text"] (defScope s_parse_term) := ⟨rfl, rfl, rfl, by decide +kernel, rfl, by decide +kernel, by decide +kernel⟩
abbrev s_is_goal : Stmt := top 23
theorem sc_is_goal : FnScope ["value"] ["value"] (defScope s_is_goal) := ⟨rfl, rfl, rfl, by decide +kernel, rfl, by decide +kernel, by decide +kernel⟩
abbrev s_is_rule : Stmt := top 24
theorem sc_is_rule : FnScope ["value"] ["value"] (defScope s_is_rule) := ⟨rfl, rfl, rfl, by decide +kernel, rfl, by decide +kernel, by decide +kernel⟩
abbrev s_goal_text : Stmt := top 25
theorem sc_goal_text : FnScope ["left", "right"] ["left", "right"] (defScope s_goal_text) := ⟨rfl, rfl, rfl, by decide +kernel, rfl, by decide +kernel, by decide +kernel⟩
abbrev s_format_goal : Stmt := top 26
theorem sc_format_goal : FnScope ["goal"] ["goal"] (defScope s_format_goal) := ⟨rfl, rfl, rfl, by decide +kernel, rfl, by decide +kernel, by decide +kernel⟩
abbrev s_parse_goal : Stmt := top 27
theorem sc_parse_goal : FnScope ["text", "left", "sign", "right"] ["text"] (defScope s_parse_goal) := ⟨rfl, rfl, rfl, by decide +kernel, rfl, by decide +kernel, by decide +kernel⟩
abbrev s_format_rule : Stmt := top 28
theorem sc_format_rule : FnScope ["rule"] ["rule"] (defScope s_format_rule) := ⟨rfl, rfl, rfl, by decide +kernel, rfl, by decide +kernel, by decide +kernel⟩
abbrev s_parse_rule : Stmt := top 29
theorem sc_parse_rule : FnScope ["text", "name", "sign", "rest"] ["text"] (defScope s_parse_rule) := ⟨rfl, rfl, rfl, by decide +kernel, rfl, by decide +kernel, by decide +kernel⟩
abbrev s_law_source : Stmt := top 31
theorem sc_law_source : FnScope ["_law_script"] ["_law_script"] (defScope s_law_source) := ⟨rfl, rfl, rfl, by decide +kernel, rfl, by decide +kernel, by decide +kernel⟩
abbrev s_law_take : Stmt := top 32
theorem sc_law_take : FnScope ["_law_source_here", "_law_many", "_law_cell", "_law_digit", "_law_mixed_here"] ["_law_source_here", "_law_many"] (defScope s_law_take) := ⟨rfl, rfl, rfl, by decide +kernel, rfl, by decide +kernel, by decide +kernel⟩
abbrev s_law_pick : Stmt := top 33
theorem sc_law_pick : FnScope ["_law_source_here", "_law_row"] ["_law_source_here", "_law_row"] (defScope s_law_pick) := ⟨rfl, rfl, rfl, by decide +kernel, rfl, by decide +kernel, by decide +kernel⟩
abbrev s_law_mixed : Stmt := top 34
theorem sc_law_mixed : FnScope ["_law_source_here", "_law_row", "_law_found", "_law_one"] ["_law_source_here", "_law_row"] (defScope s_law_mixed) := ⟨rfl, rfl, rfl, by decide +kernel, rfl, by decide +kernel, by decide +kernel⟩
abbrev s_law_same : Stmt := top 35
theorem sc_law_same : FnScope ["_law_found", "_law_due", "_law_key", "_law_one", "_law_other"] ["_law_found", "_law_due"] (defScope s_law_same) := ⟨rfl, rfl, rfl, by decide +kernel, rfl, by decide +kernel, by decide +kernel⟩
abbrev s_law_call : Stmt := top 36
theorem sc_law_call : FnScope ["_law_ask", "_law_told", "_law_word", "e"] ["_law_ask"] (defScope s_law_call) := ⟨rfl, rfl, rfl, by decide +kernel, rfl, by decide +kernel, by decide +kernel⟩
abbrev s_law_text : Stmt := top 37
theorem sc_law_text : FnScope ["_law_word", "_law_texts", "_law_one"] ["_law_word"] (defScope s_law_text) := ⟨rfl, rfl, rfl, by decide +kernel, rfl, by decide +kernel, by decide +kernel⟩
abbrev s_law_leaves : Stmt := top 38
theorem sc_law_leaves : FnScope ["_law_word", "_law_one"] ["_law_word"] (defScope s_law_leaves) := ⟨rfl, rfl, rfl, by decide +kernel, rfl, by decide +kernel, by decide +kernel⟩
abbrev s_law_term : Stmt := top 39
theorem sc_law_term : FnScope ["_law_source_here", "_law_signs_here", "_law_deep", "_law_room", "_law_many", "_law_operator", "_law_k"] ["_law_source_here", "_law_signs_here", "_law_deep", "_law_room"] (defScope s_law_term) := ⟨rfl, rfl, rfl, by decide +kernel, rfl, by decide +kernel, by decide +kernel⟩
abbrev s_law_any_term : Stmt := top 40
theorem sc_law_any_term : FnScope ["_law_source_here", "_law_signs_here"] ["_law_source_here"] (defScope s_law_any_term) := ⟨rfl, rfl, rfl, by decide +kernel, rfl, by decide +kernel, by decide +kernel⟩
abbrev s_law_signs : Stmt := top 41
theorem sc_law_signs : FnScope ["_law_source_here", "_law_most", "_law_every"] ["_law_source_here", "_law_most"] (defScope s_law_signs) := ⟨rfl, rfl, rfl, by decide +kernel, rfl, by decide +kernel, by decide +kernel⟩
abbrev s_law_names : Stmt := top 42
theorem sc_law_names : FnScope ["_law_source_here", "_law_many", "_law_mletters", "_law_msize", "_law_at", "_law_first", "_law_step", "_law_found", "_law_k", "_law_signs_here"] ["_law_source_here", "_law_many"] (defScope s_law_names) := ⟨rfl, rfl, rfl, by decide +kernel, rfl, by decide +kernel, by decide +kernel⟩
abbrev s_law_odd : Stmt := top 43
theorem sc_law_odd : FnScope ["_law_source_here", "_law_word", "_law_some"] ["_law_source_here", "_law_word"] (defScope s_law_odd) := ⟨rfl, rfl, rfl, by decide +kernel, rfl, by decide +kernel, by decide +kernel⟩
abbrev s_law_nest : Stmt := top 44
theorem sc_law_nest : FnScope ["_law_many", "_law_word", "_law_k"] ["_law_many"] (defScope s_law_nest) := ⟨rfl, rfl, rfl, by decide +kernel, rfl, by decide +kernel, by decide +kernel⟩
abbrev s_law_read_term : Stmt := top 45
theorem sc_law_read_term : FnScope ["_law_mtext", "_law_deep", "_law_level", "_law_at", "_law_pieces", "_law_signs_here", "_law_inner", "_law_one"] ["_law_mtext", "_law_deep"] (defScope s_law_read_term) := ⟨rfl, rfl, rfl, by decide +kernel, rfl, by decide +kernel, by decide +kernel⟩
abbrev s_law_read_piece : Stmt := top 46
theorem sc_law_read_piece : FnScope ["_law_mtext", "_law_deep"] ["_law_mtext", "_law_deep"] (defScope s_law_read_piece) := ⟨rfl, rfl, rfl, by decide +kernel, rfl, by decide +kernel, by decide +kernel⟩
abbrev s_law_read : Stmt := top 47
theorem sc_law_read : FnScope ["_law_mtext", "_law_word"] ["_law_mtext"] (defScope s_law_read) := ⟨rfl, rfl, rfl, by decide +kernel, rfl, by decide +kernel, by decide +kernel⟩
abbrev s_law_spoilt : Stmt := top 48
theorem sc_law_spoilt : FnScope ["_law_source_here", "_law_mtext", "_law_at", "_law_to", "_law_signs_here", "_law_sign", "_law_way"] ["_law_source_here", "_law_mtext"] (defScope s_law_spoilt) := ⟨rfl, rfl, rfl, by decide +kernel, rfl, by decide +kernel, by decide +kernel⟩
abbrev s_law_is_name : Stmt := top 49
theorem sc_law_is_name : FnScope ["_law_mtext", "_law_one"] ["_law_mtext"] (defScope s_law_is_name) := ⟨rfl, rfl, rfl, by decide +kernel, rfl, by decide +kernel, by decide +kernel⟩
abbrev s_law_read_goal : Stmt := top 50
theorem sc_law_read_goal : FnScope ["_law_mtext", "_law_first", "_law_sign", "_law_last", "_law_words"] ["_law_mtext"] (defScope s_law_read_goal) := ⟨rfl, rfl, rfl, by decide +kernel, rfl, by decide +kernel, by decide +kernel⟩
abbrev s_law_read_rule : Stmt := top 51
theorem sc_law_read_rule : FnScope ["_law_mtext", "_law_first", "_law_sign", "_law_last", "_law_both"] ["_law_mtext"] (defScope s_law_read_rule) := ⟨rfl, rfl, rfl, by decide +kernel, rfl, by decide +kernel, by decide +kernel⟩
abbrev s_law_goal_text : Stmt := top 52
theorem sc_law_goal_text : FnScope ["_law_left", "_law_right"] ["_law_left", "_law_right"] (defScope s_law_goal_text) := ⟨rfl, rfl, rfl, by decide +kernel, rfl, by decide +kernel, by decide +kernel⟩
abbrev s_law_rule_text : Stmt := top 53
theorem sc_law_rule_text : FnScope ["_law_one"] ["_law_one"] (defScope s_law_rule_text) := ⟨rfl, rfl, rfl, by decide +kernel, rfl, by decide +kernel, by decide +kernel⟩
abbrev s_law_index_told : Stmt := top 54
theorem sc_law_index_told : FnScope ["_law_ask", "_law_told", "e"] ["_law_ask"] (defScope s_law_index_told) := ⟨rfl, rfl, rfl, by decide +kernel, rfl, by decide +kernel, by decide +kernel⟩
abbrev s_law : Stmt := top 55
theorem sc_law : FnScope ["_law_script", "_law_source_here", "_law_turn", "_law_left", "_law_right", "_law_one", "_law_texts", "_law_change", "_law_mtext", "_law_read_here", "_law_due", "_law_word", "_law_odd_here", "_law_some", "_law_bad", "_law_words"] ["_law_script"] (defScope s_law) := ⟨rfl, rfl, rfl, by decide +kernel, rfl, by decide +kernel, by decide +kernel⟩
abbrev s_Reader___init__ : Stmt := clsSt (top 21) 0
theorem sc_Reader___init__ : FnScope ["self", "text"] ["self", "text"] (defScope s_Reader___init__) := ⟨rfl, rfl, rfl, by decide +kernel, rfl, by decide +kernel, by decide +kernel⟩
abbrev s_Reader_sees : Stmt := clsSt (top 21) 1
theorem sc_Reader_sees : FnScope ["self", "word"] ["self", "word"] (defScope s_Reader_sees) := ⟨rfl, rfl, rfl, by decide +kernel, rfl, by decide +kernel, by decide +kernel⟩
abbrev s_Reader_take : Stmt := clsSt (top 21) 2
theorem sc_Reader_take : FnScope ["self", "word"] ["self", "word"] (defScope s_Reader_take) := ⟨rfl, rfl, rfl, by decide +kernel, rfl, by decide +kernel, by decide +kernel⟩
abbrev s_Reader_part : Stmt := clsSt (top 21) 3
theorem sc_Reader_part : FnScope ["self", "max_depth", "sign", "found"] ["self", "max_depth"] (defScope s_Reader_part) := ⟨rfl, rfl, rfl, by decide +kernel, rfl, by decide +kernel, by decide +kernel⟩
abbrev s_Reader_sequence : Stmt := clsSt (top 21) 4
theorem sc_Reader_sequence : FnScope ["self", "max_depth", "parts", "operator"] ["self", "max_depth"] (defScope s_Reader_sequence) := ⟨rfl, rfl, rfl, by decide +kernel, rfl, by decide +kernel, by decide +kernel⟩
abbrev s_Reader_alone : Stmt := clsSt (top 21) 5
theorem sc_Reader_alone : FnScope ["self", "part"] ["self", "part"] (defScope s_Reader_alone) := ⟨rfl, rfl, rfl, by decide +kernel, rfl, by decide +kernel, by decide +kernel⟩
abbrev s_FaultError_init : Stmt := clsSt (top 1) 0
theorem sc_FaultError_init : FnScope ["self", "code"] ["self", "code"] (defScope s_FaultError_init) := ⟨rfl, rfl, rfl, by decide +kernel, rfl, by decide +kernel, by decide +kernel⟩
abbrev s_InvalidText_init : Stmt := clsSt (top 3) 0
theorem sc_InvalidText_init : FnScope ["self"] ["self"] (defScope s_InvalidText_init) := ⟨rfl, rfl, rfl, by decide +kernel, rfl, by decide +kernel, by decide +kernel⟩
abbrev s_InvalidRules_init : Stmt := clsSt (top 4) 0
theorem sc_InvalidRules_init : FnScope ["self", "index"] ["self", "index"] (defScope s_InvalidRules_init) := ⟨rfl, rfl, rfl, by decide +kernel, rfl, by decide +kernel, by decide +kernel⟩
abbrev s_InvalidGoal_init : Stmt := clsSt (top 5) 0
theorem sc_InvalidGoal_init : FnScope ["self"] ["self"] (defScope s_InvalidGoal_init) := ⟨rfl, rfl, rfl, by decide +kernel, rfl, by decide +kernel, by decide +kernel⟩
structure Top (K : PySem.W.Frag) (mg : Str → Option Value) : Prop where
  b_IndexError : mg "IndexError" = none
  b_LookupError : mg "LookupError" = none
  b_ValueError : mg "ValueError" = none
  b_all : mg "all" = none
  b_bool : mg "bool" = none
  b_dict : mg "dict" = none
  b_int : mg "int" = none
  b_isinstance : mg "isinstance" = none
  b_len : mg "len" = none
  b_list : mg "list" = none
  b_max : mg "max" = none
  b_min : mg "min" = none
  b_range : mg "range" = none
  b_sorted : mg "sorted" = none
  b_str : mg "str" = none
  b_sum : mg "sum" = none
  b_tuple : mg "tuple" = none
  b_zip : mg "zip" = none
  g_LETTERS : ∃ t, mg "LETTERS" = some (.str "abcdefgh" t)
  g_OPERATORS : mg "OPERATORS" = some (.ref (He.ga K "OPERATORS"))
  t_OPERATORS : ∀ H, SqT K H (He.ga K "OPERATORS") [.str "&", .str "|"]
  g_MAX_DEPTH : ∃ t, mg "MAX_DEPTH" = some (.int 5 t)
  g_MAX_SIZE : ∃ t, mg "MAX_SIZE" = some (.int 24 t)
  g_SMALL_LETTERS : ∃ t, mg "SMALL_LETTERS" = some (.str "abcdefghijklmnopqrstuvwxyz" t)
  g_MAX_NAME : ∃ t, mg "MAX_NAME" = some (.int 6 t)
  g_BELOW : ∃ t, mg "BELOW" = some (.str " < " t)
  c_FaultError : mg "FaultError" = some (.ref (He.ga K "FaultError"))
  c_Missing : mg "Missing" = some (.ref (He.ga K "Missing"))
  c_InvalidText : mg "InvalidText" = some (.ref (He.ga K "InvalidText"))
  c_InvalidRules : mg "InvalidRules" = some (.ref (He.ga K "InvalidRules"))
  c_InvalidGoal : mg "InvalidGoal" = some (.ref (He.ga K "InvalidGoal"))
  c_NothingLeft : mg "NothingLeft" = some (.ref (He.ga K "NothingLeft"))
  c_Reader : mg "Reader" = some (.ref (He.ga K "Reader"))
  x_InvalidText : OwnX K "InvalidText" "FaultError"
  x_InvalidRules : OwnX K "InvalidRules" "FaultError"
  x_InvalidGoal : OwnX K "InvalidGoal" "FaultError"
  n_Reader_text : PySem.W.findIn K (.ref (He.ga K "Reader")) "text" = some none
  n_Reader_at : PySem.W.findIn K (.ref (He.ga K "Reader")) "at" = some none
  n_InvalidRules_index : PySem.W.findIn K (.ref (He.ga K "InvalidRules")) "index" = some none
  e_InvalidRules : PySem.W.exmOne K (.ref (He.ga K "InvalidRules")) (.ref (He.ga K "InvalidRules")) = some true
  k_Reader : Cls K (He.ga K "Reader")
  mk_Reader : Mk K (He.ga K "Reader") (He.ma K (He.ga K "Reader") "__init__")
  m_Reader_sees : Meth K (He.ga K "Reader") "sees" (He.ma K (He.ga K "Reader") "sees")
  m_Reader_take : Meth K (He.ga K "Reader") "take" (He.ma K (He.ga K "Reader") "take")
  m_Reader_part : Meth K (He.ga K "Reader") "part" (He.ma K (He.ga K "Reader") "part")
  m_Reader_sequence : Meth K (He.ga K "Reader") "sequence" (He.ma K (He.ga K "Reader") "sequence")
  m_Reader_alone : Meth K (He.ga K "Reader") "alone" (He.ma K (He.ga K "Reader") "alone")
  fe : FeC K "FaultError"
end FF
namespace FF
open PySem PySem.Spec PyProof.Rows L2
/-! ### the draws' source -/
def srcGood (c : Addr) (xs : List V) : Prop := ∃ pos big seed cnt : Int, xs = [.ref c, .int pos, .int big, .int seed, .int cnt] ∧ 0 ≤ pos ∧ 0 ≤ seed ∧ seed < 2147483629
/-- at s stands a source of draws -/
def Src (H : Hp) (s : Addr) : Prop := ∃ (c : Addr) (ns : List Int), H s = some (hid (srcGood c) s) ∧ H c = some (.lst (ns.map V.int))
theorem Src.up {H H' : Hp} {s : Addr} (e : Same H H') (h : Src H s) : Src H' s := by
  obtain ⟨c, ns, h1, h2⟩ := h
  exact ⟨c, ns, e _ _ h1, e _ _ h2⟩
def spTakeL : Sp := fun vs H Q _ => ∃ (s c : Addr) (many : Int) (xs : List V) (ns : List Int), vs = [.ref s, .int many] ∧ 0 < many ∧ many < 1073741824 ∧ H s = some (.lst xs) ∧ srcGood c xs ∧ H c = some (.lst (ns.map V.int)) ∧ c ≠ s ∧
  ∀ n ys, 0 ≤ n → n < many → srcGood c ys → Q (.int n) (upd H s (.lst ys))
/-- a draw: some number below many; nothing is seen to change -/
def spTake : Sp := fun vs H Q _ => ∃ (s : Addr) (many : Int), vs = [.ref s, .int many] ∧ 0 < many ∧ many < 1073741824 ∧ Src H s ∧ ∀ n, 0 ≤ n → n < many → Q (.int n) H
section
variable {P : Program} {w : World} {K : PySem.W.Frag} {mg : Str → Option Value} {base : Heap}
theorem ok_take {f : Addr} {fd : FuncData} (F : FunD K "_law_take" "_law_take" (defArgs s_law_take) (defBody s_law_take) (defScope s_law_take) [] [] f fd) (hm : mg "_law_take" = some (.ref f)) (T : Top K mg) : Def P w K mg base "_law_take" 1 ["_law_source_here", "_law_many"] spTakeL := by
  refine def_mk F hm (F.bindsN fun _ _ _ _ _ _ us hl => match us, hl with | [_, _], _ => rfl) sc_law_take (fun vs H Q E h => ?_) (fun cdv A outer s H vs Q E hr h => ?_)
  · obtain ⟨s, c, many, xs, ns, rfl, _⟩ := h
    rfl
  obtain ⟨s, c, many, xs, ns, rfl, m0, m1, hs, ⟨pos, big, seed, cnt, rfl, p0, s0, s1⟩, hc, ncs, q⟩ := h
  refine ⟨_, (C8.pss_cut (ps_if (PW.pt (pw_and (pt_cmpR op_eq (pe_ix (ix_listK K) (pv 0) pe_int (fun _ _ => rfl)) pe_int (nomark _)) (pw_and1 (pt_cmpR op_lt (pe_ix (ix_listK K) (pv 0) pe_int (fun _ _ => rfl)) (pe_callB (call_lenK K) (by rfl) T.b_len (by decide +kernel) (pa_cons (pe_ix (ix_listK K) (pv 0) pe_int (fun _ _ => rfl)) pa_nil)) (nomark _)))))
  (pss_cons (ps_set (i := 2) sc_law_take.nd rfl (Or.inl rfl) (pe_ix (ix_listK K) (pe_ix (ix_listK K) (pv 0) pe_int (fun _ _ => rfl)) (pe_ix (ix_listK K) (pv 0) pe_int (fun _ _ => rfl)) (fun _ _ => rfl)))
  (pss_cons (ps_asg (pe_op op_add (pe_ix (ix_listK K) (pv 0) pe_int (fun _ _ => rfl)) pe_int) (pg_sub (pv 0) pe_int set_list))
  (pss_one (ps_if (pt_cmpR op_ge (pv 2) (pe_op op_pow pe_int pe_int) (nomark _))
  (pss_one (ps_asg (pv 2) (pg_sub (pv 0) pe_int set_list)))
  (pss_one (ps_asg (pe_op op_mod (pe_callTy call_int1 (by rfl) T.b_int (by decide +kernel) (pa_cons (pe_op op_add (pe_op op_add (pe_op op_mul (pe_ix (ix_listK K) (pv 0) pe_int (fun _ _ => rfl)) pe_int) (pe_op op_mul (pe_op op_mod (pe_callTy call_int1 (by rfl) T.b_int (by decide +kernel) (pa_cons (pv 2) pa_nil)) pe_int) pe_int)) pe_int) pa_nil)) pe_int) (pg_sub (pv 0) pe_int set_list)))))))
  pss_nil)
  (pss_cons (ps_if (pt_cmpR op_gt (pe_ix (ix_listK K) (pv 0) pe_int (fun _ _ => rfl)) pe_int (nomark _))
  (pss_cons (ps_set (i := 3) sc_law_take.nd rfl (Or.inl rfl) (pe_op op_mod (pe_callTy call_int1 (by rfl) T.b_int (by decide +kernel) (pa_cons (pe_ix (ix_listK K) (pv 0) pe_int (fun _ _ => rfl)) pa_nil)) (pv 1)))
  (pss_cons (ps_asg (pe_op op_fdiv (pe_ix (ix_listK K) (pv 0) pe_int (fun _ _ => rfl)) (pv 1)) (pg_sub (pv 0) pe_int set_list))
  (pss_one (ps_ret (pv 3)))))
  pss_nil)
  (pss_cons (ps_asg (pe_op op_add (pe_ix (ix_listK K) (pv 0) pe_int (fun _ _ => rfl)) pe_int) (pg_sub (pv 0) pe_int set_list))
  (pss_cons (ps_set (i := 4) sc_law_take.nd rfl (Or.inl rfl) (pe_op op_add (pe_op op_mod (pe_callTy call_int1 (by rfl) T.b_int (by decide +kernel) (pa_cons (pe_op op_mul (pe_ix (ix_listK K) (pv 0) pe_int (fun _ _ => rfl)) (pe_ix (ix_listK K) (pv 0) pe_int (fun _ _ => rfl))) pa_nil)) pe_int) (pe_op op_mul pe_int (pe_ix (ix_listK K) (pv 0) pe_int (fun _ _ => rfl)))))
  (pss_cons (ps_asg (pe_op op_mod (pe_callTy call_int1 (by rfl) T.b_int (by decide +kernel) (pa_cons (pe_op op_add (pe_op op_add (pe_op op_mul (pv 4) pe_int) (pe_ix (ix_listK K) (pv 0) pe_int (fun _ _ => rfl))) pe_int) pa_nil)) pe_int) (pg_sub (pv 0) pe_int set_list))
  (pss_one (ps_ret (pe_op op_mod (pe_callTy call_int1 (by rfl) T.b_int (by decide +kernel) (pa_cons (pe_op op_add (pe_op op_fdiv (pe_ix (ix_listK K) (pv 0) pe_int (fun _ _ => rfl)) pe_int) (pe_op op_mul (pe_op op_mod (pe_callTy call_int1 (by rfl) T.b_int (by decide +kernel) (pa_cons (pe_ix (ix_listK K) (pv 0) pe_int (fun _ _ => rfl)) pa_nil)) pe_int) pe_int)) pa_nil)) (pv 1))))))))), ?_⟩
  refine ⟨fun σ' H' => ∃ (ys : List V) (oc : Option V), σ' = [some (.ref s), some (.int many), oc, none, none] ∧ H' = upd H s (.lst ys) ∧ srcGood c ys, ?_, ?_⟩
  · have skip : ∃ (ys : List V) (oc : Option V), ([some (.ref s), some (.int many), none, none, none] : L2.St) = [some (.ref s), some (.int many), oc, none, none] ∧ H = upd H s (.lst ys) ∧ srcGood c ys :=
      ⟨_, none, rfl, by
        funext b
        unfold upd
        split
        · next e => rw [e, hs]
        · rfl, pos, big, seed, cnt, rfl, p0, s0, s1⟩
    refine ⟨_, rfl, s, _, _, _, rfl, rfl, SqL.of hs, rfl, rfl, _, rfl, ?_⟩
    refine if_int (fun h1 => ?_) (fun h1 => skip)
    refine ⟨_, rfl, s, _, _, _, rfl, rfl, SqL.of hs, rfl, _, rfl, s, _, _, _, rfl, rfl, SqL.of hs, rfl, _, ns.length, rfl, .inl ⟨_, SqL.of hc, (List.length_map _).symm⟩, _, _, rfl, rfl, _, rfl, ?_⟩
    refine if_dec (fun h2 => ?_) (fun h2 => skip)
    have hp : pos.toNat < ns.length := by omega
    have hat : atI (ns.map V.int) pos = some (.int ns[pos.toNat]) := by
      have e : ((pos.toNat : Nat) : Int) = pos := by omega
      have h : atI (ns.map V.int) ((pos.toNat : Nat) : Int) = some (.int ns[pos.toNat]) := atI_nat (by rw [List.getElem?_map, List.getElem?_eq_getElem hp] <;> rfl)
      rw [e] at h
      exact h
    refine ⟨_, rfl, s, _, _, _, rfl, rfl, SqL.of hs, rfl, _, rfl, s, _, _, _, rfl, rfl, SqL.of hs, rfl, c, _, _, _, rfl, rfl, SqL.of hc, hat, ?_⟩
    refine ⟨_, rfl, s, _, _, _, rfl, rfl, SqL.of hs, rfl, _, _, rfl, rfl, _, rfl, s, _, _, 1, rfl, rfl, hs, rfl, ?_⟩
    refine ⟨_, rfl, _, _, rfl, rfl, ⟨by decide, by decide, by decide⟩, _, _, rfl, rfl, _, rfl, ?_⟩
    refine if_dec (fun h3 => ?_) (fun h3 => ?_)
    · refine ⟨_, rfl, _, rfl, s, _, _, 2, rfl, rfl, upd_same, rfl, ?_⟩
      rw [upd_upd]
      exact ⟨_, _, rfl, rfl, pos + 1, _, seed, cnt, rfl, by omega, s0, s1⟩
    · refine ⟨_, rfl, s, _, _, _, rfl, rfl, SqL.of upd_same, rfl, _, _, rfl, rfl, .inr ⟨by decide, by decide⟩, ?_⟩
      refine ⟨_, rfl, .inl ⟨_, rfl, _, _, rfl, rfl, (by show (0 : Int) < _; decide), _, _, rfl, rfl, .inr ⟨by decide, by decide⟩, _, _, rfl, rfl, _, _, rfl, rfl, .inl ⟨_, rfl, _, _, rfl, rfl, (by show (0 : Int) < _; decide), _, rfl, s, _, _, 3, rfl, rfl, upd_same, rfl, ?_⟩⟩⟩
      rw [upd_upd]
      exact ⟨_, _, rfl, rfl, pos + 1, _, _, cnt, rfl, by omega, Int.emod_nonneg _ (by decide), Int.emod_lt_of_pos _ (by decide)⟩
  · rintro _ _ ⟨_, oc, rfl, rfl, pos, big, seed, cnt, rfl, p0, s0, s1⟩
    refine ⟨_, rfl, s, _, _, _, rfl, rfl, SqL.of upd_same, rfl, _, _, rfl, rfl, _, rfl, ?_⟩
    refine if_dec (fun h1 => ?_) (fun h1 => ?_)
    · refine ⟨_, rfl, s, _, _, _, rfl, rfl, SqL.of upd_same, rfl, .inl ⟨_, rfl, _, rfl, _, _, rfl, rfl, m0, ?_⟩⟩
      refine ⟨_, rfl, s, _, _, _, rfl, rfl, SqL.of upd_same, rfl, _, rfl, _, _, rfl, rfl, ⟨m0, m1⟩, _, rfl, s, _, _, 2, rfl, rfl, upd_same, rfl, _, rfl, ?_⟩
      rw [upd_upd]
      exact q _ _ (Int.emod_nonneg _ (by omega)) (Int.emod_lt_of_pos _ m0) ⟨pos, _, seed, cnt, rfl, p0, s0, s1⟩
    · refine ⟨_, rfl, s, _, _, _, rfl, rfl, SqL.of upd_same, rfl, _, _, rfl, rfl, _, rfl, s, _, _, 4, rfl, rfl, upd_same, rfl, ?_⟩
      rw [upd_upd]
      refine ⟨_, rfl, s, _, _, _, rfl, rfl, SqL.of upd_same, rfl, _, rfl, s, _, _, _, rfl, rfl, SqL.of upd_same, rfl, _, _, rfl, rfl, .inl ⟨by omega, by omega⟩, .inl ⟨_, rfl, _, _, rfl, rfl, (by show (0 : Int) < _; decide), _, rfl, s, _, _, _, rfl, rfl, SqL.of upd_same, rfl, _, _, rfl, rfl, .inl ⟨by decide, by decide⟩, _, _, rfl, rfl, ?_⟩⟩
      refine ⟨_, rfl, _, _, rfl, rfl, .inr ⟨by decide, by decide⟩, _, rfl, s, _, _, _, rfl, rfl, SqL.of upd_same, rfl, _, _, rfl, rfl, _, _, rfl, rfl, .inl ⟨_, rfl, _, _, rfl, rfl, (by show (0 : Int) < _; decide), _, rfl, s, _, _, 3, rfl, rfl, upd_same, rfl, ?_⟩⟩
      rw [upd_upd]
      refine ⟨_, rfl, s, _, _, _, rfl, rfl, SqL.of upd_same, rfl, _, _, rfl, rfl, ⟨by decide, by decide⟩, _, rfl, s, _, _, _, rfl, rfl, SqL.of upd_same, rfl, .inl ⟨_, rfl, _, _, rfl, rfl, (by show (0 : Int) < _; decide), _, _, rfl, rfl, .inr ⟨by decide, by decide⟩, _, _, rfl, rfl, .inl ⟨_, rfl, _, rfl, _, _, rfl, rfl, m0, ?_⟩⟩⟩
      exact q _ _ (Int.emod_nonneg _ (by omega)) (Int.emod_lt_of_pos _ m0) ⟨pos, _, _, _, rfl, p0, Int.emod_nonneg _ (by decide), Int.emod_lt_of_pos _ (by decide)⟩
theorem take_hid (D : Def P w K mg base "_law_take" 1 ["_law_source_here", "_law_many"] spTakeL) : Def P w K mg base "_law_take" 1 ["_law_source_here", "_law_many"] spTake := by
  refine D.open_ (fun vs H Q E h => ?_) (fun vs H Q E h => ?_)
  · obtain ⟨s, many, rfl, _⟩ := h
    rfl
  · obtain ⟨s, many, rfl, m0, m1, ⟨c, ns, hs, hc⟩, q⟩ := h
    have ncs : c ≠ s := by
      intro e
      rw [e, hs] at hc
      cases hc
    refine ⟨s, srcGood c, hs, fun xs hg => ⟨s, c, many, xs, ns, rfl, m0, m1, upd_same, hg, by rw [upd_ne ncs]; exact hc, ncs, fun n ys n0 n1 hy => ⟨ys, upd_same, hy, ?_⟩⟩⟩
    rw [upd_upd, upd_back hs]
    exact q n n0 n1
end
end FF
namespace FF
open PySem PySem.Spec PyProof.Rows L2
theorem cutV_map {α : Type} {f : α → V} {l : List α} {lo hi : Option Int} : ∃ m : List α, cutV (l.map f) lo hi = m.map f ∧ m.length ≤ l.length := by
  refine ⟨(l.drop (HT.sIx l.length 0 lo)).take (HT.sIx l.length l.length hi - HT.sIx l.length 0 lo), ?_, ?_⟩
  · unfold cutV
    rw [List.length_map, List.map_take, List.map_drop]
  · rw [List.length_take, List.length_drop]
    omega
theorem cut_front {xs : List V} {k : Int} (h0 : 0 ≤ k) : cutV xs none (some k) = xs.take k.toNat := by
  obtain ⟨n, rfl⟩ : ∃ n : Nat, k = (n : Int) := ⟨k.toNat, by omega⟩
  unfold cutV
  rw [HT.sIx_none, HT.sIx_nat, List.drop_zero, Nat.sub_zero, Int.toNat_natCast]
  rcases Nat.le_total n xs.length with h | h
  · rw [Nat.min_eq_left h]
  · rw [Nat.min_eq_right h, List.take_length, List.take_of_length_le h]
def spSourceL (K : PySem.W.Frag) : Sp := fun vs H Q _ => ∃ (a : Addr) (ns : List Int), vs = [.ref a] ∧ SqL K H a (ns.map V.int) ∧
  ∀ (r c : Addr) (ms : List Int) H', H r = none → Same H H' → H' r = some (.lst [.ref c, .int 0, .int 0, .int 3818, .int 0]) → H' c = some (.lst (ms.map V.int)) → r ≠ c → Q (.ref r) H'
def spSource (K : PySem.W.Frag) : Sp := fun vs H Q _ => ∃ (a : Addr) (ns : List Int), vs = [.ref a] ∧ SqL K H a (ns.map V.int) ∧ ∀ (r : Addr) H', Same H H' → Src H' r → Q (.ref r) H'
def spPick (K : PySem.W.Frag) : Sp := fun vs H Q _ => ∃ (s r : Addr) (xs : List V), vs = [.ref s, .ref r] ∧ Src H s ∧ SqL K H r xs ∧ xs ≠ [] ∧ xs.length ≤ 20000 ∧ ∀ v, v ∈ xs → Q v H
def spMixed (K : PySem.W.Frag) : Sp := fun vs H Q _ => ∃ (s r : Addr) (xs : List V), vs = [.ref s, .ref r] ∧ Src H s ∧ SqL K H r xs ∧ xs.length ≤ 20000 ∧
  ∀ (p : Addr) H' ys, H p = none → Same H H' → H' p = some (.lst ys) → ys.Perm xs → Q (.ref p) H'
section
variable {P : Program} {w : World} {K : PySem.W.Frag} {mg : Str → Option Value} {base : Heap}
theorem ok_source {f : Addr} {fd : FuncData} (F : FunD K "_law_source" "_law_source" (defArgs s_law_source) (defBody s_law_source) (defScope s_law_source) [] [] f fd) (hm : mg "_law_source" = some (.ref f)) (T : Top K mg) : Def P w K mg base "_law_source" 1 ["_law_script"] (spSource K) := by
  have D : Def P w K mg base "_law_source" 1 ["_law_script"] (spSourceL K) := by
    refine def_mk F hm (F.bindsN fun _ _ _ _ _ _ us hl => match us, hl with | [_], _ => rfl) sc_law_source (fun vs H Q E h => ?_) (fun cdv A outer s H vs Q E hr h => ?_)
    · obtain ⟨a, ns, rfl, _⟩ := h
      rfl
    obtain ⟨a, ns, rfl, hS, q⟩ := h
    refine ⟨_, (pss_one (ps_ret (pe_lst (pa_cons (pe_callTy (call_list_ofK K) (by rfl) T.b_list (by decide +kernel) (pa_cons (pe_slice (sl_listK K) (pv 0) po_none (po_some pe_int)) pa_nil)) (pa_cons pe_int (pa_cons pe_int (pa_cons pe_int (pa_cons pe_int pa_nil)))))))), ?_⟩
    refine ⟨_, rfl, 63, rfl, a, _, rfl, hS, fun p hp => ⟨p, _, rfl, .inl (SqL.of upd_same), fun l hl => ⟨(by show 5 ≤ sizeLine; decide), fun r hr0 => ?_⟩⟩⟩
    obtain ⟨ms, hms, _⟩ := cutV_map (f := V.int) (l := ns) (lo := none) (hi := some 63)
    rw [hms] at hl hr0 ⊢
    have e1 := same_new hp (.lst (ms.map V.int))
    have e2 := same_new hl (.lst (ms.map V.int))
    have e3 := same_new hr0 (.lst [.ref l, .int 0, .int 0, .int 3818, .int 0])
    have nrl : r ≠ l := fun z => by rw [z, upd_same] at hr0; cases hr0
    exact q r l ms _ ((e1.trans e2).free hr0) ((e1.trans e2).trans e3) upd_same (by rw [upd_ne nrl.symm]; exact upd_same) nrl
  refine D.shut_ (fun vs H Q E h => ?_) (fun vs H Q E h => ?_)
  · obtain ⟨a, ns, rfl, _⟩ := h
    rfl
  · obtain ⟨a, ns, rfl, hS, q⟩ := h
    refine ⟨a, ns, rfl, hS, fun r c ms H' hr0 e hr1 hc nrc => ⟨r, srcGood c, _, hr0, hr1, ⟨0, 0, 3818, 0, rfl, by omega, by omega, by omega⟩, ?_⟩⟩
    refine q r _ (fun b o h => ?_) ⟨c, ms, upd_same, by rw [upd_ne nrc.symm]; exact hc⟩
    rw [upd_ne (ne_of_none h hr0)]
    exact e _ _ h
theorem ok_pick {f : Addr} {fd : FuncData} (F : FunD K "_law_pick" "_law_pick" (defArgs s_law_pick) (defBody s_law_pick) (defScope s_law_pick) [] [] f fd) (hm : mg "_law_pick" = some (.ref f)) (T : Top K mg)
    (D_law_take : Def P w K mg base "_law_take" 1 ["_law_source_here", "_law_many"] spTake) : Def P w K mg base "_law_pick" 2 ["_law_source_here", "_law_row"] (spPick K) := by
  refine def_mk F hm (F.bindsN fun _ _ _ _ _ _ us hl => match us, hl with | [_, _], _ => rfl) sc_law_pick (fun vs H Q E h => ?_) (fun cdv A outer s H vs Q E hr h => ?_)
  · obtain ⟨s, r, xs, rfl, _⟩ := h
    rfl
  obtain ⟨s, r, xs, rfl, hs, hx, hn, hz, q⟩ := h
  have hl : 0 < xs.length := List.length_pos_iff.mpr hn
  refine ⟨_, (pss_one (ps_ret (pe_ix (ix_listK K) (pv 1) (pe_def D_law_take hr (by first | decide | omega) (pa_cons (pv 0) (pa_cons (pe_callB (call_lenK K) (by rfl) T.b_len (by decide +kernel) (pa_cons (pv 1) pa_nil)) pa_nil))) (fun _ _ => rfl)))), ?_⟩
  refine ⟨_, rfl, _, rfl, _, rfl, _, xs.length, rfl, .inl ⟨_, hx, rfl⟩, s, _, rfl, by omega, by omega, hs, fun k k0 k1 => ?_⟩
  have hk : k.toNat < xs.length := by omega
  have hat : atI xs k = some xs[k.toNat] := by
    have e : ((k.toNat : Nat) : Int) = k := by omega
    have h : atI xs ((k.toNat : Nat) : Int) = some xs[k.toNat] := atI_nat (List.getElem?_eq_getElem hk)
    rw [e] at h
    exact h
  exact ⟨r, xs, k, _, rfl, rfl, hx, hat, q _ (List.getElem_mem hk)⟩
theorem ok_mixed {f : Addr} {fd : FuncData} (F : FunD K "_law_mixed" "_law_mixed" (defArgs s_law_mixed) (defBody s_law_mixed) (defScope s_law_mixed) [] [] f fd) (hm : mg "_law_mixed" = some (.ref f)) (T : Top K mg)
    (D_law_take : Def P w K mg base "_law_take" 1 ["_law_source_here", "_law_many"] spTake) : Def P w K mg base "_law_mixed" 2 ["_law_source_here", "_law_row"] (spMixed K) := by
  refine def_mk F hm (F.bindsN fun _ _ _ _ _ _ us hl => match us, hl with | [_, _], _ => rfl) sc_law_mixed (fun vs H Q E h => ?_) (fun cdv A outer s H vs Q E hr h => ?_)
  · obtain ⟨s, r, xs, rfl, _⟩ := h
    rfl
  obtain ⟨s, r, xs, rfl, hs, hx, hz, q⟩ := h
  refine ⟨_, (pss_cons (ps_set (i := 2) sc_law_mixed.nd rfl (Or.inl rfl) (pe_lst pa_nil))
  (pss_cons (ps_for PassesOwn.never rfl (pi_listK K (pv 1)) (pg_name (i := 3) sc_law_mixed.nd rfl (Or.inl rfl) (.inl rfl))
  (pss_one (ps_expr (pe_bmK K PySem.F.plainAttrs_list PySem.F.slot_list_insert PySem.F.type_list_insert mt_insert (pv 2) (pa_cons (pe_def D_law_take hr (by first | decide | omega) (pa_cons (pv 0) (pa_cons (pe_op op_add (pe_callB (call_lenK K) (by rfl) T.b_len (by decide +kernel) (pa_cons (pv 2) pa_nil)) pe_int) pa_nil))) (pa_cons (pv 3) pa_nil))))))
  (pss_one (ps_ret (pv 2))))), ?_⟩
  refine ⟨by decide, fun p hp => ?_⟩
  have e1 := same_new hp (.lst [])
  refine ⟨_, rfl, r, rfl, ⟨_, up_l e1 hx⟩, for_list (K := K) (a := r) (xs := xs) (fun i σ H' => ∃ (ys : List V) (o : Option V), σ = [some (.ref s), some (.ref r), some (.ref p), o] ∧ Same H H' ∧ H' p = some (.lst ys) ∧ ys.Perm (xs.take i))
    ⟨[], none, rfl, e1, upd_same, by rw [List.take_zero]⟩ (fun i σ H' _ ⟨_, _, _, e, _⟩ => up_l e hx) ?_ ?_⟩
  · rintro i x σ H' hi ⟨ys, o, rfl, e, hp1, hperm⟩
    have hi2 := (List.getElem?_eq_some_iff.mp hi).1
    have hyl : ys.length = i := by
      rw [hperm.length_eq, List.length_take]
      omega
    refine ⟨_, rfl, .inl ⟨rfl, _, SqL.of hp1⟩, _, rfl, _, rfl, _, ys.length, rfl, .inl ⟨_, SqL.of hp1, rfl⟩, _, _, rfl, rfl, s, _, rfl, by omega, by omega, hs.up e, fun k k0 k1 => ?_⟩
    refine ⟨_, rfl, p, ys, k, x, rfl, rfl, hp1, lt_line (by omega), k0, by omega, ?_⟩
    refine ⟨_, _, rfl, fun b o2 h => ?_, upd_same, ?_⟩
    · rw [upd_ne (ne_of_none h hp)]
      exact e _ _ h
    · rw [List.take_succ, hi]
      have h1 : (ys.take k.toNat ++ [x] ++ ys.drop k.toNat).Perm (x :: ys) := by
        rw [List.append_assoc]
        refine List.perm_middle.trans ?_
        show (x :: (ys.take k.toNat ++ ys.drop k.toNat)).Perm _
        rw [List.take_append_drop]
      refine h1.trans ?_
      refine (List.Perm.cons x hperm).trans ?_
      exact (List.perm_append_singleton x (xs.take i)).symm
  · rintro σ H' ⟨ys, o, rfl, e, hp1, hperm⟩
    rw [List.take_length] at hperm
    exact ⟨_, rfl, q p H' ys hp e hp1 hperm⟩
end
end FF
namespace FF
open PySem PySem.Spec PyProof.Rows L2
/-! ### drawn terms -/
/-- a drawn term: n operators deep at most -/
def Drawn : Nat → PyData → Prop
  | 0, d => isLet d = true
  | n + 1, d => isLet d = true ∨ ∃ o ps, d = .tuple (o :: ps) ∧ isOp o = true ∧ 2 ≤ ps.length ∧ ps.length ≤ 24 ∧ ∀ p, p ∈ ps → Drawn n p
theorem let_shape {d : PyData} (h : isLet d = true) : ∃ c, d = .str ⟨#[c]⟩ ∧ c ∈ lettersS.cps.toList := by
  cases d with
  | str z =>
    obtain ⟨⟨l⟩⟩ := z
    match l, h with
    | [c], h => exact ⟨c, rfl, of_decide_eq_true h⟩
  | _ => cases h
theorem lettersS_val : lettersS.cps.toList = [97, 98, 99, 100, 101, 102, 103, 104] := by decide +kernel
theorem let_nice {d : PyData} (h : isLet d = true) : nice d = true := by
  obtain ⟨c, rfl, hc⟩ := let_shape h
  rw [lettersS_val] at hc
  simp only [nice, Bool.and_eq_true, decide_eq_true_eq]
  refine ⟨by show 1 ≤ 20000; decide, ?_⟩
  show (#[c].all fun x => decide (x < 0x110000)) = true
  have : c < 0x110000 := by
    simp only [List.mem_cons, List.not_mem_nil, or_false] at hc
    omega
  simp [this]
theorem let_depth {d : PyData} (h : isLet d = true) : d.depth = 0 := by
  obtain ⟨c, rfl, hc⟩ := let_shape h
  rw [PyData.depth]
theorem op_shape {d : PyData} (h : isOp d = true) : d = .str ("&" : Str) ∨ d = .str ("|" : Str) := by
  cases d with
  | str z =>
    have h2 : (decide (z = ("&" : Str)) || decide (z = ("|" : Str))) = true := h
    rw [Bool.or_eq_true, decide_eq_true_eq, decide_eq_true_eq] at h2
    rcases h2 with e | e
    · exact .inl (by rw [e])
    · exact .inr (by rw [e])
  | _ => cases h
theorem op_nice {d : PyData} (h : isOp d = true) : Nice 0 d := by
  rcases op_shape h with rfl | rfl
  · exact ⟨by decide +kernel, by rw [PyData.depth]; exact Nat.le_refl _⟩
  · exact ⟨by decide +kernel, by rw [PyData.depth]; exact Nat.le_refl _⟩
theorem drawn_nice : ∀ {n : Nat} {d : PyData}, Drawn n d → Nice n d
  | 0, d, h => ⟨let_nice h, Nat.le_of_eq (let_depth h)⟩
  | n + 1, d, h => by
    rcases h with h | ⟨o, ps, rfl, ho, h2, h4, hp⟩
    · exact ⟨let_nice h, by rw [let_depth h]; omega⟩
    · refine Nice.tuple (by simp; omega) fun p hm => ?_
      rcases List.mem_cons.mp hm with e | hm
      · rw [e]
        exact (op_nice ho).mono (Nat.zero_le _)
      · exact drawn_nice (hp p hm)
theorem drawn_mono : ∀ {m n : Nat} {d : PyData}, Drawn m d → m ≤ n → Drawn n d
  | 0, 0, _, h, _ => h
  | 0, _ + 1, _, h, _ => .inl h
  | m + 1, n + 1, _, h, hm => by
    rcases h with h | ⟨o, ps, e, ho, h2, h4, hp⟩
    · exact .inl h
    · exact .inr ⟨o, ps, e, ho, h2, h4, fun p hm2 => drawn_mono (hp p hm2) (by omega)⟩
def isRoom (xs : List V) : Prop := ∃ r : Int, xs = [.int r]
theorem tpAll_of {K : PySem.W.Frag} {H : Hp} {Pr : PyData → Prop} : ∀ {ys : List V}, (∀ (i : Nat) (y : V), ys[i]? = some y → ∃ d, Tp K H y d ∧ Pr d) → ∃ ds, TpAll K H ys ds ∧ ∀ d, d ∈ ds → Pr d
  | [], _ => ⟨[], .nil, fun _ h => by cases h⟩
  | y :: ys, h => by
    obtain ⟨d, h1, h2⟩ := h 0 y rfl
    obtain ⟨ds, h3, h4⟩ := tpAll_of (ys := ys) fun i u hu => h (i + 1) u hu
    refine ⟨d :: ds, .cons h1 h3, fun e he => ?_⟩
    rcases List.mem_cons.mp he with q | q
    · rw [q]; exact h2
    · exact h4 e q
def spSigns : Sp := fun vs H Q _ => ∃ (s : Addr) (most : Int), vs = [.ref s, .int most] ∧ 0 < most ∧ most < 1073741824 ∧ Src H s ∧
  ∀ (p : Addr) H' zs, Same H H' → H' p = some (.lst (zs.map V.str)) → zs ≠ [] → zs.length ≤ 8 → (∀ z, z ∈ zs → isLetS z = true) → Q (.ref p) H'
def spAnyTerm (K : PySem.W.Frag) (n : Nat) : Sp := fun vs H Q _ => ∃ (s : Addr), vs = [.ref s] ∧ Src H s ∧ ∀ v H' d, Same H H' → Tp K H' v d → Drawn n d → Q v H'
section
variable {P : Program} {w : World} {K : PySem.W.Frag} {mg : Str → Option Value} {base : Heap}
theorem ok_signs {f : Addr} {fd : FuncData} (F : FunD K "_law_signs" "_law_signs" (defArgs s_law_signs) (defBody s_law_signs) (defScope s_law_signs) [] [] f fd) (hm : mg "_law_signs" = some (.ref f)) (T : Top K mg)
    (D_law_take : Def P w K mg base "_law_take" 1 ["_law_source_here", "_law_many"] spTake) (D_law_mixed : Def P w K mg base "_law_mixed" 2 ["_law_source_here", "_law_row"] (spMixed K)) : Def P w K mg base "_law_signs" 3 ["_law_source_here", "_law_most"] spSigns := by
  refine def_mk F hm (F.bindsN fun _ _ _ _ _ _ us hl => match us, hl with | [_, _], _ => rfl) sc_law_signs (fun vs H Q E h => ?_) (fun cdv A outer s H vs Q E hr h => ?_)
  · obtain ⟨s, m, rfl, _⟩ := h
    rfl
  obtain ⟨s, m, rfl, m0, m1, hs, q⟩ := h
  refine ⟨_, (pss_cons (ps_set (i := 2) sc_law_signs.nd rfl (Or.inl rfl) (pe_def D_law_mixed hr (by first | decide | omega) (pa_cons (pv 0) (pa_cons (pe_callTy (call_list_s rfl) (by rfl) T.b_list (by decide +kernel) (pa_cons pe_str pa_nil)) pa_nil))))
  (pss_one (ps_ret (pe_slice (sl_listK K) (pv 2) po_none (po_some (pe_op op_add pe_int (pe_def D_law_take hr (by first | decide | omega) (pa_cons (pv 0) (pa_cons (pv 1) pa_nil))))))))), ?_⟩
  refine ⟨_, rfl, lettersS, rfl, by decide +kernel, fun l hl => ?_⟩
  have e1 := same_new hl (.lst (lettersS.cps.toList.map fun c => V.str ⟨#[c]⟩))
  refine ⟨s, l, _, rfl, hs.up e1, SqL.of upd_same, by rw [List.length_map, lettersS_val]; decide, fun p H' ys hp e2 hp2 hperm => ?_⟩
  have e3 := e1.trans e2
  refine ⟨_, rfl, _, rfl, _, rfl, s, m, rfl, m0, m1, hs.up e3, fun n n0 n1 => ?_⟩
  refine ⟨_, _, rfl, rfl, _, rfl, p, _, rfl, SqL.of hp2, fun r hr0 => ?_⟩
  have ek : (1 + n).toNat = n.toNat + 1 := by omega
  have hperm2 : ys.Perm (lettersS.cps.toList.map fun c => V.str ⟨#[c]⟩) := hperm
  have hlen : ys.length = 8 := by rw [hperm2.length_eq, List.length_map, lettersS_val] <;> rfl
  have hall : ∀ y, y ∈ ys → ∃ z : Str, y = .str z ∧ isLetS z = true := fun y hy => by
    obtain ⟨c, hc, rfl⟩ := List.mem_map.mp (hperm2.mem_iff.mp hy)
    exact ⟨_, rfl, decide_eq_true hc⟩
  obtain ⟨zs, hzs, hz2⟩ : ∃ zs : List Str, ys = zs.map V.str ∧ ∀ z, z ∈ zs → isLetS z = true := by
    clear hperm hperm2 hlen hp2 hr0
    induction ys with
    | nil => exact ⟨[], rfl, fun z h => by cases h⟩
    | cons y ys ih =>
      obtain ⟨z, rfl, hz⟩ := hall y (List.mem_cons_self ..)
      obtain ⟨zs, rfl, h2⟩ := ih fun y hy => hall y (List.mem_cons_of_mem _ hy)
      refine ⟨z :: zs, rfl, fun u hu => ?_⟩
      rcases List.mem_cons.mp hu with e | hu
      · rw [e]; exact hz
      · exact h2 u hu
  subst hzs
  rw [cut_front (by omega), ek, ← List.map_take]
  rw [List.length_map] at hlen
  refine q r _ (zs.take (n.toNat + 1)) (e3.trans (same_new hr0 _)) upd_same ?_ ?_ (fun z hz => hz2 z (List.mem_of_mem_take hz))
  · intro e
    have := congrArg List.length e
    rw [List.length_take, List.length_nil] at this
    omega
  · rw [List.length_take]
    omega
end
end FF
namespace FF
open PySem PySem.Spec PyProof.Rows L2
theorem sum_in {f : PyData → Int} {B : Int} : ∀ {l : List PyData}, (∀ p ∈ l, 1 ≤ f p ∧ f p ≤ B) → (0 : Int) ∉ l.map f ∧ (l.length : Int) ≤ (l.map f).sum ∧ (l.map f).sum ≤ (l.length : Int) * B
  | [], _ => ⟨by simp, by simp, by simp⟩
  | x :: r, h => by
    obtain ⟨h1, h2, h3⟩ := sum_in (l := r) fun p hp => h p (List.mem_cons_of_mem _ hp)
    obtain ⟨a1, a2⟩ := h x List.mem_cons_self
    refine ⟨fun z => ?_, ?_, ?_⟩
    · rcases List.mem_cons.mp (show (0 : Int) ∈ f x :: r.map f from z) with z | z
      · omega
      · exact h1 z
    · rw [List.map_cons, List.sum_cons, List.length_cons]
      omega
    · rw [List.map_cons, List.sum_cons, List.length_cons]
      have : ((r.length + 1 : Nat) : Int) * B = (r.length : Int) * B + B := by
        rw [Int.natCast_add, Int.add_mul]
        simp
      omega
theorem tup_let {ps : List PyData} : isLet (.tuple ps) = false := rfl
theorem meas_drawn : ∀ {n : Nat} {d : PyData}, Drawn n d → ∀ m, n < m → 1 ≤ meas m d ∧ meas m d ≤ ((24 ^ n : Nat) : Int)
  | 0, d, h, m, hm => by
    rw [meas_let (show isLet d = true from h), if_pos (by omega)]
    exact ⟨Int.le_refl _, Int.le_refl _⟩
  | n + 1, d, h, m, hm => by
    rcases h with h | ⟨o, ps, rfl, ho, h2, h4, hp⟩
    · rw [meas_let h, if_pos (by omega)]
      refine ⟨Int.le_refl _, ?_⟩
      have : 1 ≤ 24 ^ (n + 1) := Nat.one_le_pow _ _ (by decide)
      omega
    obtain ⟨k, rfl⟩ : ∃ k, m = k + 1 := ⟨m - 1, by omega⟩
    rw [meas_up tup_let (by omega)]
    have hs := sum_in (f := meas k) (B := ((24 ^ n : Nat) : Int)) (l := ps) fun p hpp => meas_drawn (hp p hpp) k (by omega)
    match ps, h2, h4, hs with
    | y :: z :: r, h2, h4, hs =>
      show 1 ≤ (if isOp o = true then (if (0 : Int) ∈ ((y :: z :: r).map (meas k)) then 0 else ((y :: z :: r).map (meas k)).sum) else 0) ∧ (if isOp o = true then (if (0 : Int) ∈ ((y :: z :: r).map (meas k)) then 0 else ((y :: z :: r).map (meas k)).sum) else 0) ≤ _
      rw [if_pos ho, if_neg hs.1]
      refine ⟨Int.le_trans (by simp only [List.length_cons]; omega) hs.2.1, Int.le_trans hs.2.2 ?_⟩
      rw [Nat.pow_succ, Nat.mul_comm, Int.natCast_mul]
      exact Int.mul_le_mul_of_nonneg_right (by omega) (Int.natCast_nonneg _)
end FF
namespace FF
open PySem PySem.Spec PyProof.Rows L2
def spTermR (K : PySem.W.Frag) (n : Nat) : Sp := fun vs H Q _ => ∃ (s g rm c : Addr) (deep r : Int) (zs : List Str) (ns : List Int), vs = [.ref s, .ref g, .int deep, .ref rm] ∧ H s = some (hid (srcGood c) s) ∧ H c = some (.lst (ns.map V.int)) ∧ c ≠ rm ∧ H g = some (.lst (zs.map V.str)) ∧ zs ≠ [] ∧ zs.length ≤ 20000 ∧ (∀ z, z ∈ zs → isLetS z = true) ∧
  H rm = some (.lst [.int r]) ∧ 0 ≤ r ∧ r < 1000 ∧ deep.toNat < n ∧ ∀ v H' d r', SameB rm H H' → H' rm = some (.lst [.int r']) → 0 ≤ r' → r' ≤ r → Tp K H' v d → Drawn (deep.toNat - 1) d → (∀ m, deep.toNat - 1 < m → meas m d = r - r' + 1) → Q v H'
def spAnyR (K : PySem.W.Frag) : Sp := fun vs H Q _ => ∃ (s : Addr), vs = [.ref s] ∧ Src H s ∧ ∀ v H' d, Same H H' → Tp K H' v d → Drawn 4 d → meas 5 d ≤ 24 → Q v H'
theorem sameB_refl {a : Addr} {H : Hp} : SameB a H H := fun _ _ _ h => h
theorem SameB.trans' {a : Addr} {H H1 H2 : Hp} (x : SameB a H H1) (y : SameB a H1 H2) : SameB a H H2 := fun b u n h => y b u n (x b u n h)
theorem sameB_of {a : Addr} {H H1 : Hp} (x : Same H H1) : SameB a H H1 := fun b u _ h => x b u h
theorem sameB_upd {a : Addr} {H : Hp} {o : HO} : SameB a H (upd H a o) := fun b u n h => by rw [upd_ne n]; exact h
theorem tpa_snoc {K : PySem.W.Frag} {H : Hp} {v : V} {d : PyData} (h : Tp K H v d) : ∀ {vs : List V} {ds : List PyData}, TpAll K H vs ds → TpAll K H (vs ++ [v]) (ds ++ [d])
  | _, _, .nil => .cons h .nil
  | _, _, .cons x r => .cons x (tpa_snoc h r)
section
variable {P : Program} {w : World} {K : PySem.W.Frag} {mg : Str → Option Value} {base : Heap}
theorem ok_termR_step {n : Nat} {f : Addr} {fd : FuncData} (F : FunD K "_law_term" "_law_term" (defArgs s_law_term) (defBody s_law_term) (defScope s_law_term) [] [] f fd) (hm : mg "_law_term" = some (.ref f)) (T : Top K mg)
    (D_law_take : Def P w K mg base "_law_take" 1 ["_law_source_here", "_law_many"] spTake) (D_law_pick : Def P w K mg base "_law_pick" 2 ["_law_source_here", "_law_row"] (spPick K))
    (D_law_term : Def P w K mg base "_law_term" (n + 2) ["_law_source_here", "_law_signs_here", "_law_deep", "_law_room"] (spTermR K n)) : Def P w K mg base "_law_term" (n + 3) ["_law_source_here", "_law_signs_here", "_law_deep", "_law_room"] (spTermR K (n + 1)) := by
  refine def_mk F hm (F.bindsN fun _ _ _ _ _ _ us hl => match us, hl with | [_, _, _, _], _ => rfl) sc_law_term (fun vs H Q E h => ?_) (fun cdv A outer s H vs Q E hr h => ?_)
  · obtain ⟨s, g, rm, c, m, r, zs, ns, rfl, _⟩ := h
    rfl
  obtain ⟨s, g, rm, c, m, r, zs, ns, rfl, hs, hc, hcr, hg, hz, hzl, hlet, hrm, r0, r1, hmn, q⟩ := h
  have hsrc : Src H s := ⟨c, ns, hs, hc⟩
  have hgr : g ≠ rm := fun e => by
    rw [e, hrm] at hg
    have e2 : ([V.int r] : List V) = zs.map V.str := HO.lst.inj (Option.some.inj hg)
    cases zs with
    | nil => exact hz rfl
    | cons z t => cases (List.cons.inj e2).1
  have hsr : s ≠ rm := fun e => by
    rw [e, hrm] at hs
    exact hid_lst (Option.some.inj hs).symm
  refine ⟨_, (pss_cons (ps_set (i := 4) sc_law_term.nd rfl (Or.inl rfl) (pe_op op_add pe_int (pe_op op_fdiv (pe_def D_law_take hr (by first | decide | omega) (pa_cons (pv 0) (pa_cons pe_int pa_nil))) pe_int)))
  (pss_cons (ps_if (PW.pt (pw_or (pt_cmpR op_lt (pv 2) pe_int (nomark _)) (pw_or (pt_cmpR op_lt (pe_ix (ix_listK K) (pv 3) pe_int (fun _ _ => rfl)) (pe_op op_sub (pv 4) pe_int) (nomark _)) (pw_or1 (pt_cmpR op_eq (pe_def D_law_take hr (by first | decide | omega) (pa_cons (pv 0) (pa_cons pe_int pa_nil))) pe_int (nomark _))))))
  (pss_one (ps_ret (pe_def D_law_pick hr (by first | decide | omega) (pa_cons (pv 0) (pa_cons (pv 1) pa_nil)))))
  pss_nil)
  (pss_cons (ps_asg (pe_op op_add (pe_op op_sub (pe_ix (ix_listK K) (pv 3) pe_int (fun _ _ => rfl)) (pv 4)) pe_int) (pg_sub (pv 3) pe_int set_list))
  (pss_cons (ps_set (i := 5) sc_law_term.nd rfl (Or.inl rfl) (pe_def D_law_pick hr (by first | decide | omega) (pa_cons (pv 0) (pa_cons (pe_lst (pa_cons pe_str (pa_cons pe_str pa_nil))) pa_nil))))
  (pss_one (ps_ret (pe_callTy (call_tuple_ofK K) (by rfl) T.b_tuple (by decide +kernel) (pa_cons (pe_op op_cat (pe_lst (pa_cons (pv 5) pa_nil)) (pe_lc (own := [("_law_k", 6)]) rfl sc_law_term.nd (pi_range1 (by rfl) T.b_range (pa_cons (pv 4) pa_nil)) (blkOk_by (by kernel_rfl)) (fun _ _ _ _ _ => (pg_name (i := 6) sc_law_term.nd rfl (Or.inl rfl) (.inr rfl))) (fun _ _ _ _ _ => pts_nil) (fun _ _ _ _ _ => (pe_def D_law_term hr (by first | decide | omega) (pa_cons (pv 0) (pa_cons (pv 1) (pa_cons (pe_op op_sub (pv 2) pe_int) (pa_cons (pv 3) pa_nil)))))))) pa_nil)))))))), ?_⟩
  refine ⟨_, rfl, s, 5, rfl, by omega, by omega, hsrc, fun t t0 t1 => ?_⟩
  refine ⟨_, _, rfl, rfl, ⟨by decide, by decide⟩, _, _, rfl, rfl, ?_⟩
  have pick : spPick K [.ref s, .ref g] H Q E := by
    refine ⟨s, g, _, rfl, hsrc, SqL.of hg, fun e => hz (List.map_eq_nil_iff.mp e), by rw [List.length_map]; exact hzl, fun v hv => ?_⟩
    obtain ⟨z, hz3, rfl⟩ := List.mem_map.mp hv
    have h0 : Drawn 0 (.str z) := hlet z hz3
    refine q _ H _ r sameB_refl hrm r0 (Int.le_refl _) (.str z) (drawn_mono h0 (Nat.zero_le _)) fun m hm => ?_
    rw [meas_let (show isLet (.str z) = true from hlet z hz3), if_pos (by omega)]
    omega
  refine ⟨_, rfl, _, _, rfl, rfl, _, rfl, ?_⟩
  refine if_dec (fun h1 => ⟨_, rfl, _, rfl, pick⟩) (fun h1 => ?_)
  refine ⟨_, rfl, rm, _, _, _, rfl, rfl, SqL.of hrm, at0, _, rfl, _, _, rfl, rfl, _, _, rfl, rfl, _, rfl, ?_⟩
  refine if_dec (fun h2 => ⟨_, rfl, _, rfl, pick⟩) (fun h2 => ?_)
  refine ⟨_, rfl, s, 4, rfl, by omega, by omega, hsrc, fun t2 t20 t21 => ⟨rfl, _, rfl, ?_⟩⟩
  refine if_int (fun h3 => ⟨_, rfl, _, rfl, pick⟩) (fun h3 => ?_)
  refine ⟨_, rfl, rm, _, _, _, rfl, rfl, SqL.of hrm, at0, _, rfl, _, _, rfl, rfl, _, _, rfl, rfl, _, rfl, rm, _, 0, 0, rfl, rfl, hrm, rfl, ?_⟩
  have eB : SameB rm H (upd H rm (.lst (([V.int r] : List V).set 0 (.int (r - (2 + t / 2) + 1))))) := sameB_upd
  have hrmB : upd H rm (.lst (([V.int r] : List V).set 0 (.int (r - (2 + t / 2) + 1)))) rm = some (.lst [.int (r - (2 + t / 2) + 1)]) := upd_same
  generalize upd H rm (.lst (([V.int r] : List V).set 0 (.int (r - (2 + t / 2) + 1)))) = HB at eB hrmB ⊢
  have hrB : (r - (2 + t / 2) + 1 : Int) ≥ 0 := by omega
  have hrB2 : (r - (2 + t / 2) + 1 : Int) ≤ r := by omega
  obtain ⟨mn, hmn2⟩ : ∃ mn : Nat, (2 + t / 2 : Int) = mn := ⟨(2 + t / 2).toNat, by omega⟩
  have hsB := eB _ _ hsr hs
  have hcB := eB _ _ hcr hc
  have hgB := eB _ _ hgr hg
  refine ⟨_, rfl, by decide +kernel, fun p1 hp1 => ?_⟩
  have e1 := same_new hp1 (.lst [.str ("&" : Str), .str ("|" : Str)])
  refine ⟨s, p1, _, rfl, ⟨c, ns, e1 _ _ hsB, e1 _ _ hcB⟩, SqL.of upd_same, by simp, by simp, fun o ho => ?_⟩
  have ho2 : ∃ z, o = .str z ∧ isOp (.str z) = true := by
    simp only [List.mem_cons, List.not_mem_nil, or_false] at ho
    rcases ho with rfl | rfl
    · exact ⟨_, rfl, by decide +kernel⟩
    · exact ⟨_, rfl, by decide +kernel⟩
  obtain ⟨z, rfl, hz9⟩ := ho2
  refine ⟨_, rfl, (by show 1 ≤ sizeLine; decide), fun p2 hp2 => ?_⟩
  have e2 := e1.trans (same_new hp2 (.lst [.str z]))
  refine ⟨_, rfl, _, rfl, by omega, by omega, fun D hD => ?_⟩
  have hp22 : upd (upd HB p1 (.lst [.str ("&" : Str), .str ("|" : Str)])) p2 (.lst [.str z]) p2 = some (.lst [.str z]) := upd_same
  generalize upd (upd HB p1 (.lst [.str ("&" : Str), .str ("|" : Str)])) p2 (.lst [.str z]) = H2 at e2 hD hp22 ⊢
  have hDr : D ≠ rm := fun e => by
    have := e2 _ _ hrmB
    rw [← e, hD] at this
    cases this
  have hp2r : p2 ≠ rm := fun e => by
    have := e2 _ _ hrmB
    rw [← e, hp22] at this
    have e3 : ([V.str z] : List V) = [V.int (r - (2 + t / 2) + 1)] := HO.lst.inj (Option.some.inj this)
    cases (List.cons.inj e3).1
  rw [show (2 + t / 2 : Int).toNat = mn by omega]
  refine lc_range (fun i H' => SameB rm H2 H' ∧ ∃ ys ds r', H' D = some (.lst ys) ∧ ys.length = i ∧ TpAll K H' ys ds ∧ (∀ d ∈ ds, Drawn (m.toNat - 1 - 1) d) ∧ H' rm = some (.lst [.int r']) ∧ 0 ≤ r' ∧ r' ≤ r - (2 + t / 2) + 1 ∧
    ∀ m', m.toNat - 1 - 1 < m' → (ds.map (meas m')).sum = r - (2 + t / 2) + 1 - r' + i) ⟨sameB_of (same_new hD _), [], [], _, upd_same, rfl, .nil, (fun d h => by cases h), ?_, hrB, Int.le_refl _, (fun m' _ => by simp)⟩ ?_ ?_
  · rw [upd_ne (Ne.symm hDr)]
    exact e2 _ _ hrmB
  · rintro i H' hi ⟨e, ys, ds, r', hD', hl, hds, hdr, hrm', r0', rle, hsum⟩
    refine ⟨rfl, ?_⟩
    refine ⟨_, rfl, _, rfl, _, rfl, _, _, rfl, rfl, _, rfl, s, g, rm, c, m - 1, r', zs, ns, rfl, e _ _ hsr (e2 _ _ hsB), e _ _ hcr (e2 _ _ hcB), hcr, e _ _ hgr (e2 _ _ hgB), hz, hzl, hlet, hrm', r0', by omega, by omega, fun v H3 d r'' e3 hrm3 r0'' rle' hd hdd hmm => ⟨ys, e3 _ _ hDr hD', le_line (by omega), ?_⟩⟩
    have hD3 := e3 _ _ hDr hD'
    have sT : SameT H3 (upd H3 D (.lst (ys ++ [v]))) := (SameT.refl H3).updL hD3
    refine ⟨fun b u hb hu => ?_, ys ++ [v], ds ++ [d], r'', upd_same, by rw [List.length_append, hl] <;> rfl, tpa_snoc (hd.up sT) ((hds.up (sameT_b hrm' e3)).up sT), fun x hx => ?_, ?_, r0'', by omega, fun m' hm' => ?_⟩
    · rw [upd_ne (ne_of_none hu hD)]
      exact e3 _ _ hb (e _ _ hb hu)
    · rw [show (m - 1).toNat - 1 = m.toNat - 1 - 1 by omega] at hdd
      rcases List.mem_append.mp hx with hx | hx
      · exact hdr x hx
      · rw [List.mem_singleton.mp hx]
        exact hdd
    · rw [upd_ne (Ne.symm hDr)]
      exact hrm3
    · rw [List.map_append, List.sum_append, hsum m' hm', List.map_cons, List.map_nil, List.sum_cons, List.sum_nil, hmm m' (by omega)]
      push_cast
      omega
  · rintro H' ⟨e, ys, ds, r', hD', hl, hds, hdr, hrm', r0', rle, hsum⟩
    have hlen := hds.len
    refine ⟨p2, D, _, _, rfl, rfl, e _ _ hp2r hp22, hD', le_line (by simp; omega), fun p3 hp3 => ?_⟩
    have e4 := same_new hp3 (.lst ([.str z] ++ ys))
    refine ⟨p3, _, rfl, .inl ⟨SqL.of upd_same, fun p4 hp4 => ?_⟩⟩
    have e5 := same_new hp4 (.tup ([.str z] ++ ys))
    have e45 := e4.trans e5
    refine q _ _ (.tuple (.str z :: ds)) r' (((eB.trans' (sameB_of e2)).trans' e).trans' (sameB_of e45)) (e45 _ _ hrm') r0' (by omega) (.tup (.inl upd_same) (.cons (.str z) ((hds.up (Same.T e4)).up (Same.T e5)))) ?_ fun m' hm' => ?_
    · have h9 : Drawn (m.toNat - 1 - 1 + 1) (.tuple (.str z :: ds)) := .inr ⟨_, ds, rfl, hz9, by omega, by omega, hdr⟩
      rw [show m.toNat - 1 - 1 + 1 = m.toNat - 1 by omega] at h9
      exact h9
    · obtain ⟨j, rfl⟩ : ∃ j, m' = j + 1 := ⟨m' - 1, by omega⟩
      have hs4 := hsum j (by omega)
      have hin := sum_in (f := meas j) (B := ((24 ^ (m.toNat - 1 - 1) : Nat) : Int)) (l := ds) fun p hp => meas_drawn (hdr p hp) j (by omega)
      rw [meas_up tup_let (by omega)]
      match ds, hin, hs4, hlen with
      | [], _, _, hlen => exact absurd hlen (by rw [hl]; simp; omega)
      | [_], _, _, hlen => exact absurd hlen (by rw [hl]; simp; omega)
      | y :: x :: r2, hin, hs4, _ =>
        show (if isOp (.str z) = true then (if (0 : Int) ∈ ((y :: x :: r2).map (meas j)) then 0 else ((y :: x :: r2).map (meas j)).sum) else 0) = _
        rw [if_pos hz9, if_neg hin.1, hs4]
        omega
theorem ok_termR {f : Addr} {fd : FuncData} (F : FunD K "_law_term" "_law_term" (defArgs s_law_term) (defBody s_law_term) (defScope s_law_term) [] [] f fd) (hm : mg "_law_term" = some (.ref f)) (T : Top K mg)
    (D_law_take : Def P w K mg base "_law_take" 1 ["_law_source_here", "_law_many"] spTake) (D_law_pick : Def P w K mg base "_law_pick" 2 ["_law_source_here", "_law_row"] (spPick K)) :
    ∀ n : Nat, Def P w K mg base "_law_term" (n + 2) ["_law_source_here", "_law_signs_here", "_law_deep", "_law_room"] (spTermR K n)
  | 0 => (def_none F hm (F.bindsN fun _ _ _ _ _ _ us hl => match us, hl with | [_, _, _, _], _ => rfl) fun vs H Q E ⟨_, _, _, _, _, _, _, _, _, _, _, _, _, _, _, _, _, _, _, h, _⟩ => by omega).mono (Nat.zero_le _)
  | n + 1 => ok_termR_step F hm T D_law_take D_law_pick (ok_termR F hm T D_law_take D_law_pick n)
theorem ok_anyR {f : Addr} {fd : FuncData} (F : FunD K "_law_any_term" "_law_any_term" (defArgs s_law_any_term) (defBody s_law_any_term) (defScope s_law_any_term) [] [] f fd) (hm : mg "_law_any_term" = some (.ref f)) (T : Top K mg)
    (D_law_take : Def P w K mg base "_law_take" 1 ["_law_source_here", "_law_many"] spTake) (D_law_pick : Def P w K mg base "_law_pick" 2 ["_law_source_here", "_law_row"] (spPick K)) (D_law_signs : Def P w K mg base "_law_signs" 3 ["_law_source_here", "_law_most"] spSigns)
    (D_law_term : Def P w K mg base "_law_term" 8 ["_law_source_here", "_law_signs_here", "_law_deep", "_law_room"] (spTermR K 6)) : Def P w K mg base "_law_any_term" 9 ["_law_source_here"] (spAnyR K) := by
  refine def_mk F hm (F.bindsN fun _ _ _ _ _ _ us hl => match us, hl with | [_], _ => rfl) sc_law_any_term (fun vs H Q E h => ?_) (fun cdv A outer s H vs Q E hr h => ?_)
  · obtain ⟨s, rfl, _⟩ := h
    rfl
  obtain ⟨s, rfl, hs, q⟩ := h
  refine ⟨_, (pss_cons (ps_set (i := 1) sc_law_any_term.nd rfl (Or.inl rfl) (pe_def D_law_signs hr (by first | decide | omega) (pa_cons (pv 0) (pa_cons pe_int pa_nil))))
  (pss_one (ps_ret (pe_def D_law_term hr (by first | decide | omega) (pa_cons (pv 0) (pa_cons (pv 1) (pa_cons (pe_op op_add pe_int (pe_def D_law_take hr (by first | decide | omega) (pa_cons (pv 0) (pa_cons pe_int pa_nil)))) (pa_cons (pe_lst (pa_cons (pe_def D_law_pick hr (by first | decide | omega) (pa_cons (pv 0) (pa_cons (pe_lst (pa_cons pe_int (pa_cons pe_int (pa_cons pe_int pa_nil)))) pa_nil))) pa_nil)) pa_nil)))))))), ?_⟩
  refine ⟨_, rfl, s, 8, rfl, by omega, by omega, hs, fun g H1 zs e1 hg hz hzl hlet => ?_⟩
  refine ⟨_, rfl, _, rfl, _, rfl, s, 5, rfl, by omega, by omega, hs.up e1, fun t t0 t1 => ?_⟩
  refine ⟨_, _, rfl, rfl, _, rfl, (by show 3 ≤ sizeLine; decide), fun p1 hp1 => ?_⟩
  have e2 := e1.trans (same_new hp1 (.lst [.int 2, .int 7, .int 23]))
  refine ⟨s, p1, _, rfl, hs.up e2, SqL.of upd_same, by simp, by simp, fun r hr1 => ?_⟩
  obtain ⟨ri, rfl, hri, hri2⟩ : ∃ i, r = .int i ∧ 0 ≤ i ∧ i ≤ 23 := by
    simp only [List.mem_cons, List.not_mem_nil, or_false] at hr1
    rcases hr1 with rfl | rfl | rfl <;> exact ⟨_, rfl, by decide, by decide⟩
  refine ⟨(by show 1 ≤ sizeLine; decide), fun p2 hp2 => ?_⟩
  obtain ⟨c, ns, h1, h2⟩ := hs.up e2
  have e3 := same_new hp2 (.lst [.int ri])
  refine ⟨s, g, p2, c, _, ri, zs, ns, rfl, e3 _ _ h1, e3 _ _ h2, ne_of_none h2 hp2, e3 _ _ ((same_new hp1 _) _ _ hg), hz, by omega, hlet, upd_same, hri, by omega, by omega, fun v H' d r' e4 _ r0' _ hd1 hd2 hmm => q v H' d ?_ hd1 (drawn_mono hd2 (by omega)) ?_⟩
  · intro b u hu
    have hu2 := e2 _ _ hu
    exact e4 _ _ (ne_of_none hu2 hp2) (e3 _ _ hu2)
  · rw [hmm 5 (by omega)]
    omega
end
end FF
namespace FF
open PySem PySem.Spec PyProof.Rows L2
section
variable {P : Program} {w : World} {K : PySem.W.Frag} {mg : Str → Option Value} {base : Heap}
theorem fn_fe {f : Addr} {fd : FuncData} (F : FunD K "__init__" "FaultError.__init__" (defArgs s_FaultError_init) (defBody s_FaultError_init) (defScope s_FaultError_init) [] [] f fd) (T : Top K mg) : FnOk P w K mg base CX0 1 f fd ["self", "code"] (spFE K) := by
  refine FunD.ok F sc_FaultError_init (fun vs H Q E h => ?_) (fun cdv A outer s0 H vs Q E hr h => ?_)
  · obtain ⟨a, C, z, rfl, _⟩ := h
    rfl
  obtain ⟨a, C, z, rfl, hC, hno, ha, q⟩ := h
  refine ⟨_, PSs.nox (pss_cons (ps_expr (pe_veinit (by rfl) T.b_ValueError T.fe.ve (pa_cons (pv 0) (pa_cons (pv 1) pa_nil)))) (pss_one (ps_ost (pv 0) (pv 1)))), ?_⟩
  refine ⟨_, rfl, _, rfl, a, C, [z], rfl, (show 1 ≤ 1000 by decide), hC, ha, ?_⟩
  exact ⟨_, rfl, _, rfl, a, C, rfl, hC, hno, .inl ⟨ha, fun dx hdx hne => q dx hdx hne⟩⟩
theorem fn_InvalidText {f : Addr} {fd fdg : FuncData} (F : FunD K "__init__" "InvalidText.__init__" (defArgs s_InvalidText_init) (defBody s_InvalidText_init) (defScope s_InvalidText_init) [] [] f fd) (T : Top K mg)
    (FE : FnOk P w K mg base CX0 1 (He.ma K (He.ga K "FaultError") "__init__") fdg ["self", "code"] (spFE K)) (hb : Binds K fdg ["self", "code"] []) : FnOk P w K mg base CX0 2 f fd ["self"] (spIni K "InvalidText") := by
  refine FunD.ok F sc_InvalidText_init (fun vs H Q E h => ?_) (fun cdv A outer s0 H vs Q E hr h => ?_)
  · obtain ⟨a, C, rfl, _⟩ := h
    rfl
  obtain ⟨a, C, rfl, hC, hno, ha, q⟩ := h
  refine ⟨_, PSs.nox (pss_one (ps_expr (pe_clsfn (by rfl) T.c_FaultError T.fe.rd ⟨T.fe.at_, rfl⟩ FE hr T.fe.kp hb pass0 (pa_cons (pv 0) (pa_cons pe_str pa_nil))))), ?_⟩
  exact ⟨_, rfl, a, C, _, rfl, hC, hno, ha, q⟩
theorem fn_InvalidGoal {f : Addr} {fd fdg : FuncData} (F : FunD K "__init__" "InvalidGoal.__init__" (defArgs s_InvalidGoal_init) (defBody s_InvalidGoal_init) (defScope s_InvalidGoal_init) [] [] f fd) (T : Top K mg)
    (FE : FnOk P w K mg base CX0 1 (He.ma K (He.ga K "FaultError") "__init__") fdg ["self", "code"] (spFE K)) (hb : Binds K fdg ["self", "code"] []) : FnOk P w K mg base CX0 2 f fd ["self"] (spIni K "InvalidGoal") := by
  refine FunD.ok F sc_InvalidGoal_init (fun vs H Q E h => ?_) (fun cdv A outer s0 H vs Q E hr h => ?_)
  · obtain ⟨a, C, rfl, _⟩ := h
    rfl
  obtain ⟨a, C, rfl, hC, hno, ha, q⟩ := h
  refine ⟨_, PSs.nox (pss_one (ps_expr (pe_clsfn (by rfl) T.c_FaultError T.fe.rd ⟨T.fe.at_, rfl⟩ FE hr T.fe.kp hb pass0 (pa_cons (pv 0) (pa_cons pe_str pa_nil))))), ?_⟩
  exact ⟨_, rfl, a, C, _, rfl, hC, hno, ha, q⟩
theorem fn_InvalidRules {f : Addr} {fd fdg : FuncData} (F : FunD K "__init__" "InvalidRules.__init__" (defArgs s_InvalidRules_init) (defBody s_InvalidRules_init) (defScope s_InvalidRules_init) [] [] f fd) (T : Top K mg)
    (FE : FnOk P w K mg base CX0 1 (He.ma K (He.ga K "FaultError") "__init__") fdg ["self", "code"] (spFE K)) (hb : Binds K fdg ["self", "code"] []) : FnOk P w K mg base CX0 2 f fd ["self", "index"] (spIni1 K "InvalidRules" "index") := by
  refine FunD.ok F sc_InvalidRules_init (fun vs H Q E h => ?_) (fun cdv A outer s0 H vs Q E hr h => ?_)
  · obtain ⟨a, C, y, rfl, _⟩ := h
    rfl
  obtain ⟨a, C, y, rfl, hC, hno, hnf, ha, q⟩ := h
  refine ⟨_, PSs.nox (pss_cons (ps_expr (pe_clsfn (by rfl) T.c_FaultError T.fe.rd ⟨T.fe.at_, rfl⟩ FE hr T.fe.kp hb pass0 (pa_cons (pv 0) (pa_cons pe_str pa_nil)))) (pss_one (ps_ost (pv 0) (pv 1)))), ?_⟩
  refine ⟨_, rfl, a, C, _, rfl, hC, hno, ha, fun dx hdx hne => ?_⟩
  exact ⟨_, rfl, _, rfl, a, C, rfl, hC, hnf, .inr ⟨dx, [("code", .str "InvalidRules")], upd_same, by rw [upd_ne hne, upd_same], (show 1 ≤ 900 by decide), q dx hdx hne⟩⟩
end
theorem gives_law_call {X : Cx} (T : Top X.K X.mg) {g : Addr} {cdg : Value} {q : Str} : GivesS X ["_law_ask", "_law_told", "_law_word", "e"] "_law_call" (defScope s_law_call) g cdg (defBody s_law_call) "_law_ask" q (TTc X.K (He.ga X.K "FaultError")) := by
  intro f c' s H Q tl act hc h
  refine ⟨_, pss_cons (ps_set (i := 1) sc_law_call.nd rfl (Or.inl rfl) pe_non) (pss_cons (ps_set (i := 2) sc_law_call.nd rfl (Or.inl rfl) pe_str) (pss_cons
    (ps_try_manyA (X := (cxOf C8.CX0 X.prog X.w X.K X.mg X.base ["_law_ask", "_law_told", "_law_word", "e"] "_law_call" (defScope s_law_call) g cdg X.A X.stack s H C8.E0).nox) (i := 3)
      (tb := fun W D σ H => ∃ E : XK, (∀ cls d H', E cls d H' → W cls d σ H') ∧ σ[0]? = some (some (.ref f)) ∧ H c' = some (LamX.CodeO c' q) ∧ ∃ Q' : VK, (∀ v H', Q' v H' → D.nx (σ.set 1 (some v)) H') ∧ tl E H Q')
      (l := [(.ref (He.ga X.K "FaultError"), fun a cls d D σ H => ∃ C, OwnC X.K C ∧ tAsg (tXf a cls d C "code" (tVar 3)) (gName 2) D σ H), (.ref (He.ga X.K "Missing"), fun a cls d D σ H => ∃ C, OwnC X.K C ∧ tAsg (tXf a cls d C "code" (tVar 3)) (gName 2) D σ H),
        (.ref (He.ga X.K "NothingLeft"), fun a cls d D σ H => ∃ C, OwnC X.K C ∧ tAsg (tXf a cls d C "code" (tVar 3)) (gName 2) D σ H)])
      rfl rfl sc_law_call.nd rfl rfl LamX.takes0 (fun W pn xe tk _ => ?_)
      (.cons ⟨rfl, by decide, .inl T.c_FaultError⟩ (fun a oe cls d pn hz hf => pss_ex fun C hC => pss_one (ps_set (i := 2) sc_law_call.nd rfl (Or.inl rfl) (pe_xf hC.xf hC.noc hz hf (pv 3))))
        (.cons ⟨rfl, by decide, .inl T.c_Missing⟩ (fun a oe cls d pn hz hf => pss_ex fun C hC => pss_one (ps_set (i := 2) sc_law_call.nd rfl (Or.inl rfl) (pe_xf hC.xf hC.noc hz hf (pv 3))))
          (.cons ⟨rfl, by decide, .inl T.c_NothingLeft⟩ (fun a oe cls d pn hz hf => pss_ex fun C hC => pss_one (ps_set (i := 2) sc_law_call.nd rfl (Or.inl rfl) (pe_xf hC.xf hC.noc hz hf (pv 3)))) .nil))))
    (pss_one (ps_ret (pe_tup (pa_cons (pv 1) (pa_cons (pv 2) pa_nil))))))), ?_⟩
  · refine ⟨fun pins s' σ H' D I h' => ?_⟩
    obtain ⟨E, hW, h1, h2, Q', hQ, h3⟩ := h'
    exact (pss_one (ps_set (i := 1) sc_law_call.nd rfl (Or.inl rfl) (pe_mono (act W pn xe _ _ tk)))).run pins s' σ H' D I ⟨Q', hQ, h1, h2, E, hW, h3⟩
  · refine ⟨fun cls d H' => ∃ (C : Addr) (z : Str), cls = .ref C ∧ OwnC X.K C ∧ PySem.W.exmOne X.K (.ref C) (.ref (He.ga X.K "FaultError")) = some true ∧ Thr z d H' ∧ ∀ p, H' p = none → Q (.ref p) (upd H' p (.tup [.non, .str z])), fun cls d H' hE => ?_, rfl, hc, ?_⟩
    · obtain ⟨C, z, rfl, hC, he, ⟨dd, fs, rfl, hd, hz⟩, hq⟩ := hE
      refine ⟨true, he, fun _ a ha => ?_, fun z => by cases z⟩
      exact ⟨C, hC, _, rfl, rfl, rfl, dd, fs, _, rfl, hd, hz, _, rfl, _, rfl, (show 2 ≤ sizeLine by decide), hq⟩
    · exact ⟨_, fun v H' hq => ⟨_, rfl, _, rfl, (show 2 ≤ sizeLine by decide), hq⟩, h⟩
/-- the index told by an InvalidRules, or -1 -/
def TTi (K : PySem.W.Frag) : (XK → Hp → VK → Prop) → Hp → VK → Prop := fun tl H Q =>
  tl (fun cls d H' => ∃ y dd, cls = .ref (He.ga K "InvalidRules") ∧ d = some dd ∧ H' dd = some (.xd [("index", y), ("code", .str "InvalidRules")]) ∧ Q y H') H (fun _ H' => Q (.int (-1)) H')
theorem gives_law_index_told {X : Cx} (T : Top X.K X.mg) {g : Addr} {cdg : Value} {q : Str} : GivesS X ["_law_ask", "_law_told", "e"] "_law_index_told" (defScope s_law_index_told) g cdg (defBody s_law_index_told) "_law_ask" q (TTi X.K) := by
  intro f c' s H Q tl act hc h
  refine ⟨_, pss_cons (ps_set (i := 1) sc_law_index_told.nd rfl (Or.inl rfl) (pe_un un_neg pe_int)) (pss_cons
    (ps_try_manyB (X := (cxOf C8.CX0 X.prog X.w X.K X.mg X.base ["_law_ask", "_law_told", "e"] "_law_index_told" (defScope s_law_index_told) g cdg X.A X.stack s H C8.E0).nox) (i := 2)
      (tb := fun W D σ H => ∃ E : XK, (∀ cls d H', E cls d H' → W cls d σ H') ∧ σ[0]? = some (some (.ref f)) ∧ H c' = some (LamX.CodeO c' q) ∧ ∃ Q' : VK, (∀ v H', Q' v H' → D.nx σ H') ∧ tl E H Q')
      rfl rfl sc_law_index_told.nd rfl rfl LamX.takes0 (fun W pn xe tk _ => ?_)
      (.cons ⟨rfl, by decide, .inl T.c_InvalidRules⟩ (fun a oe cls d pn hz hf => pss_one (ps_set (i := 1) sc_law_index_told.nd rfl (Or.inl rfl) (pe_xf T.x_InvalidRules.c.xf T.n_InvalidRules_index hz hf (pv 2)))) .nil))
    (pss_one (ps_ret (pv 1)))), ?_⟩
  · refine ⟨fun pins s' σ H' D I h' => ?_⟩
    obtain ⟨E, hW, h1, h2, Q', hQ, h3⟩ := h'
    exact (pss_one (ps_expr (pe_mono (act W pn xe _ _ tk)))).run pins s' σ H' D I ⟨Q', hQ, h1, h2, E, hW, h3⟩
  · refine ⟨_, rfl, _, fun cls d H' hE => ?_, rfl, hc, _, fun v H' hq => ⟨_, rfl, hq⟩, h⟩
    obtain ⟨y, dd, rfl, rfl, hd, hq⟩ := hE
    refine ⟨true, T.e_InvalidRules, fun _ a ha => ?_, fun z => by cases z⟩
    exact ⟨_, rfl, rfl, rfl, dd, _, _, rfl, hd, rfl, ⟨_, rfl, hq⟩⟩
end FF
namespace FF
open PySem PySem.Spec PyProof.Rows L2
section
variable {P : Program} {w : World} {K : PySem.W.Frag} {mg : Str → Option Value} {base : Heap}
/-- is_letter(value): for data -/
def spIsLetter (K : PySem.W.Frag) : Sp := fun vs H Q _ => ∃ (v : V) (d : PyData), vs = [v] ∧ Dp K H v d ∧ nice d = true ∧ Q (.bl (isLet d)) H
theorem ok_is_letter {f : Addr} {fd : FuncData} (F : FunD K "is_letter" "is_letter" (defArgs s_is_letter) (defBody s_is_letter) (defScope s_is_letter) [] [] f fd) (hm : mg "is_letter" = some (.ref f)) (T : Top K mg) : Def P w K mg base "is_letter" 1 ["value"] (spIsLetter K) := by
  refine def_mk F hm (F.bindsN fun _ _ _ _ _ _ us hl => match us, hl with | [_], _ => rfl) sc_is_letter (fun vs H Q E h => ?_) (fun cdv A outer s H vs Q E hr h => ?_)
  · obtain ⟨v, d, rfl, _⟩ := h
    rfl
  obtain ⟨v, d, rfl, hd, hn, q⟩ := h
  refine ⟨_, (pss_one (ps_ret (pe_and (pe_callB (call_isK K kb_str) (by rfl) T.b_isinstance (by decide +kernel) (pa_cons (pv 0) (pa_cons (pe_bltn (v := .ty "str") (by rfl) T.b_str (by decide +kernel) rfl) pa_nil))) (pe_and (pe_cmpR op_eq (pe_callB (call_lenK K) (by rfl) T.b_len (by decide +kernel) (pa_cons (pv 0) pa_nil)) pe_int (nomark _)) (pe_one (pe_cmpR op_in_sign (pv 0) (pe_gs T.g_LETTERS) rfl)))))), ?_⟩
  refine ⟨_, rfl, v, d, rfl, hd, _, rfl, ?_⟩
  cases hd with
  | str z =>
    refine iteT ⟨_, rfl, _, z.length, rfl, ⟨nice_str hn, rfl⟩, rfl, _, rfl, ?_⟩
    refine if_int (fun h1 => ?_) (fun h1 => ?_)
    · obtain ⟨c, rfl⟩ := len1 (z := z) (by omega)
      exact ⟨_, rfl, c, lettersS, rfl, rfl, q⟩
    · rw [show isLet (.str z) = false from isLetS_no (by omega)] at q
      exact q
  | non => exact iteF q
  | bl b => exact iteF q
  | int i => exact iteF q
  | lst _ _ => exact iteF q
  | tup _ _ => exact iteF q
/-- measured(value, max_depth), below n deep -/
def spMeasured (K : PySem.W.Frag) (n : Nat) : Sp := fun vs H Q _ => ∃ (v : V) (d : PyData) (m : Int), vs = [v, .int m] ∧ Dp K H v d ∧ nice d = true ∧ m.toNat < n ∧ ∀ H', Same H H' → Q (.int (meas m.toNat d)) H'
theorem inv_op {z : Str} : inV (.str z) [.str ("&" : Str), .str ("|" : Str)] = isOp (.str z) := by
  show ((("&" : Str) == z) || ((("|" : Str) == z) || false)) = (decide (z = ("&" : Str)) || decide (z = ("|" : Str)))
  rw [Bool.or_false, Bool.beq_comm (a := ("&" : Str)), Bool.beq_comm (a := ("|" : Str)), Bool.beq_eq_decide_eq, Bool.beq_eq_decide_eq]
theorem flat_ints (ns : List Int) : (ns.map V.int).all flatV = true := by
  rw [List.all_eq_true]
  intro v hv
  obtain ⟨n, _, rfl⟩ := List.mem_map.mp hv
  rfl
theorem in_ints {i : Int} {ns : List Int} : inV (.int i) (ns.map V.int) = decide (i ∈ ns) := by
  unfold inV
  rw [List.any_map]
  induction ns with
  | nil => rfl
  | cons n ns ih =>
    rw [List.any_cons, ih]
    show ((n == i) || decide (i ∈ ns)) = decide (i ∈ n :: ns)
    by_cases h : i = n
    · subst h; simp
    · have : (n == i) = false := beq_eq_false_iff_ne.mpr (fun z => h z.symm)
      rw [this, Bool.false_or]
      simp [h]
theorem ok_measured_step {n : Nat} {f : Addr} {fd : FuncData} (F : FunD K "measured" "measured" (defArgs s_measured) (defBody s_measured) (defScope s_measured) [] [] f fd) (hm : mg "measured" = some (.ref f)) (T : Top K mg) (D_is_letter : Def P w K mg base "is_letter" 1 ["value"] (spIsLetter K))
    (D_measured : Def P w K mg base "measured" (n + 1) ["value", "max_depth"] (spMeasured K n)) : Def P w K mg base "measured" (n + 2) ["value", "max_depth"] (spMeasured K (n + 1)) := by
  refine def_mk F hm (F.bindsN fun _ _ _ _ _ _ us hl => match us, hl with | [_, _], _ => rfl) sc_measured (fun vs H Q E h => ?_) (fun cdv A outer s H vs Q E hr h => ?_)
  · obtain ⟨v, d, m, rfl, _⟩ := h
    rfl
  obtain ⟨v, d, m, rfl, hd, hn, hm, q⟩ := h
  refine ⟨_, (pss_cons (ps_if (pt_val (pe_def D_is_letter hr (by first | decide | omega) (pa_cons (pv 0) pa_nil)))
  (pss_one (ps_ret (pe_callTy call_int1 (by rfl) T.b_int (by decide +kernel) (pa_cons (pe_cmpR op_gt (pv 1) pe_int (nomark _)) pa_nil))))
  pss_nil)
  (pss_cons (ps_if (PW.pt (pw_or (pt_cmpR op_lt (pv 1) pe_int (nomark _)) (pw_or (pt_not (pt_val (pe_callB (call_isK K kb_tup) (by rfl) T.b_isinstance (by decide +kernel) (pa_cons (pv 0) (pa_cons (pe_bltn (v := .ty "tuple") (by rfl) T.b_tuple (by decide +kernel) rfl) pa_nil))))) (pw_or1 (pt_cmpR op_lt (pe_callB (call_lenK K) (by rfl) T.b_len (by decide +kernel) (pa_cons (pv 0) pa_nil)) pe_int (nomark _))))))
  (pss_one (ps_ret pe_int))
  pss_nil)
  (pss_cons (ps_if (PW.pt (pw_or (pt_not (pt_val (pe_callB (call_isK K kb_str) (by rfl) T.b_isinstance (by decide +kernel) (pa_cons (pe_ix (ix_tupK K) (pv 0) pe_int (fun _ _ => rfl)) (pa_cons (pe_bltn (v := .ty "str") (by rfl) T.b_str (by decide +kernel) rfl) pa_nil))))) (pw_or1 (pt_cmpR (op_notIn_seqK K) (pe_ix (ix_tupK K) (pv 0) pe_int (fun _ _ => rfl)) (pe_gT T.g_OPERATORS) (by rfl)))))
  (pss_one (ps_ret pe_int))
  pss_nil)
  (pss_cons (ps_setLc (i := 2) (own := [("part", 3)]) rfl sc_measured.nd rfl rfl (sw_true rfl rfl rfl (by kernel_rfl)) (pi_tupK K (pe_slice (sl_tupK K) (pv 0) (po_some pe_int) po_none)) (blkOk_by (by kernel_rfl)) (fun _ _ _ _ _ => (pg_name (i := 3) sc_measured.nd rfl (Or.inl rfl) (.inr rfl))) (fun _ _ _ _ _ => pts_nil) (fun _ _ _ _ _ => (pe_def D_measured hr (by first | decide | omega) (pa_cons (pv 3) (pa_cons (pe_op op_sub (pv 1) pe_int) pa_nil)))))
  (pss_one (ps_ret (pe_ifExp (pt_cmpR (op_in_seqK K) pe_int (pv 2) (by rfl)) pe_int (pe_callB (cr_sumK K rfl) (by rfl) T.b_sum (by decide +kernel) (pa_cons (pv 2) pa_nil))))))))), ?_⟩
  refine ⟨_, rfl, v, d, rfl, hd, hn, _, rfl, ?_⟩
  refine if_b (fun hl => ?_) (fun hl => ?_)
  · refine ⟨_, rfl, _, _, rfl, rfl, .inr ⟨_, rfl, ?_⟩⟩
    refine qi (q H (Same.refl H)) ?_
    rw [meas_let hl]
    by_cases h0 : 0 < m
    · rw [if_pos (by omega), if_pos (decide_eq_true h0)]
    · rw [if_neg (by omega), if_neg (by simpa using h0)]
  refine ⟨_, rfl, _, _, rfl, rfl, _, rfl, ?_⟩
  refine if_dec (fun h2 => ?_) (fun h2 => ?_)
  · exact (qi (q H (Same.refl H)) (meas_low hl (by omega)))
  obtain ⟨k, hk⟩ : ∃ k, m.toNat = k + 2 := ⟨m.toNat - 2, by omega⟩
  rw [hk] at q hm
  have no : measP (meas (k + 1)) d = 0 → Q (.int 0) H := fun e => qi (q H (Same.refl H)) (by rw [meas_up hl (by omega), e])
  refine ⟨_, rfl, v, d, rfl, hd, _, rfl, ?_⟩
  cases hd with
  | tup ht ha =>
    rename_i a xs ds
    refine ⟨_, rfl, _, xs.length, rfl, .inr ⟨xs, ht, rfl⟩, _, _, rfl, rfl, _, rfl, ?_⟩
    have hlen := da_len ha
    refine if_dec (fun h3 => ?_) (fun h3 => ?_)
    · refine no ?_
      match ds, hlen with
      | [], _ => rfl
      | [_], _ => rfl
      | [_, _], _ => rfl
      | _ :: _ :: _ :: _, e => simp at e; omega
    have h4 : 3 ≤ ds.length := by omega
    match ds, ha, h4 with
    | [], _, e => exact absurd e (by simp)
    | [_], _, e => exact absurd e (by simp)
    | [_, _], _, e => exact absurd e (by simp)
    | x :: y :: z :: r, .cons (v := vx) (vs := vr) hx hp, e =>
    refine ⟨_, rfl, a, _, _, vx, rfl, rfl, ht, at0, _, x, rfl, hx, _, rfl, ?_⟩
    have noOp : isOp x = false → Q (.int 0) H := fun e => no (by show (if isOp x = true then _ else _) = _; rw [if_neg (by rw [e]; decide)])
    refine if_nb (fun h5 => ?_) (fun h5 => ?_)
    · exact noOp (by cases x <;> first | rfl | cases h5)
    cases hx with
    | str zx =>
    refine ⟨_, rfl, a, _, _, _, rfl, rfl, ht, at0, _, _, rfl, .inr (T.t_OPERATORS H), rfl, rfl, _, rfl, ?_⟩
    refine if_nb (fun h6 => ?_) (fun h6 => ?_)
    · exact noOp (inv_op.symm.trans h6)
    refine ⟨_, rfl, _, rfl, a, _, rfl, ht, notWhole1, fun p hp0 => ⟨p, rfl, ⟨_, SqT.of upd_same⟩, fun D hD => ?_⟩⟩
    rw [cut1] at hD ⊢
    have e1 := same_new hp0 (.tup vr)
    refine lc_mapT (j := 3) (fun i u _ => ∃ d, (y :: z :: r)[i]? = some d ∧ u = .int (meas (k + 1) d)) (fun _ _ _ _ _ h => h) hD (SqT.of upd_same) ?_ (fun _ => rfl) ?_ ?_
    · have := nice_tl hn
      have := da_len hp
      exact le_line (by simp at *; omega)
    · intro i x H2 hx e2 Q' k'
      obtain ⟨d, hd1, hd2⟩ := da_get hp hx
      refine ⟨_, rfl, _, rfl, _, _, rfl, rfl, x, d, m - 1, rfl, up_d (e1.trans e2) hd2, nice_ti hn (List.mem_cons_of_mem _ (List.mem_of_getElem? hd1)), by omega, fun H' e3 => k' _ _ e3 ⟨d, hd1, ?_⟩⟩
      rw [show (m - 1).toNat = k + 1 by omega]
    · intro H2 ys e2 hD2 hl2 hy
      have hmap : ys = ((y :: z :: r).map (meas (k + 1))).map V.int := by
        rw [List.map_map]
        exact eq_map_of (hl2.trans (da_len hp)) fun i u hu => hy i u hu
      subst hmap
      refine ⟨_, rfl, D, _, rfl, .inl (SqL.of hD2), rfl, flat_ints _, _, rfl, ?_⟩
      have e3 := e1.trans e2
      have fin := q H2 e3
      rw [meas_up hl (by omega)] at fin
      have fin2 : Q (.int (if (0 : Int) ∈ ((y :: z :: r).map (meas (k + 1))) then 0 else ((y :: z :: r).map (meas (k + 1))).sum)) H2 := by
        refine qi fin ?_
        show (if isOp (.str zx) = true then _ else _) = _
        rw [if_pos (inv_op.symm.trans h6)]
      show (if (inV (.int 0) (((y :: z :: r).map (meas (k + 1))).map V.int)) = true then _ else _)
      rw [in_ints]
      refine if_dec (fun h7 => ?_) (fun h7 => ?_)
      · rw [if_pos h7] at fin2
        exact fin2
      · rw [if_neg h7] at fin2
        exact ⟨_, rfl, D, _, rfl, SqL.of hD2, fin2⟩
    | _ => cases h5
  | str z => exact no rfl
  | non => exact no rfl
  | bl b => exact no rfl
  | int i => exact no rfl
  | lst _ _ => exact no rfl
end
end FF
namespace FF
open PySem PySem.Spec PyProof.Rows L2
abbrev inB (m s : Int) : Bool := decide (1 ≤ m) && decide (m ≤ s)
def spIsTerm (K : PySem.W.Frag) : Sp := fun vs H Q _ => ∃ (v : V) (d : PyData) (md ms : Int), vs = [v, .int md, .int ms] ∧ Dp K H v d ∧ nice d = true ∧ md.toNat < 11 ∧ ∀ H', Same H H' → Q (.bl (inB (meas md.toNat d) ms)) H'
section
variable {P : Program} {w : World} {K : PySem.W.Frag} {mg : Str → Option Value} {base : Heap}
theorem fn_is_term {f : Addr} {fd : FuncData} (F : FunD K "is_term" "is_term" (defArgs s_is_term) (defBody s_is_term) (defScope s_is_term) [] [("max_depth", .int 5), ("max_size", .int 24)] f fd) (T : Top K mg)
    (D_measured : Def P w K mg base "measured" 12 ["value", "max_depth"] (spMeasured K 11)) : FnOk P w K mg base CX0 13 f fd ["value", "max_depth", "max_size"] (spIsTerm K) := by
  refine fn_mk F sc_is_term (fun vs H Q E h => ?_) (fun cdv A outer s H vs Q E hr h => ?_)
  · obtain ⟨v, d, md, ms, rfl, _⟩ := h
    rfl
  obtain ⟨v, d, md, ms, rfl, hd, hn, h10, q⟩ := h
  refine ⟨_, (pss_one (ps_ret (pe_chain op_le op_le pe_int (pe_def D_measured hr (by first | decide | omega) (pa_cons (pv 0) (pa_cons (pv 1) pa_nil))) (pv 2)))), ?_⟩
  refine ⟨_, rfl, _, rfl, v, d, md, rfl, hd, hn, h10, fun H1 e => ?_⟩
  refine ⟨_, _, rfl, rfl, _, rfl, ?_⟩
  have q1 := q H1 e
  refine if_dec (fun h1 => ?_) (fun h1 => ?_)
  · refine ⟨_, rfl, _, _, rfl, rfl, qb q1 ?_⟩
    show (decide (1 ≤ meas md.toNat d) && decide (meas md.toNat d ≤ ms)) = decide (meas md.toNat d ≤ ms)
    rw [decide_eq_true (show (1 : Int) ≤ meas md.toNat d from h1), Bool.true_and]
  · refine qb q1 ?_
    show (decide (1 ≤ meas md.toNat d) && decide (meas md.toNat d ≤ ms)) = false
    rw [decide_eq_false (show ¬ (1 : Int) ≤ meas md.toNat d from h1), Bool.false_and]
section
variable {f : Addr} {fd : FuncData} (F : FunD K "is_term" "is_term" (defArgs s_is_term) (defBody s_is_term) (defScope s_is_term) [] [("max_depth", .int 5), ("max_size", .int 24)] f fd)
theorem bind_a (F : FunD K "is_term" "is_term" (defArgs s_is_term) (defBody s_is_term) (defScope s_is_term) [] [("max_depth", .int 5), ("max_size", .int 24)] f fd) : ∃ ds, Vals [.int 5, .int 24] ds ∧ Binds K fd ["value", "max_depth", "max_size"] ds :=
  F.binds0 1 (by simp) rfl fun D doc pm an cdv ct us ks hu hk => match us, ks, hu, hk with
    | [_], [_, _], _, _ => ⟨_, _, _, _, _, _, rfl, rfl, _, _, _, _, _, _, rfl, rfl, rfl⟩
end
end
end FF
namespace FF
open PySem PySem.Spec PyProof.Rows L2
/-- _law_same(found, due) of the same data -/
def spSame (K : PySem.W.Frag) (n : Nat) : Sp := fun vs H Q _ => ∃ (v v' : V) (d : PyData), vs = [v, v'] ∧ Dp K H v d ∧ Dp K H v' d ∧ nice d = true ∧ d.depth < n ∧ n ≤ 60 ∧ ∀ H', Same H H' → Q (.bl true) H'
def spFits (K : PySem.W.Frag) : Sp := fun vs H Q _ => ∃ (v : V) (d : PyData), vs = [v] ∧ Dp K H v d ∧ Nice 60 d ∧ ∀ H', Same H H' → Q (.bl (decide (1 ≤ meas 5 d) && decide (meas 5 d ≤ 24))) H'
/-- a nest of so many operators -/
def nestD : Nat → PyData
  | 0 => .str ("a" : Str)
  | k + 1 => .tuple [.str (if k % 2 = 0 then ("&" : Str) else ("|" : Str)), nestD k, .str ("b" : Str)]
def spNest (K : PySem.W.Frag) : Sp := fun vs H Q _ => ∃ (m : Nat), vs = [.int m] ∧ m ≤ 40 ∧ ∀ v H', Same H H' → Tp K H' v (nestD m) → Q v H'
theorem nest_nice : ∀ n, Nice n (nestD n)
  | 0 => ⟨by decide +kernel, by decide +kernel⟩
  | n + 1 => by
    refine Nice.tuple (by show 3 ≤ 20000; decide) fun d hd => ?_
    simp only [List.mem_cons, List.not_mem_nil, or_false] at hd
    have s : ∀ z : Str, nice (.str z) = true → Nice n (.str z) := fun z h => ⟨h, by rw [PyData.depth]; exact Nat.zero_le _⟩
    rcases hd with rfl | rfl | rfl
    · split
      · exact s _ (by decide +kernel)
      · exact s _ (by decide +kernel)
    · exact nest_nice n
    · exact s _ (by decide +kernel)
def spOdd (K : PySem.W.Frag) : Sp := fun vs H Q _ => ∃ (s : Addr) (v : V) (d : PyData), vs = [.ref s, v] ∧ Src H s ∧ Dp K H v d ∧ Nice 20 d ∧ ∀ v' H' d', Same H H' → Dp K H' v' d' → Nice 30 d' → Q v' H'
section
variable {P : Program} {w : World} {K : PySem.W.Frag} {mg : Str → Option Value} {base : Heap}
theorem same_none {f : Addr} {fd : FuncData} (F : FunD K "_law_same" "_law_same" (defArgs s_law_same) (defBody s_law_same) (defScope s_law_same) [] [] f fd) (hm : mg "_law_same" = some (.ref f)) : Def P w K mg base "_law_same" 0 ["_law_found", "_law_due"] (spSame K 0) := by
  have no : ∀ vs H Q E, ¬ spSame K 0 vs H Q E := fun vs H Q E ⟨_, _, _, _, _, _, _, h, _⟩ => by omega
  exact ⟨f, fd, ⟨fun vs H Q E h => absurd h (no vs H Q E), fun A outer s H args us vs Q E _ _ _ _ h => absurd h (no vs H Q E)⟩, hm, F.kp, F.bindsN fun _ _ _ _ _ _ us hl => match us, hl with | [_, _], _ => rfl⟩
theorem ok_same_step {n : Nat} {f : Addr} {fd : FuncData} (F : FunD K "_law_same" "_law_same" (defArgs s_law_same) (defBody s_law_same) (defScope s_law_same) [] [] f fd) (hm : mg "_law_same" = some (.ref f)) (T : Top K mg)
    (D_law_same : Def P w K mg base "_law_same" n ["_law_found", "_law_due"] (spSame K n)) : Def P w K mg base "_law_same" (n + 1) ["_law_found", "_law_due"] (spSame K (n + 1)) := by
  refine def_mk F hm (F.bindsN fun _ _ _ _ _ _ us hl => match us, hl with | [_, _], _ => rfl) sc_law_same (fun vs H Q E h => ?_) (fun cdv A outer s H vs Q E hr h => ?_)
  · obtain ⟨v, v', d, rfl, _⟩ := h
    rfl
  obtain ⟨v, v', d, rfl, hd, hd', hn, hdn, h60, q⟩ := h
  have hsh : SeqAt.shaped d = true := Nice.shaped (n := 60) ⟨hn, by omega⟩
  have hq := q H (Same.refl H)
  have heq : Q (.bl (PyData.eqv d d)) H := qb hq (SeqAt.eqv_refl d (SeqAt.canLay_of_shaped hsh)).symm
  refine ⟨_, (pss_cons (ps_if (PW.pt (pw_or (pt_cmp (pc_isN (pv 1)) (by rfl)) (pw_or1 (pt_cmp (pc_isN (pv 0)) (by rfl)))))
  (pss_one (ps_ret (pe_and (pe_cmp (pc_isN (pv 1)) (by rfl)) (pe_one (pe_cmp (pc_isN (pv 0)) (by rfl))))))
  pss_nil)
  (pss_cons (ps_if (PW.pt (pw_or (pt_val (pe_callB (call_isK K kb_bool) (by rfl) T.b_isinstance (by decide +kernel) (pa_cons (pv 1) (pa_cons (pe_bltn (v := .ty "bool") (by rfl) T.b_bool (by decide +kernel) rfl) pa_nil)))) (pw_or1 (pt_val (pe_callB (call_isK K kb_bool) (by rfl) T.b_isinstance (by decide +kernel) (pa_cons (pv 0) (pa_cons (pe_bltn (v := .ty "bool") (by rfl) T.b_bool (by decide +kernel) rfl) pa_nil)))))))
  (pss_one (ps_ret (pe_and (pe_callB (call_isK K kb_bool) (by rfl) T.b_isinstance (by decide +kernel) (pa_cons (pv 1) (pa_cons (pe_bltn (v := .ty "bool") (by rfl) T.b_bool (by decide +kernel) rfl) pa_nil))) (pe_and (pe_callB (call_isK K kb_bool) (by rfl) T.b_isinstance (by decide +kernel) (pa_cons (pv 0) (pa_cons (pe_bltn (v := .ty "bool") (by rfl) T.b_bool (by decide +kernel) rfl) pa_nil))) (pe_one (pe_cmpR (op_eqK K hr.units) (pv 0) (pv 1) (nomark _)))))))
  pss_nil)
  (pss_cons (ps_if (PW.pt (pw_or (pt_val (pe_callB (call_isK K kb_int) (by rfl) T.b_isinstance (by decide +kernel) (pa_cons (pv 1) (pa_cons (pe_bltn (v := .ty "int") (by rfl) T.b_int (by decide +kernel) rfl) pa_nil)))) (pw_or1 (pt_val (pe_callB (call_isK K kb_str) (by rfl) T.b_isinstance (by decide +kernel) (pa_cons (pv 1) (pa_cons (pe_bltn (v := .ty "str") (by rfl) T.b_str (by decide +kernel) rfl) pa_nil)))))))
  (pss_one (ps_ret (pe_and (pe_cmpR op_eq (pe_callB (call_isK K kb_int) (by rfl) T.b_isinstance (by decide +kernel) (pa_cons (pv 0) (pa_cons (pe_bltn (v := .ty "int") (by rfl) T.b_int (by decide +kernel) rfl) pa_nil))) (pe_callB (call_isK K kb_int) (by rfl) T.b_isinstance (by decide +kernel) (pa_cons (pv 1) (pa_cons (pe_bltn (v := .ty "int") (by rfl) T.b_int (by decide +kernel) rfl) pa_nil))) (nomark _)) (pe_one (pe_cmpR (op_eqK K hr.units) (pv 0) (pv 1) (nomark _))))))
  pss_nil)
  (pss_cons (ps_if (pt_val (pe_callB (call_isK K kb_dict) (by rfl) T.b_isinstance (by decide +kernel) (pa_cons (pv 1) (pa_cons (pe_bltn (v := .ty "dict") (by rfl) T.b_dict (by decide +kernel) rfl) pa_nil))))
  pss_never
  pss_nil)
  (pss_cons (ps_if (PW.pt (pw_or (pt_cmpR op_ne (pe_callB (call_isK K kb_lst) (by rfl) T.b_isinstance (by decide +kernel) (pa_cons (pv 0) (pa_cons (pe_bltn (v := .ty "list") (by rfl) T.b_list (by decide +kernel) rfl) pa_nil))) (pe_callB (call_isK K kb_lst) (by rfl) T.b_isinstance (by decide +kernel) (pa_cons (pv 1) (pa_cons (pe_bltn (v := .ty "list") (by rfl) T.b_list (by decide +kernel) rfl) pa_nil))) (nomark _)) (pw_or1 (pt_cmpR op_ne (pe_callB (call_isK K kb_tup) (by rfl) T.b_isinstance (by decide +kernel) (pa_cons (pv 0) (pa_cons (pe_bltn (v := .ty "tuple") (by rfl) T.b_tuple (by decide +kernel) rfl) pa_nil))) (pe_callB (call_isK K kb_tup) (by rfl) T.b_isinstance (by decide +kernel) (pa_cons (pv 1) (pa_cons (pe_bltn (v := .ty "tuple") (by rfl) T.b_tuple (by decide +kernel) rfl) pa_nil))) (nomark _)))))
  (pss_one (ps_ret pe_bl))
  pss_nil)
  (pss_one (ps_ret (pe_and (pe_cmpR op_eq (pe_callB (call_lenK K) (by rfl) T.b_len (by decide +kernel) (pa_cons (pv 0) pa_nil)) (pe_callB (call_lenK K) (by rfl) T.b_len (by decide +kernel) (pa_cons (pv 1) pa_nil)) (nomark _)) (pe_one (pe_callB (cr_allK K rfl) (by rfl) T.b_all (by decide +kernel) (pa_cons (pe_lc (own := [("_law_one", 3), ("_law_other", 4)]) rfl sc_law_same.nd (pi_zipK K (by rfl) T.b_zip (pa_cons (pv 0) (pa_cons (pv 1) pa_nil))) (blkOk_by (by kernel_rfl)) (fun _ _ _ _ _ => (pg_tupK K (n := 2) rfl (pgs_cons (pg_name (i := 3) sc_law_same.nd rfl (Or.inl rfl) (.inr rfl)) (pgs_cons (pg_name (i := 4) sc_law_same.nd rfl (Or.inl rfl) (.inr rfl)) pgs_nil)))) (fun _ _ _ _ _ => pts_nil) (fun _ _ _ _ _ => (pe_def D_law_same hr (by first | decide | omega) (pa_cons (pv 3) (pa_cons (pv 4) pa_nil))))) pa_nil))))))))))), ?_⟩
  refine ⟨_, rfl, _, rfl, ?_⟩
  cases d with
  | none =>
    cases hd; cases hd'
    exact ⟨_, rfl, _, rfl, _, rfl, hq⟩
  | bool b =>
    cases hd; cases hd'
    exact ⟨_, rfl, _, rfl, _, rfl, _, _, rfl, .bl b, _, rfl, _, rfl, _, _, rfl, .bl b, _, rfl, _, rfl, _, _, rfl, .bl b, _, rfl, _, rfl, _, rfl, _, _, .bl b, .bl b, hsh, hsh, heq⟩
  | int i =>
    cases hd; cases hd'
    exact ⟨_, rfl, _, rfl, _, rfl, _, _, rfl, .int i, _, rfl, _, rfl, _, _, rfl, .int i, _, rfl, _, rfl, _, _, rfl, .int i, _, rfl, _, rfl, _, _, rfl, .int i, _, rfl, _, _, rfl, .int i, rfl, _, rfl, _, rfl, _, rfl, _, _, .int i, .int i, hsh, hsh, heq⟩
  | str z =>
    cases hd; cases hd'
    exact ⟨_, rfl, _, rfl, _, rfl, _, _, rfl, .str z, _, rfl, _, rfl, _, _, rfl, .str z, _, rfl, _, rfl, _, _, rfl, .str z, _, rfl, _, rfl, _, _, rfl, .str z, _, rfl, _, rfl, _, _, rfl, .str z, _, rfl, _, _, rfl, .str z, rfl, _, rfl, _, rfl, _, rfl, _, _, .str z, .str z, hsh, hsh, heq⟩
  | dict _ => cases hd
  | list ds =>
    cases hd with
    | lst hs ha =>
    cases hd' with
    | lst hs' ha' =>
    rename_i a xs a' xs'
    have l1 := da_len ha
    have l2 := da_len ha'
    refine ⟨_, rfl, _, rfl, _, rfl, _, _, rfl, .lst hs' ha', _, rfl, _, rfl, _, _, rfl, .lst hs ha, _, rfl, ?_⟩
    refine ⟨_, rfl, _, _, rfl, .lst hs' ha', _, rfl, _, rfl, _, _, rfl, .lst hs' ha', _, rfl, ?_⟩
    refine ⟨_, rfl, _, _, rfl, .lst hs' ha', _, rfl, ?_⟩
    refine ⟨_, rfl, _, _, rfl, .lst hs ha, _, rfl, _, _, rfl, .lst hs' ha', rfl, _, rfl, ?_⟩
    refine ⟨_, rfl, _, _, rfl, .lst hs ha, _, rfl, _, _, rfl, .lst hs' ha', rfl, _, rfl, ?_⟩
    refine ⟨_, rfl, _, xs.length, rfl, .inl ⟨_, hs, rfl⟩, _, rfl, _, xs'.length, rfl, .inl ⟨_, hs', rfl⟩, rfl, _, rfl, ?_⟩
    refine if_int (fun _ => ?_) (fun h => absurd (by omega) h)
    refine ⟨_, rfl, _, rfl, a, a', xs, xs', rfl, .inl ⟨hs, hs', fun D hD => ?_⟩⟩
    refine lc_zipS (S := SqL K) (j := 3) (k := 4) (fun e h => up_l e h) (fun _ u _ => u = .bl true) (fun _ _ _ _ _ h => h) hD hs hs' (by omega) (le_line (by have := nice_ll hn; omega)) (fun _ _ => rfl) ?_ ?_
    · intro i x y H2 hx hy e Q' k'
      obtain ⟨d, hd1, hd2⟩ := da_get ha hx
      obtain ⟨d', hd1', hd2'⟩ := da_get ha' hy
      rw [hd1] at hd1'
      cases hd1'
      have hmem := List.mem_of_getElem? hd1
      have := depthAll_mem hmem
      rw [PyData.depth] at hdn
      exact ⟨_, rfl, _, rfl, x, y, d, rfl, up_d e hd2, up_d e hd2', nice_li hn hmem, by omega, by omega, fun H' e' => k' _ _ e' rfl⟩
    · intro H2 us e hD2 hl2 hu
      have hus : us = (List.replicate xs.length true).map V.bl := by
        rw [List.map_replicate]
        exact List.eq_replicate_iff.mpr ⟨hl2, fun b hb => by
          obtain ⟨i, hi, rfl⟩ := List.mem_iff_getElem.mp hb
          exact hu i _ (List.getElem?_eq_getElem hi)⟩
      rw [hus] at hD2
      exact ⟨D, _, rfl, SqL.of hD2, qb (q H2 e) (all_true _).symm⟩
  | tuple ds =>
    cases hd with
    | tup hs ha =>
    cases hd' with
    | tup hs' ha' =>
    rename_i a xs a' xs'
    have l1 := da_len ha
    have l2 := da_len ha'
    refine ⟨_, rfl, _, rfl, _, rfl, _, _, rfl, .tup hs' ha', _, rfl, _, rfl, _, _, rfl, .tup hs ha, _, rfl, ?_⟩
    refine ⟨_, rfl, _, _, rfl, .tup hs' ha', _, rfl, _, rfl, _, _, rfl, .tup hs' ha', _, rfl, ?_⟩
    refine ⟨_, rfl, _, _, rfl, .tup hs' ha', _, rfl, ?_⟩
    refine ⟨_, rfl, _, _, rfl, .tup hs ha, _, rfl, _, _, rfl, .tup hs' ha', rfl, _, rfl, ?_⟩
    refine ⟨_, rfl, _, _, rfl, .tup hs ha, _, rfl, _, _, rfl, .tup hs' ha', rfl, _, rfl, ?_⟩
    refine ⟨_, rfl, _, xs.length, rfl, .inr ⟨_, hs, rfl⟩, _, rfl, _, xs'.length, rfl, .inr ⟨_, hs', rfl⟩, rfl, _, rfl, ?_⟩
    refine if_int (fun _ => ?_) (fun h => absurd (by omega) h)
    refine ⟨_, rfl, _, rfl, a, a', xs, xs', rfl, .inr ⟨hs, hs', fun D hD => ?_⟩⟩
    refine lc_zipS (S := SqT K) (j := 3) (k := 4) (fun e h => up_t e h) (fun _ u _ => u = .bl true) (fun _ _ _ _ _ h => h) hD hs hs' (by omega) (le_line (by have := nice_tl hn; omega)) (fun _ _ => rfl) ?_ ?_
    · intro i x y H2 hx hy e Q' k'
      obtain ⟨d, hd1, hd2⟩ := da_get ha hx
      obtain ⟨d', hd1', hd2'⟩ := da_get ha' hy
      rw [hd1] at hd1'
      cases hd1'
      have hmem := List.mem_of_getElem? hd1
      have := depthAll_mem hmem
      rw [PyData.depth] at hdn
      exact ⟨_, rfl, _, rfl, x, y, d, rfl, up_d e hd2, up_d e hd2', nice_ti hn hmem, by omega, by omega, fun H' e' => k' _ _ e' rfl⟩
    · intro H2 us e hD2 hl2 hu
      have hus : us = (List.replicate xs.length true).map V.bl := by
        rw [List.map_replicate]
        exact List.eq_replicate_iff.mpr ⟨hl2, fun b hb => by
          obtain ⟨i, hi, rfl⟩ := List.mem_iff_getElem.mp hb
          exact hu i _ (List.getElem?_eq_getElem hi)⟩
      rw [hus] at hD2
      exact ⟨D, _, rfl, SqL.of hD2, qb (q H2 e) (all_true _).symm⟩
end
end FF
namespace FF
open PySem PySem.Spec PyProof.Rows L2
def partT (f : PyData → Str) : PyData → Str
  | .str z => z
  | p => ("(" : Str) ++ f p ++ ")"
/-- the text of a term, at most n deep -/
def textD : Nat → PyData → Str
  | 0, _ => ""
  | n + 1, d => match d with
    | .str z => z
    | .tuple (.str o :: ps) => Txt.join ((" " : Str) ++ o ++ " ") (ps.map (partT (textD n)))
    | _ => ""
def spText (K : PySem.W.Frag) (n : Nat) : Sp := fun vs H Q _ => ∃ (v : V) (d : PyData) (m : Nat), vs = [v] ∧ Tp K H v d ∧ Drawn m d ∧ m < n ∧ n ≤ 5 ∧ ∀ H', Same H H' → Q (.str (textD (m + 1) d)) H'
theorem drawn_shape {m : Nat} {d : PyData} (h : Drawn m d) : (∃ z, d = .str z ∧ isLet d = true) ∨ ∃ o ps k, d = .tuple (.str o :: ps) ∧ isOp (.str o) = true ∧ 2 ≤ ps.length ∧ ps.length ≤ 24 ∧ m = k + 1 ∧ ∀ p ∈ ps, Drawn k p := by
  have lt : isLet d = true → ∃ z, d = .str z ∧ isLet d = true := fun hl => by
    cases d with
    | str z => exact ⟨z, rfl, hl⟩
    | _ => cases hl
  match m, h with
  | 0, h => exact .inl (lt h)
  | k + 1, .inl h => exact .inl (lt h)
  | k + 1, .inr ⟨o, ps, e, ho, h2, h4, hp⟩ =>
    cases o with
    | str z => exact .inr ⟨z, ps, k, e, ho, h2, h4, rfl, hp⟩
    | _ => cases ho
theorem tpa_get {K : PySem.W.Frag} {H : Hp} : ∀ {vs : List V} {ds : List PyData} {i : Nat} {v : V}, TpAll K H vs ds → vs[i]? = some v → ∃ d, ds[i]? = some d ∧ Tp K H v d
  | _, _, 0, _, .cons h _, e => by cases e; exact ⟨_, rfl, h⟩
  | _, _, i + 1, _, .cons _ t, e => tpa_get (i := i) t e
theorem sum_le {f : PyData → Str} {B : Nat} : ∀ {l : List PyData}, (∀ p ∈ l, (f p).length ≤ B) → ((l.map f).map (·.length)).sum ≤ l.length * B
  | [], _ => Nat.zero_le _
  | x :: r, h => by
    have h1 := h x List.mem_cons_self
    have h2 := sum_le (l := r) fun p hp => h p (List.mem_cons_of_mem _ hp)
    rw [List.map_cons, List.map_cons, List.sum_cons, List.length_cons, Nat.succ_mul]
    omega
theorem sep_len {o : Str} (ho : isOp (.str o) = true) : ((" " : Str) ++ o ++ " ").length = 3 := by
  rcases op_shape ho with h | h
  · rw [PyData.str.inj h]
    decide +kernel
  · rw [PyData.str.inj h]
    decide +kernel
theorem app_len (a b : Str) : (a ++ b).length = a.length + b.length := by
  show (a.cps ++ b.cps).size = _
  rw [Array.size_append] <;> rfl
theorem text_len : ∀ {n : Nat} {d : PyData}, Drawn n d → (textD (n + 1) d).length + 7 ≤ 8 * 24 ^ n := by
  have lt : ∀ {z : Str}, isLet (.str z) = true → z.length = 1 := fun {z} h => by
    obtain ⟨c, e, _⟩ := let_shape h
    rw [PyData.str.inj e] <;> rfl
  intro n
  induction n with
  | zero =>
    intro d h
    rcases drawn_shape h with ⟨z, rfl, hz⟩ | ⟨_, _, _, _, _, _, _, e, _⟩
    · show z.length + 7 ≤ _
      rw [lt hz]
      decide
    · cases e
  | succ n ih =>
    intro d h
    have p1 : 1 ≤ 24 ^ n := Nat.one_le_pow _ _ (by decide)
    rcases drawn_shape h with ⟨z, rfl, hz⟩ | ⟨o, ps, k, rfl, ho, l2, l4, e, hp⟩
    · show z.length + 7 ≤ _
      rw [lt hz, Nat.pow_succ]
      omega
    · cases e
      have hs : ∀ p ∈ ps, (partT (textD (n + 1)) p).length ≤ 8 * 24 ^ n - 5 := fun p hpp => by
        have h1 := ih (hp p hpp)
        rcases drawn_shape (hp p hpp) with ⟨z, rfl, hz⟩ | ⟨o2, ps2, _, rfl, _⟩
        · show z.length ≤ _
          rw [lt hz]
          omega
        · show (("(" : Str) ++ textD (n + 1) _ ++ ")").length ≤ _
          rw [app_len, app_len]
          have e1 : ("(" : Str).length = 1 := by decide +kernel
          have e2 : (")" : Str).length = 1 := by decide +kernel
          omega
      have hj := StrLaws.join_length_le ((" " : Str) ++ o ++ " ") (ps.map (partT (textD (n + 1))))
      have hsum := sum_le hs
      rw [sep_len ho, List.length_map] at hj
      show (Txt.join ((" " : Str) ++ o ++ " ") (ps.map (partT (textD (n + 1))))).length + 7 ≤ _
      have hj2 : (Txt.join ((" " : Str) ++ o ++ " ") (ps.map (partT (textD (n + 1))))).length ≤ ((ps.map (partT (textD (n + 1)))).map (·.length)).sum + ps.length * 3 := by
        rw [TL.join_eq]
        exact hj
      have hm : ps.length * (8 * 24 ^ n - 5) ≤ 24 * (8 * 24 ^ n - 5) := Nat.mul_le_mul_right _ l4
      rw [Nat.pow_succ]
      omega
section
variable {P : Program} {w : World} {K : PySem.W.Frag} {mg : Str → Option Value} {base : Heap}
theorem ok_text_of_step {n : Nat} {f : Addr} {fd : FuncData} (F : FunD K "text_of" "text_of" (defArgs s_text_of) (defBody s_text_of) (defScope s_text_of) [] [] f fd) (hm : mg "text_of" = some (.ref f)) (T : Top K mg)
    (D_text_of : Def P w K mg base "text_of" n ["term"] (spText K n)) : Def P w K mg base "text_of" (n + 1) ["term"] (spText K (n + 1)) := by
  refine def_mk F hm (F.bindsN fun _ _ _ _ _ _ us hl => match us, hl with | [_], _ => rfl) sc_text_of (fun vs H Q E h => ?_) (fun cdv A outer s H vs Q E hr h => ?_)
  · obtain ⟨v, d, m, rfl, _⟩ := h
    rfl
  obtain ⟨v, d, m, rfl, hd, hdr, hmn, hn10, q⟩ := h
  refine ⟨_, (pss_cons (ps_if (pt_val (pe_callB (call_isK K kb_str) (by rfl) T.b_isinstance (by decide +kernel) (pa_cons (pv 0) (pa_cons (pe_bltn (v := .ty "str") (by rfl) T.b_str (by decide +kernel) rfl) pa_nil))))
  (pss_one (ps_ret (pv 0)))
  pss_nil)
  (pss_cons (ps_asg (pv 0) (pg_star2 rfl (pgs_cons (pg_name (i := 1) sc_text_of.nd rfl (Or.inl rfl) (.inl rfl)) (pgs_cons (pg_name (i := 2) sc_text_of.nd rfl (Or.inl rfl) (.inl rfl)) pgs_nil))))
  (pss_cons (ps_setLc (i := 3) (own := [("part", 4)]) rfl sc_text_of.nd rfl rfl (sw_true rfl rfl rfl (by kernel_rfl)) (pi_listK K (pv 2)) (blkOk_by (by kernel_rfl)) (fun _ _ _ _ _ => (pg_name (i := 4) sc_text_of.nd rfl (Or.inl rfl) (.inr rfl))) (fun _ _ _ _ _ => pts_nil) (fun _ _ _ _ _ => (pe_ifExp (pt_val (pe_callB (call_isK K kb_str) (by rfl) T.b_isinstance (by decide +kernel) (pa_cons (pv 4) (pa_cons (pe_bltn (v := .ty "str") (by rfl) T.b_str (by decide +kernel) rfl) pa_nil)))) (pv 4) (pe_joined (PJ.cons pe_str (PJ.cons (pe_fmt (pe_def D_text_of hr (by first | decide | omega) (pa_cons (pv 4) pa_nil))) (PJ.cons pe_str PJ.nil)))))))
  (pss_one (ps_ret (pe_join (pe_joined (PJ.cons pe_str (PJ.cons (pe_fmt (pv 1)) (PJ.cons pe_str PJ.nil)))) (pv 3))))))), ?_⟩
  refine ⟨_, rfl, v, d, rfl, hd.dp, _, rfl, ?_⟩
  rcases drawn_shape hdr with ⟨z, rfl, _⟩ | ⟨o, ps, k, rfl, ho, l2, l4, rfl, hps⟩
  · cases hd with
    | str z => exact iteT ⟨_, rfl, q H (Same.refl H)⟩
  cases hd with
  | tup ht ha =>
  cases ha with
  | @cons vo vr _ _ hvo hvr =>
  rename_i a
  cases hvo with
  | str o =>
  refine iteF ?_
  refine ⟨_, rfl, a, .str o, vr, rfl, ht.sqT, fun p hp => ?_⟩
  have e1 := same_new hp (.lst vr)
  have lr := hvr.len
  have p4 : 24 ^ k ≤ 24 ^ 3 := Nat.pow_le_pow_right (by decide) (by omega)
  have hB : ∀ {n : Nat}, n ≤ 8 * 24 ^ 4 + 100 → n ≤ sizeLine := fun h => Nat.le_trans h (by decide +kernel)
  refine ⟨.str o, [.ref p], rfl, .ref p, [], rfl, rfl, ?_⟩
  refine ⟨_, rfl, p, rfl, ⟨_, SqL.of upd_same⟩, fun D hD => ?_⟩
  refine lc_mapL (j := 4) (fun i u _ => ∃ d, ps[i]? = some d ∧ u = .str (partT (textD (k + 1)) d)) (fun _ _ _ _ _ h => h) hD (SqL.of upd_same) (le_line (by omega)) (fun _ => rfl) ?_ ?_
  · intro i x H2 hx e2 Q' k'
    obtain ⟨d, hd1, hd2⟩ := tpa_get hvr hx
    have hd3 := (hd2.up (Same.T e1)).up (Same.T e2)
    have hdr2 := hps d (List.mem_of_getElem? hd1)
    have tl := text_len hdr2
    refine ⟨_, rfl, x, d, rfl, hd3.dp, _, rfl, ?_⟩
    rcases drawn_shape hdr2 with ⟨z, rfl, _⟩ | ⟨o2, ps2, k2, rfl, _⟩
    · cases hd3 with
      | str z => exact iteT ⟨_, rfl, k' _ _ (Same.refl _) ⟨_, hd1, rfl⟩⟩
    · refine iteF ?_
      refine ⟨"(", rfl, by decide +kernel, _, rfl, x, _, k, rfl, hd3, hdr2, by omega, by omega, fun H3 e3 => .inl ⟨_, rfl, hB (by omega), _, rfl, ?_, ")", rfl, ?_, k' _ _ e3 ⟨_, hd1, ?_⟩⟩⟩
      · rw [app_len]
        have h1 : (Str.empty ++ ("(" : Str)).length = 1 := by decide +kernel
        exact hB (by omega)
      · rw [app_len, app_len]
        have h1 : (Str.empty ++ ("(" : Str)).length = 1 := by decide +kernel
        have h2 : (")" : Str).length = 1 := by decide +kernel
        exact hB (by omega)
      · rfl
  intro H2 ys e2 hD2 hl2 hy
  have hmap : ys = (ps.map (partT (textD (k + 1)))).map V.str := by
    rw [List.map_map]
    exact eq_map_of (hl2.trans lr) fun i u hu => hy i u hu
  subst hmap
  have q2 := q H2 (e1.trans e2)
  have ev : textD (k + 1 + 1) (.tuple (.str o :: ps)) = Txt.join ((" " : Str) ++ o ++ " ") (ps.map (partT (textD (k + 1)))) := rfl
  rw [ev] at q2
  have sl := sep_len ho
  have hs0 : Str.empty ++ (" " : Str) = (" " : Str) := by decide +kernel
  have lo : o.length = 1 := by
    rcases op_shape ho with h | h
    · rw [PyData.str.inj h]
      decide +kernel
    · rw [PyData.str.inj h]
      decide +kernel
  have l1 : (" " : Str).length = 1 := by decide +kernel
  refine ⟨" ", rfl, by decide +kernel, _, rfl, .inl ⟨o, rfl, hB (by omega), o, rfl, ?_, " ", rfl, ?_, ⟨_, rfl⟩, _, rfl, _, D, ps.map (partT (textD (k + 1))), rfl, rfl, .inl (SqL.of hD2), ?_, ?_⟩⟩
  · rw [hs0, app_len]
    exact hB (by omega)
  · rw [hs0, sl]
    exact hB (by omega)
  · rw [hs0, sl, List.length_map]
    have hs : ∀ p ∈ ps, (partT (textD (k + 1)) p).length ≤ 8 * 24 ^ k + 2 := fun p hpp => by
      have h1 := text_len (hps p hpp)
      rcases drawn_shape (hps p hpp) with ⟨z, rfl, hz⟩ | ⟨o2, ps2, _, rfl, _⟩
      · have h2 : textD (k + 1) (.str z) = z := rfl
        rw [h2] at h1
        show z.length ≤ _
        omega
      · show (("(" : Str) ++ textD (k + 1) _ ++ ")").length ≤ _
        rw [app_len, app_len]
        have e1 : ("(" : Str).length = 1 := by decide +kernel
        have e2 : (")" : Str).length = 1 := by decide +kernel
        omega
    have hsum := sum_le hs
    have hm : ps.length * (8 * 24 ^ k + 2) ≤ 24 * (8 * 24 ^ k + 2) := Nat.mul_le_mul_right _ l4
    omega
  · rw [hs0]
    exact q2
end
end FF
/-! the reader of terms: what it computes, on lists of signs -/
namespace FF
open PySem PySem.Spec PyProof.Rows L2
abbrev isOpC (o : Nat) : Bool := o == 38 || o == 124
abbrev RdF : Type := List Nat → Option (PyData × List Nat)
def rPart (f : RdF) : RdF
  | [] => none
  | c :: r => if c ∈ lettersS.cps.toList then some (.str ⟨#[c]⟩, r) else if c = 40 then (match f r with
    | some (d, 41 :: r2) => if isLet d = true then none else some (d, r2)
    | _ => none) else none
def rTail (g : RdF) (o : Nat) : Nat → List Nat → Option (List PyData × List Nat)
  | 0, l => some ([], l)
  | k + 1, l => match l with
    | 32 :: p :: 32 :: r => if p = o then (match g r with
      | some (d, r2) => (match rTail g o k r2 with
        | some (ds, r3) => some (d :: ds, r3)
        | none => none)
      | none => none) else some ([], l)
    | _ => some ([], l)
def rAlone (d : PyData) (r : List Nat) : Option (PyData × List Nat) := if isLet d = true then some (d, r) else none
def rEnd (o : Nat) (d : PyData) : List PyData × List Nat → Option (PyData × List Nat)
  | ([], r2) => rAlone d r2
  | (e :: es, r2) => some (.tuple (.str ⟨#[o]⟩ :: d :: e :: es), r2)
def rSeq : Nat → RdF
  | 0, _ => none
  | n + 1, l => (rPart (rSeq n) l).bind fun x => match x.2[1]? with
    | some o => if isOpC o = true then (rTail (rPart (rSeq n)) o x.2.length x.2).bind (rEnd o x.1) else rAlone x.1 x.2
    | none => rAlone x.1 x.2
def endD (d : PyData) : List Nat → Option PyData
  | [] => if inB (meas 5 d) 24 = true then some d else none
  | _ :: _ => none
def parseD (t : Str) : Option PyData := (rSeq 5 t.cps.toList).bind fun x => endD x.1 x.2
/-! ### what is left is a suffix; the data is nice -/
def RdOk (f : RdF) (n : Nat) : Prop := ∀ l d r, l.length ≤ 10000 → f l = some (d, r) → r.length < l.length ∧ r <:+ l ∧ Nice n d
theorem let_ok {c : Nat} (h : c ∈ lettersS.cps.toList) : Nice 0 (.str ⟨#[c]⟩) := by
  have h1 : isLet (.str ⟨#[c]⟩) = true := by
    show isLetS ⟨#[c]⟩ = true
    rw [isLetS_one]
    exact decide_eq_true h
  exact ⟨let_nice h1, Nat.le_of_eq (let_depth h1)⟩
theorem rPart_ok {f : RdF} {n : Nat} (h : RdOk f n) : RdOk (rPart f) n := by
  intro l d r hl e
  cases l with
  | nil => cases e
  | cons c l =>
    have e : (if c ∈ lettersS.cps.toList then some (PyData.str ⟨#[c]⟩, l) else if c = 40 then (match f l with
      | some (d, 41 :: r2) => if isLet d = true then none else some (d, r2)
      | _ => none) else none) = some (d, r) := e
    split at e
    · rename_i hc
      cases e
      exact ⟨Nat.lt_succ_self _, List.suffix_cons _ _, (let_ok hc).mono (Nat.zero_le _)⟩
    · split at e
      · rw [List.length_cons] at hl
        cases q : f l with
        | none =>
          rw [q] at e
          cases e
        | some x =>
          obtain ⟨d1, r1⟩ := x
          rw [q] at e
          obtain ⟨h1, h2, h3⟩ := h l d1 r1 (by omega) q
          match r1, e, h1, h2 with
          | 41 :: r2, e, h1, h2 =>
            have e : (if isLet d1 = true then none else some (d1, r2)) = some (d, r) := e
            split at e
            · cases e
            · cases e
              rw [List.length_cons] at h1
              exact ⟨by rw [List.length_cons]; omega, ((List.suffix_cons 41 r).trans h2).trans (List.suffix_cons _ _), h3⟩
          | [], e, _, _ => cases e
          | 0 :: _, e, _, _ => cases e
          | (k + 1) :: r2, e, h1, h2 =>
            by_cases hk : k = 40
            · subst hk
              have e : (if isLet d1 = true then none else some (d1, r2)) = some (d, r) := e
              split at e
              · cases e
              · cases e
                rw [List.length_cons] at h1
                exact ⟨by rw [List.length_cons]; omega, ((List.suffix_cons 41 r).trans h2).trans (List.suffix_cons _ _), h3⟩
            · exfalso
              revert e
              split
              · rename_i heq
                cases heq
                exact absurd rfl hk
              · exact fun z => by cases z
      · cases e
theorem rTail_ok {g : RdF} {n o : Nat} (h : RdOk g n) : ∀ (k : Nat) (l : List Nat) (ds : List PyData) (r : List Nat), l.length ≤ 10000 → rTail g o k l = some (ds, r) → r.length + ds.length ≤ l.length ∧ r <:+ l ∧ ∀ d ∈ ds, Nice n d := by
  intro k
  induction k with
  | zero =>
    intro l ds r hl e
    cases e
    exact ⟨Nat.le_refl _, List.suffix_refl _, fun d hd => by cases hd⟩
  | succ k ih =>
    intro l ds r hl e
    have stop : some (([] : List PyData), l) = some (ds, r) → r.length + ds.length ≤ l.length ∧ r <:+ l ∧ ∀ d ∈ ds, Nice n d := fun e => by
      cases e
      exact ⟨Nat.le_refl _, List.suffix_refl _, fun d hd => by cases hd⟩
    unfold rTail at e
    split at e
    · rename_i p r0
      split at e
      · split at e
        · rename_i d r2 hg
          split at e
          · rename_i ds2 r3 ht
            cases e
            simp only [List.length_cons] at hl ⊢
            obtain ⟨h1, h2, h3⟩ := h r0 d r2 (by omega) hg
            obtain ⟨h4, h5, h6⟩ := ih r2 ds2 r (by omega) ht
            refine ⟨by omega, (h5.trans h2).trans ⟨[32, p, 32], rfl⟩, fun x hx => ?_⟩
            rcases List.mem_cons.mp hx with rfl | hx
            · exact h3
            · exact h6 x hx
          · cases e
        · cases e
      · exact stop e
    · exact stop e
theorem opC_nice {o : Nat} (h : isOpC o = true) : Nice 0 (.str ⟨#[o]⟩) := by
  have h2 : o = 38 ∨ o = 124 := by
    rcases Bool.or_eq_true _ _ ▸ h with h | h
    · exact .inl (eq_of_beq h)
    · exact .inr (eq_of_beq h)
  rcases h2 with rfl | rfl
  · exact ⟨by decide +kernel, by decide +kernel⟩
  · exact ⟨by decide +kernel, by decide +kernel⟩
theorem rSeq_ok : ∀ n : Nat, RdOk (rSeq n) n := by
  intro n
  induction n with
  | zero =>
    intro l d r hl e
    cases e
  | succ n ih =>
    intro l d r hl e
    have hp := rPart_ok ih
    have e : (rPart (rSeq n) l).bind (fun x => match x.2[1]? with
      | some o => if isOpC o = true then (rTail (rPart (rSeq n)) o x.2.length x.2).bind (rEnd o x.1) else rAlone x.1 x.2
      | none => rAlone x.1 x.2) = some (d, r) := e
    cases q : rPart (rSeq n) l with
    | none =>
      rw [q] at e
      cases e
    | some x =>
      obtain ⟨d1, r1⟩ := x
      rw [q] at e
      obtain ⟨h1, h2, h3⟩ := hp l d1 r1 hl q
      have al : ∀ {r2 : List Nat}, r2.length < l.length → r2 <:+ l → rAlone d1 r2 = some (d, r) → r.length < l.length ∧ r <:+ l ∧ Nice (n + 1) d := fun {r2} a b e => by
        unfold rAlone at e
        split at e
        · cases e
          exact ⟨a, b, h3.mono (Nat.le_succ _)⟩
        · cases e
      have e : (match r1[1]? with
        | some o => if isOpC o = true then (rTail (rPart (rSeq n)) o r1.length r1).bind (rEnd o d1) else rAlone d1 r1
        | none => rAlone d1 r1) = some (d, r) := e
      split at e
      · rename_i o ho
        split at e
        · rename_i hop
          cases q2 : rTail (rPart (rSeq n)) o r1.length r1 with
          | none =>
            rw [q2] at e
            cases e
          | some y =>
            obtain ⟨ds, r2⟩ := y
            rw [q2] at e
            obtain ⟨h4, h5, h6⟩ := rTail_ok hp _ _ _ _ (by omega) q2
            cases ds with
            | nil => exact al (by simp only [List.length_nil] at h4; omega) (h5.trans h2) e
            | cons a as =>
              cases e
              simp only [List.length_cons] at h4
              refine ⟨by omega, h5.trans h2, Nice.tuple (by simp only [List.length_cons]; omega) fun x hx => ?_⟩
              rcases List.mem_cons.mp hx with rfl | hx
              · exact (opC_nice hop).mono (Nat.zero_le _)
              rcases List.mem_cons.mp hx with rfl | hx
              · exact h3
              · exact h6 x hx
        · exact al h1 h2 e
      · exact al h1 h2 e
/-! ### texts at a place -/
theorem rest_eq {t : Str} {l : List Nat} (h : l <:+ t.cps.toList) : t.cps.toList.drop (t.length - l.length) = l := (List.suffix_iff_eq_drop.mp h).symm
theorem rest_len {t : Str} {l : List Nat} (h : l <:+ t.cps.toList) : l.length ≤ t.length := h.length_le
theorem cut_one {t : Str} {l : List Nat} (h : l <:+ t.cps.toList) (a : Nat) : cutS t (some (((t.length - l.length + a : Nat)) : Int)) (some (((t.length - l.length + (a + 1) : Nat)) : Int)) = ⟨((l.drop a).take 1).toArray⟩ := by
  have hl := rest_len h
  unfold cutS
  rw [HT.sIx_nat, HT.sIx_nat]
  congr 1
  have e := rest_eq h
  have n1 : t.cps.toList.length = t.length := rfl
  rw [show ((l.drop a).take 1) = ((t.cps.toList.drop (t.length - l.length + a)).take 1) by rw [← List.drop_drop, e]]
  congr 1
  by_cases hlt : t.length - l.length + a < t.length
  · rw [Nat.min_eq_left (by omega), Nat.min_eq_left (by omega), show t.length - l.length + (a + 1) - (t.length - l.length + a) = 1 by omega]
  · rw [Nat.min_eq_right (by omega), Nat.min_eq_right (by omega), Nat.sub_self, List.take_zero]
    rw [List.drop_eq_nil_of_le (by omega)]
    rfl
theorem starts_at {t w : Str} {l : List Nat} (h : l <:+ t.cps.toList) (hw : w.length ≠ 0) : Txt.startswith3 t w ((t.length - l.length : Nat) : Int) = decide (l.take w.length = w.cps.toList) := by
  have hl := rest_len h
  unfold Txt.startswith3
  have e1 : fromIndex t.length ((t.length - l.length : Nat) : Int) = t.length - l.length := by
    unfold fromIndex
    rw [if_neg (by omega)]
    omega
  rw [e1, PySem.StrLaws.subAt_eq, rest_eq h]
  have n1 : w.cps.toList.length = w.length := rfl
  by_cases q : l.take w.length = w.cps.toList
  · rw [q]
    have : (l.take w.length).length = w.length := by rw [q]; exact n1
    rw [List.length_take] at this
    simp only [decide_true, beq_self_eq_true, Bool.and_true, decide_eq_true_eq]
    omega
  · rw [show (l.take w.length == w.cps.toList) = false from beq_eq_false_iff_ne.mpr q, Bool.and_false]
    simp [q]
end FF
/-! the class Reader, walked -/
namespace FF
open PySem PySem.Spec PyProof.Rows L2
def RdAt (K : PySem.W.Frag) (H : Hp) (r dx : Addr) (t : Str) (l : List Nat) : Prop := H r = some (.ins (He.ga K "Reader") dx [("text", .str t), ("at", .int ((t.length - l.length : Nat) : Int))]) ∧ l <:+ t.cps.toList
theorem put_at {x y v : V} : putF ("at" : Str) v [(("text" : Str), x), (("at" : Str), y)] = [(("text" : Str), x), (("at" : Str), v)] := by rfl
theorem RdAt.upd {K : PySem.W.Frag} {H : Hp} {r dx : Addr} {t : Str} {l2 : List Nat} {i : Int} (h : l2 <:+ t.cps.toList) (e : i = ((t.length - l2.length : Nat) : Int)) : RdAt K (L2.upd H r (.ins (He.ga K "Reader") dx [("text", .str t), ("at", .int i)])) r dx t l2 := ⟨by rw [e]; exact upd_same, h⟩
theorem RdAt.b {K : PySem.W.Frag} {H H' : Hp} {r dx : Addr} {t : Str} {l : List Nat} (h : RdAt K H r dx t l) (e : Same H H') : RdAt K H' r dx t l := ⟨e _ _ h.1, h.2⟩
def spSees (K : PySem.W.Frag) : Sp := fun vs H Q _ => ∃ (r dx : Addr) (t w : Str) (l : List Nat), vs = [.ref r, .str w] ∧ RdAt K H r dx t l ∧ w.length ≠ 0 ∧ Q (.bl (decide (l.take w.length = w.cps.toList))) H
def txE (K : PySem.W.Frag) (r : Addr) (H : Hp) (E : XK) : Prop := ∀ dd H', SameB r H H' → Thr ("InvalidText" : Str) dd H' → E (.ref (He.ga K "InvalidText")) dd H'
def spTakeW (K : PySem.W.Frag) : Sp := fun vs H Q E => ∃ (r dx : Addr) (t w : Str) (l : List Nat), vs = [.ref r, .str w] ∧ RdAt K H r dx t l ∧ w.length ≠ 0 ∧ w.length ≤ sizeLine ∧
  (∀ l2, l = w.cps.toList ++ l2 → ∀ H', SameB r H H' → RdAt K H' r dx t l2 → Q .non H') ∧ ((∀ l2, l ≠ w.cps.toList ++ l2) → txE K r H E)
def spAlone (K : PySem.W.Frag) : Sp := fun vs H Q E => ∃ (r : Addr) (v : V) (d : PyData), vs = [.ref r, v] ∧ Dp K H v d ∧ nice d = true ∧ (isLet d = true → ∀ H', Same H H' → Q v H') ∧ (isLet d = false → txE K r H E)
def spRd (K : PySem.W.Frag) (f : Nat → RdF) (n : Nat) : Sp := fun vs H Q E => ∃ (r dx : Addr) (t : Str) (l : List Nat) (m : Nat), vs = [.ref r, .int m] ∧ RdAt K H r dx t l ∧ t.length ≤ 10000 ∧ m < n ∧ n ≤ 20 ∧
  (∀ d l2, f m l = some (d, l2) → ∀ v H', SameB r H H' → RdAt K H' r dx t l2 → Tp K H' v d → Q v H') ∧ (f m l = none → txE K r H E)
theorem txE.b {K : PySem.W.Frag} {r : Addr} {H H1 : Hp} {E : XK} (h : txE K r H E) (e : SameB r H H1) : txE K r H1 E := fun dd H' e2 ht => h dd H' (e.tr e2) ht
theorem take_app {l w : List Nat} (h : l.take w.length = w) : l = w ++ l.drop w.length := by
  conv => lhs; rw [← List.take_append_drop w.length l, h]
section
variable {P : Program} {w : World} {K : PySem.W.Frag} {mg : Str → Option Value} {base : Heap}
theorem ok_sees {fd : FuncData} (F : FunD K "sees" "Reader.sees" (defArgs s_Reader_sees) (defBody s_Reader_sees) (defScope s_Reader_sees) [] [] (He.ma K (He.ga K "Reader") "sees") fd) (T : Top K mg) : MethD P w K mg base "Reader" "sees" 1 ["self", "word"] (spSees K) := by
  refine methd_mk F (F.bindsN fun _ _ _ _ _ _ us hl => match us, hl with | [_, _], _ => rfl) T.k_Reader T.m_Reader_sees sc_Reader_sees (fun vs H Q E h => ?_) (fun cdv A outer s H vs Q E hr h => ?_)
  · obtain ⟨r, dx, t, w, l, rfl, _⟩ := h
    rfl
  obtain ⟨r, dx, t, w, l, rfl, ha, hw, q⟩ := h
  refine ⟨_, (pss_one (ps_ret (pe_bmK K PySem.F.plainAttrs_str PySem.F.slot_str_startswith PySem.F.type_str_startswith mt_startswith3 (pe_fld (pv 0) rfl) (pa_cons (pv 1) (pa_cons (pe_fld (pv 0) rfl) pa_nil))))), ?_⟩
  refine ⟨_, rfl, r, _, dx, _, _, rfl, ha.1, T.k_Reader, T.n_Reader_text, rfl, rfl, _, rfl, _, rfl, r, _, dx, _, _, rfl, ha.1, T.k_Reader, T.n_Reader_at, rfl, t, w, _, rfl, rfl, ?_⟩
  rw [starts_at ha.2 hw]
  exact q
theorem ok_takeW {fd : FuncData} (F : FunD K "take" "Reader.take" (defArgs s_Reader_take) (defBody s_Reader_take) (defScope s_Reader_take) [] [] (He.ma K (He.ga K "Reader") "take") fd) (T : Top K mg)
    (D_Reader_sees : MethD P w K mg base "Reader" "sees" 1 ["self", "word"] (spSees K)) (x_InvalidText : RaiseD P w K mg base "InvalidText" "FaultError" 2 "InvalidText") : MethX P w K mg base "Reader" "take" 4 ["self", "word"] (spTakeW K) := by
  refine methx_mk F (F.bindsN fun _ _ _ _ _ _ us hl => match us, hl with | [_, _], _ => rfl) T.k_Reader T.m_Reader_take sc_Reader_take (fun vs H Q E h => ?_) (fun cdv A outer s0 H vs Q E hr h tk => ?_)
  · obtain ⟨r, dx, t, w, l, rfl, _⟩ := h
    rfl
  obtain ⟨r, dx, t, w, l, rfl, ha, hw, hz, q1, q2⟩ := h
  refine ⟨_, (pss_cons (ps_if (pt_not (pt_val (pe_methd D_Reader_sees hr (by first | decide | omega) (pv 0) (pa_cons (pv 1) pa_nil))))
  (pss_one (ps_raise rfl tk (pmk_raise x_InvalidText hr (by first | decide | omega))))
  pss_nil)
  (pss_one (ps_fldaug (pv 0) (pe_callB (call_lenK K) (by rfl) T.b_len (by decide +kernel) (pa_cons (pv 1) pa_nil)) in_add))), ?_⟩
  refine ⟨_, rfl, r, dx, _, rfl, ha.1, rfl, _, rfl, r, dx, t, w, l, rfl, ha, hw, ⟨_, rfl, ?_⟩⟩
  refine if_nb (fun h1 => ?_) (fun h1 => ?_)
  · refine fun dd H2 e2 ht => q2 (fun l2 e => ?_) dd H2 (sb_of e2) ht
    refine (of_decide_eq_false h1) ?_
    rw [e]
    exact List.take_left' rfl
  · have h2 := take_app (of_decide_eq_true h1)
    refine ⟨_, rfl, r, _, dx, _, _, rfl, ha.1, T.k_Reader, T.n_Reader_at, rfl, _, rfl, _, w.length, rfl, ⟨hz, rfl⟩, _, _, rfl, rfl, dx, _, ha.1, (by decide : 2 < 1000), ?_⟩
    rw [put_at]
    have hs : l.drop w.cps.toList.length <:+ t.cps.toList := (List.drop_suffix _ _).trans ha.2
    refine q1 _ h2 _ sb_upd (RdAt.upd hs ?_)
    have h3 := congrArg List.length h2
    rw [List.length_append] at h3
    have h4 := rest_len ha.2
    have h5 : w.cps.toList.length = w.length := rfl
    omega
theorem ok_alone {fd : FuncData} (F : FunD K "alone" "Reader.alone" (defArgs s_Reader_alone) (defBody s_Reader_alone) (defScope s_Reader_alone) [] [] (He.ma K (He.ga K "Reader") "alone") fd) (T : Top K mg)
    (D_is_letter : Def P w K mg base "is_letter" 1 ["value"] (spIsLetter K)) (x_InvalidText : RaiseD P w K mg base "InvalidText" "FaultError" 2 "InvalidText") : MethX P w K mg base "Reader" "alone" 4 ["self", "part"] (spAlone K) := by
  refine methx_mk F (F.bindsN fun _ _ _ _ _ _ us hl => match us, hl with | [_, _], _ => rfl) T.k_Reader T.m_Reader_alone sc_Reader_alone (fun vs H Q E h => ?_) (fun cdv A outer s0 H vs Q E hr h tk => ?_)
  · obtain ⟨r, v, d, rfl, _⟩ := h
    rfl
  obtain ⟨r, v, d, rfl, hd, hn, q1, q2⟩ := h
  refine ⟨_, (pss_cons (ps_if (pt_not (pt_val (pe_def D_is_letter hr (by first | decide | omega) (pa_cons (pv 1) pa_nil))))
  (pss_one (ps_raise rfl tk (pmk_raise x_InvalidText hr (by first | decide | omega))))
  pss_nil)
  (pss_one (ps_ret (pv 1)))), ?_⟩
  refine ⟨_, rfl, v, d, rfl, hd, hn, ⟨_, rfl, ?_⟩⟩
  refine if_nb (fun h1 => ?_) (fun h1 => ?_)
  · exact fun dd H2 e2 ht => q2 h1 dd H2 (sb_of e2) ht
  · exact ⟨_, rfl, q1 h1 H (Same.refl H)⟩
theorem fn_reader_init {fd : FuncData} (F : FunD K "__init__" "Reader.__init__" (defArgs s_Reader___init__) (defBody s_Reader___init__) (defScope s_Reader___init__) [] [] (He.ma K (He.ga K "Reader") "__init__") fd) (T : Top K mg) :
    FnOk P w K mg base CX0 1 (He.ma K (He.ga K "Reader") "__init__") fd ["self", "text"] (fun vs H Q _ => ∃ (r dx : Addr) (t : Str), vs = [.ref r, .str t] ∧ H r = some (.ins (He.ga K "Reader") dx []) ∧ ∀ H', SameB r H H' → RdAt K H' r dx t t.cps.toList → Q .non H') := by
  refine fnm_mk F sc_Reader___init__ (fun vs H Q E h => ?_) (fun cdv A outer s0 H vs Q E hr h => ?_)
  · obtain ⟨r, dx, t, rfl, _⟩ := h
    rfl
  obtain ⟨r, dx, t, rfl, ha, q⟩ := h
  refine ⟨_, (pss_cons (ps_fld (pv 0) (pv 1) rfl)
  (pss_one (ps_fld (pv 0) pe_int rfl))), ?_⟩
  refine ⟨_, rfl, _, rfl, r, _, dx, _, rfl, ha, T.k_Reader, T.n_Reader_text, (by decide : 0 < 1000), _, rfl, r, _, dx, _, rfl, upd_same, T.k_Reader, T.n_Reader_at, (by decide : 1 < 1000), ?_⟩
  rw [upd_upd]
  refine q _ sb_upd (RdAt.upd (List.suffix_refl _) ?_)
  have : t.cps.toList.length = t.length := rfl
  rw [this, Nat.sub_self]
  rfl
end
end FF
/-! Reader.part, Reader.sequence, parse_term -/
namespace FF
open PySem PySem.Spec PyProof.Rows L2
theorem cut_a {t : Str} {l : List Nat} (h : l <:+ t.cps.toList) : cutS t (some ((t.length - l.length : Nat) : Int)) (some (((t.length - l.length : Nat) : Int) + 1)) = ⟨(l.take 1).toArray⟩ := cut_one h 0
theorem cut_b {t : Str} {l : List Nat} (h : l <:+ t.cps.toList) : cutS t (some (((t.length - l.length : Nat) : Int) + 1)) (some (((t.length - l.length : Nat) : Int) + 2)) = ⟨((l.drop 1).take 1).toArray⟩ := cut_one h 1
theorem inOps (o : Nat) : inV (.str ⟨#[o]⟩) [.str ("&" : Str), .str ("|" : Str)] = isOpC o := by
  have h1 : ("&" : Str) = ⟨#[38]⟩ := by decide +kernel
  have h2 : ("|" : Str) = ⟨#[124]⟩ := by decide +kernel
  rw [h1, h2]
  show ((⟨#[38]⟩ : Str) == ⟨#[o]⟩ || ((⟨#[124]⟩ : Str) == ⟨#[o]⟩ || false)) = (o == 38 || o == 124)
  have key : ∀ k : Nat, ((⟨#[k]⟩ : Str) == ⟨#[o]⟩) = (o == k) := fun k => by
    by_cases e : o = k
    · subst e
      rw [beq_self_eq_true, beq_self_eq_true]
    · rw [beq_eq_false_iff_ne.mpr e, beq_eq_false_iff_ne.mpr fun z => e (by injection z with z; injection z with z; injection z with z; exact z.symm)]
  rw [key, key, Bool.or_false]
theorem if_eqb {p b : Bool} {A B : Prop} (e : p = b) (h1 : b = true → A) (h2 : b = false → B) : if p = true then A else B := by
  subst e
  exact if_b h1 h2
theorem inOps0 : inV (.str ⟨#[]⟩) [.str ("&" : Str), .str ("|" : Str)] = false := by decide +kernel
def headLet : List Nat → Bool
  | [] => false
  | c :: _ => decide (c ∈ lettersS.cps.toList)
theorem ans_sign {σ : L2.St} {H : Hp} {l : List Nat} {i : Nat} (h : σ[i]? = some (some (.str ⟨(l.take 1).toArray⟩))) :
    ∀ Q : Bool → Hp → Prop, Q (headLet l) H → (tAnd (tTest (tOp rNe (tVar i) (tC (.str ("" : Str))))) (tTest (tOp (fun x y H Q => ∃ (c : Nat) (z : Str), x = .str ⟨#[c]⟩ ∧ y = .str z ∧ Q (.bl (decide (c ∈ z.cps.toList))) H) (tVar i) (tC (.str lettersS))))) σ H Q := by
  intro Q q
  cases l with
  | nil =>
    refine ⟨_, h, rfl, _, rfl, ?_⟩
    dsimp only
    rw [if_neg (by decide +kernel)]
    exact q
  | cons c l =>
    refine ⟨_, h, rfl, _, rfl, ?_⟩
    have e : (⟨#[c]⟩ : Str) ≠ ("" : Str) := fun z => by
      have := congrArg Str.length z
      exact absurd this (by show 1 ≠ 0; decide)
    dsimp only
    rw [if_pos (by
      show (!decide (V.str ⟨#[c]⟩ = V.str ("" : Str))) = true
      rw [decide_eq_false fun z => e (V.str.inj z)] <;> rfl)]
    exact ⟨_, h, c, lettersS, rfl, rfl, _, rfl, q⟩
theorem rPart_paren {f : RdF} {l : List Nat} : rPart f (40 :: l) = match f l with
    | some (d, 41 :: r2) => if isLet d = true then none else some (d, r2)
    | _ => none := by
  show (if 40 ∈ lettersS.cps.toList then some (PyData.str ⟨#[40]⟩, l) else if 40 = 40 then (match f l with
    | some (d, 41 :: r2) => if isLet d = true then none else some (d, r2)
    | _ => none) else none) = _
  rw [if_neg (by rw [lettersS_val]; decide), if_pos rfl]
theorem rPart_off {f : RdF} {l : List Nat} (h : headLet l = false) (h2 : ∀ l2, l ≠ 40 :: l2) : rPart f l = none := by
  cases l with
  | nil => rfl
  | cons c l =>
    show (if c ∈ lettersS.cps.toList then some (PyData.str ⟨#[c]⟩, l) else if c = 40 then (match f l with
    | some (d, 41 :: r2) => if isLet d = true then none else some (d, r2)
    | _ => none) else none) = none
    rw [if_neg (of_decide_eq_false h), if_neg fun z => h2 l (by rw [z])]
section
variable {P : Program} {w : World} {K : PySem.W.Frag} {mg : Str → Option Value} {base : Heap}
theorem ok_part {n : Nat} {fd : FuncData} (F : FunD K "part" "Reader.part" (defArgs s_Reader_part) (defBody s_Reader_part) (defScope s_Reader_part) [] [] (He.ma K (He.ga K "Reader") "part") fd) (T : Top K mg)
    (D_Reader_take : MethX P w K mg base "Reader" "take" 4 ["self", "word"] (spTakeW K)) (D_is_letter : Def P w K mg base "is_letter" 1 ["value"] (spIsLetter K)) (x_InvalidText : RaiseD P w K mg base "InvalidText" "FaultError" 2 "InvalidText")
    (D_Reader_sequence : MethX P w K mg base "Reader" "sequence" (2 * n + 4) ["self", "max_depth"] (spRd K rSeq n)) : MethX P w K mg base "Reader" "part" (2 * n + 5) ["self", "max_depth"] (spRd K (fun m => rPart (rSeq m)) n) := by
  refine methx_mk F (F.bindsN fun _ _ _ _ _ _ us hl => match us, hl with | [_, _], _ => rfl) T.k_Reader T.m_Reader_part sc_Reader_part (fun vs H Q E h => ?_) (fun cdv A outer s0 H vs Q E hr h tk => ?_)
  · obtain ⟨r, dx, t, l, m, rfl, _⟩ := h
    rfl
  obtain ⟨r, dx, t, l, m, rfl, ha, hz, hm, hn, q1, q2⟩ := h
  have hlt := rest_len ha.2
  refine ⟨_, (pss_cons (ps_set (i := 2) sc_Reader_part.nd rfl (Or.inl rfl) (pe_slice sl_str (pe_fld (pv 0) rfl) (po_some (pe_fld (pv 0) rfl)) (po_some (pe_op op_add (pe_fld (pv 0) rfl) pe_int))))
  (pss_cons (ps_if (PW.pt (pw_and (pt_cmpR op_ne (pv 2) pe_str (nomark _)) (pw_and1 (pt_cmpR op_in_sign (pv 2) (pe_gs T.g_LETTERS) rfl))))
  (pss_cons (ps_fldaug (pv 0) pe_int in_add)
  (pss_one (ps_ret (pv 2))))
  pss_nil)
  (pss_cons (ps_expr (pe_methx (E := E) D_Reader_take tk (fun _ _ _ _ h => h) hr (by first | decide | omega) (pv 0) (pa_cons pe_str pa_nil)))
  (pss_cons (ps_set (i := 3) sc_Reader_part.nd rfl (Or.inl rfl) (pe_methx (E := E) D_Reader_sequence tk (fun _ _ _ _ h => h) hr (by first | decide | omega) (pv 0) (pa_cons (pv 1) pa_nil)))
  (pss_cons (ps_if (pt_val (pe_def D_is_letter hr (by first | decide | omega) (pa_cons (pv 3) pa_nil)))
  (pss_one (ps_raise rfl tk (pmk_raise x_InvalidText hr (by first | decide | omega))))
  pss_nil)
  (pss_cons (ps_expr (pe_methx (E := E) D_Reader_take tk (fun _ _ _ _ h => h) hr (by first | decide | omega) (pv 0) (pa_cons pe_str pa_nil)))
  (pss_one (ps_ret (pv 3))))))))), ?_⟩
  refine ⟨_, rfl, r, _, dx, _, _, rfl, ha.1, T.k_Reader, T.n_Reader_text, rfl, ?_⟩
  refine ⟨_, rfl, r, _, dx, _, _, rfl, ha.1, T.k_Reader, T.n_Reader_at, rfl, _, rfl, ?_⟩
  refine ⟨_, rfl, r, _, dx, _, _, rfl, ha.1, T.k_Reader, T.n_Reader_at, rfl, _, _, rfl, rfl, _, rfl, t, rfl, Nat.le_trans hz (by decide), ?_⟩
  rw [cut_a ha.2]
  refine ans_sign (l := l) (i := 2) rfl _ ?_
  refine if_b (fun h => ?_) (fun h => ?_)
  · cases l with
    | nil => cases h
    | cons c l =>
      have hc : c ∈ lettersS.cps.toList := of_decide_eq_true h
      refine ⟨_, rfl, r, _, dx, _, _, rfl, ha.1, T.k_Reader, T.n_Reader_at, rfl, _, _, rfl, rfl, dx, _, ha.1, (by decide : 2 < 1000), ?_⟩
      rw [put_at]
      have hs : l <:+ t.cps.toList := (List.suffix_cons c l).trans ha.2
      refine ⟨_, rfl, q1 (.str ⟨#[c]⟩) l (if_pos hc) _ _ sb_upd (RdAt.upd hs ?_) (.str _)⟩
      rw [List.length_cons] at hlt ⊢
      omega
  have e40 : ("(" : Str).cps.toList = [40] := by decide +kernel
  have e41 : (")" : Str).cps.toList = [41] := by decide +kernel
  refine ⟨_, rfl, r, dx, _, rfl, ha.1, rfl, r, dx, t, "(", l, rfl, ha, by decide +kernel, by decide +kernel, fun l2 el H1 e1 ha1 => ?_, fun no => q2 (rPart_off h fun l2 e => no l2 (by rw [e40]; exact e))⟩
  rw [e40] at el
  have el : l = 40 :: l2 := el
  subst el
  rw [List.length_cons] at hlt
  refine ⟨_, rfl, r, dx, _, rfl, ha1.1, rfl, _, rfl, r, dx, t, l2, m, rfl, ha1, hz, hm, hn, fun d l3 e3 v H2 e2 ha2 hv => ?_, fun e3 => ?_⟩
  · obtain ⟨k1, k2, k3⟩ := rSeq_ok m l2 d l3 (by omega) e3
    refine ⟨_, rfl, v, d, rfl, hv.dp, k3.ok, _, rfl, ?_⟩
    refine if_b (fun h1 => ?_) (fun h1 => ?_)
    · refine fun dd H3 e4 ht => q2 ?_ dd H3 ((e1.tr e2).tr (sb_of e4)) ht
      show rPart (rSeq m) (40 :: l2) = none
      rw [rPart_paren, e3]
      split
      · rename_i heq
        cases heq
        rw [if_pos h1]
      · rfl
    · refine ⟨_, rfl, r, dx, _, rfl, ha2.1, rfl, r, dx, t, ")", l3, rfl, ha2, by decide +kernel, by decide +kernel, fun l4 el H3 e4 ha3 => ?_, fun no => (q2 ?_).b (e1.tr e2)⟩
      · rw [e41] at el
        have el : l3 = 41 :: l4 := el
        subst el
        refine ⟨_, rfl, q1 d l4 ?_ v H3 ((e1.tr e2).tr e4) ha3 (hv.up (sameT_i ha2.1 e4))⟩
        show rPart (rSeq m) (40 :: l2) = some (d, l4)
        rw [rPart_paren, e3]
        show (if isLet d = true then none else some (d, l4)) = _
        rw [if_neg (by rw [h1]; decide)]
      · show rPart (rSeq m) (40 :: l2) = none
        rw [rPart_paren, e3]
        split
        · rename_i heq
          cases heq
          exact absurd (by rw [e41]; rfl) (no _)
        · rfl
  · refine (q2 ?_).b e1
    show rPart (rSeq m) (40 :: l2) = none
    rw [rPart_paren, e3]
theorem rTail_end {g : RdF} {o : Nat} : ∀ {k : Nat} {l : List Nat}, ¬ l.take 3 = [32, o, 32] → rTail g o k l = some ([], l)
  | 0, _, _ => rfl
  | k + 1, l, h => by
    unfold rTail
    split
    · rename_i p r
      rw [if_neg fun e => h (by rw [e] <;> rfl)]
    · rfl
theorem rTail_more {g : RdF} {o k : Nat} {l : List Nat} : rTail g o (k + 1) (32 :: o :: 32 :: l) = (g l).bind fun x => (rTail g o k x.2).map fun y => (x.1 :: y.1, y.2) := by
  show (if o = o then (match g l with
      | some (d, r2) => (match rTail g o k r2 with
        | some (ds, r3) => some (d :: ds, r3)
        | none => none)
      | none => none) else some ([], 32 :: o :: 32 :: l)) = _
  rw [if_pos rfl]
  cases g l with
  | none => rfl
  | some x =>
    obtain ⟨d, r2⟩ := x
    show (match rTail g o k r2 with
        | some (ds, r3) => some (d :: ds, r3)
        | none => none) = (rTail g o k r2).map _
    cases rTail g o k r2 <;> rfl
theorem ok_sequence {n : Nat} {fd : FuncData} (F : FunD K "sequence" "Reader.sequence" (defArgs s_Reader_sequence) (defBody s_Reader_sequence) (defScope s_Reader_sequence) [] [] (He.ma K (He.ga K "Reader") "sequence") fd) (T : Top K mg)
    (D_Reader_sees : MethD P w K mg base "Reader" "sees" 1 ["self", "word"] (spSees K)) (D_Reader_alone : MethX P w K mg base "Reader" "alone" 4 ["self", "part"] (spAlone K)) (x_InvalidText : RaiseD P w K mg base "InvalidText" "FaultError" 2 "InvalidText")
    (D_Reader_part : MethX P w K mg base "Reader" "part" (2 * n + 5) ["self", "max_depth"] (spRd K (fun m => rPart (rSeq m)) n)) : MethX P w K mg base "Reader" "sequence" (2 * (n + 1) + 4) ["self", "max_depth"] (spRd K rSeq (n + 1)) := by
  refine methx_mk F (F.bindsN fun _ _ _ _ _ _ us hl => match us, hl with | [_, _], _ => rfl) T.k_Reader T.m_Reader_sequence sc_Reader_sequence (fun vs H Q E h => ?_) (fun cdv A outer s0 H vs Q E hr h tk => ?_)
  · obtain ⟨r, dx, t, l, m, rfl, _⟩ := h
    rfl
  obtain ⟨r, dx, t, l, m, rfl, ha, hz, hm, hn, q1, q2⟩ := h
  have hlt := rest_len ha.2
  refine ⟨_, (pss_cons (ps_if (pt_cmpR op_eq (pv 1) pe_int (nomark _))
  (pss_one (ps_raise rfl tk (pmk_raise x_InvalidText hr (by first | decide | omega))))
  pss_nil)
  (pss_cons (ps_set (i := 2) sc_Reader_sequence.nd rfl (Or.inl rfl) (pe_lst (pa_cons (pe_methx (E := E) D_Reader_part tk (fun _ _ _ _ h => h) hr (by first | decide | omega) (pv 0) (pa_cons (pe_op op_sub (pv 1) pe_int) pa_nil)) pa_nil)))
  (pss_cons (ps_set (i := 3) sc_Reader_sequence.nd rfl (Or.inl rfl) (pe_slice sl_str (pe_fld (pv 0) rfl) (po_some (pe_op op_add (pe_fld (pv 0) rfl) pe_int)) (po_some (pe_op op_add (pe_fld (pv 0) rfl) pe_int))))
  (pss_cons (ps_if (pt_cmpR (op_notIn_seqK K) (pv 3) (pe_tup (pa_cons pe_str (pa_cons pe_str pa_nil))) (by rfl))
  (pss_one (ps_ret (pe_methx (E := E) D_Reader_alone tk (fun _ _ _ _ h => h) hr (by first | decide | omega) (pv 0) (pa_cons (pe_ix (ix_listK K) (pv 2) pe_int (fun _ _ => rfl)) pa_nil))))
  pss_nil)
  (pss_cons (ps_while (passes_of rfl) (pt_val (pe_methd D_Reader_sees hr (by first | decide | omega) (pv 0) (pa_cons (pe_joined (PJ.cons pe_str (PJ.cons (pe_fmt (pv 3)) (PJ.cons pe_str PJ.nil)))) pa_nil)))
  (pss_cons (ps_fldaug (pv 0) pe_int in_add)
  (pss_one (ps_expr (pe_bmK K PySem.F.plainAttrs_list PySem.F.slot_list_append PySem.F.type_list_append mt_append (pv 2) (pa_cons (pe_methx (E := E) D_Reader_part tk (fun _ _ _ _ h => h) hr (by first | decide | omega) (pv 0) (pa_cons (pe_op op_sub (pv 1) pe_int) pa_nil)) pa_nil))))))
  (pss_one (ps_ret (pe_ifExp (pt_cmpR op_eq (pe_callB (call_lenK K) (by rfl) T.b_len (by decide +kernel) (pa_cons (pv 2) pa_nil)) pe_int (nomark _)) (pe_methx (E := E) D_Reader_alone tk (fun _ _ _ _ h => h) hr (by first | decide | omega) (pv 0) (pa_cons (pe_ix (ix_listK K) (pv 2) pe_int (fun _ _ => rfl)) pa_nil)) (pe_tup (pa_cons (pv 3) (StX.pa_star (pv 2) pa_nil))))))))))), ?_⟩
  refine ⟨_, rfl, rfl, _, rfl, ?_⟩
  refine if_int (fun h0 => ?_) (fun h0 => ?_)
  · have h0 : m = 0 := by omega
    subst h0
    exact fun dd H2 e2 ht => q2 rfl dd H2 (sb_of e2) ht
  obtain ⟨k, rfl⟩ : ∃ k, m = k + 1 := ⟨m - 1, by omega⟩
  have hk : ((k + 1 : Nat) : Int) - 1 = (k : Int) := by omega
  have argk : ∀ r : Addr, [V.ref r, V.int (((k + 1 : Nat) : Int) - 1)] = [V.ref r, V.int (k : Int)] := fun r => by rw [hk]
  have hg := rPart_ok (rSeq_ok k)
  generalize hgg : rPart (rSeq k) = g at hg
  have eSeq : ∀ l, rSeq (k + 1) l = (g l).bind fun x => match x.2[1]? with
      | some o => if isOpC o = true then (rTail g o x.2.length x.2).bind (rEnd o x.1) else rAlone x.1 x.2
      | none => rAlone x.1 x.2 := fun l => by
    rw [← hgg]
    rfl
  refine ⟨_, rfl, r, dx, _, rfl, ha.1, rfl, _, rfl, _, _, rfl, rfl, r, dx, t, l, k, argk r, ha, hz, by omega, by omega, fun d l2 e2 v H1 e1 ha1 hv => ⟨(by show 1 ≤ sizeLine; decide), fun p hp => ?_⟩, fun e2 => ?_⟩
  rotate_left
  · refine q2 ?_
    have e2 : rPart (rSeq k) l = none := e2
    rw [eSeq, ← hgg, e2]
    rfl
  replace e2 : rPart (rSeq k) l = some (d, l2) := e2
  rw [hgg] at e2
  obtain ⟨k1, k2, k3⟩ := hg l d l2 (by omega) e2
  have eS : rSeq (k + 1) l = match l2[1]? with
      | some o => if isOpC o = true then (rTail g o l2.length l2).bind (rEnd o d) else rAlone d l2
      | none => rAlone d l2 := by
    rw [eSeq, e2]
    rfl
  have hpr : r ≠ p := fun e => by
    rw [← e, ha1.1] at hp
    cases hp
  have e3 := same_new hp (.lst [v])
  have eB := e1.tr (sb_of e3)
  have ha2 := ha1.b e3
  have hv2 := hv.up (Same.T e3)
  have hp2 : upd H1 p (.lst [v]) p = some (.lst [v]) := upd_same
  have hpH : H p = none := by
    cases q : H p with
    | none => rfl
    | some u =>
      have := e1 p u (fun z => hpr z.symm) q
      rw [hp] at this
      cases this
  generalize upd H1 p (.lst [v]) = H2 at eB ha2 hv2 hp2 ⊢
  refine ⟨_, rfl, r, _, dx, _, _, rfl, ha2.1, T.k_Reader, T.n_Reader_text, rfl, ?_⟩
  refine ⟨_, rfl, r, _, dx, _, _, rfl, ha2.1, T.k_Reader, T.n_Reader_at, rfl, _, _, rfl, rfl, _, rfl, ?_⟩
  refine ⟨_, rfl, r, _, dx, _, _, rfl, ha2.1, T.k_Reader, T.n_Reader_at, rfl, _, _, rfl, rfl, _, rfl, t, rfl, Nat.le_trans hz (by decide), ?_⟩
  rw [cut_b ha2.2]
  refine ⟨_, rfl, (by show 2 ≤ sizeLine; decide), fun q hq => ⟨q, _, rfl, .inr (SqT.of upd_same), rfl, by decide +kernel, _, rfl, ?_⟩⟩
  have e4 := same_new hq (.tup [.str ("&" : Str), .str ("|" : Str)])
  replace eB := eB.tr (sb_of e4)
  have ha3 := ha2.b e4
  have hv3 := hv2.up (Same.T e4)
  have hp3 := e4 _ _ hp2
  generalize upd H2 q (.tup [.str ("&" : Str), .str ("|" : Str)]) = H3 at eB ha3 hv3 hp3 ⊢
  have alone : ∀ {H4 : Hp} {l4 : List Nat}, SameB r H H4 → Tp K H4 v d → RdAt K H4 r dx t l4 → rSeq (k + 1) l = rAlone d l4 → spAlone K [V.ref r, v] H4 Q E := fun {H4 l4} a1 a2 a3 a4 =>
    ⟨r, v, d, rfl, a2.dp, k3.ok, fun h H' e => q1 d l4 (a4.trans (if_pos h)) v H' (a1.tr (sb_of e)) (a3.b e) (a2.up (Same.T e)), fun h => (q2 (a4.trans (if_neg (by rw [h]; decide)))).b a1⟩
  have alone1 : rSeq (k + 1) l = rAlone d l2 → spAlone K [V.ref r, v] H3 Q E := alone eB hv3 ha3
  cases ho : l2[1]? with
  | none =>
    have ez : (l2.drop 1).take 1 = [] := by
      rw [List.drop_eq_nil_of_le (List.getElem?_eq_none_iff.mp ho)]
      rfl
    rw [ez]
    rw [ho] at eS
    refine if_eqb (b := true) (by rw [if_pos rfl]; exact congrArg Bool.not inOps0) (fun h1 => ?_) (fun h1 => ?_)
    · exact ⟨_, rfl, r, dx, _, rfl, ha3.1, rfl, _, rfl, p, _, _, _, rfl, rfl, SqL.of hp3, at0, alone1 eS⟩
    · cases h1
  | some o =>
    have ez : (l2.drop 1).take 1 = [o] := by
      match l2, ho with
      | _ :: o' :: _, ho =>
        cases ho
        rfl
    rw [ez]
    rw [ho] at eS
    have eS : rSeq (k + 1) l = if isOpC o = true then (rTail g o l2.length l2).bind (rEnd o d) else rAlone d l2 := eS
    refine if_eqb (b := !isOpC o) (by rw [if_pos rfl]; exact congrArg Bool.not (inOps o)) (fun h1 => ?_) (fun h1 => ?_)
    · have h1 : isOpC o = false := by
        cases q : isOpC o with
        | true =>
          rw [q] at h1
          cases h1
        | false => rfl
      rw [if_neg (by rw [h1]; decide)] at eS
      exact ⟨_, rfl, r, dx, _, rfl, ha3.1, rfl, _, rfl, p, _, _, _, rfl, rfl, SqL.of hp3, at0, alone1 eS⟩
    have h1 : isOpC o = true := by
      cases q : isOpC o with
      | true => rfl
      | false =>
        rw [q] at h1
        cases h1
    rw [if_pos h1] at eS
    let w3 : Str := Str.empty ++ (" " : Str) ++ ⟨#[o]⟩ ++ (" " : Str)
    have hw3 : w3.cps.toList = [32, o, 32] := by
      show ((Str.empty ++ (" " : Str)).cps ++ #[o] ++ (" " : Str).cps).toList = _
      rw [show (Str.empty ++ (" " : Str)).cps = #[32] by decide +kernel, show (" " : Str).cps = #[32] by decide +kernel]
      rfl
    have hw3l : w3.length = 3 := congrArg List.length hw3
    have hop := opC_nice h1
    refine ⟨fun mm σ' H' => ∃ (vs : List V) (ds : List PyData) (l' : List Nat) (kf : Nat), σ' = [some (.ref r), some (.int ((k + 1 : Nat) : Int)), some (.ref p), some (.str ⟨#[o]⟩)] ∧ H' p = some (.lst (v :: vs)) ∧ TpAll K H' (v :: vs) (d :: ds) ∧ RdAt K H' r dx t l' ∧ l'.length ≤ kf ∧ mm = l'.length ∧
      rTail g o l2.length l2 = (rTail g o kf l').map (fun y => (ds ++ y.1, y.2)) ∧ SameB r H H' ∧ vs.length + l'.length ≤ 10000, ⟨_, [], [], l2, l2.length, rfl, hp3, .cons hv3 .nil, ha3, Nat.le_refl _, rfl, ?_, eB, by simp only [List.length_nil]; omega⟩, ?_⟩
    · cases rTail g o l2.length l2 <;> rfl
    rintro mm σ' H' ⟨vs, ds, l', kf, rfl, hp', ht', ha', hkf, rfl, eT, eB', hsz⟩
    have hl't := rest_len ha'.2
    have hB : ∀ {n : Nat}, n ≤ 10000 → n ≤ sizeLine := fun h => Nat.le_trans h (by decide)
    refine ⟨_, rfl, r, dx, _, rfl, ha'.1, rfl, " ", rfl, by decide +kernel, _, rfl, .inl ⟨⟨#[o]⟩, rfl, by show 1 ≤ sizeLine; decide, ⟨#[o]⟩, rfl, ?_, " ", rfl, ?_, r, dx, t, w3, l', rfl, ha', by omega, _, rfl, ?_⟩⟩
    · rw [app_len]
      have h2 : (Str.empty ++ (" " : Str)).length = 1 := by decide +kernel
      have h3 : (⟨#[o]⟩ : Str).length = 1 := rfl
      exact hB (by omega)
    · show w3.length ≤ _
      exact hB (by omega)
    rw [hw3, hw3l]
    refine if_dec (fun h2 => ?_) (fun h2 => ?_)
    · -- another part
      obtain ⟨l5, rfl⟩ : ∃ l5, l' = 32 :: o :: 32 :: l5 := ⟨l'.drop 3, (List.take_append_drop 3 l').symm.trans (by rw [h2] <;> rfl)⟩
      simp only [List.length_cons] at hkf hsz hl't
      obtain ⟨j, rfl⟩ : ∃ j, kf = j + 1 := ⟨kf - 1, by omega⟩
      rw [rTail_more] at eT
      refine ⟨_, fun _ _ h => h, ?_⟩
      refine ⟨_, rfl, r, _, dx, _, _, rfl, ha'.1, T.k_Reader, T.n_Reader_at, rfl, _, _, rfl, rfl, dx, _, ha'.1, (by decide : 2 < 1000), ?_⟩
      rw [put_at]
      have hs5 : l5 <:+ t.cps.toList := (List.suffix_append [32, o, 32] l5).trans ha'.2
      have e5 : SameB r H' (upd H' r (.ins (He.ga K "Reader") dx [("text", .str t), ("at", .int (((t.length - (32 :: o :: 32 :: l5).length : Nat) : Int) + 3))])) := sb_upd
      have ha5 := RdAt.upd (K := K) (H := H') (r := r) (dx := dx) (t := t) (i := ((t.length - (32 :: o :: 32 :: l5).length : Nat) : Int) + 3) hs5 (by simp only [List.length_cons]; omega)
      generalize upd H' r (.ins (He.ga K "Reader") dx [("text", .str t), ("at", .int (((t.length - (32 :: o :: 32 :: l5).length : Nat) : Int) + 3))]) = H5 at e5 ha5 ⊢
      have hp5 := e5 _ _ (fun z => hpr z.symm) hp'
      have ht5 := ht'.up (sameT_i ha'.1 e5)
      refine ⟨_, rfl, .inl ⟨rfl, _, SqL.of hp5⟩, ?_⟩
      refine ⟨_, rfl, r, dx, _, rfl, ha5.1, rfl, _, rfl, _, _, rfl, rfl, r, dx, t, l5, k, argk r, ha5, hz, by omega, by omega, fun d6 l6 e6 v6 H6 e6' ha6 hv6 => ?_, fun e6 => ?_⟩
      · replace e6 : rPart (rSeq k) l5 = some (d6, l6) := e6
        rw [hgg] at e6
        obtain ⟨k4, k5, k6⟩ := hg l5 d6 l6 (by omega) e6
        have hp6 := e6' _ _ (fun z => hpr z.symm) hp5
        have ht6 := ht5.up (sameT_i ha5.1 e6')
        refine ⟨p, _, _, rfl, rfl, hp6, ?_, ?_⟩
        · rw [List.length_cons]
          exact Nat.lt_of_le_of_lt (show vs.length + 1 ≤ 10001 by omega) (by decide)
        have eU : SameT H6 (upd H6 p (.lst (v :: vs ++ [v6]))) := (SameT.refl H6).updL hp6
        refine ⟨l6.length, by simp only [List.length_cons]; omega, vs ++ [v6], ds ++ [d6], l6, j, rfl, upd_same, ?_, ⟨?_, ha6.2⟩, by omega, rfl, ?_, ?_, ?_⟩
        · exact (tpa_snoc hv6 ht6).up eU
        · rw [upd_ne hpr]
          exact ha6.1
        · rw [eT, e6]
          show ((rTail g o j l6).map _).map _ = _
          cases rTail g o j l6 with
          | none => rfl
          | some y =>
            show some (ds ++ (d6 :: y.1), y.2) = some (ds ++ [d6] ++ y.1, y.2)
            rw [List.append_assoc] <;> rfl
        · exact fun b u n hb => by
            rw [upd_ne (fun z => by rw [z, hpH] at hb; cases hb)]
            exact e6' b u n (e5 b u n (eB' b u n hb))
        · rw [List.length_append, List.length_singleton]
          omega
      · replace e6 : rPart (rSeq k) l5 = none := e6
        rw [hgg] at e6
        refine (q2 ?_).b (eB'.tr e5)
        rw [eS, eT, e6]
        rfl
    · -- the end
      rw [rTail_end h2] at eT
      have eS2 : rSeq (k + 1) l = rEnd o d (ds, l') := by
        rw [eS, eT]
        show rEnd o d (ds ++ [], l') = _
        rw [List.append_nil]
      have hlen := ht'.len
      refine ⟨_, rfl, _, (v :: vs).length, rfl, .inl ⟨_, SqL.of hp', rfl⟩, rfl, _, rfl, ?_⟩
      refine if_int (fun h3 => ?_) (fun h3 => ?_)
      · have : vs = [] := List.length_eq_zero_iff.mp (by rw [List.length_cons] at h3; omega)
        subst this
        have : ds = [] := List.length_eq_zero_iff.mp (by simp only [List.length_cons, List.length_nil] at hlen; omega)
        subst this
        cases ht' with
        | cons hv4 _ => exact ⟨_, rfl, r, dx, _, rfl, ha'.1, rfl, _, rfl, p, _, _, _, rfl, rfl, SqL.of hp', at0, alone eB' hv4 ha' eS2⟩
      · cases ds with
        | nil =>
          exfalso
          simp only [List.length_cons, List.length_nil] at hlen h3
          omega
        | cons a as =>
          refine ⟨_, rfl, _, rfl, p, _, rfl, .inr (SqL.of hp'), ?_, fun q hq => ?_⟩
          · rw [List.append_nil]
            simp only [List.length_cons]
            exact Nat.le_trans (show vs.length + 1 + 1 ≤ 10002 by omega) (by decide)
          rw [List.append_nil]
          have e7 := same_new hq (.tup (V.str ⟨#[o]⟩ :: v :: vs))
          exact q1 _ l' eS2 _ _ (eB'.tr (sb_of e7)) (ha'.b e7) (.tup (.inl upd_same) (.cons (.str _) (ht'.up (Same.T e7))))
end
section
variable {P : Program} {w : World} {K : PySem.W.Frag} {mg : Str → Option Value} {base : Heap}
def spParse (K : PySem.W.Frag) : Sp := fun vs H Q E => ∃ t : Str, vs = [.str t] ∧ t.length ≤ 10000 ∧ (∀ d, parseD t = some d → ∀ v H', Same H H' → Tp K H' v d → Q v H') ∧
  (parseD t = none → ∀ dd H', Same H H' → Thr ("InvalidText" : Str) dd H' → E (.ref (He.ga K "InvalidText")) dd H')
theorem fn_parse_term {f fT : Addr} {fd fdT : FuncData} (F : FunD K "parse_term" "parse_term" (defArgs s_parse_term) (defBody s_parse_term) (defScope s_parse_term) [] [] f fd) (T : Top K mg)
    (M_Reader : MakeD P w K mg base "Reader" 1 ["self", "text"] (fun vs H Q _ => ∃ (r dx : Addr) (t : Str), vs = [.ref r, .str t] ∧ H r = some (.ins (He.ga K "Reader") dx []) ∧ ∀ H', SameB r H H' → RdAt K H' r dx t t.cps.toList → Q .non H'))
    (FT0 : FunD K "is_term" "is_term" (defArgs s_is_term) (defBody s_is_term) (defScope s_is_term) [] [("max_depth", .int 5), ("max_size", .int 24)] fT fdT) (hmT : mg "is_term" = some (.ref fT)) (FT : FnOk P w K mg base CX0 13 fT fdT ["value", "max_depth", "max_size"] (spIsTerm K))
    (D_Reader_sequence : MethX P w K mg base "Reader" "sequence" 16 ["self", "max_depth"] (spRd K rSeq 6)) (x_InvalidText : RaiseD P w K mg base "InvalidText" "FaultError" 2 "InvalidText") : FnOk P w K mg base (L2.CX P w) 17 f fd ["text"] (spParse K) := by
  obtain ⟨da, va, ba⟩ := bind_a FT0
  refine FunD.ok F sc_parse_term (fun vs H Q E h => ?_) (fun cdv A outer s0 H vs Q E hr h => ?_)
  · obtain ⟨t, rfl, _⟩ := h
    rfl
  have tk : Takes (cxOf (L2.CX P w) P w K mg base ["text", "reader", "found"] "parse_term" (defScope s_parse_term) f cdv A outer s0 H E) fun cls d _ H => E cls d H := takes_of rfl rfl rfl rfl
  obtain ⟨t, rfl, hz, q1, q2⟩ := h
  refine ⟨_, (pss_cons (ps_set (i := 1) sc_parse_term.nd rfl (Or.inl rfl) (pe_mkd M_Reader hr (by first | decide | omega) (pa_cons (pv 0) pa_nil)))
  (pss_cons (ps_set (i := 2) sc_parse_term.nd rfl (Or.inl rfl) (pe_methx (E := E) D_Reader_sequence tk (fun _ _ _ _ h => h) hr (by first | decide | omega) (pv 1) (pa_cons (pe_gi T.g_MAX_DEPTH) pa_nil)))
  (pss_cons (ps_if (PW.pt (pw_or (pt_cmpR op_lt (pe_fld (pv 1) rfl) (pe_callB (call_lenK K) (by rfl) T.b_len (by decide +kernel) (pa_cons (pv 0) pa_nil)) (nomark _)) (pw_or1 (pt_not (pt_val (pe_call FT (hr.mono (by decide)) rfl hmT FT0.kp ba va pass0 (pa_cons (pv 2) pa_nil)))))))
  (pss_one (ps_raise rfl tk (pmk_raise x_InvalidText hr (by first | decide | omega))))
  pss_nil)
  (pss_one (ps_ret (pv 2)))))), ?_⟩
  refine ⟨_, rfl, fun r dx hr0 hdx hne => ⟨r, dx, t, rfl, upd_same, fun H1 e0 ha => ⟨rfl, ?_⟩⟩⟩
  have e1 : Same H H1 := fun b u hb => by
    have b1 := ne_of_none hb hr0
    refine e0 b u b1 ?_
    rw [upd_ne b1, upd_ne (ne_of_none hb hdx)]
    exact hb
  have off : ∀ {H2 : Hp}, SameB r H1 H2 → Same H H2 := fun {H2} e b u hb => e b u (ne_of_none hb hr0) (e1 b u hb)
  refine ⟨_, rfl, r, dx, _, rfl, ha.1, rfl, r, dx, t, t.cps.toList, 5, rfl, ha, hz, by decide, by decide, fun d l e v H2 e2 ha2 hv => ?_, fun e => ?_⟩
  · obtain ⟨k1, k2, k3⟩ := rSeq_ok 5 _ d l hz e
    have ep : parseD t = endD d l := by
      unfold parseD
      rw [e]
      rfl
    have hlen : t.cps.toList.length = t.length := rfl
    refine ⟨_, rfl, r, _, dx, _, _, rfl, ha2.1, T.k_Reader, T.n_Reader_at, rfl, _, rfl, _, t.length, rfl, ⟨Nat.le_trans hz (by decide), rfl⟩, _, _, rfl, rfl, _, rfl, ?_⟩
    refine if_dec (fun h1 => ?_) (fun h1 => ?_)
    · refine fun dd H3 e3 ht => q2 ?_ dd H3 ((off e2).trans e3) ht
      cases l with
      | nil =>
        exfalso
        rw [List.length_nil, Nat.sub_zero] at h1
        omega
      | cons c l => exact ep
    have hl0 : l = [] := by
      cases l with
      | nil => rfl
      | cons c l =>
        exfalso
        rw [List.length_cons] at h1 k1
        omega
    subst hl0
    refine ⟨_, rfl, v, d, 5, 24, rfl, hv.dp, k3.ok, by decide, fun H3 e3 => ⟨_, rfl, ?_⟩⟩
    have o3 := (off e2).trans e3
    refine if_nb (fun h2 => ?_) (fun h2 => ?_)
    · have h2 : inB (meas 5 d) 24 = false := h2
      exact fun dd H4 e4 ht => q2 (ep.trans (if_neg (by rw [h2]; decide))) dd H4 (o3.trans e4) ht
    · exact ⟨_, rfl, q1 d (ep.trans (if_pos h2)) v H3 o3 (hv.up (Same.T e3))⟩
  · refine fun dd H2 e2 ht => q2 ?_ dd H2 (off e2) ht
    unfold parseD
    rw [e]
    rfl
end
end FF
/-! the reader reads what the law writes -/
namespace FF
open PySem PySem.Spec PyProof.Rows L2
abbrev tl (z : Str) : List Nat := z.cps.toList
theorem tl_app (a b : Str) : tl (a ++ b) = tl a ++ tl b := by
  show (a.cps ++ b.cps).toList = _
  rw [Array.toList_append]
def tailL (o : Nat) (ps : List (List Nat)) : List Nat := ps.flatMap fun p => 32 :: o :: 32 :: p
theorem join_tl {o : Nat} {sep : Str} (hs : tl sep = [32, o, 32]) : ∀ (x : Str) (r : List Str), tl (Str.join sep (x :: r)) = tl x ++ tailL o (r.map tl)
  | x, [] => by
    show tl x = tl x ++ []
    rw [List.append_nil]
  | x, y :: r => by
    show tl (x ++ sep ++ Str.join sep (y :: r)) = _
    rw [tl_app, tl_app, hs, join_tl hs y r]
    show tl x ++ [32, o, 32] ++ (tl y ++ tailL o (r.map tl)) = tl x ++ ((32 :: o :: 32 :: tl y) ++ tailL o (r.map tl))
    rw [List.append_assoc] <;> rfl
theorem op_sign {o : Str} (h : isOp (.str o) = true) : ∃ c, o = ⟨#[c]⟩ ∧ isOpC c = true := by
  rcases op_shape h with h | h
  · exact ⟨38, (PyData.str.inj h).trans (by decide +kernel), by decide⟩
  · exact ⟨124, (PyData.str.inj h).trans (by decide +kernel), by decide⟩
theorem sep_tl {c : Nat} : tl ((" " : Str) ++ ⟨#[c]⟩ ++ (" " : Str)) = [32, c, 32] := by
  rw [tl_app, tl_app, show tl (" " : Str) = [32] by decide +kernel] <;> rfl
def Stop (l : List Nat) : Prop := l = [] ∨ ∃ r, l = 41 :: r
theorem part_let {f : RdF} {z : Str} (h : isLet (.str z) = true) (rest : List Nat) : rPart f (tl z ++ rest) = some (.str z, rest) := by
  obtain ⟨c, e, hc⟩ := let_shape h
  rw [PyData.str.inj e]
  exact if_pos hc
theorem text_tup {n c : Nat} {p : PyData} {ps : List PyData} : tl (textD (n + 1) (.tuple (.str ⟨#[c]⟩ :: p :: ps))) = tl (partT (textD n) p) ++ tailL c (ps.map fun q => tl (partT (textD n) q)) := by
  show tl (Txt.join ((" " : Str) ++ ⟨#[c]⟩ ++ " ") ((p :: ps).map (partT (textD n)))) = _
  rw [TL.join_eq, List.map_cons, join_tl sep_tl, List.map_map] <;> rfl
theorem par_tl (x : Str) : tl (("(" : Str) ++ x ++ ")") = 40 :: (tl x ++ [41]) := by
  rw [tl_app, tl_app, show tl ("(" : Str) = [40] by decide +kernel, show tl (")" : Str) = [41] by decide +kernel] <;> rfl
theorem rTail_all {g : RdF} {o : Nat} {f : PyData → List Nat} {rest : List Nat} (hr : Stop rest) : ∀ (ps : List PyData) (k : Nat), (∀ p ∈ ps, ∀ r, g (f p ++ r) = some (p, r)) → ps.length ≤ k → rTail g o k (tailL o (ps.map f) ++ rest) = some (ps, rest)
  | [], k, _, _ => by
    refine rTail_end ?_
    rcases hr with rfl | ⟨r, rfl⟩
    · exact fun z => by cases z
    · exact fun z => by
        have := List.head_eq_of_cons_eq z
        cases this
  | p :: ps, k, h, hk => by
    obtain ⟨j, rfl⟩ : ∃ j, k = j + 1 := ⟨k - 1, by rw [List.length_cons] at hk; omega⟩
    show rTail g o (j + 1) ((32 :: o :: 32 :: f p) ++ tailL o (ps.map f) ++ rest) = _
    rw [show (32 :: o :: 32 :: f p) ++ tailL o (ps.map f) ++ rest = 32 :: o :: 32 :: (f p ++ (tailL o (ps.map f) ++ rest)) by rw [List.append_assoc] <;> rfl]
    rw [rTail_more, h p List.mem_cons_self]
    show ((rTail g o j (tailL o (ps.map f) ++ rest)).map fun y => (p :: y.1, y.2)) = _
    rw [rTail_all hr ps j (fun q hq => h q (List.mem_cons_of_mem _ hq)) (by rw [List.length_cons] at hk; omega)] <;> rfl
theorem tail_len {o : Nat} : ∀ (ps : List (List Nat)), ps.length ≤ (tailL o ps).length
  | [] => Nat.le_refl _
  | p :: ps => by
    have := tail_len (o := o) ps
    show ps.length + 1 ≤ ((32 :: o :: 32 :: p) ++ tailL o ps).length
    rw [List.length_append, List.length_cons]
    omega
theorem read_seq : ∀ {n : Nat} {d : PyData}, Drawn n d → isTup d = true → ∀ rest, Stop rest → rSeq (n + 1) (tl (textD (n + 1) d) ++ rest) = some (d, rest) := by
  intro n
  induction n with
  | zero =>
    intro d h ht
    rcases drawn_shape h with ⟨z, rfl, _⟩ | ⟨_, _, _, _, _, _, _, e, _⟩
    · cases ht
    · cases e
  | succ n ih =>
    intro d h ht rest hr
    rcases drawn_shape h with ⟨z, rfl, _⟩ | ⟨o, ps, k, rfl, ho, l2, l4, e, hp⟩
    · cases ht
    cases e
    obtain ⟨c, rfl, hc⟩ := op_sign ho
    have part : ∀ p ∈ ps, ∀ r, rPart (rSeq (n + 1)) (tl (partT (textD (n + 1)) p) ++ r) = some (p, r) := fun p hpp r => by
      rcases drawn_shape (hp p hpp) with ⟨z, rfl, hz⟩ | ⟨o2, ps2, _, rfl, _⟩
      · exact part_let hz r
      · show rPart (rSeq (n + 1)) (tl (("(" : Str) ++ textD (n + 1) (.tuple (.str o2 :: ps2)) ++ ")") ++ r) = _
        rw [par_tl]
        show rPart (rSeq (n + 1)) (40 :: ((tl (textD (n + 1) (.tuple (.str o2 :: ps2))) ++ [41]) ++ r)) = _
        rw [List.append_assoc, rPart_paren, ih (hp _ hpp) rfl ([41] ++ r) (.inr ⟨r, rfl⟩)]
        rfl
    match ps, l2, part with
    | p :: q :: ps, _, part =>
    rw [text_tup, List.append_assoc]
    show (rPart (rSeq (n + 1)) (tl (partT (textD (n + 1)) p) ++ (tailL c ((q :: ps).map fun q => tl (partT (textD (n + 1)) q)) ++ rest))).bind _ = _
    rw [part p List.mem_cons_self]
    show (match (tailL c ((q :: ps).map fun q => tl (partT (textD (n + 1)) q)) ++ rest)[1]? with
      | some o => if isOpC o = true then (rTail (rPart (rSeq (n + 1))) o (tailL c ((q :: ps).map fun q => tl (partT (textD (n + 1)) q)) ++ rest).length (tailL c ((q :: ps).map fun q => tl (partT (textD (n + 1)) q)) ++ rest)).bind (rEnd o p) else rAlone p (tailL c ((q :: ps).map fun q => tl (partT (textD (n + 1)) q)) ++ rest)
      | none => rAlone p (tailL c ((q :: ps).map fun q => tl (partT (textD (n + 1)) q)) ++ rest)) = _
    have e1 : (tailL c ((q :: ps).map fun q => tl (partT (textD (n + 1)) q)) ++ rest)[1]? = some c := rfl
    rw [e1]
    show (if isOpC c = true then _ else _) = _
    rw [if_pos hc, rTail_all hr (q :: ps) _ (fun x hx => part x (List.mem_cons_of_mem _ hx)) ?_]
    · rfl
    · rw [List.length_append]
      have := tail_len (o := c) ((q :: ps).map fun q => tl (partT (textD (n + 1)) q))
      rw [List.length_map] at this
      omega
theorem parse_text {d : PyData} (h : Drawn 4 d) (hm : inB (meas 5 d) 24 = true) : parseD (textD 5 d) = some d := by
  unfold parseD
  have e : rSeq 5 (tl (textD 5 d)) = some (d, []) := by
    rcases drawn_shape h with ⟨z, rfl, hz⟩ | ⟨o, ps, k, rfl, _⟩
    · show (rPart (rSeq 4) (tl z)).bind _ = _
      have := part_let (f := rSeq 4) hz []
      rw [List.append_nil] at this
      rw [this]
      exact if_pos hz
    · have := read_seq h rfl [] (.inl rfl)
      rw [List.append_nil] at this
      exact this
  rw [e]
  exact if_pos hm
end FF
/-! the law's reader: what it computes, on lists of signs; it answers as the reader of the program -/
namespace FF
open PySem PySem.Spec PyProof.Rows L2
theorem meas_nonneg : ∀ (n : Nat) (d : PyData), 0 ≤ meas n d
  | 0, _ => Int.le_refl 0
  | n + 1, d => by
    show 0 ≤ (if isLet d = true then (1 : Int) else if n = 0 then 0 else measP (meas n) d)
    split
    · decide
    · split
      · exact Int.le_refl 0
      · match d with
        | .tuple (x :: y :: z :: r) =>
          show 0 ≤ (if isOp x = true then (if (0 : Int) ∈ ((y :: z :: r).map (meas n)) then 0 else ((y :: z :: r).map (meas n)).sum) else 0)
          split
          · split
            · exact Int.le_refl 0
            · generalize y :: z :: r = l
              induction l with
              | nil => exact Int.le_refl 0
              | cons a t ih =>
                rw [List.map_cons, List.sum_cons]
                have := meas_nonneg n a
                omega
          · exact Int.le_refl 0
        | .tuple [] => exact Int.le_refl 0
        | .tuple [_] => exact Int.le_refl 0
        | .tuple [_, _] => exact Int.le_refl 0
        | .none | .bool _ | .int _ | .str _ | .list _ | .dict _ => exact Int.le_refl 0
theorem pos_le {f : PyData → Int} : ∀ {ps : List PyData}, (∀ p ∈ ps, 1 ≤ f p) → (ps.length : Int) ≤ (ps.map f).sum ∧ ∀ p ∈ ps, f p ≤ (ps.map f).sum
  | [], _ => ⟨by simp, fun p h => by cases h⟩
  | p :: r, h => by
    have h1 := h p List.mem_cons_self
    obtain ⟨h2, h3⟩ := pos_le (f := f) (ps := r) fun q hq => h q (List.mem_cons_of_mem _ hq)
    rw [List.map_cons, List.sum_cons, List.length_cons]
    refine ⟨by omega, fun q hq => ?_⟩
    rcases List.mem_cons.mp hq with rfl | hq
    · omega
    · have := h3 q hq
      omega
theorem word_of : ∀ (n : Nat) (d : PyData), 1 ≤ meas (n + 1) d → meas (n + 1) d ≤ 24 → Drawn n d := by
  intro n
  induction n with
  | zero =>
    intro d h1 _
    show isLet d = true
    cases h : isLet d with
    | true => rfl
    | false =>
      rw [meas_low h (by omega)] at h1
      omega
  | succ n ih =>
    intro d h1 h2
    cases h : isLet d with
    | true => exact .inl h
    | false =>
      rw [meas_up h (by omega)] at h1 h2
      match d, h1, h2 with
      | .tuple (o :: y :: z :: r), h1, h2 =>
        have e : measP (meas (n + 1)) (.tuple (o :: y :: z :: r)) = if isOp o = true then (if (0 : Int) ∈ ((y :: z :: r).map (meas (n + 1))) then 0 else ((y :: z :: r).map (meas (n + 1))).sum) else 0 := rfl
        rw [e] at h1 h2
        cases ho : isOp o with
        | false =>
          rw [ho, if_neg (by decide)] at h1
          omega
        | true =>
          rw [ho, if_pos rfl] at h1 h2
          by_cases h0 : (0 : Int) ∈ ((y :: z :: r).map (meas (n + 1)))
          · rw [if_pos h0] at h1
            omega
          rw [if_neg h0] at h1 h2
          have hp : ∀ p ∈ y :: z :: r, 1 ≤ meas (n + 1) p := fun p hp => by
            have := meas_nonneg (n + 1) p
            have : meas (n + 1) p ≠ 0 := fun e => h0 (List.mem_map.mpr ⟨p, hp, e⟩)
            omega
          obtain ⟨h3, h4⟩ := pos_le hp
          refine .inr ⟨o, y :: z :: r, rfl, ho, by simp, by omega, fun p hpp => ih p (hp p hpp) (by have := h4 p hpp; omega)⟩
      | .tuple [], h1, _ => exact absurd h1 (by show ¬ (1 : Int) ≤ 0; decide)
      | .tuple [_], h1, _ => exact absurd h1 (by show ¬ (1 : Int) ≤ 0; decide)
      | .tuple [_, _], h1, _ => exact absurd h1 (by show ¬ (1 : Int) ≤ 0; decide)
      | .str _, h1, _ => exact absurd h1 (by show ¬ (1 : Int) ≤ 0; decide)
theorem tl_inj {a b : Str} (h : tl a = tl b) : a = b := by
  obtain ⟨⟨x⟩⟩ := a
  obtain ⟨⟨y⟩⟩ := b
  have h : x = y := h
  rw [h]
def sepB (l : List Nat) : Bool := l.take 3 == [32, 38, 32] || l.take 3 == [32, 124, 32]
theorem sep_shape {l : List Nat} (h : sepB l = true) : ∃ o r, l = 32 :: o :: 32 :: r ∧ isOpC o = true := by
  have aux : ∀ o, l.take 3 = [32, o, 32] → l = 32 :: o :: 32 :: l.drop 3 := fun o e => by
    have := List.take_append_drop 3 l
    rw [e] at this
    exact this.symm
  rcases (Bool.or_eq_true _ _).mp h with h | h
  · exact ⟨38, _, aux 38 (eq_of_beq h), rfl⟩
  · exact ⟨124, _, aux 124 (eq_of_beq h), rfl⟩
theorem sep_op {o : Nat} {r : List Nat} (h : isOpC o = true) : sepB (32 :: o :: 32 :: r) = true := by
  rcases (Bool.or_eq_true _ _).mp h with h | h
  · rw [eq_of_beq h] <;> rfl
  · rw [eq_of_beq h] <;> rfl
theorem sep_off {c : Nat} {r : List Nat} (h : c ≠ 32) : sepB (c :: r) = false := by
  cases e : sepB (c :: r) with
  | false => rfl
  | true =>
    obtain ⟨o, r2, e2, _⟩ := sep_shape e
    exact absurd (List.cons.inj e2).1 h
def lrGo (lev : Nat) (done : List (List Nat)) (cur sg : List Nat) : List Nat → Option (Nat × List (List Nat) × List Nat)
  | [] => some (lev, done ++ [cur], sg)
  | c :: r => if (lev == 0 && sepB (c :: r)) = true then lrGo 0 (done ++ [cur]) [] (sg ++ [r.headD 0]) (r.drop 2)
    else if c = 41 then (if lev = 0 then none else lrGo (lev - 1) done (cur ++ [c]) sg r)
    else lrGo (if c = 40 then lev + 1 else lev) done (cur ++ [c]) sg r
termination_by l => l.length
def letD (l : List Nat) : Option PyData := if isLet (.str ⟨l.toArray⟩) = true then some (.str ⟨l.toArray⟩) else none
def optD : Option PyData → PyData
  | some d => d
  | none => .none
def lrPiece (f : List Nat → Option PyData) (l : List Nat) : Option PyData :=
  if l.length = 1 then f l else if l.take 1 = [40] ∧ l.drop (l.length - 1) = [41] ∧ 4 ≤ l.length then f ((l.drop 1).take (l.length - 2)) else none
def lrEnd (f : List Nat → Option PyData) (x : Nat × List (List Nat) × List Nat) : Option PyData :=
  if 0 < x.1 ∨ x.2.1.length < 2 ∨ x.2.2 ≠ List.replicate x.2.2.length (x.2.2.headD 0) then none
  else if (x.2.1.any fun p => (f p).isNone) = true then none else some (.tuple (.str ⟨#[x.2.2.headD 0]⟩ :: x.2.1.map fun p => optD (f p)))
def lrTerm : Nat → List Nat → Option PyData
  | 0, l => if l.length = 1 then letD l else none
  | n + 1, l => if l.length = 1 then letD l else if n = 0 then none else (lrGo 0 [] [] [] l).bind (lrEnd (lrPiece (lrTerm n)))
def lawD (t : Str) : Option PyData := (lrTerm 5 (tl t)).bind fun d => if meas 5 d ≤ 24 then some d else none
/-! ### what it finds is the text -/
def glue (done : List (List Nat)) (sg : List Nat) : List Nat := (List.zipWith (fun p s => p ++ [32, s, 32]) done sg).flatten
theorem glue_snoc {done : List (List Nat)} {sg : List Nat} {p : List Nat} {s : Nat} (h : done.length = sg.length) : glue (done ++ [p]) (sg ++ [s]) = glue done sg ++ (p ++ [32, s, 32]) := by
  unfold glue
  rw [List.zipWith_append h, List.flatten_append]
  simp
theorem lrGo_sound {lev2 : Nat} {ps : List (List Nat)} {sg2 : List Nat} : ∀ (n : Nat) (l : List Nat) (lev : Nat) (done : List (List Nat)) (cur sg : List Nat), l.length ≤ n → done.length = sg.length → (∀ s ∈ sg, isOpC s = true) →
    lrGo lev done cur sg l = some (lev2, ps, sg2) → ∃ d2 c2, ps = d2 ++ [c2] ∧ d2.length = sg2.length ∧ (∀ s ∈ sg2, isOpC s = true) ∧ glue done sg ++ (cur ++ l) = glue d2 sg2 ++ c2 ∧ sg2.length ≤ sg.length + l.length := by
  intro n
  induction n with
  | zero =>
    intro l lev done cur sg hn hl ho h
    have : l = [] := List.length_eq_zero_iff.mp (Nat.le_zero.mp hn)
    subst this
    rw [lrGo] at h
    cases h
    exact ⟨done, cur, rfl, hl, ho, by rw [List.append_nil], Nat.le_refl _⟩
  | succ n ih =>
    intro l lev done cur sg hn hl ho h
    cases l with
    | nil =>
      rw [lrGo] at h
      cases h
      exact ⟨done, cur, rfl, hl, ho, by rw [List.append_nil], Nat.le_refl _⟩
    | cons c r =>
      rw [lrGo] at h
      rw [List.length_cons] at hn
      split at h
      · rename_i hc
        rw [Bool.and_eq_true] at hc
        obtain ⟨o, r2, e, hop⟩ := sep_shape hc.2
        cases e
        have h : lrGo 0 (done ++ [cur]) [] (sg ++ [o]) r2 = some (lev2, ps, sg2) := h
        simp only [List.length_cons] at hn
        obtain ⟨d2, c2, q1, q2, q3, q4, q5⟩ := ih r2 0 (done ++ [cur]) [] (sg ++ [o]) (by omega) (by rw [List.length_append, List.length_append, hl] <;> rfl) (fun s hs => by
          rcases List.mem_append.mp hs with hs | hs
          · exact ho s hs
          · rw [List.mem_singleton.mp hs]
            exact hop) h
        refine ⟨d2, c2, q1, q2, q3, ?_, ?_⟩
        · rw [← q4, glue_snoc hl]
          simp
        · rw [List.length_append] at q5
          simp only [List.length_cons, List.length_nil] at q5 ⊢
          omega
      · have go : ∀ lev3, lrGo lev3 done (cur ++ [c]) sg r = some (lev2, ps, sg2) → ∃ d2 c2, ps = d2 ++ [c2] ∧ d2.length = sg2.length ∧ (∀ s ∈ sg2, isOpC s = true) ∧ glue done sg ++ (cur ++ c :: r) = glue d2 sg2 ++ c2 ∧ sg2.length ≤ sg.length + (c :: r).length := fun lev3 h => by
          obtain ⟨d2, c2, q1, q2, q3, q4, q5⟩ := ih r lev3 done (cur ++ [c]) sg (by omega) hl ho h
          refine ⟨d2, c2, q1, q2, q3, ?_, by rw [List.length_cons]; omega⟩
          rw [← q4]
          simp
        split at h
        · split at h
          · cases h
          · exact go _ h
        · exact go _ h
theorem glue_rep {c : Nat} : ∀ (ps : List (List Nat)) (p q : List Nat), glue (p :: ps) (List.replicate (ps.length + 1) c) ++ q = p ++ tailL c (ps ++ [q])
  | [], p, q => by simp [glue, tailL]
  | x :: ps, p, q => by
    have := glue_rep (c := c) ps x q
    rw [List.length_cons, List.replicate_succ]
    show (p ++ [32, c, 32]) ++ glue (x :: ps) (List.replicate (ps.length + 1) c) ++ q = _
    rw [List.append_assoc, this]
    simp [tailL]
/-- like Drawn, of any number of parts -/
def Wide : Nat → PyData → Prop
  | 0, d => isLet d = true
  | n + 1, d => isLet d = true ∨ ∃ o ps, d = .tuple (.str ⟨#[o]⟩ :: ps) ∧ isOpC o = true ∧ 2 ≤ ps.length ∧ ps.length ≤ 10001 ∧ ∀ p ∈ ps, Wide n p
theorem wide_let : ∀ {n : Nat} {d : PyData}, isLet d = true → Wide n d
  | 0, _, h => h
  | _ + 1, _, h => .inl h
theorem letD_some {l : List Nat} {d : PyData} (h : letD l = some d) : isLet d = true ∧ d = .str ⟨l.toArray⟩ := by
  unfold letD at h
  split at h
  · cases h
    exact ⟨by assumption, rfl⟩
  · cases h
theorem let_text {n : Nat} {d : PyData} {l : List Nat} (e : d = .str ⟨l.toArray⟩) : l = tl (textD (n + 1) d) := by
  rw [e]
  rfl
theorem letB {c : Nat} (h : isLet (.str ⟨#[c]⟩) = true) : 97 ≤ c ∧ c ≤ 104 := by
  obtain ⟨x, e, hx⟩ := let_shape h
  cases e
  rw [lettersS_val] at hx
  simp only [List.mem_cons, List.not_mem_nil, or_false] at hx
  omega
theorem tup_off {ps : List PyData} {n : Nat} : partT (textD n) (.tuple ps) = ("(" : Str) ++ textD n (.tuple ps) ++ ")" := rfl
theorem lrPiece_sound {n : Nat} {l : List Nat} {d : PyData} (f : List Nat → Option PyData) (hl : l.length ≤ 10000) (hf : ∀ l d, l.length ≤ 10000 → f l = some d → Wide n d ∧ l = tl (textD (n + 1) d) ∧ (l.length ≠ 1 → isTup d = true)) (h : lrPiece f l = some d) : Wide n d ∧ l = tl (partT (textD (n + 1)) d) := by
  unfold lrPiece at h
  split at h
  · rename_i h1
    obtain ⟨w1, w2, _⟩ := hf _ _ hl h
    refine ⟨w1, ?_⟩
    cases d with
    | str z => exact w2
    | tuple ps =>
      exfalso
      match n, w1 with
      | 0, w1 => cases w1
      | n + 1, .inl w1 => cases w1
      | n + 1, .inr ⟨o, ps, e, _, h2, _⟩ =>
        cases e
        match ps, h2 with
        | p :: q :: ps, _ =>
        rw [text_tup] at w2
        rw [w2] at h1
        rw [List.length_append] at h1
        have : (tailL o ((q :: ps).map fun q => tl (partT (textD (n + 1)) q))).length = 1 + 1 + 1 + ((tl (partT (textD (n + 1)) q)).length + (tailL o (ps.map fun q => tl (partT (textD (n + 1)) q))).length) := by
          show ((32 :: o :: 32 :: tl (partT (textD (n + 1)) q)) ++ tailL o (ps.map fun q => tl (partT (textD (n + 1)) q))).length = _
          rw [List.length_append]
          simp only [List.length_cons]
          omega
        omega
    | _ => exact absurd w1 (by
        cases n with
        | zero => exact fun z => by cases z
        | succ n =>
          rintro (z | ⟨_, _, z, _⟩)
          · cases z
          · cases z)
  · rename_i h1
    split at h
    · rename_i h2
      obtain ⟨h3, h4, h5⟩ := h2
      obtain ⟨w1, w2, w3⟩ := hf _ _ (by rw [List.length_take, List.length_drop]; omega) h
      have ht := w3 (by rw [List.length_take, List.length_drop]; omega)
      refine ⟨w1, ?_⟩
      cases d with
      | tuple ps =>
        rw [tup_off, par_tl, ← w2]
        match l, h3, h4, h5 with
        | c :: r, h3, h4, h5 =>
          cases h3
          show 40 :: r = 40 :: (r.take (r.length + 1 - 2) ++ [41])
          congr 1
          have e1 : r.drop (r.length - 1) = [41] := by
            have : (40 :: r).drop (r.length + 1 - 1) = [41] := h4
            rw [List.length_cons] at h5
            rw [show r.length + 1 - 1 = (r.length - 1) + 1 by omega] at this
            exact this
          rw [← e1, show r.length + 1 - 2 = r.length - 1 by omega, List.take_append_drop]
      | _ => cases ht
    · cases h
theorem lrTerm_sound : ∀ (n : Nat) (l : List Nat) (d : PyData), l.length ≤ 10000 → lrTerm (n + 1) l = some d → Wide n d ∧ l = tl (textD (n + 1) d) ∧ (l.length ≠ 1 → isTup d = true) := by
  intro n
  induction n with
  | zero =>
    intro l d hl h
    unfold lrTerm at h
    split at h
    · rename_i h1
      obtain ⟨a, b⟩ := letD_some h
      exact ⟨wide_let a, let_text b, fun z => absurd h1 z⟩
    · cases h
  | succ n ih =>
    intro l d hl h
    unfold lrTerm at h
    split at h
    · rename_i h1
      obtain ⟨a, b⟩ := letD_some h
      exact ⟨wide_let a, let_text b, fun z => absurd h1 z⟩
    · rw [if_neg (by omega)] at h
      cases hg : lrGo 0 [] [] [] l with
      | none =>
        rw [hg] at h
        cases h
      | some x =>
        obtain ⟨lev, ps, sg⟩ := x
        rw [hg] at h
        have h : lrEnd (lrPiece (lrTerm (n + 1))) (lev, ps, sg) = some d := h
        unfold lrEnd at h
        split at h
        · cases h
        · rename_i hno
          have hno : ¬ (0 < lev ∨ ps.length < 2 ∨ sg ≠ List.replicate sg.length (sg.headD 0)) := hno
          split at h
          · cases h
          · rename_i han
            have han : ¬ (ps.any fun p => (lrPiece (lrTerm (n + 1)) p).isNone) = true := han
            cases h
            obtain ⟨d2, c2, q1, q2, q3, q4, q5⟩ := lrGo_sound l.length l 0 [] [] [] (Nat.le_refl _) rfl (fun s hs => by cases hs) hg
            have hl2 : ¬ ps.length < 2 := fun z => hno (.inr (.inl z))
            have hsg : sg = List.replicate sg.length (sg.headD 0) := Decidable.byContradiction fun z => hno (.inr (.inr z))
            generalize hc : sg.headD 0 = c at hsg ⊢
            subst q1
            rw [List.length_append] at hl2
            match d2, q2, hl2, q4 with
            | [], q2, hl2, _ => exact absurd (show 0 + 1 < 2 by decide) hl2
            | p :: d3, q2, hl2, q4 =>
            rw [List.length_cons] at q2
            have hop : isOpC c = true := q3 c (by rw [hsg, ← q2, List.replicate_succ]; exact List.mem_cons_self)
            have et : l = p ++ tailL c (d3 ++ [c2]) := by
              rw [← glue_rep, q2, ← hsg]
              exact q4
            have lens : ∀ z ∈ p :: d3 ++ [c2], z.length ≤ 10000 := fun z hz => by
              have hin : ∀ (ps : List (List Nat)), z ∈ ps → z.length ≤ (tailL c ps).length := by
                intro ps
                induction ps with
                | nil => exact fun z => by cases z
                | cons y ys ih2 =>
                  intro hz
                  have e1 : (tailL c (y :: ys)).length = y.length + 3 + (tailL c ys).length := by
                    show ((32 :: c :: 32 :: y) ++ tailL c ys).length = _
                    rw [List.length_append]
                    simp only [List.length_cons]
                  rcases List.mem_cons.mp hz with rfl | hz
                  · omega
                  · have := ih2 hz
                    omega
              have e2 : l.length = p.length + (tailL c (d3 ++ [c2])).length := by
                rw [et, List.length_append]
              rcases List.mem_cons.mp (show z ∈ p :: (d3 ++ [c2]) from hz) with rfl | hz
              · omega
              · have := hin _ hz
                omega
            have parts : ∀ z ∈ p :: d3 ++ [c2], Wide n (optD (lrPiece (lrTerm (n + 1)) z)) ∧ z = tl (partT (textD (n + 1)) (optD (lrPiece (lrTerm (n + 1)) z))) := fun z hz => by
              cases hq : lrPiece (lrTerm (n + 1)) z with
              | none => exact absurd (List.any_eq_true.mpr ⟨z, hz, by rw [hq] <;> rfl⟩) han
              | some y => exact lrPiece_sound _ (lens z hz) (fun l d h1 h2 => ih l d h1 h2) hq
            refine ⟨.inr ⟨c, _, rfl, hop, by simp, ?_, fun y hy => ?_⟩, ?_, fun _ => rfl⟩
            · rw [List.length_map, List.length_append]
              simp only [List.length_cons, List.length_nil] at q5 q2 ⊢
              omega
            · obtain ⟨z, hz, rfl⟩ := List.mem_map.mp hy
              exact (parts z hz).1
            · show l = tl (textD (n + 1 + 1) (.tuple (.str ⟨#[c]⟩ :: optD (lrPiece (lrTerm (n + 1)) p) :: (d3 ++ [c2]).map fun p => optD (lrPiece (lrTerm (n + 1)) p))))
              have em : ((d3 ++ [c2]).map fun z => tl (partT (textD (n + 1)) (optD (lrPiece (lrTerm (n + 1)) z)))) = d3 ++ [c2] := (List.map_congr_left (g := id) fun z hz => ((parts z (List.mem_cons_of_mem _ hz)).2).symm).trans (List.map_id _)
              rw [text_tup, ← (parts p List.mem_cons_self).2, List.map_map]
              show l = p ++ tailL c ((d3 ++ [c2]).map fun z => tl (partT (textD (n + 1)) (optD (lrPiece (lrTerm (n + 1)) z))))
              rw [em]
              exact et
/-! ### it reads the texts of terms -/
def Eat (p : List Nat) : Prop := ∀ lev done cur sg rest, lrGo (lev + 1) done cur sg (p ++ rest) = lrGo (lev + 1) done (cur ++ p) sg rest
theorem off_lev {lev : Nat} {b : Bool} : ¬ ((lev + 1 == 0 && b) = true) := by simp
theorem eat_nil : Eat [] := fun lev done cur sg rest => by rw [List.append_nil] <;> rfl
theorem eat_app {p q : List Nat} (h1 : Eat p) (h2 : Eat q) : Eat (p ++ q) := fun lev done cur sg rest => by
  rw [List.append_assoc, h1, h2, List.append_assoc]
theorem eat_one {c : Nat} (h1 : c ≠ 40) (h2 : c ≠ 41) : Eat [c] := fun lev done cur sg rest => by
  show lrGo (lev + 1) done cur sg (c :: rest) = _
  rw [lrGo, if_neg off_lev, if_neg h2, if_neg h1]
theorem eat_par {p : List Nat} (h : Eat p) : Eat (40 :: (p ++ [41])) := fun lev done cur sg rest => by
  show lrGo (lev + 1) done cur sg (40 :: (p ++ [41] ++ rest)) = _
  rw [lrGo, if_neg off_lev, if_neg (by decide), if_pos rfl, List.append_assoc, h]
  show lrGo (lev + 1 + 1) done _ sg (41 :: rest) = _
  rw [lrGo, if_neg off_lev, if_pos rfl, if_neg (by omega)]
  simp
theorem eat_tail {c : Nat} (hc : isOpC c = true) : ∀ {ps : List (List Nat)}, (∀ p ∈ ps, Eat p) → Eat (tailL c ps)
  | [], _ => eat_nil
  | p :: ps, h => by
    have hne : c ≠ 40 ∧ c ≠ 41 := by
      rcases (Bool.or_eq_true _ _).mp hc with h | h
      · rw [eq_of_beq h]
        decide
      · rw [eq_of_beq h]
        decide
    show Eat (([32] ++ ([c] ++ ([32] ++ p))) ++ tailL c ps)
    exact eat_app (eat_app (eat_one (by decide) (by decide)) (eat_app (eat_one hne.1 hne.2) (eat_app (eat_one (by decide) (by decide)) (h p List.mem_cons_self)))) (eat_tail hc fun q hq => h q (List.mem_cons_of_mem _ hq))
theorem eat_text : ∀ {n : Nat} {d : PyData}, Drawn n d → Eat (tl (textD (n + 1) d)) ∧ Eat (tl (partT (textD (n + 1)) d)) := by
  intro n
  induction n with
  | zero =>
    intro d h
    obtain ⟨c, rfl, _⟩ := let_shape h
    have := letB h
    have : Eat [c] := eat_one (by omega) (by omega)
    exact ⟨this, this⟩
  | succ n ih =>
    intro d h
    rcases drawn_shape h with ⟨z, rfl, hz⟩ | ⟨o, ps, k, rfl, ho, l2, l4, e, hp⟩
    · obtain ⟨c, e, _⟩ := let_shape hz
      cases e
      have := letB hz
      have : Eat [c] := eat_one (by omega) (by omega)
      exact ⟨this, this⟩
    · cases e
      obtain ⟨c, rfl, hc⟩ := op_sign ho
      match ps, l2 with
      | p :: q :: ps, _ =>
      have t : Eat (tl (textD (n + 1 + 1) (.tuple (.str ⟨#[c]⟩ :: p :: q :: ps)))) := by
        rw [text_tup]
        refine eat_app (ih (hp p List.mem_cons_self)).2 (eat_tail hc fun x hx => ?_)
        obtain ⟨y, hy, rfl⟩ := List.mem_map.mp hx
        exact (ih (hp y (List.mem_cons_of_mem _ hy))).2
      refine ⟨t, ?_⟩
      rw [tup_off, par_tl]
      exact eat_par t
def Part (p : List Nat) : Prop := ∀ done cur sg rest, lrGo 0 done cur sg (p ++ rest) = lrGo 0 done (cur ++ p) sg rest
theorem part_text {n : Nat} {d : PyData} (h : Drawn n d) : Part (tl (partT (textD (n + 1)) d)) := by
  have lt : ∀ {z : Str}, isLet (.str z) = true → Part (tl z) := fun {z} hz done cur sg rest => by
    obtain ⟨c, e, _⟩ := let_shape hz
    cases e
    have := letB hz
    show lrGo 0 done cur sg (c :: rest) = lrGo 0 done (cur ++ [c]) sg rest
    rw [lrGo, if_neg (by rw [sep_off (by omega)]; decide), if_neg (by omega), if_neg (by omega)]
  rcases drawn_shape h with ⟨z, rfl, hz⟩ | ⟨o, ps, k, rfl, ho, l2, l4, e, hp⟩
  · exact lt hz
  · intro done cur sg rest
    rw [tup_off, par_tl]
    show lrGo 0 done cur sg (40 :: (tl _ ++ [41] ++ rest)) = _
    rw [lrGo, if_neg (by rw [sep_off (by decide)]; decide), if_neg (by decide), if_pos rfl, List.append_assoc, (eat_text h).1]
    show lrGo (0 + 1) done _ sg (41 :: rest) = _
    rw [lrGo, if_neg off_lev, if_pos rfl, if_neg (by omega)]
    simp
theorem go_tail {c : Nat} (hc : isOpC c = true) : ∀ (ps : List (List Nat)) (done : List (List Nat)) (cur sg : List Nat), (∀ p ∈ ps, Part p) → lrGo 0 done cur sg (tailL c ps) = some (0, done ++ cur :: ps, sg ++ List.replicate ps.length c)
  | [], done, cur, sg, _ => by
    show lrGo 0 done cur sg [] = _
    rw [lrGo]
    simp
  | p :: ps, done, cur, sg, h => by
    show lrGo 0 done cur sg (32 :: c :: 32 :: (p ++ tailL c ps)) = _
    rw [lrGo, if_pos (by rw [sep_op hc] <;> rfl)]
    show lrGo 0 (done ++ [cur]) [] (sg ++ [c]) (p ++ tailL c ps) = _
    rw [h p List.mem_cons_self, go_tail hc ps _ _ _ fun q hq => h q (List.mem_cons_of_mem _ hq)]
    rw [List.length_cons, List.replicate_succ]
    simp
theorem text_pos {n : Nat} {o : Str} {ps : List PyData} (h : Drawn n (.tuple (.str o :: ps))) : 3 ≤ (tl (textD (n + 1) (.tuple (.str o :: ps)))).length := by
  rcases drawn_shape h with ⟨z, e, _⟩ | ⟨o2, ps2, k, e, ho, l2, l4, e2, hp⟩
  · cases e
  cases e
  cases e2
  obtain ⟨c, rfl, hc⟩ := op_sign ho
  match ps, l2 with
  | p :: q :: ps, _ =>
  rw [text_tup, List.length_append]
  show 3 ≤ _ + ((32 :: c :: 32 :: tl (partT (textD (k + 1)) q)) ++ _).length
  rw [List.length_append]
  simp only [List.length_cons]
  omega
theorem lrTerm_text : ∀ {n : Nat} {d : PyData}, Drawn n d → lrTerm (n + 1) (tl (textD (n + 1) d)) = some d := by
  have lt : ∀ {n : Nat} {z : Str}, isLet (.str z) = true → lrTerm (n + 1) (tl z) = some (.str z) := fun {n z} hz => by
    obtain ⟨c, e, _⟩ := let_shape hz
    cases e
    exact (if_pos (show [c].length = 1 from rfl)).trans (if_pos hz)
  intro n
  induction n with
  | zero =>
    intro d h
    obtain ⟨c, rfl, _⟩ := let_shape h
    exact lt h
  | succ n ih =>
    intro d h
    rcases drawn_shape h with ⟨z, rfl, hz⟩ | ⟨o, ps, k, rfl, ho, l2, l4, e, hp⟩
    · exact lt hz
    · cases e
      have tp := text_pos h
      obtain ⟨c, rfl, hc⟩ := op_sign ho
      match ps, l2, l4, h, hp, tp with
      | p :: q :: ps, _, l4, h, hp, tp =>
      show (if (tl (textD (n + 1 + 1) (.tuple (.str ⟨#[c]⟩ :: p :: q :: ps)))).length = 1 then _ else if n + 1 = 0 then none else (lrGo 0 [] [] [] (tl (textD (n + 1 + 1) (.tuple (.str ⟨#[c]⟩ :: p :: q :: ps))))).bind (lrEnd (lrPiece (lrTerm (n + 1))))) = _
      rw [if_neg (by omega), if_neg (by omega), text_tup, part_text (hp p List.mem_cons_self), go_tail hc _ _ _ _ fun x hx => by
        obtain ⟨y, hy, rfl⟩ := List.mem_map.mp hx
        exact part_text (hp y (List.mem_cons_of_mem _ hy))]
      have pc : ∀ y ∈ p :: q :: ps, lrPiece (lrTerm (n + 1)) (tl (partT (textD (n + 1)) y)) = some y := fun y hy => by
        rcases drawn_shape (hp y hy) with ⟨z, rfl, hz⟩ | ⟨o2, ps2, _, rfl, _⟩
        · obtain ⟨x, e, _⟩ := let_shape hz
          cases e
          exact (if_pos (show [x].length = 1 from rfl)).trans (lt hz)
        · rw [tup_off, par_tl]
          have tp2 := text_pos (hp _ hy)
          generalize hw : tl (textD (n + 1) (.tuple (.str o2 :: ps2))) = w at tp2
          unfold lrPiece
          have len : (40 :: (w ++ [41])).length = w.length + 2 := by
            rw [List.length_cons, List.length_append] <;> rfl
          rw [if_neg (by omega), len, if_pos ⟨rfl, by
            show (40 :: (w ++ [41])).drop (w.length + 1) = [41]
            rw [List.drop_succ_cons]
            exact List.drop_left, by omega⟩]
          show lrTerm (n + 1) ((w ++ [41]).take w.length) = _
          rw [List.take_left, ← hw]
          exact ih (hp _ hy)
      show lrEnd (lrPiece (lrTerm (n + 1))) (0, [] ++ ([] ++ tl (partT (textD (n + 1)) p)) :: ((q :: ps).map fun q => tl (partT (textD (n + 1)) q)), [] ++ List.replicate ((q :: ps).map fun q => tl (partT (textD (n + 1)) q)).length c) = _
      rw [List.nil_append, List.nil_append, List.nil_append]
      have e1 : tl (partT (textD (n + 1)) p) :: ((q :: ps).map fun q => tl (partT (textD (n + 1)) q)) = (p :: q :: ps).map fun q => tl (partT (textD (n + 1)) q) := rfl
      rw [e1]
      unfold lrEnd
      rw [if_neg (by
        rintro (z | z | z)
        · exact Nat.lt_irrefl 0 z
        · rw [List.length_map] at z
          simp only [List.length_cons] at z
          omega
        · refine z ?_
          show List.replicate _ c = List.replicate (List.replicate _ c).length ((List.replicate _ c).headD 0)
          rw [List.length_replicate, List.length_map, List.length_cons, List.replicate_succ] <;> rfl), if_neg (by
        intro z
        obtain ⟨x, hx, hx2⟩ := List.any_eq_true.mp z
        obtain ⟨y, hy, rfl⟩ := List.mem_map.mp hx
        rw [pc y hy] at hx2
        cases hx2)]
      have em : ((p :: q :: ps).map fun z => optD (lrPiece (lrTerm (n + 1)) (tl (partT (textD (n + 1)) z)))) = p :: q :: ps := (List.map_congr_left (g := id) fun z hz => by
        show optD (lrPiece (lrTerm (n + 1)) (tl (partT (textD (n + 1)) z))) = z
        rw [pc z hz] <;> rfl).trans (List.map_id _)
      show some (PyData.tuple (.str ⟨#[(List.replicate (List.map (fun q => tl (partT (textD (n + 1)) q)) (q :: ps)).length c).headD 0]⟩ :: (List.map (fun q => tl (partT (textD (n + 1)) q)) (p :: q :: ps)).map fun p => optD (lrPiece (lrTerm (n + 1)) p))) = _
      rw [List.map_map, List.length_map, List.length_cons, List.replicate_succ]
      show some (PyData.tuple (.str ⟨#[c]⟩ :: (p :: q :: ps).map fun z => optD (lrPiece (lrTerm (n + 1)) (tl (partT (textD (n + 1)) z))))) = _
      rw [em]
/-! ### what the program's reader finds is the text -/
theorem rPart_sound {f : RdF} {n : Nat} (hf : ∀ l d r, f l = some (d, r) → l = tl (textD n d) ++ r ∧ (isLet d = true ∨ isTup d = true)) : ∀ l d r, rPart f l = some (d, r) → l = tl (partT (textD n) d) ++ r ∧ (isLet d = true ∨ isTup d = true) := by
  intro l d r h
  cases l with
  | nil => cases h
  | cons c l =>
    by_cases hc : c ∈ lettersS.cps.toList
    · have e : rPart f (c :: l) = some (.str ⟨#[c]⟩, l) := if_pos hc
      rw [e] at h
      cases h
      refine ⟨rfl, .inl ?_⟩
      show decide (c ∈ lettersS.cps.toList) = true
      exact decide_eq_true hc
    · by_cases h4 : c = 40
      · subst h4
        rw [rPart_paren] at h
        split at h
        · rename_i d2 r2 hf2
          split at h
          · cases h
          · rename_i hlet
            cases h
            obtain ⟨a, b⟩ := hf _ _ _ hf2
            rcases b with b | b
            · exact absurd b hlet
            refine ⟨?_, .inr b⟩
            cases d with
            | tuple ps =>
              rw [tup_off, par_tl, a]
              simp
            | _ => cases b
        · cases h
      · rw [rPart_off (by
          show decide (c ∈ lettersS.cps.toList) = false
          exact decide_eq_false hc) (fun l2 e => h4 (List.cons.inj e).1)] at h
        cases h
theorem rTail_sound {g : RdF} {o : Nat} {f : PyData → List Nat} (hg : ∀ l d r, g l = some (d, r) → l = f d ++ r) : ∀ (k : Nat) (l : List Nat) (ds : List PyData) (r : List Nat), rTail g o k l = some (ds, r) → l = tailL o (ds.map f) ++ r := by
  intro k
  induction k with
  | zero =>
    intro l ds r h
    cases h
    rfl
  | succ k ih =>
    intro l ds r h
    by_cases e : l.take 3 = [32, o, 32]
    · have e2 : l = 32 :: o :: 32 :: l.drop 3 := by
        have := List.take_append_drop 3 l
        rw [e] at this
        exact this.symm
      rw [e2, rTail_more] at h
      cases hq : g (l.drop 3) with
      | none =>
        rw [hq] at h
        cases h
      | some x =>
        obtain ⟨d, r2⟩ := x
        rw [hq] at h
        have h : (rTail g o k r2).map (fun y => (d :: y.1, y.2)) = some (ds, r) := h
        cases hq2 : rTail g o k r2 with
        | none =>
          rw [hq2] at h
          cases h
        | some y =>
          obtain ⟨ds2, r3⟩ := y
          rw [hq2] at h
          cases h
          rw [e2, hg _ _ _ hq, ih _ _ _ hq2]
          simp [tailL]
    · rw [rTail_end e] at h
      cases h
      rfl
theorem rSeq_sound : ∀ (n : Nat) (l : List Nat) (d : PyData) (r : List Nat), rSeq n l = some (d, r) → l = tl (textD n d) ++ r ∧ (isLet d = true ∨ isTup d = true) := by
  intro n
  induction n with
  | zero =>
    intro l d r h
    cases h
  | succ n ih =>
    intro l d r h
    have h : (rPart (rSeq n) l).bind (fun x => match x.2[1]? with
      | some o => if isOpC o = true then (rTail (rPart (rSeq n)) o x.2.length x.2).bind (rEnd o x.1) else rAlone x.1 x.2
      | none => rAlone x.1 x.2) = some (d, r) := h
    cases q : rPart (rSeq n) l with
    | none =>
      rw [q] at h
      cases h
    | some x =>
      obtain ⟨d1, r1⟩ := x
      rw [q] at h
      obtain ⟨e1, _⟩ := rPart_sound ih _ _ _ q
      have al : ∀ {r2 : List Nat}, l = tl (partT (textD n) d1) ++ r2 → rAlone d1 r2 = some (d, r) → l = tl (textD (n + 1) d) ++ r ∧ (isLet d = true ∨ isTup d = true) := fun {r2} e h => by
        unfold rAlone at h
        split at h
        · rename_i hl
          cases h
          obtain ⟨c, e2, _⟩ := let_shape hl
          rw [e, e2]
          exact ⟨rfl, .inl (e2 ▸ hl)⟩
        · cases h
      have h : (match r1[1]? with
        | some o => if isOpC o = true then (rTail (rPart (rSeq n)) o r1.length r1).bind (rEnd o d1) else rAlone d1 r1
        | none => rAlone d1 r1) = some (d, r) := h
      split at h
      · rename_i o ho
        split at h
        · cases q2 : rTail (rPart (rSeq n)) o r1.length r1 with
          | none =>
            rw [q2] at h
            cases h
          | some y =>
            obtain ⟨ds, r2⟩ := y
            rw [q2] at h
            have e2 := rTail_sound (f := fun d => tl (partT (textD n) d)) (fun l d r h => (rPart_sound ih l d r h).1) _ _ _ _ q2
            cases ds with
            | nil => exact al (by rw [e1, e2] <;> rfl) h
            | cons a as =>
              cases h
              refine ⟨?_, .inr rfl⟩
              rw [text_tup, e1, e2]
              simp
        · exact al e1 h
      · exact al e1 h
/-! ### both read alike -/
theorem wide_meas : ∀ {n : Nat} {d : PyData}, Wide n d → ∀ m, n < m → 1 ≤ meas m d := by
  intro n
  induction n with
  | zero =>
    intro d h m hm
    rw [meas_let (show isLet d = true from h), if_pos (by omega)]
    exact Int.le_refl _
  | succ n ih =>
    intro d h m hm
    rcases h with h | ⟨o, ps, rfl, ho, h2, h4, hp⟩
    · rw [meas_let h, if_pos (by omega)]
      exact Int.le_refl _
    · obtain ⟨k, rfl⟩ : ∃ k, m = k + 1 := ⟨m - 1, by omega⟩
      rw [meas_up tup_let (by omega)]
      have hs := pos_le (f := meas k) (ps := ps) fun p hpp => ih (hp p hpp) k (by omega)
      have hop : isOp (.str ⟨#[o]⟩) = true := by
        rcases (Bool.or_eq_true _ _).mp ho with h | h
        · rw [eq_of_beq h]
          decide +kernel
        · rw [eq_of_beq h]
          decide +kernel
      have h0 : (0 : Int) ∉ ps.map (meas k) := fun z => by
        obtain ⟨p, hpp, e⟩ := List.mem_map.mp z
        have := ih (hp p hpp) k (by omega)
        omega
      match ps, h2, h0, hs with
      | y :: z :: r, h2, h0, hs =>
        show 1 ≤ (if isOp (.str ⟨#[o]⟩) = true then (if (0 : Int) ∈ ((y :: z :: r).map (meas k)) then 0 else ((y :: z :: r).map (meas k)).sum) else 0)
        rw [if_pos hop, if_neg h0]
        have := hs.1
        simp only [List.length_cons] at this
        omega
theorem wide_sum {k o : Nat} {ps : List PyData} (ho : isOpC o = true) (h2 : 2 ≤ ps.length) (hp : ∀ p ∈ ps, Wide k p) : meas (k + 2) (.tuple (.str ⟨#[o]⟩ :: ps)) = (ps.map (meas (k + 1))).sum := by
  rw [meas_up tup_let (by omega)]
  have hop : isOp (.str ⟨#[o]⟩) = true := by
    rcases (Bool.or_eq_true _ _).mp ho with h | h
    · rw [eq_of_beq h]
      decide +kernel
    · rw [eq_of_beq h]
      decide +kernel
  have h0 : (0 : Int) ∉ ps.map (meas (k + 1)) := fun z => by
    obtain ⟨p, hpp, e⟩ := List.mem_map.mp z
    have := wide_meas (hp p hpp) (k + 1) (by omega)
    omega
  match ps, h2, h0 with
  | y :: z :: r, h2, h0 =>
    show (if isOp (.str ⟨#[o]⟩) = true then (if (0 : Int) ∈ ((y :: z :: r).map (meas (k + 1))) then 0 else ((y :: z :: r).map (meas (k + 1))).sum) else 0) = _
    rw [if_pos hop, if_neg h0]
theorem reads_alike {t : Str} (ht : t.length ≤ 10000) : lawD t = parseD t := by
  have fwd : ∀ d, parseD t = some d → lawD t = some d := fun d h => by
    have h : (rSeq 5 (tl t)).bind (fun x => endD x.1 x.2) = some d := h
    cases q : rSeq 5 (tl t) with
    | none =>
      rw [q] at h
      cases h
    | some x =>
      obtain ⟨d1, r1⟩ := x
      rw [q] at h
      cases r1 with
      | cons a b => cases h
      | nil =>
        have h : (if inB (meas 5 d1) 24 = true then some d1 else none) = some d := h
        split at h
        · rename_i hi
          cases h
          have hi : (decide (1 ≤ meas 5 d) && decide (meas 5 d ≤ 24)) = true := hi
          rw [Bool.and_eq_true, decide_eq_true_eq, decide_eq_true_eq] at hi
          have hd : Drawn 4 d := word_of 4 d hi.1 hi.2
          obtain ⟨a, _⟩ := rSeq_sound _ _ _ _ q
          rw [List.append_nil] at a
          unfold lawD
          rw [a, lrTerm_text hd]
          exact if_pos hi.2
        · cases h
  cases hp : parseD t with
  | some d => exact fwd d hp
  | none =>
    cases hl : lawD t with
    | none => rfl
    | some d =>
      exfalso
      unfold lawD at hl
      cases q : lrTerm 5 (tl t) with
      | none =>
        rw [q] at hl
        cases hl
      | some d1 =>
        rw [q] at hl
        have hl : (if meas 5 d1 ≤ 24 then some d1 else none) = some d := hl
        split at hl
        · rename_i h24
          cases hl
          obtain ⟨w1, w2, _⟩ := lrTerm_sound 4 _ _ ht q
          have h1 := wide_meas w1 5 (by decide)
          have hd : Drawn 4 d := word_of 4 d h1 h24
          rw [tl_inj w2, parse_text hd (by
            show (decide (1 ≤ meas 5 d) && decide (meas 5 d ≤ 24)) = true
            rw [decide_eq_true h1, decide_eq_true h24] <;> rfl)] at hp
          cases hp
        · cases hl
end FF
/-! the law's reader, walked: the leaves -/
namespace FF
open PySem PySem.Spec PyProof.Rows L2
def spLeaves (K : PySem.W.Frag) (n : Nat) : Sp := fun vs H Q _ => ∃ (v : V) (d : PyData) (m : Nat), vs = [v] ∧ Tp K H v d ∧ Wide m d ∧ m < n ∧ ∀ H', Same H H' → Q (.int (meas (m + 1) d)) H'
theorem wide_shape {m : Nat} {d : PyData} (h : Wide m d) : (∃ z, d = .str z ∧ isLet d = true) ∨ ∃ o ps k, d = .tuple (.str ⟨#[o]⟩ :: ps) ∧ isOpC o = true ∧ 2 ≤ ps.length ∧ ps.length ≤ 10001 ∧ m = k + 1 ∧ ∀ p ∈ ps, Wide k p := by
  have lt : isLet d = true → ∃ z, d = .str z ∧ isLet d = true := fun hl => by
    cases d with
    | str z => exact ⟨z, rfl, hl⟩
    | _ => cases hl
  match m, h with
  | 0, h => exact .inl (lt h)
  | k + 1, .inl h => exact .inl (lt h)
  | k + 1, .inr ⟨o, ps, e, ho, h2, h4, hp⟩ => exact .inr ⟨o, ps, k, e, ho, h2, h4, rfl, hp⟩
section
variable {P : Program} {w : World} {K : PySem.W.Frag} {mg : Str → Option Value} {base : Heap}
theorem ok_leaves_step {n : Nat} {f : Addr} {fd : FuncData} (F : FunD K "_law_leaves" "_law_leaves" (defArgs s_law_leaves) (defBody s_law_leaves) (defScope s_law_leaves) [] [] f fd) (hm : mg "_law_leaves" = some (.ref f)) (T : Top K mg)
    (D_law_leaves : Def P w K mg base "_law_leaves" n ["_law_word"] (spLeaves K n)) : Def P w K mg base "_law_leaves" (n + 1) ["_law_word"] (spLeaves K (n + 1)) := by
  refine def_mk F hm (F.bindsN fun _ _ _ _ _ _ us hl => match us, hl with | [_], _ => rfl) sc_law_leaves (fun vs H Q E h => ?_) (fun cdv A outer s H vs Q E hr h => ?_)
  · obtain ⟨v, d, m, rfl, _⟩ := h
    rfl
  obtain ⟨v, d, m, rfl, hd, hw, hmn, q⟩ := h
  refine ⟨_, (pss_one (ps_ret (pe_ifExp (pt_val (pe_callB (call_isK K kb_str) (by rfl) T.b_isinstance (by decide +kernel) (pa_cons (pv 0) (pa_cons (pe_bltn (v := .ty "str") (by rfl) T.b_str (by decide +kernel) rfl) pa_nil)))) pe_int (pe_callB (cr_sumK K rfl) (by rfl) T.b_sum (by decide +kernel) (pa_cons (pe_lc (own := [("_law_one", 1)]) rfl sc_law_leaves.nd (pi_tupK K (pe_slice (sl_tupK K) (pv 0) (po_some pe_int) po_none)) (blkOk_by (by kernel_rfl)) (fun _ _ _ _ _ => (pg_name (i := 1) sc_law_leaves.nd rfl (Or.inl rfl) (.inr rfl))) (fun _ _ _ _ _ => pts_nil) (fun _ _ _ _ _ => (pe_def D_law_leaves hr (by first | decide | omega) (pa_cons (pv 1) pa_nil)))) pa_nil))))), ?_⟩
  refine ⟨_, rfl, v, d, rfl, hd.dp, _, rfl, ?_⟩
  rcases wide_shape hw with ⟨z, rfl, hz⟩ | ⟨o, ps, k, rfl, ho, l2, l4, rfl, hps⟩
  · cases hd with
    | str z => exact iteT (qi (q H (Same.refl H)) (by rw [meas_let hz, if_pos (by omega)]))
  cases hd with
  | tup ht ha =>
  cases ha with
  | @cons vo vr _ _ hvo hvr =>
  rename_i a
  refine iteF ?_
  have lr := hvr.len
  refine ⟨_, rfl, _, rfl, a, _, rfl, ht.sqT, notWhole1, fun p hp0 => ⟨p, rfl, ⟨_, SqT.of upd_same⟩, fun D hD => ?_⟩⟩
  rw [cut1] at hD ⊢
  have e1 := same_new hp0 (.tup vr)
  refine lc_mapT (j := 1) (fun i u _ => ∃ d, ps[i]? = some d ∧ u = .int (meas (k + 1) d)) (fun _ _ _ _ _ h => h) hD (SqT.of upd_same) (le_line (by omega)) (fun _ => rfl) ?_ ?_
  · intro i x H2 hx e2 Q' k'
    obtain ⟨d, hd1, hd2⟩ := tpa_get hvr hx
    have hd3 := (hd2.up (Same.T e1)).up (Same.T e2)
    exact ⟨_, rfl, x, d, k, rfl, hd3, hps d (List.mem_of_getElem? hd1), by omega, fun H3 e3 => k' _ _ e3 ⟨d, hd1, rfl⟩⟩
  intro H2 ys e2 hD2 hl2 hy
  have hmap : ys = (ps.map (meas (k + 1))).map V.int := by
    rw [List.map_map]
    exact eq_map_of (hl2.trans lr) fun i u hu => hy i u hu
  subst hmap
  have q2 := q H2 (e1.trans e2)
  rw [wide_sum ho l2 hps] at q2
  exact ⟨D, _, rfl, SqL.of hD2, q2⟩
end
end FF
namespace FF
open PySem PySem.Spec PyProof.Rows L2
def spRT (K : PySem.W.Frag) (n : Nat) : Sp := fun vs H Q _ => ∃ (t : Str) (m : Nat), vs = [.str t, .int m] ∧ t.length ≤ 10000 ∧ m < n ∧ n ≤ 20 ∧ ∀ v H', Same H H' → Tp K H' v (optD (lrTerm m (tl t))) → Q v H'
def spRP (K : PySem.W.Frag) (n : Nat) : Sp := fun vs H Q _ => ∃ (t : Str) (m : Nat), vs = [.str t, .int m] ∧ t.length ≤ 10000 ∧ m < n ∧ n ≤ 20 ∧ ∀ v H', Same H H' → Tp K H' v (optD (lrPiece (lrTerm m) (tl t))) → Q v H'
theorem str_eq_iff {a : Str} {l m : List Nat} (ha : tl a = m) : ((⟨l.toArray⟩ : Str) = a) ↔ l = m := by
  constructor
  · intro e
    rw [← ha, ← e]
  · intro e
    exact tl_inj (e.trans ha.symm)
theorem cut_head {t : Str} : cutS t none (some 1) = ⟨((tl t).take 1).toArray⟩ := by
  show (⟨((tl t).drop 0 |>.take (HT.sIx t.length t.length (some ((1 : Nat) : Int)) - 0)).toArray⟩ : Str) = _
  rw [HT.sIx_nat, Nat.sub_zero, List.drop_zero]
  congr 2
  by_cases h : 1 ≤ t.length
  · rw [Nat.min_eq_left h]
  · have e : tl t = [] := List.eq_nil_of_length_eq_zero (by show t.length = 0; omega)
    rw [e, List.take_nil, List.take_nil]
theorem cut_last {t : Str} : cutS t (some (-1)) none = ⟨((tl t).drop ((tl t).length - 1)).toArray⟩ := by
  have e1 : HT.sIx t.length 0 (some (-1)) = t.length - 1 := by
    show (if (-1 : Int) < 0 then ((-1 : Int) + (t.length : Int)).toNat else min (-1 : Int).toNat t.length) = _
    rw [if_pos (by decide)]
    omega
  unfold cutS
  rw [e1]
  show (⟨(((tl t).drop ((tl t).length - 1)).take ((tl t).length - ((tl t).length - 1))).toArray⟩ : Str) = _
  rw [List.take_of_length_le (by rw [List.length_drop]; omega)]
theorem cut_mid {t : Str} (h : 4 ≤ t.length) : tl (cutS t (some 1) (some (-1))) = ((tl t).drop 1).take ((tl t).length - 2) := by
  have e1 : HT.sIx t.length t.length (some (-1)) = t.length - 1 := by
    show (if (-1 : Int) < 0 then ((-1 : Int) + (t.length : Int)).toNat else min (-1 : Int).toNat t.length) = _
    rw [if_pos (by decide)]
    omega
  have e2 : HT.sIx t.length 0 (some 1) = 1 := by
    show HT.sIx t.length 0 (some ((1 : Nat) : Int)) = 1
    rw [HT.sIx_nat, Nat.min_eq_left (by omega)]
  unfold cutS
  rw [e1, e2]
  show ((tl t).drop 1).take (t.length - 1 - 1) = _
  rw [show t.length - 1 - 1 = (tl t).length - 2 by show t.length - 1 - 1 = t.length - 2; omega]
theorem tl_lp : tl ("(" : Str) = [40] := by decide +kernel
theorem tl_rp : tl (")" : Str) = [41] := by decide +kernel
section
variable {P : Program} {w : World} {K : PySem.W.Frag} {mg : Str → Option Value} {base : Heap}
theorem ok_read_piece {n k : Nat} {f : Addr} {fd : FuncData} (F : FunD K "_law_read_piece" "_law_read_piece" (defArgs s_law_read_piece) (defBody s_law_read_piece) (defScope s_law_read_piece) [] [] f fd) (hm : mg "_law_read_piece" = some (.ref f)) (T : Top K mg)
    (D_law_read_term : Def P w K mg base "_law_read_term" k ["_law_mtext", "_law_deep"] (spRT K n)) : Def P w K mg base "_law_read_piece" (k + 1) ["_law_mtext", "_law_deep"] (spRP K n) := by
  refine def_mk F hm (F.bindsN fun _ _ _ _ _ _ us hl => match us, hl with | [_, _], _ => rfl) sc_law_read_piece (fun vs H Q E h => ?_) (fun cdv A outer s H vs Q E hr h => ?_)
  · obtain ⟨t, m, rfl, _⟩ := h
    rfl
  obtain ⟨t, m, rfl, ht, hmn, hn20, q⟩ := h
  refine ⟨_, (pss_cons (ps_if (pt_cmpR op_eq (pe_callB (call_lenK K) (by rfl) T.b_len (by decide +kernel) (pa_cons (pv 0) pa_nil)) pe_int (nomark _))
  (pss_one (ps_ret (pe_def D_law_read_term hr (by first | decide | omega) (pa_cons (pv 0) (pa_cons (pv 1) pa_nil)))))
  pss_nil)
  (pss_cons (ps_if (PW.pt (pw_or (pt_cmpR op_ne (pe_slice sl_str (pv 0) po_none (po_some pe_int)) pe_str (nomark _)) (pw_or (pt_cmpR op_ne (pe_slice sl_str (pv 0) (po_some (pe_un un_neg pe_int)) po_none) pe_str (nomark _)) (pw_or1 (pt_cmpR op_lt (pe_callB (call_lenK K) (by rfl) T.b_len (by decide +kernel) (pa_cons (pv 0) pa_nil)) pe_int (nomark _))))))
  (pss_one (ps_ret pe_non))
  pss_nil)
  (pss_one (ps_ret (pe_def D_law_read_term hr (by first | decide | omega) (pa_cons (pe_slice sl_str (pv 0) (po_some pe_int) (po_some (pe_un un_neg pe_int))) (pa_cons (pv 1) pa_nil))))))), ?_⟩
  have hL : t.length ≤ sizeLine := Nat.le_trans ht (by decide)
  have ln : (tl t).length = t.length := rfl
  refine ⟨_, rfl, _, t.length, rfl, ⟨hL, rfl⟩, rfl, _, rfl, ?_⟩
  refine if_int (fun h1 => ?_) (fun h1 => ?_)
  · refine ⟨_, rfl, _, rfl, t, m, rfl, ht, hmn, hn20, fun v H' e hv => q v H' e ?_⟩
    have : lrPiece (lrTerm m) (tl t) = lrTerm m (tl t) := if_pos (by omega)
    rw [this]
    exact hv
  refine ⟨_, rfl, _, rfl, t, rfl, hL, rfl, _, rfl, ?_⟩
  dsimp only
  rw [cut_head]
  have none1 : ¬ ((tl t).take 1 = [40] ∧ (tl t).drop ((tl t).length - 1) = [41] ∧ 4 ≤ (tl t).length) → Q .non H := fun hno => q .non H (Same.refl H) (by
    have : lrPiece (lrTerm m) (tl t) = none := (if_neg (by omega)).trans (if_neg hno)
    rw [this]
    exact .non)
  refine if_nb (fun h2 => ?_) (fun h2 => ?_)
  · exact none1 fun z => of_decide_eq_false h2 (congrArg V.str ((str_eq_iff tl_lp).mpr z.1))
  have h2 := (str_eq_iff tl_lp).mp (V.str.inj (of_decide_eq_true h2))
  refine ⟨_, rfl, _, rfl, _, rfl, t, rfl, hL, rfl, _, rfl, ?_⟩
  dsimp only
  rw [cut_last]
  refine if_nb (fun h3 => ?_) (fun h3 => ?_)
  · exact none1 fun z => of_decide_eq_false h3 (congrArg V.str ((str_eq_iff tl_rp).mpr z.2.1))
  have h3 := (str_eq_iff tl_rp).mp (V.str.inj (of_decide_eq_true h3))
  refine ⟨_, rfl, _, t.length, rfl, ⟨hL, rfl⟩, _, _, rfl, rfl, _, rfl, ?_⟩
  refine if_dec (fun h4 => ?_) (fun h4 => ?_)
  · exact none1 fun z => by omega
  have e5 : lrPiece (lrTerm m) (tl t) = lrTerm m (((tl t).drop 1).take ((tl t).length - 2)) := (if_neg (by omega)).trans (if_pos ⟨h2, h3, by omega⟩)
  refine ⟨_, rfl, _, rfl, _, rfl, _, rfl, t, rfl, hL, _, rfl, _, m, rfl, ?_, hmn, hn20, fun v H' e hv => q v H' e ?_⟩
  · show (tl (cutS t (some 1) (some (-1)))).length ≤ 10000
    rw [cut_mid (by omega), List.length_take, List.length_drop]
    omega
  · have hv : Tp K H' v (optD (lrTerm m (tl (cutS t (some 1) (some (-1)))))) := hv
    rw [cut_mid (by omega)] at hv
    rw [e5]
    exact hv
end
end FF
/-! the law's reader, walked: the term -/
namespace FF
open PySem PySem.Spec PyProof.Rows L2
theorem cut_n {t : Str} {l : List Nat} (h : l <:+ t.cps.toList) (k : Nat) : cutS t (some ((t.length - l.length : Nat) : Int)) (some (((t.length - l.length : Nat) : Int) + (k : Int))) = ⟨(l.take k).toArray⟩ := by
  have hl := rest_len h
  unfold cutS
  rw [show (((t.length - l.length : Nat) : Int) + (k : Int)) = ((t.length - l.length + k : Nat) : Int) by omega, HT.sIx_nat, HT.sIx_nat]
  congr 1
  have e := rest_eq h
  rw [show min (t.length - l.length) t.length = t.length - l.length by omega, e]
  by_cases hk : k ≤ l.length
  · rw [show min (t.length - l.length + k) t.length - (t.length - l.length) = k by omega]
  · rw [show min (t.length - l.length + k) t.length - (t.length - l.length) = l.length by omega, List.take_length, List.take_of_length_le (by omega)]
theorem inSep (l : List Nat) : inV (.str ⟨(l.take 3).toArray⟩) [.str (" & " : Str), .str (" | " : Str)] = sepB l := by
  have h1 : (" & " : Str) = ⟨#[32, 38, 32]⟩ := by decide +kernel
  have h2 : (" | " : Str) = ⟨#[32, 124, 32]⟩ := by decide +kernel
  rw [h1, h2]
  show ((⟨#[32, 38, 32]⟩ : Str) == ⟨(l.take 3).toArray⟩ || ((⟨#[32, 124, 32]⟩ : Str) == ⟨(l.take 3).toArray⟩ || false)) = (l.take 3 == [32, 38, 32] || l.take 3 == [32, 124, 32])
  have key : ∀ m : List Nat, ((⟨m.toArray⟩ : Str) == ⟨(l.take 3).toArray⟩) = (l.take 3 == m) := fun m => by
    by_cases e : l.take 3 = m
    · rw [e, beq_self_eq_true, beq_self_eq_true]
    · rw [beq_eq_false_iff_ne.mpr e, beq_eq_false_iff_ne.mpr fun z => e (by injection z with z; injection z with z; exact z.symm)]
  rw [show (#[32, 38, 32] : Array Nat) = [32, 38, 32].toArray from rfl, show (#[32, 124, 32] : Array Nat) = [32, 124, 32].toArray from rfl, key, key, Bool.or_false]
theorem lrTerm_one {l : List Nat} (h : l.length = 1) : ∀ m, lrTerm m l = letD l
  | 0 => if_pos h
  | _ + 1 => if_pos h
theorem lrTerm_low {l : List Nat} (h : l.length ≠ 1) : ∀ {m}, m < 2 → lrTerm m l = none
  | 0, _ => if_neg h
  | 1, _ => (if_neg h).trans (if_pos rfl)
theorem lrTerm_up {l : List Nat} (h : l.length ≠ 1) {k : Nat} : lrTerm (k + 2) l = (lrGo 0 [] [] [] l).bind (lrEnd (lrPiece (lrTerm (k + 1)))) := (if_neg h).trans (if_neg (by omega))
theorem none_back {H H1 : Hp} {p : Addr} (e : Same H H1) (h : H1 p = none) : H p = none := by
  cases q : H p with
  | none => rfl
  | some u =>
    have := e _ _ q
    rw [h] at this
    cases this
theorem and_two {t u : TT} {σ : L2.St} {H : Hp} {Q : Bool → Hp → Prop} (R : Hp → Prop) (b1 b2 : Bool) (hR : R H) (h1 : ∀ Q : Bool → Hp → Prop, Q b1 H → t σ H Q) (h2 : b1 = true → ∀ Q : Bool → Hp → Prop, (∀ H2, R H2 → Q b2 H2) → u σ H Q) (k : ∀ H2, R H2 → Q (b1 && b2) H2) : tAnd t u σ H Q := by
  refine h1 _ (if_b (fun e => h2 e _ fun H2 r => ?_) (fun e => ?_))
  · have := k H2 r
    rw [e] at this
    exact this
  · have := k H hR
    rw [e] at this
    exact this
theorem at_rest {t : Str} {l : List Nat} (h : l <:+ tl t) {k : Nat} {c : Nat} (e : l[k]? = some c) : atI (tl t) (((t.length - l.length : Nat) : Int) + (k : Int)) = some c := by
  rw [show (((t.length - l.length : Nat) : Int) + (k : Int)) = ((t.length - l.length + k : Nat) : Int) by omega]
  refine atI_nat ?_
  rw [← List.getElem?_drop, rest_eq h]
  exact e
theorem ix_last {n : Nat} : ixN (n + 1) (-1) = some n := by
  unfold ixN
  rw [if_neg (by decide), if_pos (by omega)]
  congr 1
  omega
theorem at_last {α : Type} (xs : List α) (x : α) : atI (xs ++ [x]) (-1) = some x := by
  unfold atI
  rw [List.length_append, show xs.length + [x].length = xs.length + 1 from rfl, ix_last]
  show (xs ++ [x])[xs.length]? = some x
  simp
theorem set_last {α : Type} (xs : List α) (x y : α) : (xs ++ [x]).set xs.length y = xs ++ [y] := by simp
theorem dec_sign {c k : Nat} {x : Str} (h : tl x = [k]) : decide (V.str ⟨#[c]⟩ = V.str x) = decide (c = k) := by
  have e : V.str ⟨#[c]⟩ = V.str x ↔ c = k := by
    constructor
    · intro z
      have : ([c] : List Nat) = [k] := by
        rw [← h, ← V.str.inj z]
      exact (List.cons.inj this).1
    · intro z
      rw [z]
      exact congrArg V.str (tl_inj (a := ⟨#[k]⟩) h.symm)
  by_cases q : c = k
  · rw [decide_eq_true q, decide_eq_true (e.mpr q)]
  · rw [decide_eq_false q, decide_eq_false fun z => q (e.mp z)]
abbrev sv (l : List Nat) : V := .str ⟨l.toArray⟩
theorem sv_app {a : List Nat} {c : Nat} : ((⟨a.toArray⟩ : Str) ++ ⟨#[c]⟩) = ⟨(a ++ [c]).toArray⟩ := tl_inj (by rw [tl_app])
def RTInv (t : Str) (m : Int) (p1 p2 : Addr) (H : Hp) (r : Nat) (σ : L2.St) (H' : Hp) : Prop := ∃ (l : List Nat) (lev : Nat) (done : List (List Nat)) (cur sg : List Nat) (o6 o7 : Option V), σ = [some (.str t), some (.int m), some (.int (lev : Int)), some (.int ((t.length - l.length : Nat) : Int)), some (.ref p1), some (.ref p2), o6, o7] ∧ l.length = r ∧ l <:+ tl t ∧
    Same H H' ∧ H' p1 = some (.lst ((done ++ [cur]).map sv)) ∧ H' p2 = some (.lst (sg.map fun c => sv [c])) ∧ done.length = sg.length ∧ cur.length + l.length ≤ t.length ∧ sg.length + l.length ≤ t.length ∧ (∀ z ∈ done, z.length ≤ t.length) ∧ lrGo lev done cur sg l = lrGo 0 [] [] [] (tl t)
theorem eqv_str {a b : Str} : PyData.eqv (.str a) (.str b) = decide (a = b) := by
  simp only [PyData.eqv]
  exact Bool.eq_iff_iff.mpr ⟨fun h => decide_eq_true (eq_of_beq h), fun h => by rw [of_decide_eq_true h]; exact beq_self_eq_true b⟩
theorem eqv_signs : ∀ {as bs : List Nat}, PyData.eqv (.list (as.map fun c => .str ⟨#[c]⟩)) (.list (bs.map fun c => .str ⟨#[c]⟩)) = decide (as = bs)
  | [], [] => by simp [PyData.eqv, PyData.eqvAll]
  | [], b :: bs => by simp [PyData.eqv, PyData.eqvAll]
  | a :: as, [] => by simp [PyData.eqv, PyData.eqvAll]
  | a :: as, b :: bs => by
    have ih := eqv_signs (as := as) (bs := bs)
    have h1 : PyData.eqv (.list ((a :: as).map fun c => .str ⟨#[c]⟩)) (.list ((b :: bs).map fun c => .str ⟨#[c]⟩)) = (PyData.eqv (.str ⟨#[a]⟩) (.str ⟨#[b]⟩) && PyData.eqv (.list (as.map fun c => .str ⟨#[c]⟩)) (.list (bs.map fun c => .str ⟨#[c]⟩))) := by
      simp [PyData.eqv, PyData.eqvAll]
    rw [h1, ih, eqv_str]
    have h2 : ((⟨#[a]⟩ : Str) = ⟨#[b]⟩) ↔ a = b := ⟨fun z => by injection z with z; injection z with z; injection z with z, fun z => by rw [z]⟩
    by_cases e1 : a = b
    · by_cases e2 : as = bs
      · rw [decide_eq_true (h2.mpr e1), decide_eq_true e2, decide_eq_true (by rw [e1, e2])] <;> rfl
      · rw [decide_eq_false e2, decide_eq_false fun z => e2 (List.cons.inj z).2, Bool.and_false]
    · rw [decide_eq_false fun z => e1 (h2.mp z), decide_eq_false fun z => e1 (List.cons.inj z).1, Bool.false_and]
theorem wide_nice : ∀ {n : Nat} {d : PyData}, Wide n d → Nice n d
  | 0, d, h => ⟨let_nice h, Nat.le_of_eq (let_depth h)⟩
  | n + 1, d, h => by
    rcases h with h | ⟨o, ps, rfl, ho, h2, h4, hp⟩
    · exact ⟨let_nice h, by rw [let_depth h]; omega⟩
    · refine Nice.tuple (by simp; omega) fun p hm => ?_
      rcases List.mem_cons.mp hm with e | hm
      · rw [e]
        exact (opC_nice ho).mono (Nat.zero_le _)
      · exact wide_nice (hp p hm)
theorem wide_no {n : Nat} {d : PyData} (h : Wide n d) : PyData.eqv d .none = false := by
  rcases wide_shape h with ⟨z, rfl, _⟩ | ⟨o, ps, k, rfl, _⟩
  · rfl
  · rfl
theorem piece_d {n : Nat} {z : List Nat} (hz : z.length ≤ 10000) : PyData.eqv (optD (lrPiece (lrTerm (n + 1)) z)) .none = (lrPiece (lrTerm (n + 1)) z).isNone ∧ Nice n (optD (lrPiece (lrTerm (n + 1)) z)) := by
  cases q : lrPiece (lrTerm (n + 1)) z with
  | none => exact ⟨rfl, ⟨by decide +kernel, by show 0 ≤ n; omega⟩⟩
  | some d =>
    obtain ⟨w1, _⟩ := lrPiece_sound (n := n) _ hz (fun l d h1 h2 => lrTerm_sound n l d h1 h2) q
    exact ⟨wide_no w1, wide_nice w1⟩
theorem any_none {n : Nat} : ∀ {ps : List (List Nat)}, (∀ z ∈ ps, z.length ≤ 10000) → ((ps.map fun p => optD (lrPiece (lrTerm (n + 1)) p)).any fun z => PyData.eqv z .none) = ps.any fun p => (lrPiece (lrTerm (n + 1)) p).isNone
  | [], _ => rfl
  | p :: ps, h => by
    rw [List.map_cons, List.any_cons, List.any_cons, (piece_d (h p List.mem_cons_self)).1, any_none fun z hz => h z (List.mem_cons_of_mem _ hz)]
theorem cutF1 {x : V} {xs : List V} : cutV (x :: xs) none (some 1) = [x] := by
  show ((x :: xs).drop 0).take (HT.sIx (x :: xs).length (x :: xs).length (some ((1 : Nat) : Int)) - 0) = [x]
  rw [HT.sIx_nat, List.drop_zero, Nat.sub_zero, List.length_cons, show min 1 (xs.length + 1) = 1 by omega] <;> rfl
theorem rep_flat {α : Type} {x : α} : ∀ n : Nat, (List.replicate n [x]).flatten = List.replicate n x
  | 0 => rfl
  | n + 1 => by
    rw [List.replicate_succ, List.replicate_succ, List.flatten_cons, rep_flat n] <;> rfl
theorem signs_nice {sg : List Nat} (h : sg.length ≤ 10001) (ho : ∀ c ∈ sg, isOpC c = true) : SeqAt.shaped (.list (sg.map fun c => .str ⟨#[c]⟩)) = true := by
  have : Nice 1 (.list (sg.map fun c => PyData.str ⟨#[c]⟩)) := Nice.list (by rw [List.length_map]; omega) fun d hd => by
    obtain ⟨c, hc, rfl⟩ := List.mem_map.mp hd
    exact opC_nice (ho c hc)
  exact this.shaped
theorem signs_dp {K : PySem.W.Frag} {H : Hp} : ∀ {sg : List Nat}, DpAll K H (sg.map fun c => sv [c]) (sg.map fun c => .str ⟨#[c]⟩)
  | [] => .nil
  | _ :: _ => .cons (.str _) signs_dp
theorem tpa_map {K : PySem.W.Frag} {H : Hp} {f : List Nat → PyData} : ∀ {ps : List (List Nat)} {ys : List V}, ys.length = ps.length → (∀ (i : Nat) (y : V), ys[i]? = some y → ∃ z, ps[i]? = some z ∧ Tp K H y (f z)) → TpAll K H ys (ps.map f)
  | [], [], _, _ => .nil
  | p :: ps, y :: ys, hl, h => by
    obtain ⟨z, h1, h2⟩ := h 0 y rfl
    cases h1
    exact .cons h2 (tpa_map (by simpa using hl) fun i u hu => h (i + 1) u hu)
  | [], _ :: _, hl, _ => by simp at hl
  | _ :: _, [], hl, _ => by simp at hl
section
variable {P : Program} {w : World} {K : PySem.W.Frag} {mg : Str → Option Value} {base : Heap}
theorem ok_read_term {n k : Nat} {f : Addr} {fd : FuncData} (F : FunD K "_law_read_term" "_law_read_term" (defArgs s_law_read_term) (defBody s_law_read_term) (defScope s_law_read_term) [] [] f fd) (hm : mg "_law_read_term" = some (.ref f)) (T : Top K mg)
    (D_law_read_piece : Def P w K mg base "_law_read_piece" k ["_law_mtext", "_law_deep"] (spRP K n)) : Def P w K mg base "_law_read_term" (k + 1) ["_law_mtext", "_law_deep"] (spRT K (n + 1)) := by
  refine def_mk F hm (F.bindsN fun _ _ _ _ _ _ us hl => match us, hl with | [_, _], _ => rfl) sc_law_read_term (fun vs H Q E h => ?_) (fun cdv A outer s H vs Q E hr h => ?_)
  · obtain ⟨t, m, rfl, _⟩ := h
    rfl
  obtain ⟨t, m, rfl, ht, hmn, hn20, q⟩ := h
  refine ⟨_, (pss_cons (ps_if (pt_cmpR op_eq (pe_callB (call_lenK K) (by rfl) T.b_len (by decide +kernel) (pa_cons (pv 0) pa_nil)) pe_int (nomark _))
  (pss_one (ps_ret (pe_ifExp (pt_cmpR op_in_sign (pv 0) pe_str rfl) (pv 0) pe_non)))
  pss_nil)
  (pss_cons (ps_if (pt_cmpR op_lt (pv 1) pe_int (nomark _))
  (pss_one (ps_ret pe_non))
  pss_nil)
  (pss_cons (ps_asg (pe_tup (pa_cons pe_int (pa_cons pe_int (pa_cons (pe_lst (pa_cons pe_str pa_nil)) (pa_cons (pe_lst pa_nil) pa_nil))))) (pg_tupK K (n := 4) rfl (pgs_cons (pg_name (i := 2) sc_law_read_term.nd rfl (Or.inl rfl) (.inl rfl)) (pgs_cons (pg_name (i := 3) sc_law_read_term.nd rfl (Or.inl rfl) (.inl rfl)) (pgs_cons (pg_name (i := 4) sc_law_read_term.nd rfl (Or.inl rfl) (.inl rfl)) (pgs_cons (pg_name (i := 5) sc_law_read_term.nd rfl (Or.inl rfl) (.inl rfl)) pgs_nil))))))
  (pss_cons (ps_while PassesOwn.never (pt_cmpR op_lt (pv 3) (pe_callB (call_lenK K) (by rfl) T.b_len (by decide +kernel) (pa_cons (pv 0) pa_nil)) (nomark _))
  (C8.pss_cut (ps_if (PW.pt (pw_and (pt_cmpR op_eq (pv 2) pe_int (nomark _)) (pw_and1 (pt_cmpR (op_in_seqK K) (pe_slice sl_str (pv 0) (po_some (pv 3)) (po_some (pe_op op_add (pv 3) pe_int))) (pe_tup (pa_cons pe_str (pa_cons pe_str pa_nil))) (by rfl)))))
  (pss_cons (ps_expr (pe_bmK K PySem.F.plainAttrs_list PySem.F.slot_list_append PySem.F.type_list_append mt_append (pv 5) (pa_cons (pe_ix ix_str (pv 0) (pe_op op_add (pv 3) pe_int) (fun _ _ => rfl)) pa_nil)))
  (pss_cons (ps_expr (pe_bmK K PySem.F.plainAttrs_list PySem.F.slot_list_append PySem.F.type_list_append mt_append (pv 4) (pa_cons pe_str pa_nil)))
  (pss_one (ps_set (i := 3) sc_law_read_term.nd rfl (Or.inl rfl) (pe_op op_add (pv 3) pe_int)))))
  (pss_cons (ps_set (i := 2) sc_law_read_term.nd rfl (Or.inl rfl) (pe_op op_sub (pe_op op_add (pv 2) (pe_callTy call_int1 (by rfl) T.b_int (by decide +kernel) (pa_cons (pe_cmpR op_eq (pe_ix ix_str (pv 0) (pv 3) (fun _ _ => rfl)) pe_str (nomark _)) pa_nil))) (pe_callTy call_int1 (by rfl) T.b_int (by decide +kernel) (pa_cons (pe_cmpR op_eq (pe_ix ix_str (pv 0) (pv 3) (fun _ _ => rfl)) pe_str (nomark _)) pa_nil))))
  (pss_cons (ps_asg (pe_op op_add_str (pe_ix (ix_listK K) (pv 4) (pe_un un_neg pe_int) (fun _ _ => rfl)) (pe_ix ix_str (pv 0) (pv 3) (fun _ _ => rfl))) (pg_sub (pv 4) (pe_un un_neg pe_int) set_list))
  (pss_one (ps_set (i := 3) sc_law_read_term.nd rfl (Or.inl rfl) (pe_op op_add (pv 3) pe_int))))))
  (pss_one (ps_if (pt_cmpR op_lt (pv 2) pe_int (nomark _))
  (pss_one (ps_ret pe_non))
  pss_nil))))
  (pss_cons (ps_if (PW.pt (pw_or (pt_cmpR op_gt (pv 2) pe_int (nomark _)) (pw_or (pt_cmpR op_lt (pe_callB (call_lenK K) (by rfl) T.b_len (by decide +kernel) (pa_cons (pv 4) pa_nil)) pe_int (nomark _)) (pw_or1 (pt_cmpR (op_neK K hr.units) (pv 5) (pe_op op_rep (pe_slice (sl_listK K) (pv 5) po_none (po_some pe_int)) (pe_callB (call_lenK K) (by rfl) T.b_len (by decide +kernel) (pa_cons (pv 5) pa_nil))) (nomark _))))))
  (pss_one (ps_ret pe_non))
  pss_nil)
  (pss_cons (ps_setLc (i := 6) (own := [("_law_one", 7)]) rfl sc_law_read_term.nd rfl rfl (sw_true rfl rfl rfl (by kernel_rfl)) (pi_listK K (pv 4)) (blkOk_by (by kernel_rfl)) (fun _ _ _ _ _ => (pg_name (i := 7) sc_law_read_term.nd rfl (Or.inl rfl) (.inr rfl))) (fun _ _ _ _ _ => pts_nil) (fun _ _ _ _ _ => (pe_def D_law_read_piece hr (by first | decide | omega) (pa_cons (pv 7) (pa_cons (pe_op op_sub (pv 1) pe_int) pa_nil)))))
  (pss_one (ps_ret (pe_ifExp (pt_cmpR (op_inK K (r65 hr)) pe_non (pv 6) (by rfl)) pe_non (pe_callTy (call_tuple_ofK K) (by rfl) T.b_tuple (by decide +kernel) (pa_cons (pe_op op_cat (pe_slice (sl_listK K) (pv 5) po_none (po_some pe_int)) (pv 6)) pa_nil))))))))))), ?_⟩
  have hL : t.length ≤ sizeLine := Nat.le_trans ht (by decide)
  have ln : (tl t).length = t.length := rfl
  refine ⟨_, rfl, _, t.length, rfl, ⟨hL, rfl⟩, rfl, _, rfl, ?_⟩
  refine if_int (fun h1 => ?_) (fun h1 => ?_)
  · have h1 : t.length = 1 := by omega
    obtain ⟨c, rfl⟩ := len1 h1
    have q1 := q
    rw [lrTerm_one h1] at q1
    refine ⟨_, rfl, c, _, rfl, rfl, _, rfl, ?_⟩
    refine if_dec (fun h2 => ?_) (fun h2 => ?_)
    · have e2 : letD (tl ⟨#[c]⟩) = some (.str ⟨#[c]⟩) := if_pos (decide_eq_true h2)
      rw [e2] at q1
      exact ⟨_, rfl, q1 _ H (Same.refl H) (.str _)⟩
    · have e2 : letD (tl ⟨#[c]⟩) = none := if_neg fun z => h2 (of_decide_eq_true z)
      rw [e2] at q1
      exact q1 .non H (Same.refl H) .non
  have h1 : (tl t).length ≠ 1 := fun z => h1 (by omega)
  refine ⟨_, rfl, _, _, rfl, rfl, _, rfl, ?_⟩
  refine if_dec (fun h2 => ?_) (fun h2 => ?_)
  · have q1 := q
    rw [lrTerm_low h1 (by omega)] at q1
    exact q1 .non H (Same.refl H) .non
  obtain ⟨j, rfl⟩ : ∃ j, m = j + 2 := ⟨m - 2, by omega⟩
  rw [lrTerm_up h1] at q
  unfold tNext
  refine ⟨(by show 1 ≤ sizeLine; decide), fun p1 hp1 => ⟨(by show 0 ≤ sizeLine; decide), fun p2 hp2 => ⟨(by show 4 ≤ sizeLine; decide), fun p3 hp3 => ?_⟩⟩⟩
  refine ⟨p3, _, rfl, SqT.of upd_same, rfl, _, _, rfl, _, _, rfl, _, _, rfl, _, _, rfl, rfl, ?_⟩
  dsimp only
  have f1 := same_new hp1 (.lst [sv []])
  have f2 := same_new hp2 (.lst [])
  have f3 := same_new hp3 (.tup [.int 0, .int 0, .ref p1, .ref p2])
  have n1 : H p1 = none := hp1
  have n2 : H p2 = none := none_back f1 hp2
  have ne : p1 ≠ p2 := fun z => by
    rw [← z, upd_same] at hp2
    cases hp2
  have eH := f1.trans (f2.trans f3)
  have g1 : (upd (upd (upd H p1 (.lst [sv []])) p2 (.lst [])) p3 (.tup [.int 0, .int 0, .ref p1, .ref p2])) p1 = some (.lst [sv []]) := f3 _ _ (f2 _ _ upd_same)
  have g2 : (upd (upd (upd H p1 (.lst [sv []])) p2 (.lst [])) p3 (.tup [.int 0, .int 0, .ref p1, .ref p2])) p2 = some (.lst []) := f3 _ _ upd_same
  have e0 : ("" : Str) = ⟨([] : List Nat).toArray⟩ := by decide +kernel
  have offS : ∀ {H' : Hp} {p : Addr} {o : HO}, H p = none → Same H H' → Same H (upd H' p o) := fun hn e b u hb => by
    rw [upd_ne (ne_of_none hb hn)]
    exact e b u hb
  refine ⟨RTInv t ((j + 2 : Nat) : Int) p1 p2 H, ⟨_, tl t, 0, [], [], [], none, none, ?_, rfl, List.suffix_refl _, eH, g1, g2, rfl, Nat.le_of_eq (Nat.zero_add _), Nat.le_of_eq (Nat.zero_add _), (fun z hz => by cases hz), rfl⟩, ?_⟩
  · rw [show t.length - (tl t).length = 0 from Nat.sub_self _] <;> rfl
  rintro r σ H1 ⟨l, lev, done, cur, sg, o6, o7, rfl, rfl, hsf, e1, h41, h51, hds, hcl, hsl, hdl, hgo⟩
  have hll : l.length ≤ t.length := rest_len hsf
  refine ⟨_, rfl, _, rfl, _, t.length, rfl, ⟨hL, rfl⟩, _, _, rfl, rfl, _, rfl, ?_⟩
  refine if_dec (fun hlt => ?_) (fun hge => ?_)
  · cases l with
    | nil => exact absurd hlt (by rw [List.length_nil, Nat.sub_zero]; omega)
    | cons c r =>
    rw [List.length_cons] at hll hcl hsl
    refine ⟨fun σ' H' => ∃ r', r' < (c :: r).length ∧ RTInv t ((j + 2 : Nat) : Int) p1 p2 H r' σ' H', fun _ _ h => h, ?_⟩
    refine ⟨fun σ' H' => (∃ r', r' < (c :: r).length ∧ RTInv t ((j + 2 : Nat) : Int) p1 p2 H r' σ' H') ∨ ∃ (v3 o6 o7 : Option V), σ' = [some (.str t), some (.int ((j + 2 : Nat) : Int)), some (.int (-1)), v3, some (.ref p1), some (.ref p2), o6, o7] ∧ Same H H' ∧ lrGo 0 [] [] [] (tl t) = none, ?_, ?_⟩
    · refine and_two (fun H2 => Same H1 H2) (decide (V.int (lev : Int) = V.int 0)) (sepB (c :: r)) (Same.refl _) (fun Q k => ⟨_, rfl, rfl, _, rfl, k⟩) (fun _ Q k => ⟨_, rfl, _, rfl, _, rfl, _, rfl, _, _, rfl, rfl, _, rfl, t, rfl, hL, (by show 2 ≤ sizeLine; decide), fun p4 hp4 => ?_⟩) (fun H2 e2 => ?_)
      · refine ⟨p4, _, rfl, .inr (SqT.of upd_same), rfl, rfl, _, rfl, ?_⟩
        have := k _ (same_new hp4 (.tup [.str (" & " : Str), .str (" | " : Str)]))
        rw [← inSep, ← cut_n hsf 3] at this
        exact this
      · have e12 := e1.trans e2
        have h42 := e2 _ _ h41
        have h52 := e2 _ _ h51
        refine if_b (fun hb => ?_) (fun hb => ?_)
        · have hb2 := (Bool.and_eq_true _ _).mp hb
          have hlev : lev = 0 := by
            have := V.int.inj (of_decide_eq_true hb2.1)
            omega
          subst hlev
          obtain ⟨o, r2, e, hop⟩ := sep_shape hb2.2
          cases e
          refine ⟨_, rfl, .inl ⟨rfl, _, SqL.of h52⟩, _, rfl, _, rfl, _, _, rfl, rfl, t, _, o, rfl, rfl, hL, at_rest hsf rfl, ?_⟩
          refine ⟨p2, _, _, rfl, rfl, h52, (by rw [List.length_map]; exact Nat.lt_of_lt_of_le (show sg.length < 10001 by omega) (by decide)), ?_⟩
          have h43 : (upd H2 p2 (.lst ((sg.map fun c => sv [c]) ++ [.str ⟨#[o]⟩]))) p1 = some (.lst ((done ++ [cur]).map sv)) := by
            rw [upd_ne ne]
            exact h42
          simp only [List.length_cons] at hll hcl hsl
          refine ⟨_, rfl, .inl ⟨rfl, _, SqL.of h43⟩, p1, _, _, rfl, rfl, h43, (by rw [List.length_map, List.length_append]; exact Nat.lt_of_lt_of_le (show done.length + 1 < 10001 by omega) (by decide)), ?_⟩
          refine ⟨_, rfl, _, _, rfl, rfl, ?_⟩
          refine .inl ⟨r2.length, by simp only [List.length_cons]; omega, r2, 0, done ++ [cur], [], sg ++ [o], o6, o7, ?_, rfl, List.IsSuffix.trans ⟨[32, o, 32], rfl⟩ hsf, offS n1 (offS n2 e12), ?_, ?_, ?_, ?_, ?_, ?_, ?_⟩
          · show [_, _, _, some (V.int (((t.length - (32 :: o :: 32 :: r2).length : Nat) : Int) + 3)), _, _, _, _] = _
            rw [show (((t.length - (32 :: o :: 32 :: r2).length : Nat) : Int) + 3) = ((t.length - r2.length : Nat) : Int) by simp only [List.length_cons]; omega] <;> rfl
          · rw [upd_same, e0, List.map_append (l₁ := done ++ [cur])] <;> rfl
          · rw [upd_ne ne.symm, upd_same, List.map_append] <;> rfl
          · rw [List.length_append, List.length_append, hds] <;> rfl
          · rw [List.length_nil]
            omega
          · rw [List.length_append, List.length_cons, List.length_nil]
            omega
          · intro z hz
            rcases List.mem_append.mp hz with hz | hz
            · exact hdl z hz
            · rw [List.mem_singleton.mp hz]
              omega
          · rw [← hgo]
            have hgo2 : lrGo 0 done cur sg (32 :: o :: 32 :: r2) = lrGo 0 (done ++ [cur]) [] (sg ++ [o]) r2 := by
              rw [lrGo, if_pos (by rw [sep_op hop] <;> rfl)] <;> rfl
            exact hgo2.symm
        · have hix : ∀ {k : Nat} {x : Nat}, (c :: r)[k]? = some x → atI (tl t) (((t.length - (c :: r).length : Nat) : Int) + (k : Int)) = some x := fun e => at_rest hsf e
          have hc0 : atI (tl t) (((t.length - (c :: r).length : Nat) : Int)) = some c := by
            have := hix (k := 0) rfl
            rw [show (((t.length - (c :: r).length : Nat) : Int) + ((0 : Nat) : Int)) = ((t.length - (c :: r).length : Nat) : Int) by omega] at this
            exact this
          have hno : ¬ ((lev == 0 && sepB (c :: r)) = true) := fun z => by
            rw [show decide (V.int (lev : Int) = V.int 0) = (lev == 0) by
              by_cases q : lev = 0
              · rw [q] <;> rfl
              · rw [decide_eq_false fun z => q (by have := V.int.inj z; omega), beq_eq_false_iff_ne.mpr q]] at hb
            rw [z] at hb
            cases hb
          refine ⟨_, rfl, _, rfl, _, rfl, t, _, c, rfl, rfl, hL, hc0, rfl, .inr ⟨_, rfl, _, _, rfl, rfl, _, rfl, _, rfl, t, _, c, rfl, rfl, hL, hc0, rfl, .inr ⟨_, rfl, _, _, rfl, rfl, ?_⟩⟩⟩
          have h44 : H2 p1 = some (.lst (done.map sv ++ [sv cur])) := by
            rw [h42, List.map_append] <;> rfl
          have hcl2 : cur.length + 1 ≤ 10000 := by omega
          rw [dec_sign tl_lp, dec_sign tl_rp]
          refine ⟨_, rfl, _, rfl, p1, _, _, sv cur, rfl, rfl, SqL.of h44, at_last _ _, _, rfl, _, rfl, t, _, c, rfl, rfl, hL, hc0, _, _, rfl, rfl, Nat.le_trans (show cur.length + 1 ≤ 10000 from hcl2) (by decide), _, rfl, _, rfl, p1, _, _, done.length, rfl, rfl, h44, (by rw [List.length_append, List.length_map]; exact ix_last), ?_⟩
          refine ⟨_, rfl, _, _, rfl, rfl, ?_⟩
          rw [sv_app, ← List.length_map (f := sv), set_last]
          have e6 : Same H (upd H2 p1 (.lst (done.map sv ++ [sv (cur ++ [c])]))) := offS n1 e12
          have h61 : (upd H2 p1 (.lst (done.map sv ++ [sv (cur ++ [c])]))) p1 = some (.lst ((done ++ [cur ++ [c]]).map sv)) := by
            rw [upd_same, List.map_append] <;> rfl
          have h62 : (upd H2 p1 (.lst (done.map sv ++ [sv (cur ++ [c])]))) p2 = some (.lst (sg.map fun c => sv [c])) := by
            rw [upd_ne ne.symm]
            exact h52
          generalize upd H2 p1 (.lst (done.map sv ++ [sv (cur ++ [c])])) = H6 at e6 h61 h62 ⊢
          have at1 : (((t.length - (c :: r).length : Nat) : Int) + 1) = ((t.length - r.length : Nat) : Int) := by
            rw [List.length_cons]
            omega
          have fin : ∀ lev2 : Nat, ((lev : Int) + (if decide (c = 40) = true then 1 else 0) - (if decide (c = 41) = true then 1 else 0)) = (lev2 : Int) → lrGo lev2 done (cur ++ [c]) sg r = lrGo 0 [] [] [] (tl t) → RTInv t ((j + 2 : Nat) : Int) p1 p2 H r.length [some (.str t), some (.int ((j + 2 : Nat) : Int)), some (.int ((lev : Int) + (if decide (c = 40) = true then 1 else 0) - (if decide (c = 41) = true then 1 else 0))), some (.int (((t.length - (c :: r).length : Nat) : Int) + 1)), some (.ref p1), some (.ref p2), o6, o7] H6 := fun lev2 hl2 hg2 => by
            rw [hl2, at1]
            exact ⟨r, lev2, done, cur ++ [c], sg, o6, o7, rfl, rfl, List.IsSuffix.trans ⟨[c], rfl⟩ hsf, e6, h61, h62, hds, by rw [List.length_append, List.length_cons, List.length_nil]; omega, by omega, hdl, hg2⟩
          rw [lrGo, if_neg hno] at hgo
          by_cases c1 : c = 41
          · rw [if_pos c1] at hgo
            by_cases c0 : lev = 0
            · rw [if_pos c0] at hgo
              refine .inr ⟨some (.int (((t.length - (c :: r).length : Nat) : Int) + 1)), o6, o7, ?_, e6, hgo.symm⟩
              subst c0 c1
              rfl
            · rw [if_neg c0] at hgo
              refine .inl ⟨r.length, by rw [List.length_cons]; omega, fin (lev - 1) ?_ hgo⟩
              subst c1
              show (lev : Int) + 0 - 1 = _
              omega
          · rw [if_neg c1] at hgo
            refine .inl ⟨r.length, by rw [List.length_cons]; omega, fin _ ?_ hgo⟩
            rw [decide_eq_false c1]
            by_cases c4 : c = 40
            · subst c4
              show (lev : Int) + 1 - 0 = ((if (40 : Nat) = 40 then lev + 1 else lev : Nat) : Int)
              rw [if_pos rfl]
              omega
            · rw [if_neg c4, decide_eq_false c4]
              show (lev : Int) + 0 - 0 = _
              omega
    · rintro σ' H' (⟨r', hr1, hI⟩ | ⟨v3, o6, o7, rfl, e7, hno⟩)
      · obtain ⟨l2, lev2, done2, cur2, sg2, a6, a7, rfl, hI2⟩ := hI
        refine ⟨_, rfl, _, _, rfl, rfl, _, rfl, ?_⟩
        refine if_dec (fun h => absurd h (by omega)) (fun _ => ?_)
        exact ⟨r', hr1, l2, lev2, done2, cur2, sg2, a6, a7, rfl, hI2⟩
      · refine ⟨_, rfl, _, _, rfl, rfl, _, rfl, ?_⟩
        refine if_dec (fun _ => ?_) (fun h => absurd (by decide) h)
        have q1 := q
        rw [hno] at q1
        exact q1 .non H' e7 .non
  · have hl0 : l = [] := List.length_eq_zero_iff.mp (by omega)
    subst hl0
    rw [lrGo] at hgo
    rw [← hgo] at q
    have hgo' := hgo
    clear hgo hge hsf
    have q : ∀ (v : V) (H' : Hp), Same H H' → Tp K H' v (optD (lrEnd (lrPiece (lrTerm (j + 1))) (lev, done ++ [cur], sg))) → Q v H' := q
    rw [List.length_nil, Nat.add_zero] at hcl hsl
    have hpl : ∀ z ∈ done ++ [cur], z.length ≤ 10000 := fun z hz => by
      rcases List.mem_append.mp hz with hz | hz
      · exact Nat.le_trans (hdl z hz) ht
      · rw [List.mem_singleton.mp hz]
        omega
    have plen : (done ++ [cur]).length = sg.length + 1 := by
      rw [List.length_append, hds] <;> rfl
    have no : ∀ H', Same H H' → (0 < lev ∨ (done ++ [cur]).length < 2 ∨ sg ≠ List.replicate sg.length (sg.headD 0)) → Q .non H' := fun H' e h => q .non H' e (by
      unfold lrEnd
      rw [if_pos h]
      exact .non)
    refine ⟨_, rfl, _, _, rfl, rfl, _, rfl, ?_⟩
    refine if_dec (fun hlv => ?_) (fun hlv => ?_)
    · exact no H1 e1 (.inl (by omega))
    refine ⟨_, rfl, _, _, rfl, .inl ⟨_, SqL.of h41, rfl⟩, _, _, rfl, rfl, _, rfl, ?_⟩
    refine if_dec (fun hl2 => ?_) (fun hl2 => ?_)
    · exact no H1 e1 (.inr (.inl (by rw [List.length_map] at hl2; omega)))
    rw [List.length_map] at hl2
    obtain ⟨c, sg', rfl⟩ : ∃ c sg', sg = c :: sg' := by
      cases sg with
      | nil => exact absurd plen (by rw [List.length_nil]; omega)
      | cons c sg' => exact ⟨c, sg', rfl⟩
    have hop : ∀ s ∈ c :: sg', isOpC s = true := by
      cases q0 : lrGo 0 [] [] [] (tl t) with
      | none => exact absurd (hgo'.trans q0) (fun z => by cases z)
      | some x =>
        obtain ⟨a, b, d⟩ := x
        obtain ⟨d2, c2, q1, q2, q3, q4, q5⟩ := lrGo_sound (tl t).length (tl t) 0 [] [] [] (Nat.le_refl _) rfl (fun s hs => by cases hs) q0
        have := hgo'.trans q0
        cases this
        exact q3
    refine ⟨_, rfl, _, rfl, _, rfl, p2, _, rfl, SqL.of h51, fun p5 hp5 => ?_⟩
    rw [show cutV (List.map (fun c => sv [c]) (c :: sg')) none (some 1) = [sv [c]] from cutF1]
    have e5 := same_new hp5 (.lst [sv [c]])
    refine ⟨_, rfl, _, (c :: sg').length, rfl, .inl ⟨_, SqL.of (e5 _ _ h51), by rw [List.length_map]⟩, ?_⟩
    refine ⟨p5, _, _, rfl, rfl, upd_same, by omega, by omega, (by rw [Int.toNat_natCast]; exact Nat.le_trans (show 1 * (c :: sg').length ≤ 10000 by omega) (by decide)), fun p6 hp6 => ?_⟩
    rw [Int.toNat_natCast, rep_flat]
    have e6 := same_new hp6 (.lst (List.replicate (c :: sg').length (sv [c])))
    have e56 := e5.trans e6
    have l6 : (upd (upd H1 p5 (.lst [sv [c]])) p6 (.lst (List.replicate (c :: sg').length (sv [c])))) p6 = some (.lst ((List.replicate (c :: sg').length c).map fun c => sv [c])) := by
      rw [upd_same, List.map_replicate]
    refine ⟨_, _, .lst (SqL.of (e56 _ _ h51)) signs_dp, .lst (SqL.of l6) signs_dp, signs_nice (by omega) hop, signs_nice (by rw [List.length_replicate]; omega) (fun x hx => by
      rw [(List.mem_replicate.mp hx).2]
      exact hop c List.mem_cons_self), _, rfl, ?_⟩
    rw [eqv_signs]
    refine if_nb (fun hq => ?_) (fun hq => ?_)
    · exact no _ (e1.trans e56) (.inr (.inr (of_decide_eq_false hq)))
    have hq := of_decide_eq_true hq
    have hno : ¬ (0 < lev ∨ (done ++ [cur]).length < 2 ∨ c :: sg' ≠ List.replicate (c :: sg').length ((c :: sg').headD 0)) := fun z => by
      rcases z with z | z | z
      · omega
      · omega
      · exact z hq
    have h71 := e56 _ _ h41
    have h72 := e56 _ _ h51
    have e7 := e1.trans e56
    generalize upd (upd H1 p5 (.lst [sv [c]])) p6 (.lst (List.replicate (c :: sg').length (sv [c]))) = H7 at h71 h72 e7 ⊢
    clear e5 e6 e56 l6 h41 h51
    refine ⟨_, rfl, p1, rfl, ⟨_, SqL.of h71⟩, fun D hD => ?_⟩
    refine lc_mapL (j := 7) (fun i u H' => ∃ z, (done ++ [cur])[i]? = some z ∧ Tp K H' u (optD (lrPiece (lrTerm (j + 1)) z))) (fun i y H H' e ⟨z, a, b⟩ => ⟨z, a, b.up e⟩) hD (SqL.of h71) (by rw [List.length_map]; exact Nat.le_trans (show (done ++ [cur]).length ≤ 10001 by omega) (by decide)) (fun _ => rfl) ?_ ?_
    · intro i x H8 hx e8 Q' k'
      rw [List.getElem?_map] at hx
      obtain ⟨z, hz, rfl⟩ := Option.map_eq_some_iff.mp hx
      have hzm := List.mem_of_getElem? hz
      refine ⟨_, rfl, _, rfl, _, _, rfl, rfl, ⟨z.toArray⟩, j + 1, ?_, hpl z hzm, by omega, by omega, fun v H9 e9 hv => k' v H9 e9 ⟨z, hz, hv⟩⟩
      show [sv z, V.int (((j + 2 : Nat) : Int) - 1)] = [sv z, V.int ((j + 1 : Nat) : Int)]
      rw [show ((j + 2 : Nat) : Int) - 1 = ((j + 1 : Nat) : Int) by omega]
    intro H8 ys e8 hD8 hl8 hy
    rw [List.length_map] at hl8
    have hta : TpAll K H8 ys ((done ++ [cur]).map fun p => optD (lrPiece (lrTerm (j + 1)) p)) := tpa_map hl8 hy
    have e78 := e7.trans e8
    have nl : Nice (j + 1) (.list ((done ++ [cur]).map fun p => optD (lrPiece (lrTerm (j + 1)) p))) := Nice.list (by rw [List.length_map]; omega) fun d hd => by
      obtain ⟨z, hz, rfl⟩ := List.mem_map.mp hd
      exact (piece_d (hpl z hz)).2
    refine ⟨_, rfl, .none, _, .non, .inl (.lst (SqL.of hD8) hta.dp), rfl, nl.shaped (by omega), _, rfl, ?_⟩
    rw [show (((done ++ [cur]).map fun p => optD (lrPiece (lrTerm (j + 1)) p)).any fun z => PyData.eqv z .none) = (done ++ [cur]).any fun p => (lrPiece (lrTerm (j + 1)) p).isNone from any_none hpl]
    have q1 : ∀ v H', Same H H' → Tp K H' v (optD (if ((done ++ [cur]).any fun p => (lrPiece (lrTerm (j + 1)) p).isNone) = true then none else some (.tuple (.str ⟨#[c]⟩ :: (done ++ [cur]).map fun p => optD (lrPiece (lrTerm (j + 1)) p))))) → Q v H' := fun v H' e h => q v H' e (by
      unfold lrEnd
      rw [if_neg hno]
      exact h)
    by_cases han : ((done ++ [cur]).any fun p => (lrPiece (lrTerm (j + 1)) p).isNone) = true
    · rw [han]
      rw [if_pos han] at q1
      exact q1 .non H8 e78 .non
    rw [if_neg han] at q1
    rw [Bool.eq_false_iff.mpr han]
    refine ⟨_, rfl, _, rfl, p2, _, rfl, SqL.of (e8 _ _ h72), fun p9 hp9 => ?_⟩
    rw [show cutV (List.map (fun c => sv [c]) (c :: sg')) none (some 1) = [sv [c]] from cutF1]
    have e9 := same_new hp9 (.lst [sv [c]])
    refine ⟨_, rfl, p9, D, _, _, rfl, rfl, upd_same, e9 _ _ hD8, (by rw [hl8]; exact Nat.le_trans (show 1 + (done ++ [cur]).length ≤ 10002 by omega) (by decide)), fun pa hpa => ⟨pa, _, rfl, .inl ⟨SqL.of upd_same, fun pt hpt => ?_⟩⟩⟩
    have ea := same_new hpa (.lst ([sv [c]] ++ ys))
    have et := same_new hpt (.tup ([sv [c]] ++ ys))
    have e9t := e9.trans (ea.trans et)
    exact q1 _ _ (e78.trans e9t) (.tup (.inl upd_same) (.cons (.str _) (hta.up (Same.T e9t))))
end
end FF
namespace FF
open PySem PySem.Spec PyProof.Rows L2
theorem nest_drawn : ∀ k, Drawn k (nestD k)
  | 0 => by show isLet _ = true; decide +kernel
  | k + 1 => .inr ⟨_, _, rfl, by split <;> decide +kernel, by simp, by simp, fun p hp => by
    simp only [List.mem_cons, List.not_mem_nil, or_false] at hp
    rcases hp with rfl | rfl
    · exact nest_drawn k
    · exact drawn_mono (m := 0) (show isLet _ = true by decide +kernel) (Nat.zero_le _)⟩
theorem meas_nest : ∀ k m, k < m → meas m (nestD k) = (k : Int) + 1
  | 0, m, h => by
    rw [show nestD 0 = .str ("a" : Str) from rfl, meas_let (by decide +kernel), if_pos h] <;> rfl
  | k + 1, m, h => by
    obtain ⟨j, rfl⟩ : ∃ j, m = j + 1 := ⟨m - 1, by omega⟩
    rw [show nestD (k + 1) = .tuple [.str (if k % 2 = 0 then ("&" : Str) else ("|" : Str)), nestD k, .str ("b" : Str)] from rfl, meas_up tup_let (by omega)]
    have ih := meas_nest k j (by omega)
    have hb : meas j (.str ("b" : Str)) = 1 := by rw [meas_let (by decide +kernel), if_pos (by omega)]
    show (if isOp (.str (if k % 2 = 0 then ("&" : Str) else ("|" : Str))) = true then (if (0 : Int) ∈ [meas j (nestD k), meas j (.str ("b" : Str))] then 0 else [meas j (nestD k), meas j (.str ("b" : Str))].sum) else 0) = _
    rw [if_pos (by split <;> decide +kernel), ih, hb, if_neg (by simp; omega)]
    simp
theorem meas_down : ∀ (n : Nat) (d : PyData), meas (n + 1) d = 0 → meas n d = 0
  | 0, _, _ => rfl
  | n + 1, d, h => by
    have hl : isLet d = false := by
      cases e : isLet d with
      | false => rfl
      | true =>
        rw [meas_let e, if_pos (by omega)] at h
        cases h
    by_cases hn : n = 0
    · subst hn
      exact meas_low hl (by omega)
    rw [meas_up hl (by omega)] at h
    rw [meas_up hl (by omega)]
    match d, h with
    | .tuple (x :: y :: z :: r), h =>
      have h : (if isOp x = true then (if (0 : Int) ∈ ((y :: z :: r).map (meas (n + 1))) then 0 else ((y :: z :: r).map (meas (n + 1))).sum) else 0) = 0 := h
      show (if isOp x = true then (if (0 : Int) ∈ ((y :: z :: r).map (meas n)) then 0 else ((y :: z :: r).map (meas n)).sum) else 0) = 0
      split at h
      · rename_i ho
        rw [if_pos ho]
        split at h
        · rename_i hz
          obtain ⟨p, hp, e⟩ := List.mem_map.mp hz
          rw [if_pos (List.mem_map.mpr ⟨p, hp, meas_down n p e⟩)]
        · rename_i hz
          have ge : ∀ l : List PyData, (∀ p ∈ l, meas (n + 1) p ≠ 0) → (l.length : Int) ≤ (l.map (meas (n + 1))).sum := fun l => by
            induction l with
            | nil => exact fun _ => by simp
            | cons a t ih =>
              intro hh
              have h1 := hh a List.mem_cons_self
              have h2 := meas_nonneg (n + 1) a
              have h3 := ih fun p hp => hh p (List.mem_cons_of_mem _ hp)
              rw [List.map_cons, List.sum_cons, List.length_cons]
              omega
          have := ge (y :: z :: r) fun p hp e => hz (List.mem_map.mpr ⟨p, hp, e⟩)
          rw [h] at this
          simp only [List.length_cons] at this
          omega
      · rename_i ho
        rw [if_neg ho]
    | .tuple [], _ => rfl
    | .tuple [_], _ => rfl
    | .tuple [_, _], _ => rfl
    | .none, _ | .bool _, _ | .int _, _ | .str _, _ | .list _, _ | .dict _, _ => rfl
/-- what is no term of any size -/
theorem m3 {x y z : PyData} (h : isOp x = false ∨ meas 8 y = 0 ∨ meas 8 z = 0) : meas 9 (.tuple [x, y, z]) = 0 := by
  rw [meas_up tup_let (by decide)]
  show (if isOp x = true then (if (0 : Int) ∈ [meas 8 y, meas 8 z] then 0 else [meas 8 y, meas 8 z].sum) else 0) = 0
  rcases h with h | h | h
  · rw [if_neg (by rw [h]; decide)]
  · split
    · rw [if_pos (by simp [h])]
    · rfl
  · split
    · rw [if_pos (by simp [h])]
    · rfl
def spOdd0 (K : PySem.W.Frag) : Sp := fun vs H Q _ => ∃ (s : Addr) (v : V) (d : PyData), vs = [.ref s, v] ∧ Src H s ∧ Dp K H v d ∧ Nice 20 d ∧ ∀ v' H' d', Same H H' → Dp K H' v' d' → Nice 30 d' → meas 9 d' = 0 → Q v' H'
end FF
namespace FF
open PySem PySem.Spec PyProof.Rows L2
theorem nice_w {d : PyData} (hd : Nice 20 d) : ∀ e, e ∈ ([.str ("&" : Str), .str ("|" : Str), .str ("" : Str), .tuple [.str ("a" : Str), .str ("b" : Str)], .tuple [.str ("|" : Str), .str ("b" : Str)], .list [.str ("a" : Str)], d] : List PyData) → Nice 25 e := by
  intro e he
  simp only [List.mem_cons, List.not_mem_nil, or_false] at he
  rcases he with rfl | rfl | rfl | rfl | rfl | rfl | rfl
  all_goals first
    | exact hd.mono (by decide)
    | exact ⟨by decide +kernel, by decide +kernel⟩
section
variable {P : Program} {w : World} {K : PySem.W.Frag} {mg : Str → Option Value} {base : Heap}
theorem ok_nest {f : Addr} {fd : FuncData} (F : FunD K "_law_nest" "_law_nest" (defArgs s_law_nest) (defBody s_law_nest) (defScope s_law_nest) [] [] f fd) (hm : mg "_law_nest" = some (.ref f)) (T : Top K mg) : Def P w K mg base "_law_nest" 1 ["_law_many"] (spNest K) := by
  refine def_mk F hm (F.bindsN fun _ _ _ _ _ _ us hl => match us, hl with | [_], _ => rfl) sc_law_nest (fun vs H Q E h => ?_) (fun cdv A outer s H vs Q E hr h => ?_)
  · obtain ⟨m, rfl, _⟩ := h
    rfl
  obtain ⟨m, rfl, h40, q⟩ := h
  refine ⟨_, (pss_cons (ps_set (i := 1) sc_law_nest.nd rfl (Or.inl rfl) pe_str)
  (pss_cons (ps_for PassesOwn.never rfl (pi_range1 (by rfl) T.b_range (pa_cons (pv 0) pa_nil)) (pg_name (i := 2) sc_law_nest.nd rfl (Or.inl rfl) (.inl rfl))
  (pss_one (ps_set (i := 1) sc_law_nest.nd rfl (Or.inl rfl) (pe_tup (pa_cons (pe_ix (ix_listK K) (pe_lst (pa_cons pe_str (pa_cons pe_str pa_nil))) (pe_op op_mod (pe_callTy call_int1 (by rfl) T.b_int (by decide +kernel) (pa_cons (pv 2) pa_nil)) pe_int) (fun _ _ => rfl)) (pa_cons (pv 1) (pa_cons pe_str pa_nil)))))))
  (pss_one (ps_ret (pv 1))))), ?_⟩
  refine ⟨_, rfl, (m : Int), rfl, by omega, by omega, ?_⟩
  rw [Int.toNat_natCast]
  refine for_range (lo := 0) (n := m) (fun i σ H' => ∃ v o, σ = [some (.int m), some v, o] ∧ Same H H' ∧ Tp K H' v (nestD i)) ⟨_, none, rfl, Same.refl H, .str _⟩ ?_ ?_
  · rintro i σ H' hi ⟨v, o, rfl, e, hv⟩
    refine ⟨(by show 2 ≤ sizeLine; decide), fun p hp => ?_⟩
    have e1 := same_new hp (.lst [.str ("&" : Str), .str ("|" : Str)])
    refine ⟨_, rfl, .inl ⟨_, rfl, _, _, rfl, rfl, (by show (0 : Int) < 2; decide), ?_⟩⟩
    have hat : atI [V.str ("&" : Str), V.str ("|" : Str)] ((0 + (i : Int)) % 2) = some (.str (if i % 2 = 0 then ("&" : Str) else ("|" : Str))) := by
      by_cases h : i % 2 = 0
      · rw [if_pos h, show (0 + (i : Int)) % 2 = 0 by omega] <;> rfl
      · rw [if_neg h, show (0 + (i : Int)) % 2 = 1 by omega] <;> rfl
    refine ⟨p, _, _, _, rfl, rfl, SqL.of upd_same, hat, _, rfl, (by show 3 ≤ sizeLine; decide), fun t ht => ?_⟩
    have e2 := e1.trans (same_new ht (.tup [.str (if i % 2 = 0 then ("&" : Str) else ("|" : Str)), v, .str ("b" : Str)]))
    exact ⟨_, _, rfl, e.trans e2, .tup (.inl upd_same) (.cons (.str _) (.cons (hv.up (Same.T e2)) (.cons (.str _) .nil)))⟩
  · rintro σ H' ⟨v, o, rfl, e, hv⟩
    exact ⟨_, rfl, q v H' e hv⟩
theorem ok_odd0 {f : Addr} {fd : FuncData} (F : FunD K "_law_odd" "_law_odd" (defArgs s_law_odd) (defBody s_law_odd) (defScope s_law_odd) [] [] f fd) (hm : mg "_law_odd" = some (.ref f)) (T : Top K mg)
    (D_law_pick : Def P w K mg base "_law_pick" 2 ["_law_source_here", "_law_row"] (spPick K)) (D_law_nest : Def P w K mg base "_law_nest" 1 ["_law_many"] (spNest K)) : Def P w K mg base "_law_odd" 3 ["_law_source_here", "_law_word"] (spOdd0 K) := by
  refine def_mk F hm (F.bindsN fun _ _ _ _ _ _ us hl => match us, hl with | [_, _], _ => rfl) sc_law_odd (fun vs H Q E h => ?_) (fun cdv A outer s H vs Q E hr h => ?_)
  · obtain ⟨s, v, d, rfl, _⟩ := h
    rfl
  obtain ⟨s, v, d, rfl, hs, hd, hn, q⟩ := h
  refine ⟨_, (pss_cons (ps_set (i := 2) sc_law_odd.nd rfl (Or.inl rfl) (pe_lst (pa_cons pe_non (pa_cons pe_int (pa_cons pe_str (pa_cons pe_str (pa_cons pe_str (pa_cons pe_str (pa_cons (pe_tup pa_nil) (pa_cons (pe_tup (pa_cons pe_str pa_nil)) (pa_cons (pe_tup (pa_cons pe_str (pa_cons pe_str pa_nil))) (pa_cons (pe_tup (pa_cons pe_str (pa_cons pe_str (pa_cons pe_str pa_nil)))) (pa_cons (pe_tup (pa_cons pe_str (pa_cons pe_str (pa_cons pe_str pa_nil)))) (pa_cons (pe_lst (pa_cons pe_str (pa_cons pe_str (pa_cons pe_str pa_nil)))) pa_nil))))))))))))))
  (pss_cons (ps_set (i := 2) sc_law_odd.nd rfl (Or.inl rfl) (pe_op op_cat (pv 2) (pe_lst (pa_cons (pe_tup (pa_cons pe_str (pa_cons pe_str (pa_cons pe_non pa_nil)))) (pa_cons (pe_tup (pa_cons pe_str (pa_cons (pv 1) (pa_cons (pe_tup (pa_cons pe_str (pa_cons pe_str pa_nil))) pa_nil)))) (pa_cons (pe_tup (pa_cons (pv 1) pa_nil)) (pa_cons (pe_tup (pa_cons pe_str (pa_cons (pe_tup (pa_cons pe_str (pa_cons pe_str pa_nil))) (pa_cons (pv 1) pa_nil)))) (pa_cons (pe_tup (pa_cons pe_bl (pa_cons pe_str (pa_cons pe_str pa_nil)))) pa_nil))))))))
  (pss_cons (ps_set (i := 2) sc_law_odd.nd rfl (Or.inl rfl) (pe_op op_cat (pv 2) (pe_lst (pa_cons (pe_tup (pa_cons pe_str (pa_cons (pe_lst (pa_cons pe_str pa_nil)) (pa_cons (pv 1) pa_nil)))) (pa_cons (pe_tup (pa_cons pe_str (pa_cons (pv 1) (pa_cons pe_str pa_nil)))) (pa_cons (pe_tup (pa_cons pe_str (pa_cons (pv 1) (pa_cons (pv 1) pa_nil)))) (pa_cons (pe_tup (pa_cons (pe_tup (pa_cons pe_str (pa_cons pe_str (pa_cons pe_str pa_nil)))) (pa_cons pe_str (pa_cons pe_str pa_nil)))) (pa_cons (pe_def D_law_nest hr (by first | decide | omega) (pa_cons pe_int pa_nil)) pa_nil))))))))
  (pss_one (ps_ret (pe_def D_law_pick hr (by first | decide | omega) (pa_cons (pv 0) (pa_cons (pv 2) pa_nil)))))))), ?_⟩
  refine seq_asg ?_
  refine evl_lst (K := K) (H := H) (by (repeat (first | exact evs_nil | exact ev_non | exact ev_bl | exact ev_int | exact ev_str | exact ev_var rfl (by assumption) | apply ev_tup | apply ev_lst | apply evs_cons | exact Nat.le_of_ble_eq_true rfl))) (by decide) H (Same.refl H) _ fun p1 vs1 H1 n1 e1 hp1 hd1 => ?_
  refine seq_asg (op_of ⟨_, rfl, ?_⟩)
  have hdH1 := up_d e1 hd
  show tLst _ _ _ _
  refine evl_lst (K := K) (H := H1) (by (repeat (first | exact evs_nil | exact ev_non | exact ev_bl | exact ev_int | exact ev_str | exact ev_var rfl (by assumption) | apply ev_tup | apply ev_lst | apply evs_cons | exact Nat.le_of_ble_eq_true rfl))) (by simp) H1 (Same.refl H1) _ fun p2 vs2 H2 n2 e2 hp2 hd2 => ?_
  refine ⟨p1, p2, _, _, rfl, rfl, e2 _ _ hp1, hp2, le_line (by rw [da_len hd1, da_len hd2]; simp), fun p3 hp3 => ?_⟩
  refine seq_asg (op_of ⟨_, rfl, ?_⟩)
  have e12 := e1.trans e2
  have e3 := same_new hp3 (.lst (vs1 ++ vs2))
  have e13 := e12.trans e3
  have hdH2 := up_d e13 hd
  have hd3 := da_app (up_da (e2.trans e3) hd1) (up_da e3 hd2)
  show tLst _ _ _ _
  refine evl_lst (K := K) (H := upd H2 p3 (.lst (vs1 ++ vs2))) (evs_cons (by (repeat (first | exact evs_nil | exact ev_non | exact ev_bl | exact ev_int | exact ev_str | exact ev_var rfl (by assumption) | apply ev_tup | apply ev_lst | apply evs_cons | exact Nat.le_of_ble_eq_true rfl))) (evs_cons (by (repeat (first | exact evs_nil | exact ev_non | exact ev_bl | exact ev_int | exact ev_str | exact ev_var rfl (by assumption) | apply ev_tup | apply ev_lst | apply evs_cons | exact Nat.le_of_ble_eq_true rfl))) (evs_cons (by (repeat (first | exact evs_nil | exact ev_non | exact ev_bl | exact ev_int | exact ev_str | exact ev_var rfl (by assumption) | apply ev_tup | apply ev_lst | apply evs_cons | exact Nat.le_of_ble_eq_true rfl))) (evs_cons (by (repeat (first | exact evs_nil | exact ev_non | exact ev_bl | exact ev_int | exact ev_str | exact ev_var rfl (by assumption) | apply ev_tup | apply ev_lst | apply evs_cons | exact Nat.le_of_ble_eq_true rfl))) (evs_cons (d := nestD 10) (fun H5 e5 Q' k' => ⟨10, rfl, by decide, fun v6 H6 e6 h6 => k' v6 H6 e6 h6.dp⟩) evs_nil))))) (by simp) _ (Same.refl _) _ fun p4 vs4 H4 n4 e4 hp4 hd4 => ?_
  refine ⟨p3, p4, _, _, rfl, rfl, e4 _ _ upd_same, hp4, le_line (by rw [List.length_append, da_len hd1, da_len hd2, da_len hd4]; simp), fun p5 hp5 => ?_⟩
  have e5 := same_new hp5 (.lst ((vs1 ++ vs2) ++ vs4))
  have hd5 := da_app (up_da (e4.trans e5) hd3) (up_da e5 hd4)
  have e15 := e13.trans (e4.trans e5)
  refine ⟨_, rfl, _, rfl, s, p5, _, rfl, hs.up e15, SqL.of upd_same, ?_, ?_, fun v' hv' => ?_⟩
  · intro z
    have := congrArg List.length z
    rw [da_len hd5] at this
    simp at this
  · rw [da_len hd5]
    simp
  obtain ⟨d', hd1', hd2'⟩ := da_mem hd5 hv'
  suffices both : Nice 30 d' ∧ meas 9 d' = 0 from q v' _ d' e15 hd2' both.1 both.2
  have w1 := nice_w hn
  have mk : ∀ ds : List PyData, ds.length ≤ 20000 → (∀ e, e ∈ ds → e ∈ ([.str ("&" : Str), .str ("|" : Str), .str ("" : Str), .tuple [.str ("a" : Str), .str ("b" : Str)], .tuple [.str ("|" : Str), .str ("b" : Str)], .list [.str ("a" : Str)], d] : List PyData)) → Nice 30 (.tuple ds) := fun ds hl hm => (Nice.tuple hl fun e he => w1 e (hm e he)).mono (by decide)
  simp only [List.mem_append, List.mem_cons, List.not_mem_nil, or_false, or_assoc] at hd1'
  rcases hd1' with rfl | rfl | rfl | rfl | rfl | rfl | rfl | rfl | rfl | rfl | rfl | rfl | rfl | rfl | rfl | rfl | rfl | rfl | rfl | rfl | rfl | rfl
  all_goals refine ⟨?_, ?_⟩
  all_goals first
    | exact ⟨by decide +kernel, by decide +kernel⟩
    | exact mk _ (by simp) (by simp)
    | exact (nest_nice 10).mono (by decide)
    | decide +kernel
    | exact m3 (.inl (by decide +kernel))
    | exact m3 (.inr (.inl (by decide +kernel)))
    | exact m3 (.inr (.inr (by decide +kernel)))
    | rfl
end
end FF
/-! texts of words with few leaves are short; _law_text -/
namespace FF
open PySem PySem.Spec PyProof.Rows L2
theorem drawn_wide : ∀ {n : Nat} {d : PyData}, Drawn n d → Wide n d
  | 0, _, h => h
  | n + 1, d, h => by
    rcases drawn_shape h with ⟨z, rfl, hz⟩ | ⟨o, ps, k, rfl, ho, l2, l4, e, hp⟩
    · exact .inl hz
    · cases e
      obtain ⟨c, rfl, hc⟩ := op_sign ho
      exact .inr ⟨c, ps, rfl, hc, l2, by omega, fun p hpp => drawn_wide (hp p hpp)⟩
theorem tail_short {c : Nat} {f : PyData → List Nat} {g : PyData → Int} : ∀ {ps : List PyData}, (∀ p ∈ ps, ((f p).length : Int) + 5 ≤ 8 * g p) → ((tailL c (ps.map f)).length : Int) + 2 * (ps.length : Int) ≤ 8 * (ps.map g).sum
  | [], _ => by simp [tailL]
  | p :: ps, h => by
    have h1 := h p List.mem_cons_self
    have h2 := tail_short (c := c) (ps := ps) fun q hq => h q (List.mem_cons_of_mem _ hq)
    have e : (tailL c ((p :: ps).map f)).length = (f p).length + 3 + (tailL c (ps.map f)).length := by
      show ((32 :: c :: 32 :: f p) ++ tailL c (ps.map f)).length = _
      rw [List.length_append]
      simp only [List.length_cons]
    rw [e, List.map_cons, List.sum_cons, List.length_cons]
    omega
theorem text_short : ∀ {n : Nat} {d : PyData}, Drawn n d → ((tl (textD (n + 1) d)).length : Int) + 7 ≤ 8 * meas (n + 1) d ∧ ((tl (partT (textD (n + 1)) d)).length : Int) + 5 ≤ 8 * meas (n + 1) d := by
  have lt : ∀ {n : Nat} {z : Str}, isLet (.str z) = true → ((tl z).length : Int) + 7 ≤ 8 * meas (n + 1) (.str z) := fun {n z} hz => by
    rw [meas_let hz, if_pos (by omega)]
    obtain ⟨c, e, _⟩ := let_shape hz
    cases e
    exact Int.le_refl 8
  intro n
  induction n with
  | zero =>
    intro d h
    rcases drawn_shape h with ⟨z, rfl, hz⟩ | ⟨_, _, _, _, _, _, _, e, _⟩
    · have := lt (n := 0) hz
      refine ⟨this, ?_⟩
      show ((tl z).length : Int) + 5 ≤ _
      omega
    · cases e
  | succ n ih =>
    intro d h
    rcases drawn_shape h with ⟨z, rfl, hz⟩ | ⟨o, ps, k, rfl, ho, l2, l4, e, hp⟩
    · have := lt (n := n + 1) hz
      refine ⟨this, ?_⟩
      show ((tl z).length : Int) + 5 ≤ _
      omega
    · cases e
      obtain ⟨c, rfl, hc⟩ := op_sign ho
      have hm := wide_sum hc l2 fun p hpp => drawn_wide (hp p hpp)
      match ps, l2 with
      | p :: ps, l2 =>
      have h1 := (ih (hp p List.mem_cons_self)).2
      have h2 := tail_short (c := c) (f := fun q => tl (partT (textD (n + 1)) q)) (g := meas (n + 1)) (ps := ps) fun q hq => (ih (hp q (List.mem_cons_of_mem _ hq))).2
      rw [List.map_cons, List.sum_cons] at hm
      rw [List.length_cons] at l2
      have t : ((tl (textD (n + 1 + 1) (.tuple (.str ⟨#[c]⟩ :: p :: ps)))).length : Int) + 7 ≤ 8 * meas (n + 2) (.tuple (.str ⟨#[c]⟩ :: p :: ps)) := by
        rw [text_tup, List.length_append, hm]
        omega
      refine ⟨t, ?_⟩
      rw [tup_off, par_tl, List.length_cons, List.length_append]
      show (((tl (textD (n + 1 + 1) (.tuple (.str ⟨#[c]⟩ :: p :: ps)))).length + 1 + 1 : Nat) : Int) + 5 ≤ 8 * meas (n + 2) _
      omega
def spTextM (K : PySem.W.Frag) (n : Nat) : Sp := fun vs H Q _ => ∃ (v : V) (d : PyData) (m : Nat), vs = [v] ∧ Tp K H v d ∧ Drawn m d ∧ m < n ∧ meas (m + 1) d ≤ 1000 ∧ ∀ H', Same H H' → Q (.str (textD (m + 1) d)) H'
section
variable {P : Program} {w : World} {K : PySem.W.Frag} {mg : Str → Option Value} {base : Heap}
theorem ok_law_textM_step {n : Nat} {f : Addr} {fd : FuncData} (F : FunD K "_law_text" "_law_text" (defArgs s_law_text) (defBody s_law_text) (defScope s_law_text) [] [] f fd) (hm : mg "_law_text" = some (.ref f)) (T : Top K mg)
    (D_law_text : Def P w K mg base "_law_text" n ["_law_word"] (spTextM K n)) : Def P w K mg base "_law_text" (n + 1) ["_law_word"] (spTextM K (n + 1)) := by
  refine def_mk F hm (F.bindsN fun _ _ _ _ _ _ us hl => match us, hl with | [_], _ => rfl) sc_law_text (fun vs H Q E h => ?_) (fun cdv A outer s H vs Q E hr h => ?_)
  · obtain ⟨v, d, m, rfl, _⟩ := h
    rfl
  obtain ⟨v, d, m, rfl, hd, hdr, hmn, hms, q⟩ := h
  refine ⟨_, (pss_cons (ps_if (pt_val (pe_callB (call_isK K kb_str) (by rfl) T.b_isinstance (by decide +kernel) (pa_cons (pv 0) (pa_cons (pe_bltn (v := .ty "str") (by rfl) T.b_str (by decide +kernel) rfl) pa_nil))))
  (pss_one (ps_ret (pv 0)))
  pss_nil)
  (pss_cons (ps_setLc (i := 1) (own := [("_law_one", 2)]) rfl sc_law_text.nd rfl rfl (sw_true rfl rfl rfl (by kernel_rfl)) (pi_tupK K (pe_slice (sl_tupK K) (pv 0) (po_some pe_int) po_none)) (blkOk_by (by kernel_rfl)) (fun _ _ _ _ _ => (pg_name (i := 2) sc_law_text.nd rfl (Or.inl rfl) (.inr rfl))) (fun _ _ _ _ _ => pts_nil) (fun _ _ _ _ _ => (pe_ifExp (pt_val (pe_callB (call_isK K kb_str) (by rfl) T.b_isinstance (by decide +kernel) (pa_cons (pv 2) (pa_cons (pe_bltn (v := .ty "str") (by rfl) T.b_str (by decide +kernel) rfl) pa_nil)))) (pv 2) (pe_op op_add_str (pe_op op_add_str pe_str (pe_def D_law_text hr (by first | decide | omega) (pa_cons (pv 2) pa_nil))) pe_str))))
  (pss_one (ps_ret (pe_join (pe_op op_add_str (pe_op op_add_str pe_str (pe_ix (ix_tupK K) (pv 0) pe_int (fun _ _ => rfl))) pe_str) (pv 1)))))), ?_⟩
  refine ⟨_, rfl, v, d, rfl, hd.dp, _, rfl, ?_⟩
  rcases drawn_shape hdr with ⟨z, rfl, _⟩ | ⟨o, ps, k, rfl, ho, l2, l4, rfl, hps⟩
  · cases hd with
    | str z => exact iteT ⟨_, rfl, q H (Same.refl H)⟩
  have hw : ∀ p ∈ ps, meas (k + 1) p ≤ 1000 := fun p hpp => by
    obtain ⟨c, rfl, hc⟩ := op_sign ho
    rw [wide_sum hc l2 fun p hpp => drawn_wide (hps p hpp)] at hms
    have := (pos_le (f := meas (k + 1)) fun p hpp => wide_meas (drawn_wide (hps p hpp)) (k + 1) (by omega)).2 p hpp
    omega
  have hsh : ∀ p ∈ ps, (textD (k + 1) p).length ≤ 8000 ∧ (partT (textD (k + 1)) p).length ≤ 8000 := fun p hpp => by
    have h1 := text_short (hps p hpp)
    have h2 := hw p hpp
    have e1 : (tl (textD (k + 1) p)).length = (textD (k + 1) p).length := rfl
    have e2 : (tl (partT (textD (k + 1)) p)).length = (partT (textD (k + 1)) p).length := rfl
    omega
  cases hd with
  | tup ht ha =>
  cases ha with
  | @cons vo vr _ _ hvo hvr =>
  rename_i a
  cases hvo with
  | str o =>
  refine iteF ?_
  have lr := hvr.len
  have hB : ∀ {n : Nat}, n ≤ 300000 → n ≤ sizeLine := fun h => Nat.le_trans h (by decide +kernel)
  refine ⟨_, rfl, _, rfl, a, _, rfl, ht.sqT, notWhole1, fun p hp0 => ⟨p, rfl, ⟨_, SqT.of upd_same⟩, fun D hD => ?_⟩⟩
  rw [cut1] at hD ⊢
  have e1 := same_new hp0 (.tup vr)
  refine lc_mapT (j := 2) (fun i u _ => ∃ d, ps[i]? = some d ∧ u = .str (partT (textD (k + 1)) d)) (fun _ _ _ _ _ h => h) hD (SqT.of upd_same) (le_line (by omega)) (fun _ => rfl) ?_ ?_
  · intro i x H2 hx e2 Q' k'
    obtain ⟨d, hd1, hd2⟩ := tpa_get hvr hx
    have hd3 := (hd2.up (Same.T e1)).up (Same.T e2)
    have hdr2 := hps d (List.mem_of_getElem? hd1)
    have tl := hsh d (List.mem_of_getElem? hd1)
    refine ⟨_, rfl, x, d, rfl, hd3.dp, _, rfl, ?_⟩
    rcases drawn_shape hdr2 with ⟨z, rfl, _⟩ | ⟨o2, ps2, k2, rfl, _⟩
    · cases hd3 with
      | str z => exact iteT ⟨_, rfl, k' _ _ (Same.refl _) ⟨_, hd1, rfl⟩⟩
    · refine iteF ?_
      refine ⟨_, rfl, x, _, k, rfl, hd3, hdr2, by omega, hw _ (List.mem_of_getElem? hd1), fun H3 e3 => ⟨_, _, rfl, rfl, ?_, _, _, rfl, rfl, ?_, k' _ _ e3 ⟨_, hd1, rfl⟩⟩⟩
      · have h1 : ("(" : Str).length = 1 := by decide +kernel
        exact hB (by omega)
      · rw [app_len]
        have h1 : ("(" : Str).length = 1 := by decide +kernel
        have h2 : (")" : Str).length = 1 := by decide +kernel
        exact hB (by omega)
  intro H2 ys e2 hD2 hl2 hy
  have hmap : ys = (ps.map (partT (textD (k + 1)))).map V.str := by
    rw [List.map_map]
    exact eq_map_of (hl2.trans lr) fun i u hu => hy i u hu
  subst hmap
  have q2 := q H2 (e1.trans e2)
  have ev : textD (k + 1 + 1) (.tuple (.str o :: ps)) = Txt.join ((" " : Str) ++ o ++ " ") (ps.map (partT (textD (k + 1)))) := rfl
  rw [ev] at q2
  have sl := sep_len ho
  have lo : o.length = 1 := by
    rcases op_shape ho with h | h
    · rw [PyData.str.inj h]
      decide +kernel
    · rw [PyData.str.inj h]
      decide +kernel
  have l1 : (" " : Str).length = 1 := by decide +kernel
  refine ⟨_, rfl, a, _, _, _, rfl, rfl, up_t (e1.trans e2) ht.sqT, at0, _, _, rfl, rfl, ?_, _, _, rfl, rfl, ?_, ⟨_, rfl⟩, _, rfl, _, D, ps.map (partT (textD (k + 1))), rfl, rfl, .inl (SqL.of hD2), ?_, q2⟩
  · exact hB (by omega)
  · rw [app_len]
    exact hB (by omega)
  · rw [sl, List.length_map]
    have hsum := sum_le fun p hpp => (hsh p hpp).2
    have hm : ps.length * 8000 ≤ 24 * 8000 := Nat.mul_le_mul_right _ l4
    exact hB (by omega)
end
end FF
/-! the law's reader as a whole; spoilt texts -/
namespace FF
open PySem PySem.Spec PyProof.Rows L2
def spRead (K : PySem.W.Frag) : Sp := fun vs H Q _ => ∃ (t : Str), vs = [.str t] ∧ t.length ≤ 10000 ∧ ∀ v H', Same H H' → Tp K H' v (optD (parseD t)) → Q v H'
def spSpoilt : Sp := fun vs H Q _ => ∃ (s : Addr) (t : Str), vs = [.ref s, .str t] ∧ Src H s ∧ t.length ≤ 8000 ∧ ∀ t' : Str, t'.length ≤ 2 * t.length + 2 → Q (.str t') H
theorem cutS_len (z : Str) (lo hi : Option Int) : (cutS z lo hi).length ≤ z.length := by
  show (((z.cps.toList.drop (HT.sIx z.length 0 lo)).take (HT.sIx z.length z.length hi - HT.sIx z.length 0 lo))).toArray.size ≤ _
  rw [List.size_toArray, List.length_take, List.length_drop]
  show _ ≤ z.cps.toList.length
  omega
section
variable {P : Program} {w : World} {K : PySem.W.Frag} {mg : Str → Option Value} {base : Heap}
theorem ok_read {f : Addr} {fd : FuncData} (F : FunD K "_law_read" "_law_read" (defArgs s_law_read) (defBody s_law_read) (defScope s_law_read) [] [] f fd) (hm : mg "_law_read" = some (.ref f)) (T : Top K mg)
    (D_law_read_term : Def P w K mg base "_law_read_term" 12 ["_law_mtext", "_law_deep"] (spRT K 6)) (D_law_leaves : Def P w K mg base "_law_leaves" 5 ["_law_word"] (spLeaves K 5)) : Def P w K mg base "_law_read" 13 ["_law_mtext"] (spRead K) := by
  refine def_mk F hm (F.bindsN fun _ _ _ _ _ _ us hl => match us, hl with | [_], _ => rfl) sc_law_read (fun vs H Q E h => ?_) (fun cdv A outer s H vs Q E hr h => ?_)
  · obtain ⟨t, rfl, _⟩ := h
    rfl
  obtain ⟨t, rfl, ht, q⟩ := h
  refine ⟨_, (pss_cons (ps_set (i := 1) sc_law_read.nd rfl (Or.inl rfl) (pe_def D_law_read_term hr (by first | decide | omega) (pa_cons (pv 0) (pa_cons pe_int pa_nil))))
  (pss_one (ps_ret (pe_ifExp (PW.pt (pw_and (pt_cmp (pc_notN (pv 1)) (by rfl)) (pw_and1 (pt_cmpR op_le (pe_def D_law_leaves hr (by first | decide | omega) (pa_cons (pv 1) pa_nil)) pe_int (nomark _))))) (pv 1) pe_non)))), ?_⟩
  refine ⟨_, rfl, t, 5, rfl, ht, by decide, by decide, fun v H1 e1 hv => ?_⟩
  rw [← reads_alike ht] at q
  unfold lawD at q
  cases q5 : lrTerm 5 (tl t) with
  | none =>
    rw [q5] at hv q
    have q : ∀ v H', Same H H' → Tp K H' v .none → Q v H' := q
    have hv : Tp K H1 v .none := hv
    cases hv
    exact ⟨_, rfl, _, rfl, q _ H1 e1 .non⟩
  | some d =>
    rw [q5] at hv q
    have q : ∀ v H', Same H H' → Tp K H' v (optD (if meas 5 d ≤ 24 then some d else none)) → Q v H' := q
    have hv : Tp K H1 v d := hv
    obtain ⟨w1, _⟩ := lrTerm_sound 4 _ _ ht q5
    have go : v ≠ .non := fun z => by
      rw [z] at hv
      cases hv
      rcases wide_shape w1 with ⟨z, e, _⟩ | ⟨_, _, _, e, _⟩ <;> cases e
    refine ⟨_, rfl, _, rfl, ?_⟩
    rw [decide_eq_false go]
    refine ⟨_, rfl, v, d, 4, rfl, hv, w1, by decide, fun H2 e2 => ⟨_, _, rfl, rfl, _, rfl, ?_⟩⟩
    refine if_dec (fun h => ⟨_, rfl, ?_⟩) (fun h => ?_)
    · rw [if_pos h] at q
      exact q v H2 (e1.trans e2) (hv.up (Same.T e2))
    · rw [if_neg h] at q
      exact q .non H2 (e1.trans e2) .non
theorem ok_spoilt {f : Addr} {fd : FuncData} (F : FunD K "_law_spoilt" "_law_spoilt" (defArgs s_law_spoilt) (defBody s_law_spoilt) (defScope s_law_spoilt) [] [] f fd) (hm : mg "_law_spoilt" = some (.ref f)) (T : Top K mg)
    (D_law_take : Def P w K mg base "_law_take" 1 ["_law_source_here", "_law_many"] spTake) : Def P w K mg base "_law_spoilt" 2 ["_law_source_here", "_law_mtext"] spSpoilt := by
  refine def_mk F hm (F.bindsN fun _ _ _ _ _ _ us hl => match us, hl with | [_, _], _ => rfl) sc_law_spoilt (fun vs H Q E h => ?_) (fun cdv A outer s0 H vs Q E hr h => ?_)
  · obtain ⟨s, t, rfl, _⟩ := h
    rfl
  obtain ⟨s, t, rfl, hs, ht, q⟩ := h
  refine ⟨_, (pss_cons (ps_set (i := 2) sc_law_spoilt.nd rfl (Or.inl rfl) (pe_def D_law_take hr (by first | decide | omega) (pa_cons (pv 0) (pa_cons (pe_op op_add (pe_callB (call_lenK K) (by rfl) T.b_len (by decide +kernel) (pa_cons (pv 1) pa_nil)) pe_int) pa_nil))))
  (pss_cons (ps_set (i := 3) sc_law_spoilt.nd rfl (Or.inl rfl) (pe_def D_law_take hr (by first | decide | omega) (pa_cons (pv 0) (pa_cons (pe_op op_add (pe_callB (call_lenK K) (by rfl) T.b_len (by decide +kernel) (pa_cons (pv 1) pa_nil)) pe_int) pa_nil))))
  (pss_cons (ps_set (i := 4) sc_law_spoilt.nd rfl (Or.inl rfl) pe_str)
  (pss_cons (ps_set (i := 5) sc_law_spoilt.nd rfl (Or.inl rfl) (pe_ix ix_str (pv 4) (pe_def D_law_take hr (by first | decide | omega) (pa_cons (pv 0) (pa_cons (pe_callB (call_lenK K) (by rfl) T.b_len (by decide +kernel) (pa_cons (pv 4) pa_nil)) pa_nil))) (fun _ _ => rfl)))
  (pss_cons (ps_set (i := 6) sc_law_spoilt.nd rfl (Or.inl rfl) (pe_def D_law_take hr (by first | decide | omega) (pa_cons (pv 0) (pa_cons pe_int pa_nil))))
  (pss_cons (ps_if (pt_cmpR op_eq (pv 6) pe_int (nomark _))
  (pss_one (ps_ret (pe_op op_add_str (pe_op op_add_str (pe_slice sl_str (pv 1) po_none (po_some (pv 2))) (pv 5)) (pe_slice sl_str (pv 1) (po_some (pv 2)) po_none))))
  pss_nil)
  (pss_cons (ps_if (pt_cmpR op_eq (pv 6) pe_int (nomark _))
  (pss_one (ps_ret (pe_op op_add_str (pe_slice sl_str (pv 1) po_none (po_some (pv 2))) (pe_slice sl_str (pv 1) (po_some (pe_op op_add (pv 2) pe_int)) po_none))))
  pss_nil)
  (pss_cons (ps_if (pt_cmpR op_eq (pv 6) pe_int (nomark _))
  (pss_one (ps_ret (pe_op op_add_str (pe_op op_add_str (pe_slice sl_str (pv 1) po_none (po_some (pv 2))) (pv 5)) (pe_slice sl_str (pv 1) (po_some (pe_op op_add (pv 2) pe_int)) po_none))))
  pss_nil)
  (pss_cons (ps_if (pt_cmpR op_eq (pv 6) pe_int (nomark _))
  (pss_one (ps_ret (pe_op op_add_str (pe_slice sl_str (pv 1) po_none (po_some (pe_callB (call_min2 rfl) (by rfl) T.b_min (by decide +kernel) (pa_cons (pv 2) (pa_cons (pv 3) pa_nil))))) (pe_slice sl_str (pv 1) (po_some (pe_callB (call_max2 rfl) (by rfl) T.b_max (by decide +kernel) (pa_cons (pv 2) (pa_cons (pv 3) pa_nil)))) po_none))))
  pss_nil)
  (pss_cons (ps_if (pt_cmpR op_eq (pv 6) pe_int (nomark _))
  (pss_one (ps_ret (pe_op op_add_str (pe_slice sl_str (pv 1) po_none (po_some (pe_callB (call_max2 rfl) (by rfl) T.b_max (by decide +kernel) (pa_cons (pv 2) (pa_cons (pv 3) pa_nil))))) (pe_slice sl_str (pv 1) (po_some (pe_callB (call_min2 rfl) (by rfl) T.b_min (by decide +kernel) (pa_cons (pv 2) (pa_cons (pv 3) pa_nil)))) po_none))))
  pss_nil)
  (pss_one (ps_ret (pe_op op_add_str (pe_op op_add_str pe_str (pv 1)) pe_str))))))))))))), ?_⟩
  have hL : t.length ≤ sizeLine := Nat.le_trans ht (by decide)
  have hS : ∀ {n : Nat}, n ≤ 100000 → n ≤ sizeLine := fun h => Nat.le_trans h (by decide)
  have len : t.length ≤ 8000 := ht
  refine ⟨_, rfl, _, rfl, _, t.length, rfl, ⟨hL, rfl⟩, _, _, rfl, rfl, s, _, rfl, by omega, by omega, hs, fun a0 a1 a2 => ?_⟩
  refine ⟨_, rfl, _, rfl, _, t.length, rfl, ⟨hL, rfl⟩, _, _, rfl, rfl, s, _, rfl, by omega, by omega, hs, fun b0 b1 b2 => ?_⟩
  refine ⟨_, rfl, _, rfl, _, rfl, _, 15, rfl, ⟨(by decide), by decide +kernel⟩, s, 15, rfl, by omega, by omega, hs, fun c0 c1 c2 => ?_⟩
  obtain ⟨k, rfl⟩ : ∃ k : Nat, c0 = k := ⟨c0.toNat, by omega⟩
  have hk : k < (" &|()<:abhiA0\n-" : Str).cps.toList.length := Nat.lt_of_lt_of_eq (show k < 15 by omega) (by decide +kernel)
  generalize hx : (" &|()<:abhiA0\n-" : Str).cps.toList[k] = x
  have hat : atI (" &|()<:abhiA0\n-" : Str).cps.toList ((k : Nat) : Int) = some x := atI_nat (by rw [List.getElem?_eq_getElem hk, hx])
  refine ⟨_, _, x, rfl, rfl, (by decide), hat, _, rfl, s, 6, rfl, by omega, by omega, hs, fun w0 w1 w2 => ?_⟩
  have cl := cutS_len t
  have o1 : ∀ y : Nat, (⟨#[y]⟩ : Str).length = 1 := fun _ => rfl
  have s1 : ∀ (l1 h1 : Option Int), (cutS t l1 h1).length + (⟨#[x]⟩ : Str).length ≤ sizeLine := fun l1 h1 => hS (by have := cl l1 h1; have := o1 x; omega)
  have s2 : ∀ (l1 h1 l2 h2 : Option Int), (cutS t l1 h1 ++ ⟨#[x]⟩).length + (cutS t l2 h2).length ≤ sizeLine := fun l1 h1 l2 h2 => hS (by rw [app_len]; have := cl l1 h1; have := cl l2 h2; have := o1 x; omega)
  have s3 : ∀ (l1 h1 l2 h2 : Option Int), (cutS t l1 h1).length + (cutS t l2 h2).length ≤ sizeLine := fun l1 h1 l2 h2 => hS (by have := cl l1 h1; have := cl l2 h2; omega)
  have f2 : ∀ (l1 h1 l2 h2 : Option Int), Q (.str (cutS t l1 h1 ++ cutS t l2 h2)) H := fun l1 h1 l2 h2 => q _ (by rw [app_len]; have := cl l1 h1; have := cl l2 h2; omega)
  have f3 : ∀ (l1 h1 l2 h2 : Option Int), Q (.str (cutS t l1 h1 ++ ⟨#[x]⟩ ++ cutS t l2 h2)) H := fun l1 h1 l2 h2 => q _ (by rw [app_len, app_len]; have := cl l1 h1; have := cl l2 h2; have := o1 x; omega)
  refine ⟨_, rfl, rfl, _, rfl, ?_⟩
  refine if_int (fun _ => ?_) (fun _ => ?_)
  · exact ⟨_, rfl, _, rfl, _, rfl, t, rfl, hL, _, rfl, _, _, rfl, rfl, s1 _ _, _, rfl, _, rfl, _, rfl, t, rfl, hL, _, _, rfl, rfl, s2 _ _ _ _, f3 _ _ _ _⟩
  refine ⟨_, rfl, rfl, _, rfl, ?_⟩
  refine if_int (fun _ => ?_) (fun _ => ?_)
  · exact ⟨_, rfl, _, rfl, _, rfl, t, rfl, hL, _, rfl, _, rfl, _, _, rfl, rfl, _, rfl, t, rfl, hL, _, _, rfl, rfl, s3 _ _ _ _, f2 _ _ _ _⟩
  refine ⟨_, rfl, rfl, _, rfl, ?_⟩
  refine if_int (fun _ => ?_) (fun _ => ?_)
  · exact ⟨_, rfl, _, rfl, _, rfl, t, rfl, hL, _, rfl, _, _, rfl, rfl, s1 _ _, _, rfl, _, rfl, _, _, rfl, rfl, _, rfl, t, rfl, hL, _, _, rfl, rfl, s2 _ _ _ _, f3 _ _ _ _⟩
  refine ⟨_, rfl, rfl, _, rfl, ?_⟩
  refine if_int (fun _ => ?_) (fun _ => ?_)
  · exact ⟨_, rfl, _, rfl, _, rfl, _, _, rfl, _, rfl, t, rfl, hL, _, rfl, _, rfl, _, rfl, _, _, rfl, _, rfl, t, rfl, hL, _, _, rfl, rfl, s3 _ _ _ _, f2 _ _ _ _⟩
  refine ⟨_, rfl, rfl, _, rfl, ?_⟩
  refine if_int (fun _ => ?_) (fun _ => ?_)
  · exact ⟨_, rfl, _, rfl, _, rfl, _, _, rfl, _, rfl, t, rfl, hL, _, rfl, _, rfl, _, rfl, _, _, rfl, _, rfl, t, rfl, hL, _, _, rfl, rfl, s3 _ _ _ _, f2 _ _ _ _⟩
  have p1 : ("(" : Str).length = 1 := by decide +kernel
  have p2 : (")" : Str).length = 1 := by decide +kernel
  exact ⟨_, rfl, _, _, rfl, rfl, hS (by omega), _, _, rfl, rfl, hS (by rw [app_len]; omega), q _ (by rw [app_len, app_len]; omega)⟩
end
end FF
/-! is_name, is_goal, is_rule -/
namespace FF
open PySem PySem.Spec PyProof.Rows L2
abbrev fitsB (d : PyData) : Bool := inB (meas 5 d) 24
abbrev smallS : Str := "abcdefghijklmnopqrstuvwxyz"
def isNameS (z : Str) : Bool := (decide ((1 : Int) ≤ z.length) && decide ((z.length : Int) ≤ 6)) && z.cps.toList.all fun c => decide (c ∈ smallS.cps.toList)
def isGoalD : PyData → Bool
  | .tuple [l, r] => fitsB l && fitsB r
  | _ => false
def isRuleD : PyData → Bool
  | .tuple [.str nm, l, r] => isNameS nm && (fitsB l && fitsB r)
  | _ => false
def spName (K : PySem.W.Frag) : Sp := fun vs H Q _ => ∃ z : Str, vs = [.str z] ∧ z.length ≤ 20000 ∧ ∀ H', Same H H' → Q (.bl (isNameS z)) H'
def spGoal (K : PySem.W.Frag) : Sp := fun vs H Q _ => ∃ (v : V) (d : PyData), vs = [v] ∧ Dp K H v d ∧ nice d = true ∧ ∀ H', Same H H' → Q (.bl (isGoalD d)) H'
def spRule (K : PySem.W.Frag) : Sp := fun vs H Q _ => ∃ (v : V) (d : PyData), vs = [v] ∧ Dp K H v d ∧ nice d = true ∧ ∀ H', Same H H' → Q (.bl (isRuleD d)) H'
theorem all_map {l : List Nat} {f : Nat → Bool} : (l.map f).all id = l.all f := by
  rw [List.all_map] <;> rfl
theorem bls_map {l : List Nat} {f : Nat → Bool} : l.map (fun c => V.bl (f c)) = (l.map f).map V.bl := by
  rw [List.map_map] <;> rfl
theorem nice_sl {z : Str} (h : nice (.str z) = true) : z.length ≤ 20000 := by
  simp only [nice, Bool.and_eq_true, decide_eq_true_eq] at h
  exact h.1
theorem len_two {α : Type} {l : List α} (h : l.length = 2) : ∃ a b, l = [a, b] := match l, h with
  | [a, b], _ => ⟨a, b, rfl⟩
theorem len_three {α : Type} {l : List α} (h : l.length = 3) : ∃ a b c, l = [a, b, c] := match l, h with
  | [a, b, c], _ => ⟨a, b, c, rfl⟩
section
variable {P : Program} {w : World} {K : PySem.W.Frag} {mg : Str → Option Value} {base : Heap}
theorem ok_is_name {f : Addr} {fd : FuncData} (F : FunD K "is_name" "is_name" (defArgs s_is_name) (defBody s_is_name) (defScope s_is_name) [] [] f fd) (hm : mg "is_name" = some (.ref f)) (T : Top K mg) : Def P w K mg base "is_name" 1 ["text"] (spName K) := by
  refine def_mk F hm (F.bindsN fun _ _ _ _ _ _ us hl => match us, hl with | [_], _ => rfl) sc_is_name (fun vs H Q E h => ?_) (fun cdv A outer s H vs Q E hr h => ?_)
  · obtain ⟨z, rfl, _⟩ := h
    rfl
  obtain ⟨z, rfl, hz, q⟩ := h
  have hzl : z.length ≤ sizeLine := le_line hz
  refine ⟨_, (pss_one (ps_ret (pe_and (pe_chain op_le op_le pe_int (pe_callB (call_lenK K) (by rfl) T.b_len (by decide +kernel) (pa_cons (pv 0) pa_nil)) (pe_gi T.g_MAX_NAME)) (pe_one (pe_callB (cr_allK K rfl) (by rfl) T.b_all (by decide +kernel) (pa_cons (pe_lc (own := [("sign", 1)]) rfl sc_is_name.nd (pi_str (pv 0)) (blkOk_by (by kernel_rfl)) (fun _ _ _ _ _ => (pg_name (i := 1) sc_is_name.nd rfl (Or.inl rfl) (.inr rfl))) (fun _ _ _ _ _ => pts_nil) (fun _ _ _ _ _ => (pe_cmpR op_in_sign (pv 1) (pe_gs T.g_SMALL_LETTERS) rfl))) pa_nil)))))), ?_⟩
  refine ⟨_, rfl, _, z.length, rfl, ⟨hzl, rfl⟩, ?_⟩
  refine chain_le (fun Q' h => h) ?_
  refine ⟨_, rfl, ?_⟩
  refine if_b (fun h1 => ?_) (fun h1 => ?_)
  · refine ⟨_, rfl, z, rfl, fun D hD => ?_⟩
    refine lc_strI (j := 1) (fun c => .bl (decide (c ∈ smallS.cps.toList))) hD hzl (fun _ => rfl) ?_ ?_
    · intro c H2 hc Q' hq
      exact ⟨_, rfl, c, smallS, rfl, rfl, hq H2 (Same.refl H2)⟩
    · intro H2 e2 h2
      refine ⟨D, z.cps.toList.map fun c => decide (c ∈ smallS.cps.toList), rfl, ?_, ?_⟩
      · rw [bls_map] at h2
        exact SqL.of h2
      · rw [all_map]
        refine qb (q H2 e2) ?_
        show ((decide ((1 : Int) ≤ z.length) && decide ((z.length : Int) ≤ 6)) && _) = _
        rw [h1, Bool.true_and]
  · refine qb (q H (Same.refl H)) ?_
    show ((decide ((1 : Int) ≤ z.length) && decide ((z.length : Int) ≤ 6)) && _) = false
    rw [h1, Bool.false_and]
theorem ok_law_is_name {f : Addr} {fd : FuncData} (F : FunD K "_law_is_name" "_law_is_name" (defArgs s_law_is_name) (defBody s_law_is_name) (defScope s_law_is_name) [] [] f fd) (hm : mg "_law_is_name" = some (.ref f)) (T : Top K mg) : Def P w K mg base "_law_is_name" 1 ["_law_mtext"] (spName K) := by
  refine def_mk F hm (F.bindsN fun _ _ _ _ _ _ us hl => match us, hl with | [_], _ => rfl) sc_law_is_name (fun vs H Q E h => ?_) (fun cdv A outer s H vs Q E hr h => ?_)
  · obtain ⟨z, rfl, _⟩ := h
    rfl
  obtain ⟨z, rfl, hz, q⟩ := h
  have hzl : z.length ≤ sizeLine := le_line hz
  refine ⟨_, (pss_one (ps_ret (pe_and (pe_chain op_le op_le pe_int (pe_callB (call_lenK K) (by rfl) T.b_len (by decide +kernel) (pa_cons (pv 0) pa_nil)) pe_int) (pe_one (pe_callB (cr_allK K rfl) (by rfl) T.b_all (by decide +kernel) (pa_cons (pe_lc (own := [("_law_one", 1)]) rfl sc_law_is_name.nd (pi_str (pv 0)) (blkOk_by (by kernel_rfl)) (fun _ _ _ _ _ => (pg_name (i := 1) sc_law_is_name.nd rfl (Or.inl rfl) (.inr rfl))) (fun _ _ _ _ _ => pts_nil) (fun _ _ _ _ _ => (pe_cmpR op_in_sign (pv 1) pe_str rfl))) pa_nil)))))), ?_⟩
  refine ⟨_, rfl, _, z.length, rfl, ⟨hzl, rfl⟩, ?_⟩
  refine chain_le (fun Q' h => h) ?_
  refine ⟨_, rfl, ?_⟩
  refine if_b (fun h1 => ?_) (fun h1 => ?_)
  · refine ⟨_, rfl, z, rfl, fun D hD => ?_⟩
    refine lc_strI (j := 1) (fun c => .bl (decide (c ∈ smallS.cps.toList))) hD hzl (fun _ => rfl) ?_ ?_
    · intro c H2 hc Q' hq
      exact ⟨_, rfl, c, smallS, rfl, rfl, hq H2 (Same.refl H2)⟩
    · intro H2 e2 h2
      refine ⟨D, z.cps.toList.map fun c => decide (c ∈ smallS.cps.toList), rfl, ?_, ?_⟩
      · rw [bls_map] at h2
        exact SqL.of h2
      · rw [all_map]
        refine qb (q H2 e2) ?_
        show ((decide ((1 : Int) ≤ z.length) && decide ((z.length : Int) ≤ 6)) && _) = _
        rw [h1, Bool.true_and]
  · refine qb (q H (Same.refl H)) ?_
    show ((decide ((1 : Int) ≤ z.length) && decide ((z.length : Int) ≤ 6)) && _) = false
    rw [h1, Bool.false_and]
theorem ok_is_goal {f fT : Addr} {fd fdT : FuncData} (F : FunD K "is_goal" "is_goal" (defArgs s_is_goal) (defBody s_is_goal) (defScope s_is_goal) [] [] f fd) (hm : mg "is_goal" = some (.ref f)) (T : Top K mg)
    (FT0 : FunD K "is_term" "is_term" (defArgs s_is_term) (defBody s_is_term) (defScope s_is_term) [] [("max_depth", .int 5), ("max_size", .int 24)] fT fdT) (hmT : mg "is_term" = some (.ref fT)) (FT : FnOk P w K mg base CX0 13 fT fdT ["value", "max_depth", "max_size"] (spIsTerm K)) : Def P w K mg base "is_goal" 14 ["value"] (spGoal K) := by
  obtain ⟨da, va, ba⟩ := bind_a FT0
  refine def_mk F hm (F.bindsN fun _ _ _ _ _ _ us hl => match us, hl with | [_], _ => rfl) sc_is_goal (fun vs H Q E h => ?_) (fun cdv A outer s H vs Q E hr h => ?_)
  · obtain ⟨v, d, rfl, _⟩ := h
    rfl
  obtain ⟨v, d, rfl, hd, hn, q⟩ := h
  refine ⟨_, (pss_one (ps_ret (pe_and (pe_callB (call_isK K kb_tup) (by rfl) T.b_isinstance (by decide +kernel) (pa_cons (pv 0) (pa_cons (pe_bltn (v := .ty "tuple") (by rfl) T.b_tuple (by decide +kernel) rfl) pa_nil))) (pe_and (pe_cmpR op_eq (pe_callB (call_lenK K) (by rfl) T.b_len (by decide +kernel) (pa_cons (pv 0) pa_nil)) pe_int (nomark _)) (pe_and (pe_call FT (hr.mono (by decide)) rfl hmT FT0.kp ba va pass0 (pa_cons (pe_ix (ix_tupK K) (pv 0) pe_int (fun _ _ => rfl)) pa_nil)) (pe_one (pe_call FT (hr.mono (by decide)) rfl hmT FT0.kp ba va pass0 (pa_cons (pe_ix (ix_tupK K) (pv 0) pe_int (fun _ _ => rfl)) pa_nil)))))))), ?_⟩
  refine ⟨_, rfl, v, d, rfl, hd, _, rfl, ?_⟩
  have no : isGoalD d = false → Q (.bl false) H := fun e => qb (q H (Same.refl H)) e
  cases hd with
  | tup hs ha =>
    rename_i a us ds
    refine if_t ?_
    have hl := da_len ha
    refine ⟨_, rfl, _, us.length, rfl, .inr ⟨us, hs, rfl⟩, rfl, _, rfl, ?_⟩
    refine if_int (fun h1 => ?_) (fun h1 => ?_)
    · obtain ⟨l, r, rfl⟩ := len_two (l := ds) (by omega)
      cases ha with
      | @cons vl _ _ _ hl' ha =>
      cases ha with
      | @cons vr _ _ _ hr' ha =>
      cases ha
      refine ⟨_, rfl, a, _, _, _, rfl, rfl, hs, at0, vl, l, 5, 24, rfl, hl', nice_ti hn (by simp), by decide, fun H2 e2 => ⟨_, rfl, ?_⟩⟩
      refine if_b (fun h2 => ?_) (fun h2 => ?_)
      · refine ⟨_, rfl, a, _, _, _, rfl, rfl, up_t e2 hs, rfl, vr, r, 5, 24, rfl, up_d e2 hr', nice_ti hn (by simp), by decide, fun H3 e3 => qb (q H3 (e2.trans e3)) ?_⟩
        show (fitsB l && fitsB r) = _
        rw [show fitsB l = true from h2, Bool.true_and] <;> rfl
      · refine qb (q H2 e2) ?_
        show (fitsB l && fitsB r) = false
        rw [show fitsB l = false from h2, Bool.false_and]
    · refine no ?_
      match ds, hl with
      | [], _ => rfl
      | [_], _ => rfl
      | [_, _], hl => exact absurd (by rw [hl]; rfl) h1
      | _ :: _ :: _ :: _, _ => rfl
  | non => exact no rfl
  | bl b => exact no rfl
  | int i => exact no rfl
  | str z => exact no rfl
  | lst _ _ => exact no rfl
theorem ok_is_rule {f : Addr} {fd : FuncData} (F : FunD K "is_rule" "is_rule" (defArgs s_is_rule) (defBody s_is_rule) (defScope s_is_rule) [] [] f fd) (hm : mg "is_rule" = some (.ref f)) (T : Top K mg)
    (D_is_name : Def P w K mg base "is_name" 1 ["text"] (spName K)) (D_is_goal : Def P w K mg base "is_goal" 14 ["value"] (spGoal K)) : Def P w K mg base "is_rule" 15 ["value"] (spRule K) := by
  refine def_mk F hm (F.bindsN fun _ _ _ _ _ _ us hl => match us, hl with | [_], _ => rfl) sc_is_rule (fun vs H Q E h => ?_) (fun cdv A outer s H vs Q E hr h => ?_)
  · obtain ⟨v, d, rfl, _⟩ := h
    rfl
  obtain ⟨v, d, rfl, hd, hn, q⟩ := h
  refine ⟨_, (pss_cons (ps_if (PW.pt (pw_or (pt_not (pt_val (pe_callB (call_isK K kb_tup) (by rfl) T.b_isinstance (by decide +kernel) (pa_cons (pv 0) (pa_cons (pe_bltn (v := .ty "tuple") (by rfl) T.b_tuple (by decide +kernel) rfl) pa_nil))))) (pw_or (pt_cmpR op_ne (pe_callB (call_lenK K) (by rfl) T.b_len (by decide +kernel) (pa_cons (pv 0) pa_nil)) pe_int (nomark _)) (pw_or1 (pt_not (pt_val (pe_callB (call_isK K kb_str) (by rfl) T.b_isinstance (by decide +kernel) (pa_cons (pe_ix (ix_tupK K) (pv 0) pe_int (fun _ _ => rfl)) (pa_cons (pe_bltn (v := .ty "str") (by rfl) T.b_str (by decide +kernel) rfl) pa_nil)))))))))
  (pss_one (ps_ret pe_bl))
  pss_nil)
  (pss_one (ps_ret (pe_and (pe_def D_is_name hr (by first | decide | omega) (pa_cons (pe_ix (ix_tupK K) (pv 0) pe_int (fun _ _ => rfl)) pa_nil)) (pe_one (pe_def D_is_goal hr (by first | decide | omega) (pa_cons (pe_slice (sl_tupK K) (pv 0) (po_some pe_int) po_none) pa_nil))))))), ?_⟩
  have no : isRuleD d = false → Q (.bl false) H := fun e => qb (q H (Same.refl H)) e
  refine ⟨_, rfl, v, d, rfl, hd, _, rfl, ?_⟩
  cases hd with
  | tup hs ha =>
    rename_i a us ds
    refine iteF ?_
    have hl := da_len ha
    refine ⟨_, rfl, _, us.length, rfl, .inr ⟨us, hs, rfl⟩, rfl, _, rfl, ?_⟩
    refine if_bb (b := !decide (us.length = 3)) (by
      congr 1
      exact decide_eq_decide.mpr ⟨fun z => Int.ofNat.inj (V.int.inj z), fun z => by rw [z] <;> rfl⟩) (fun h1 => ?_) (fun h1 => ?_)
    · refine no ?_
      match ds, hl with
      | [], _ => rfl
      | [x], _ => cases x <;> rfl
      | [x, _], _ => cases x <;> rfl
      | [_, _, _], hl =>
        rw [hl] at h1
        cases h1
      | x :: _ :: _ :: _ :: _, _ => cases x <;> rfl
    have h1 : us.length = 3 := by
      by_cases z : us.length = 3
      · exact z
      · rw [decide_eq_false z] at h1
        cases h1
    obtain ⟨nm, l, r, rfl⟩ := len_three (l := ds) (by omega)
    cases ha with
    | @cons vn _ _ _ hn' ha =>
    cases ha with
    | @cons vl _ _ _ hl' ha =>
    cases ha with
    | @cons vr _ _ _ hr' ha =>
    cases ha
    have nn := nice_ti hn (d := nm) (by simp)
    refine ⟨_, rfl, a, _, _, _, rfl, rfl, hs, at0, vn, nm, rfl, hn', _, rfl, ?_⟩
    cases hn' with
    | str z =>
      refine iteF ?_
      refine ⟨_, rfl, a, _, _, _, rfl, rfl, hs, at0, z, rfl, nice_sl nn, fun H2 e2 => ⟨_, rfl, ?_⟩⟩
      refine if_b (fun h2 => ?_) (fun h2 => ?_)
      · refine ⟨_, rfl, _, rfl, a, _, rfl, up_t e2 hs, notWhole1, fun p hp0 => ?_⟩
        rw [cut1]
        have e3 := same_new hp0 (.tup [vl, vr])
        refine ⟨.ref p, .tuple [l, r], rfl, .tup (SqT.of upd_same) (.cons (up_d (e2.trans e3) hl') (.cons (up_d (e2.trans e3) hr') .nil)), ?_, fun H4 e4 => qb (q H4 ((e2.trans e3).trans e4)) ?_⟩
        · have n1 := nice_ti hn (d := l) (by simp)
          have n2 := nice_ti hn (d := r) (by simp)
          simp only [nice, Bool.and_eq_true, decide_eq_true_eq]
          refine ⟨by simp, niceAll_of fun x hx => ?_⟩
          simp only [List.mem_cons, List.not_mem_nil, or_false] at hx
          rcases hx with rfl | rfl
          · exact n1
          · exact n2
        · show (isNameS z && (fitsB l && fitsB r)) = _
          rw [h2, Bool.true_and] <;> rfl
      · refine qb (q H2 e2) ?_
        show (isNameS z && (fitsB l && fitsB r)) = false
        rw [h2, Bool.false_and]
    | non => exact iteT (no rfl)
    | bl b => exact iteT (no rfl)
    | int i => exact iteT (no rfl)
    | lst _ _ => exact iteT (no rfl)
    | tup _ _ => exact iteT (no rfl)
  | non => exact iteT (no rfl)
  | bl b => exact iteT (no rfl)
  | int i => exact iteT (no rfl)
  | str z => exact iteT (no rfl)
  | lst _ _ => exact iteT (no rfl)
end
end FF
/-! _law_names, told exactly: valid names, no two alike -/
namespace FF
open PySem PySem.Spec PyProof.Rows L2
theorem smallS_val : smallS.cps.toList = [97, 98, 99, 100, 101, 102, 103, 104, 105, 106, 107, 108, 109, 110, 111, 112, 113, 114, 115, 116, 117, 118, 119, 120, 121, 122] := by decide +kernel
theorem small_get : ∀ k : Nat, k < 26 → smallS.cps.toList[k]? = some (97 + k) := by
  rw [smallS_val]
  decide +kernel
theorem small_at {k : Nat} (h : k < 26) : atI smallS.cps.toList (k : Int) = some (97 + k) := atI_nat (small_get k h)
theorem sum_one {l : List Str} (h : ∀ z ∈ l, z.length = 1) : (l.map (·.length)).sum = l.length := by
  induction l with
  | nil => rfl
  | cons x l ih =>
    rw [List.map_cons, List.sum_cons, ih fun z hz => h z (List.mem_cons_of_mem _ hz), h x List.mem_cons_self, List.length_cons]
    omega
theorem join_one : ∀ l : List Nat, (Str.join ("" : Str) (l.map fun c => (⟨#[c]⟩ : Str))).cps.toList = l
  | [] => rfl
  | [x] => rfl
  | x :: y :: r => by
    show ((#[x] ++ ("" : Str).cps) ++ (Str.join ("" : Str) ((y :: r).map fun c => (⟨#[c]⟩ : Str))).cps).toList = _
    rw [Array.toList_append, Array.toList_append, join_one (y :: r)]
    rfl
theorem join_one_len : ∀ {l : List Str}, (∀ z ∈ l, z.length = 1) → (Str.join ("" : Str) l).length = l.length
  | [], _ => rfl
  | [x], h => h x List.mem_cons_self
  | x :: y :: r, h => by
    have e : (Str.join ("" : Str) (x :: y :: r)).length = x.length + 0 + (Str.join ("" : Str) (y :: r)).length := by
      show ((x.cps ++ ("" : Str).cps) ++ (Str.join ("" : Str) (y :: r)).cps).size = _
      rw [Array.size_append, Array.size_append]
      rfl
    rw [e, join_one_len (l := y :: r) fun z hz => h z (List.mem_cons_of_mem _ hz), h x List.mem_cons_self]
    simp only [List.length_cons]
    omega
/-- the letters of the i-th name -/
def nmL (f st n j i : Nat) : List Nat := (List.replicate n (97 + f)).set j (97 + (f + 1 + st * i) % 26)
def nmS (f st n j i : Nat) : Str := ⟨(nmL f st n j i).toArray⟩
def StepOk (st : Nat) : Prop := st = 1 ∨ st = 3 ∨ st = 5 ∨ st = 7 ∨ st = 9 ∨ st = 11 ∨ st = 15
theorem nm_inj {f st n j a b : Nat} (hs : StepOk st) (hj : j < n) (ha : a < 26) (hb : b < 26) (h : nmS f st n j a = nmS f st n j b) : a = b := by
  have h1 : nmL f st n j a = nmL f st n j b := by
    have := congrArg (fun z : Str => z.cps.toList) h
    simpa [nmS] using this
  have h2 := congrArg (fun l : List Nat => l[j]?) h1
  unfold nmL at h2
  simp only [List.getElem?_set_self', List.getElem?_replicate, hj, if_true, Option.map_some, Option.some.injEq] at h2
  have h3 : (f + 1 + st * a) % 26 = (f + 1 + st * b) % 26 := by
    simpa using h2
  rcases hs with rfl | rfl | rfl | rfl | rfl | rfl | rfl <;> omega
theorem nm_len {f st n j i : Nat} : (nmL f st n j i).length = n := by
  unfold nmL
  rw [List.length_set, List.length_replicate]
theorem nm_mem {f st n j i c : Nat} (hf : f < 26) (h : c ∈ nmL f st n j i) : 97 ≤ c ∧ c < 123 := by
  unfold nmL at h
  rcases List.mem_or_eq_of_mem_set h with h | h
  · have := (List.mem_replicate.mp h).2
    omega
  · have := Nat.mod_lt (f + 1 + st * i) (show 26 > 0 by decide)
    omega
theorem nm_name {f st n j i : Nat} (hf : f < 26) (h1 : 1 ≤ n) (h6 : n ≤ 6) : isNameS (nmS f st n j i) = true := by
  have hl : (nmS f st n j i).length = n := by
    show (nmL f st n j i).toArray.size = n
    rw [List.size_toArray, nm_len]
  unfold isNameS
  rw [hl, decide_eq_true (show (1 : Int) ≤ n by omega), decide_eq_true (show (n : Int) ≤ 6 by omega), Bool.true_and, Bool.true_and, List.all_eq_true]
  intro c hc
  have hc : c ∈ nmL f st n j i := by simpa [nmS] using hc
  obtain ⟨h2, h3⟩ := nm_mem hf hc
  refine decide_eq_true (List.mem_of_getElem? (i := c - 97) ?_)
  rw [small_get (c - 97) (by omega)]
  congr 1
  omega
theorem names_nodup {f st n j m : Nat} (hs : StepOk st) (hj : j < n) (hm : m ≤ 26) : ((List.range m).map (nmS f st n j)).Nodup := by
  refine List.pairwise_map.mpr ?_
  refine List.Pairwise.imp_of_mem (fun {a b} ha hb hab => ?_) (List.nodup_range)
  have ha := List.mem_range.mp ha
  have hb := List.mem_range.mp hb
  exact fun z => hab (nm_inj hs hj (by omega) (by omega) z)
def spNamesG (K : PySem.W.Frag) : Sp := fun vs H Q _ => ∃ (s : Addr) (m : Nat), vs = [.ref s, .int m] ∧ Src H s ∧ m ≤ 26 ∧ ∀ (r : Addr) (ss : List Str) H', Same H H' → H r = none → H' r = some (.lst (ss.map V.str)) → ss.length = m → (∀ z ∈ ss, isNameS z = true) → ss.Nodup → Q (.ref r) H'
section
variable {P : Program} {w : World} {K : PySem.W.Frag} {mg : Str → Option Value} {base : Heap}
theorem ok_namesG {f : Addr} {fd : FuncData} (F : FunD K "_law_names" "_law_names" (defArgs s_law_names) (defBody s_law_names) (defScope s_law_names) [] [] f fd) (hm : mg "_law_names" = some (.ref f)) (T : Top K mg)
    (D_law_take : Def P w K mg base "_law_take" 1 ["_law_source_here", "_law_many"] spTake) (D_law_pick : Def P w K mg base "_law_pick" 2 ["_law_source_here", "_law_row"] (spPick K)) : Def P w K mg base "_law_names" 3 ["_law_source_here", "_law_many"] (spNamesG K) := by
  refine def_mk F hm (F.bindsN fun _ _ _ _ _ _ us hl => match us, hl with | [_, _], _ => rfl) sc_law_names (fun vs H Q E h => ?_) (fun cdv A outer s H vs Q E hr h => ?_)
  · obtain ⟨s, m, rfl, _⟩ := h
    rfl
  obtain ⟨s, m, rfl, hs, hm26, q⟩ := h
  refine ⟨_, (pss_cons (ps_set (i := 2) sc_law_names.nd rfl (Or.inl rfl) pe_str)
  (pss_cons (ps_set (i := 3) sc_law_names.nd rfl (Or.inl rfl) (pe_op op_add pe_int (pe_def D_law_take hr (by first | decide | omega) (pa_cons (pv 0) (pa_cons pe_int pa_nil)))))
  (pss_cons (ps_set (i := 4) sc_law_names.nd rfl (Or.inl rfl) (pe_def D_law_take hr (by first | decide | omega) (pa_cons (pv 0) (pa_cons (pv 3) pa_nil))))
  (pss_cons (ps_set (i := 5) sc_law_names.nd rfl (Or.inl rfl) (pe_def D_law_take hr (by first | decide | omega) (pa_cons (pv 0) (pa_cons pe_int pa_nil))))
  (pss_cons (ps_set (i := 6) sc_law_names.nd rfl (Or.inl rfl) (pe_def D_law_pick hr (by first | decide | omega) (pa_cons (pv 0) (pa_cons (pe_lst (pa_cons pe_int (pa_cons pe_int (pa_cons pe_int (pa_cons pe_int (pa_cons pe_int (pa_cons pe_int (pa_cons pe_int pa_nil)))))))) pa_nil))))
  (pss_cons (ps_set (i := 7) sc_law_names.nd rfl (Or.inl rfl) (pe_lst pa_nil))
  (pss_cons (ps_for PassesOwn.never rfl (pi_range1 (by rfl) T.b_range (pa_cons (pv 1) pa_nil)) (pg_name (i := 8) sc_law_names.nd rfl (Or.inl rfl) (.inl rfl))
  (pss_cons (ps_set (i := 9) sc_law_names.nd rfl (Or.inl rfl) (pe_op op_rep (pe_lst (pa_cons (pe_ix ix_str (pv 2) (pv 5) (fun _ _ => rfl)) pa_nil)) (pv 3)))
  (pss_cons (ps_asg (pe_ix ix_str (pv 2) (pe_op op_mod (pe_callTy call_int1 (by rfl) T.b_int (by decide +kernel) (pa_cons (pe_op op_add (pe_op op_add (pv 5) pe_int) (pe_op op_mul (pv 6) (pv 8))) pa_nil)) pe_int) (fun _ _ => rfl)) (pg_sub (pv 9) (pv 4) set_list))
  (pss_one (ps_expr (pe_bmK K PySem.F.plainAttrs_list PySem.F.slot_list_append PySem.F.type_list_append mt_append (pv 7) (pa_cons (pe_join pe_str (pv 9)) pa_nil)))))))
  (pss_one (ps_ret (pv 7)))))))))), ?_⟩
  refine ⟨_, rfl, s, 6, rfl, by omega, by omega, hs, fun n n0 n1 => ⟨_, _, rfl, rfl, ?_⟩⟩
  refine ⟨_, rfl, _, rfl, s, _, rfl, by omega, by omega, hs, fun at_ a0 a1 => ?_⟩
  refine ⟨_, rfl, s, 26, rfl, by omega, by omega, hs, fun fi f0 f1 => ?_⟩
  refine ⟨_, rfl, (by show 7 ≤ sizeLine; decide), fun p1 hp1 => ?_⟩
  have e1 := same_new hp1 (.lst [.int 1, .int 3, .int 5, .int 7, .int 9, .int 11, .int 15])
  refine ⟨s, p1, _, rfl, hs.up e1, SqL.of upd_same, by simp, by simp, fun v hv => ?_⟩
  obtain ⟨st, rfl, hst⟩ : ∃ st : Nat, v = .int st ∧ StepOk st := by
    simp only [List.mem_cons, List.not_mem_nil, or_false] at hv
    rcases hv with rfl | rfl | rfl | rfl | rfl | rfl | rfl
    · exact ⟨1, rfl, .inl rfl⟩
    · exact ⟨3, rfl, .inr (.inl rfl)⟩
    · exact ⟨5, rfl, .inr (.inr (.inl rfl))⟩
    · exact ⟨7, rfl, .inr (.inr (.inr (.inl rfl)))⟩
    · exact ⟨9, rfl, .inr (.inr (.inr (.inr (.inl rfl))))⟩
    · exact ⟨11, rfl, .inr (.inr (.inr (.inr (.inr (.inl rfl)))))⟩
    · exact ⟨15, rfl, .inr (.inr (.inr (.inr (.inr (.inr rfl)))))⟩
  obtain ⟨f, rfl⟩ : ∃ f : Nat, fi = (f : Int) := ⟨fi.toNat, by omega⟩
  obtain ⟨j, rfl⟩ : ∃ j : Nat, at_ = (j : Int) := ⟨at_.toNat, by omega⟩
  refine ⟨(by show 0 ≤ sizeLine; decide), fun p2 hp2 => ?_⟩
  have e2 := e1.trans (same_new hp2 (.lst []))
  refine ⟨_, rfl, m, rfl, by omega, by omega, ?_⟩
  refine for_range (lo := 0) (n := m) (fun i σ H' => ∃ (ss : List Str) (o8 o9 : Option V), σ = [some (.ref s), some (.int m), some (.str smallS), some (.int (1 + n)), some (.int j), some (.int f), some (.int st), some (.ref p2), o8, o9] ∧ Same H H' ∧ H' p2 = some (.lst (ss.map V.str)) ∧ ss = (List.range i).map (nmS f st (1 + n).toNat j))
    ⟨[], none, none, rfl, e2, upd_same, rfl⟩ ?_ ?_
  · rintro i σ H1 hi ⟨ss, o8, o9, rfl, e, hp, hss⟩
    have hzl : smallS.length ≤ sizeLine := by decide +kernel
    have hl : ss.length = i := by rw [hss, List.length_map, List.length_range]
    obtain ⟨c1, hc1e⟩ : ∃ c1, c1 = 97 + f := ⟨_, rfl⟩
    have hc1 : atI smallS.cps.toList (f : Int) = some c1 := by rw [hc1e]; exact small_at (by omega)
    refine ⟨_, rfl, _, rfl, smallS, (f : Int), c1, rfl, rfl, hzl, hc1, (by show 1 ≤ sizeLine; decide), fun p3 hp3 => ?_⟩
    have e3 := same_new hp3 (.lst [.str ⟨#[c1]⟩])
    refine ⟨_, rfl, p3, 1 + n, _, rfl, rfl, upd_same, by omega, by omega, le_line (by show 1 * (1 + n).toNat ≤ 20000; omega), fun p4 hp4 => ?_⟩
    have e4 := same_new hp4 (.lst (List.replicate (1 + n).toNat [V.str ⟨#[c1]⟩]).flatten)
    have hp44 : upd (upd H1 p3 (.lst [.str ⟨#[c1]⟩])) p4 (.lst (List.replicate (1 + n).toNat [V.str ⟨#[c1]⟩]).flatten) p4 = some (.lst ((List.replicate (1 + n).toNat (⟨#[c1]⟩ : Str)).map V.str)) := by
      rw [upd_same, List.map_replicate]
      congr 2
      generalize (1 + n).toNat = k
      induction k with
      | zero => rfl
      | succ k ih => rw [List.replicate_succ, List.flatten_cons, ih, List.replicate_succ]; rfl
    have eA := e3.trans e4
    have hpA := eA _ _ hp
    have eAll := e.trans eA
    have hp4n := none_back (e.trans e3) hp4
    generalize upd (upd H1 p3 (.lst [.str ⟨#[c1]⟩])) p4 (.lst (List.replicate (1 + n).toNat [V.str ⟨#[c1]⟩]).flatten) = H4 at hp44 hpA eAll ⊢
    have hmod : ((f : Int) + 1 + st * (0 + (i : Int))) % 26 = (((f + 1 + st * i) % 26 : Nat) : Int) := by
      rw [Int.zero_add]
      push_cast
      rfl
    have hmod0 : 0 ≤ ((f : Int) + 1 + st * (0 + (i : Int))) % 26 ∧ ((f : Int) + 1 + st * (0 + (i : Int))) % 26 < 26 := ⟨Int.emod_nonneg _ (by decide), Int.emod_lt_of_pos _ (by decide)⟩
    have hst15 : st ≤ 15 := by rcases hst with rfl | rfl | rfl | rfl | rfl | rfl | rfl <;> decide
    have hsti : (st : Int) * (0 + (i : Int)) = ((st * i : Nat) : Int) := by rw [Int.zero_add]; push_cast; rfl
    have hsti2 : st * i ≤ 15 * 26 := Nat.mul_le_mul hst15 (by omega)
    obtain ⟨c2, hc2e⟩ : ∃ c2, c2 = 97 + (f + 1 + st * i) % 26 := ⟨_, rfl⟩
    have hc2 : atI smallS.cps.toList (((f : Int) + 1 + st * (0 + (i : Int))) % 26) = some c2 := by
      rw [hmod, hc2e]
      exact small_at (Nat.mod_lt _ (by decide))
    refine ⟨_, rfl, _, rfl, _, _, rfl, rfl, _, rfl, _, rfl, _, _, rfl, rfl, .inl ⟨by omega, by omega⟩, _, _, rfl, rfl, .inl ⟨_, rfl, ?_⟩⟩
    have hj : j < (1 + n).toNat := by omega
    have hix : ixN ((List.replicate (1 + n).toNat (⟨#[c1]⟩ : Str)).map V.str).length (j : Int) = some j := by
      rw [List.length_map, List.length_replicate]
      unfold ixN
      rw [if_pos (by omega), if_pos (by omega)]
      rfl
    have hset : ((List.replicate (1 + n).toNat (⟨#[c1]⟩ : Str)).map V.str).set j (.str ⟨#[c2]⟩) = ((List.replicate (1 + n).toNat (⟨#[c1]⟩ : Str)).set j ⟨#[c2]⟩).map V.str := by
      rw [List.map_set]
    have hone : ∀ z ∈ (List.replicate (1 + n).toNat (⟨#[c1]⟩ : Str)).set j ⟨#[c2]⟩, z = ⟨#[c1]⟩ ∨ z = ⟨#[c2]⟩ := fun z hz => by
      rcases List.mem_or_eq_of_mem_set hz with h | h
      · exact .inl (List.mem_replicate.mp h).2
      · exact .inr h
    refine ⟨_, _, rfl, rfl, (by show (0 : Int) < 26; decide), smallS, _, c2, rfl, rfl, hzl, hc2, _, rfl, _, rfl, p4, _, _, j, rfl, rfl, hp44, hix, ?_⟩
    rw [hset]
    have hl4 : ((List.replicate (1 + n).toNat (⟨#[c1]⟩ : Str)).set j ⟨#[c2]⟩).length = (1 + n).toNat := by
      rw [List.length_set, List.length_replicate]
    have hzs : (List.replicate (1 + n).toNat (⟨#[c1]⟩ : Str)).set j ⟨#[c2]⟩ = (nmL f st (1 + n).toNat j i).map fun c => (⟨#[c]⟩ : Str) := by
      unfold nmL
      rw [List.map_set, List.map_replicate, hc1e, hc2e]
    generalize (List.replicate (1 + n).toNat (⟨#[c1]⟩ : Str)).set j ⟨#[c2]⟩ = zs at hone hl4 hzs ⊢
    have p24 : p2 ≠ p4 := fun z => by
      have hA := e3 _ _ hp
      rw [z, hp4] at hA
      cases hA
    have hpB : upd H4 p4 (.lst (zs.map V.str)) p2 = some (.lst (ss.map V.str)) := by
      rw [upd_ne p24]
      exact hpA
    have z1 : ∀ z ∈ zs, z.length = 1 := fun z hz => by rcases hone z hz with rfl | rfl <;> rfl
    have jl : (Txt.join ("" : Str) zs).length = zs.length := by
      rw [TL.join_eq]
      exact join_one_len z1
    refine ⟨_, rfl, .inl ⟨rfl, _, SqL.of hpB⟩, ⟨_, rfl⟩, _, rfl, ("" : Str), p4, zs, rfl, rfl, .inl (SqL.of upd_same), ?_, p2, _, _, rfl, rfl, hpB, ?_, ?_⟩
    · rw [sum_one z1, show ("" : Str).length = 0 from rfl]
      omega
    · rw [List.length_map]
      exact lt_line (by omega)
    · refine ⟨ss ++ [Txt.join ("" : Str) zs], _, _, rfl, fun b u hb => ?_, ?_, ?_⟩
      · rw [upd_ne (ne_of_none hb (none_back e1 hp2)), upd_ne (ne_of_none hb hp4n)]
        exact eAll _ _ hb
      · rw [upd_same, List.map_append] <;> rfl
      · rw [List.range_succ, List.map_append, hss, TL.join_eq, hzs]
        congr 1
        show [_] = [nmS f st (1 + n).toNat j i]
        congr 1
        have hj1 := join_one (nmL f st (1 + n).toNat j i)
        unfold nmS
        cases hx : Str.join ("" : Str) ((nmL f st (1 + n).toNat j i).map fun c => (⟨#[c]⟩ : Str)) with
        | mk cps =>
          rw [hx] at hj1
          rw [← hj1]
  · rintro σ H' ⟨ss, o8, o9, rfl, e, hp, hss⟩
    refine ⟨_, rfl, q p2 ss H' e (none_back e1 hp2) hp (by rw [hss, List.length_map, List.length_range]) (fun z hz => ?_) (by rw [hss]; exact names_nodup hst (by omega) hm26)⟩
    rw [hss] at hz
    obtain ⟨i, hi, rfl⟩ := List.mem_map.mp hz
    exact nm_name (by omega) (by omega) (by omega)
end
end FF
/-! texts of goals and rules -/
namespace FF
open PySem PySem.Spec PyProof.Rows L2
abbrev lessS : Str := " < "
abbrev colS : Str := ": "
def goalP (t : Str) : Option PyData := if (Txt.partition t lessS).2.1 = "" then none else match parseD (Txt.partition t lessS).1, parseD (Txt.partition t lessS).2.2 with
  | some l, some r => some (.tuple [l, r])
  | _, _ => none
def ruleP (t : Str) : Option PyData := if (Txt.partition t colS).2.1 = "" ∨ isNameS (Txt.partition t colS).1 = false then none else match goalP (Txt.partition t colS).2.2 with
  | some (.tuple [l, r]) => some (.tuple [.str (Txt.partition t colS).1, l, r])
  | _ => none
theorem par_len (S : List Nat) : ∀ (l acc p q : List Nat), TL.par S acc l = some (p, q) → p.length ≤ acc.length + l.length ∧ q.length ≤ l.length
  | [], acc, p, q, h => by cases h
  | c :: r, acc, p, q, h => by
    cases e : TL.pre S (c :: r) with
    | true =>
      rw [TL.par_hit e] at h
      cases h
      refine ⟨by omega, ?_⟩
      rw [List.length_drop]
      omega
    | false =>
      rw [TL.par_miss e] at h
      have := par_len S r _ p q h
      rw [List.length_append, List.length_cons, List.length_nil] at this
      rw [List.length_cons]
      omega
theorem part_len (x y : Str) (hy : TL.tl y ≠ []) : (Txt.partition x y).1.length ≤ x.length ∧ (Txt.partition x y).2.2.length ≤ x.length := by
  rw [TL.partition_par x y hy]
  cases e : TL.par (TL.tl y) [] (TL.tl x) with
  | none => exact ⟨Nat.le_refl _, Nat.zero_le _⟩
  | some z =>
    obtain ⟨p, q⟩ := z
    have := par_len _ _ _ _ _ e
    show p.toArray.size ≤ _ ∧ q.toArray.size ≤ _
    rw [List.size_toArray, List.size_toArray]
    have hx : (TL.tl x).length = x.length := rfl
    rw [List.length_nil] at this
    omega
theorem less_len (x : Str) : (Txt.partition x lessS).1.length ≤ x.length ∧ (Txt.partition x lessS).2.2.length ≤ x.length := part_len x lessS (by decide +kernel)
theorem col_len (x : Str) : (Txt.partition x colS).1.length ≤ x.length ∧ (Txt.partition x colS).2.2.length ≤ x.length := part_len x colS (by decide +kernel)
theorem parse_drawn {t : Str} {d : PyData} (h : parseD t = some d) : Drawn 4 d ∧ meas 5 d ≤ 24 := by
  unfold parseD at h
  obtain ⟨x, h1, h2⟩ := Option.bind_eq_some_iff.mp h
  obtain ⟨d1, r1⟩ := x
  cases r1 with
  | cons a b => cases h2
  | nil =>
    have h2 : (if inB (meas 5 d1) 24 = true then some d1 else none) = some d := h2
    split at h2
    · rename_i hi
      cases h2
      have hi : (decide (1 ≤ meas 5 d) && decide (meas 5 d ≤ 24)) = true := hi
      rw [Bool.and_eq_true, decide_eq_true_eq, decide_eq_true_eq] at hi
      exact ⟨word_of 4 d hi.1 hi.2, hi.2⟩
    · cases h2
theorem drawn_non {n : Nat} {d : PyData} (h : Drawn n d) : d ≠ .none := fun z => by
  rcases drawn_shape h with ⟨_, rfl, _⟩ | ⟨_, _, _, rfl, _⟩ <;> cases z
def spGT (K : PySem.W.Frag) : Sp := fun vs H Q _ => ∃ (v u : V) (d e : PyData), vs = [v, u] ∧ Tp K H v d ∧ Tp K H u e ∧ Drawn 4 d ∧ Drawn 4 e ∧ meas 5 d ≤ 24 ∧ meas 5 e ≤ 24 ∧ ∀ H', Same H H' → Q (.str (textD 5 d ++ lessS ++ textD 5 e)) H'
theorem text185 {d : PyData} (h : Drawn 4 d) (h2 : meas 5 d ≤ 24) : (textD 5 d).length ≤ 200 := by
  have : ((tl (textD 5 d)).length : Int) + 7 ≤ 8 * meas 5 d := (text_short h).1
  have e : (tl (textD 5 d)).length = (textD 5 d).length := rfl
  omega
section
variable {P : Program} {w : World} {K : PySem.W.Frag} {mg : Str → Option Value} {base : Heap}
theorem ok_goal_text {f : Addr} {fd : FuncData} (F : FunD K "goal_text" "goal_text" (defArgs s_goal_text) (defBody s_goal_text) (defScope s_goal_text) [] [] f fd) (hm : mg "goal_text" = some (.ref f)) (T : Top K mg)
    (D_text_of : Def P w K mg base "text_of" 5 ["term"] (spText K 5)) : Def P w K mg base "goal_text" 6 ["left", "right"] (spGT K) := by
  refine def_mk F hm (F.bindsN fun _ _ _ _ _ _ us hl => match us, hl with | [_, _], _ => rfl) sc_goal_text (fun vs H Q E h => ?_) (fun cdv A outer s H vs Q E hr h => ?_)
  · obtain ⟨v, u, d, e, rfl, _⟩ := h
    rfl
  obtain ⟨v, u, d, e, rfl, hv, hu, hd, he, md, me, q⟩ := h
  refine ⟨_, (pss_one (ps_ret (pe_op op_add_str (pe_op op_add_str (pe_def D_text_of hr (by first | decide | omega) (pa_cons (pv 0) pa_nil)) (pe_gs T.g_BELOW)) (pe_def D_text_of hr (by first | decide | omega) (pa_cons (pv 1) pa_nil))))), ?_⟩
  have hS : ∀ {n : Nat}, n ≤ 1000 → n ≤ sizeLine := fun h => Nat.le_trans h (by decide)
  have l1 := text185 hd md
  have l2 := text185 he me
  have l3 : lessS.length = 3 := by decide +kernel
  have z1 : (textD 5 d).length + lessS.length ≤ 1000 := by omega
  have z2 : (textD 5 d ++ lessS).length + (textD 5 e).length ≤ 1000 := by
    rw [app_len]
    omega
  refine ⟨_, rfl, v, d, 4, rfl, hv, hd, by decide, by decide, fun H1 e1 => ⟨_, _, rfl, rfl, hS z1, ?_⟩⟩
  exact ⟨_, rfl, u, e, 4, rfl, hu.up (Same.T e1), he, by decide, by decide, fun H2 e2 => ⟨_, _, rfl, rfl, hS z2, q _ (e1.trans e2)⟩⟩
theorem ok_law_goal_text {f : Addr} {fd : FuncData} (F : FunD K "_law_goal_text" "_law_goal_text" (defArgs s_law_goal_text) (defBody s_law_goal_text) (defScope s_law_goal_text) [] [] f fd) (hm : mg "_law_goal_text" = some (.ref f)) (T : Top K mg)
    (D_law_text : Def P w K mg base "_law_text" 5 ["_law_word"] (spTextM K 5)) : Def P w K mg base "_law_goal_text" 6 ["_law_left", "_law_right"] (spGT K) := by
  refine def_mk F hm (F.bindsN fun _ _ _ _ _ _ us hl => match us, hl with | [_, _], _ => rfl) sc_law_goal_text (fun vs H Q E h => ?_) (fun cdv A outer s H vs Q E hr h => ?_)
  · obtain ⟨v, u, d, e, rfl, _⟩ := h
    rfl
  obtain ⟨v, u, d, e, rfl, hv, hu, hd, he, md, me, q⟩ := h
  refine ⟨_, (pss_one (ps_ret (pe_op op_add_str (pe_op op_add_str (pe_def D_law_text hr (by first | decide | omega) (pa_cons (pv 0) pa_nil)) pe_str) (pe_def D_law_text hr (by first | decide | omega) (pa_cons (pv 1) pa_nil))))), ?_⟩
  have hS : ∀ {n : Nat}, n ≤ 1000 → n ≤ sizeLine := fun h => Nat.le_trans h (by decide)
  have l1 := text185 hd md
  have l2 := text185 he me
  have l3 : lessS.length = 3 := by decide +kernel
  have z1 : (textD 5 d).length + lessS.length ≤ 1000 := by omega
  have z2 : (textD 5 d ++ lessS).length + (textD 5 e).length ≤ 1000 := by
    rw [app_len]
    omega
  refine ⟨_, rfl, v, d, 4, rfl, hv, hd, by decide, Int.le_trans md (by decide), fun H1 e1 => ⟨_, _, rfl, rfl, hS z1, ?_⟩⟩
  exact ⟨_, rfl, u, e, 4, rfl, hu.up (Same.T e1), he, by decide, Int.le_trans me (by decide), fun H2 e2 => ⟨_, _, rfl, rfl, hS z2, q _ (e1.trans e2)⟩⟩
/-- a good goal gives its text, a value that is none gives the error -/
def spFG (K : PySem.W.Frag) : Sp := fun vs H Q E => (∃ (p : Addr) (v u : V) (d e : PyData), vs = [.ref p] ∧ SqU K H p [v, u] ∧ Tp K H v d ∧ Tp K H u e ∧ Drawn 4 d ∧ Drawn 4 e ∧ meas 5 d ≤ 24 ∧ meas 5 e ≤ 24 ∧ ∀ H', Same H H' → Q (.str (textD 5 d ++ lessS ++ textD 5 e)) H') ∨
  (∃ (v : V) (d : PyData), vs = [v] ∧ Dp K H v d ∧ nice d = true ∧ isGoalD d = false ∧ ∀ dd H', Same H H' → Thr ("InvalidGoal" : Str) dd H' → E (.ref (He.ga K "InvalidGoal")) dd H')
theorem fits_of {d : PyData} (h : Drawn 4 d) (h2 : meas 5 d ≤ 24) : fitsB d = true := by
  obtain ⟨h1, _⟩ := meas_drawn h 5 (by decide)
  show (decide (1 ≤ meas 5 d) && decide (meas 5 d ≤ 24)) = true
  rw [decide_eq_true h1, decide_eq_true h2] <;> rfl
theorem ok_format_goal {f : Addr} {fd : FuncData} (F : FunD K "format_goal" "format_goal" (defArgs s_format_goal) (defBody s_format_goal) (defScope s_format_goal) [] [] f fd) (hm : mg "format_goal" = some (.ref f)) (T : Top K mg)
    (D_is_goal : Def P w K mg base "is_goal" 14 ["value"] (spGoal K)) (D_goal_text : Def P w K mg base "goal_text" 6 ["left", "right"] (spGT K)) (x_InvalidGoal : RaiseD P w K mg base "InvalidGoal" "FaultError" 2 "InvalidGoal") : DefX P w K mg base "format_goal" 15 ["goal"] (spFG K) := by
  refine defx_mk F hm (F.bindsN fun _ _ _ _ _ _ us hl => match us, hl with | [_], _ => rfl) sc_format_goal (fun vs H Q E h => ?_) (fun cdv A outer s0 H vs Q E hr h tk => ?_)
  · rcases h with ⟨p, v, u, d, e, rfl, _⟩ | ⟨v, d, rfl, _⟩ <;> rfl
  refine ⟨_, (pss_cons (ps_if (pt_not (pt_val (pe_def D_is_goal hr (by first | decide | omega) (pa_cons (pv 0) pa_nil))))
  (pss_one (ps_raise rfl tk (pmk_raise x_InvalidGoal hr (by first | decide | omega))))
  pss_nil)
  (pss_one (ps_ret (pe_def D_goal_text hr (by first | decide | omega) (pa_cons (pe_ix (ix_tupK K) (pv 0) pe_int (fun _ _ => rfl)) (pa_cons (pe_ix (ix_tupK K) (pv 0) pe_int (fun _ _ => rfl)) pa_nil)))))), ?_⟩
  rcases h with ⟨p, v, u, d, e, rfl, hp, hv, hu, hd, he, md, me, q⟩ | ⟨v, d, rfl, hd, hn, hno, q⟩
  · have hT : Tp K H (.ref p) (.tuple [d, e]) := .tup hp (.cons hv (.cons hu .nil))
    have hn : Nice 5 (.tuple [d, e]) := Nice.tuple (n := 4) (by simp) fun c hc => by
      simp only [List.mem_cons, List.not_mem_nil, or_false] at hc
      rcases hc with rfl | rfl
      · exact drawn_nice hd
      · exact drawn_nice he
    refine ⟨_, rfl, .ref p, _, rfl, hT.dp, hn.ok, fun H1 e1 => ⟨_, rfl, ?_⟩⟩
    refine if_nb (fun h1 => ?_) (fun h1 => ?_)
    · exact absurd h1 (by show ¬ ((fitsB d && fitsB e) = false); rw [fits_of hd md, fits_of he me]; decide)
    have hp1 : SqT K H1 p [v, u] := up_t e1 hp.sqT
    refine ⟨_, rfl, p, _, _, v, rfl, rfl, hp1, at0, _, rfl, p, _, _, u, rfl, rfl, hp1, atI_nat (j := 1) rfl, v, u, d, e, rfl, hv.up (Same.T e1), hu.up (Same.T e1), hd, he, md, me, fun H2 e2 => q H2 (e1.trans e2)⟩
  · refine ⟨_, rfl, v, d, rfl, hd, hn, fun H1 e1 => ⟨_, rfl, ?_⟩⟩
    rw [hno]
    exact fun dd H2 e2 ht => q dd H2 (e1.trans e2) ht
end
end FF
/-! texts of goals and rules: parse_goal, parse_rule, format_rule -/
namespace FF
open PySem PySem.Spec PyProof.Rows L2
def spPG (K : PySem.W.Frag) (f : Str → Option PyData) : Sp := fun vs H Q E => ∃ t : Str, vs = [.str t] ∧ t.length ≤ 10000 ∧ (∀ d, f t = some d → ∀ v H', Same H H' → Tp K H' v d → Q v H') ∧
  (f t = none → ∀ dd H', Same H H' → Thr ("InvalidText" : Str) dd H' → E (.ref (He.ga K "InvalidText")) dd H')
theorem goal_shape {t : Str} {d : PyData} (h : goalP t = some d) : ∃ l r, d = .tuple [l, r] ∧ Drawn 4 l ∧ Drawn 4 r := by
  unfold goalP at h
  split at h
  · cases h
  · cases h1 : parseD (Txt.partition t lessS).1 with
    | none =>
      rw [h1] at h
      cases h
    | some l =>
      cases h2 : parseD (Txt.partition t lessS).2.2 with
      | none =>
        rw [h1, h2] at h
        cases h
      | some r =>
        rw [h1, h2] at h
        cases h
        exact ⟨l, r, rfl, (parse_drawn h1).1, (parse_drawn h2).1⟩
section
variable {P : Program} {w : World} {K : PySem.W.Frag} {mg : Str → Option Value} {base : Heap}
theorem ok_parse_goal {f : Addr} {fd : FuncData} (F : FunD K "parse_goal" "parse_goal" (defArgs s_parse_goal) (defBody s_parse_goal) (defScope s_parse_goal) [] [] f fd) (hm : mg "parse_goal" = some (.ref f)) (T : Top K mg)
    (D_parse_term : DefX P w K mg base "parse_term" 17 ["text"] (spParse K)) (x_InvalidText : RaiseD P w K mg base "InvalidText" "FaultError" 2 "InvalidText") : DefX P w K mg base "parse_goal" 18 ["text"] (spPG K goalP) := by
  refine defx_mk F hm (F.bindsN fun _ _ _ _ _ _ us hl => match us, hl with | [_], _ => rfl) sc_parse_goal (fun vs H Q E h => ?_) (fun cdv A outer s0 H vs Q E hr h tk => ?_)
  · obtain ⟨t, rfl, _⟩ := h
    rfl
  obtain ⟨t, rfl, ht, q1, q2⟩ := h
  refine ⟨_, (pss_cons (ps_asg (pe_partition (pv 0) (pe_gs T.g_BELOW)) (pg_tupK K (n := 3) rfl (pgs_cons (pg_name (i := 1) sc_parse_goal.nd rfl (Or.inl rfl) (.inl rfl)) (pgs_cons (pg_name (i := 2) sc_parse_goal.nd rfl (Or.inl rfl) (.inl rfl)) (pgs_cons (pg_name (i := 3) sc_parse_goal.nd rfl (Or.inl rfl) (.inl rfl)) pgs_nil)))))
  (pss_cons (ps_if (pt_cmpR op_eq (pv 2) pe_str (nomark _))
  (pss_one (ps_raise rfl tk (pmk_raise x_InvalidText hr (by first | decide | omega))))
  pss_nil)
  (pss_one (ps_ret (pe_tup (pa_cons (pe_defx (E := E) D_parse_term tk (fun _ _ _ _ h => h) hr (by first | decide | omega) (pa_cons (pv 1) pa_nil)) (pa_cons (pe_defx (E := E) D_parse_term tk (fun _ _ _ _ h => h) hr (by first | decide | omega) (pa_cons (pv 3) pa_nil)) pa_nil))))))), ?_⟩
  have hL : t.length ≤ sizeLine := Nat.le_trans ht (by decide)
  obtain ⟨l1, l2⟩ := less_len t
  refine ⟨_, rfl, ⟨_, rfl⟩, t, lessS, rfl, rfl, by decide +kernel, hL, fun p hp => ?_⟩
  have e0 := same_new hp (.tup [.str (Txt.partition t lessS).1, .str (Txt.partition t lessS).2.1, .str (Txt.partition t lessS).2.2])
  refine ⟨p, _, rfl, SqT.of upd_same, rfl, _, _, rfl, _, _, rfl, _, _, rfl, rfl, ?_⟩
  refine ⟨_, rfl, rfl, _, rfl, ?_⟩
  refine if_dec (fun h => ?_) (fun h => ?_)
  · have hg : goalP t = none := if_pos (V.str.inj h)
    exact fun dd H2 e2 hth => q2 hg dd H2 (e0.trans e2) hth
  have hg : goalP t = match parseD (Txt.partition t lessS).1, parseD (Txt.partition t lessS).2.2 with
    | some l, some r => some (.tuple [l, r])
    | _, _ => none := if_neg fun z => h (congrArg V.str z)
  refine ⟨_, rfl, _, rfl, Nat.le_trans l1 ht, fun d hd v H1 e1 hv => ?_, fun no dd H' e' hth => ?_⟩
  rotate_left
  · rw [no] at hg
    exact q2 hg dd H' (e0.trans e') hth
  refine ⟨_, rfl, _, rfl, Nat.le_trans l2 ht, fun d2 hd2 u H2 e2 hu => ?_, fun no dd H' e' hth => ?_⟩
  rotate_left
  · rw [hd, no] at hg
    exact q2 hg dd H' (e0.trans (e1.trans e')) hth
  rw [hd, hd2] at hg
  refine ⟨(by show 2 ≤ sizeLine; decide), fun p2 hp2 => ?_⟩
  have e3 := same_new hp2 (.tup [v, u])
  exact q1 _ hg _ _ (e0.trans (e1.trans (e2.trans e3))) (.tup (.inl upd_same) (.cons (hv.up (Same.T (e2.trans e3))) (.cons (hu.up (Same.T e3)) .nil)))
theorem ok_parse_rule {f : Addr} {fd : FuncData} (F : FunD K "parse_rule" "parse_rule" (defArgs s_parse_rule) (defBody s_parse_rule) (defScope s_parse_rule) [] [] f fd) (T : Top K mg)
    (D_parse_goal : DefX P w K mg base "parse_goal" 18 ["text"] (spPG K goalP)) (D_is_name : Def P w K mg base "is_name" 1 ["text"] (spName K)) (x_InvalidText : RaiseD P w K mg base "InvalidText" "FaultError" 2 "InvalidText") : FnOk P w K mg base (L2.CX P w) 19 f fd ["text"] (spPG K ruleP) := by
  refine FunD.ok F sc_parse_rule (fun vs H Q E h => ?_) (fun cdv A outer s0 H vs Q E hr h => ?_)
  · obtain ⟨t, rfl, _⟩ := h
    rfl
  have tk : Takes (cxOf (L2.CX P w) P w K mg base ["text", "name", "sign", "rest"] "parse_rule" (defScope s_parse_rule) f cdv A outer s0 H E) fun cls d _ H => E cls d H := takes_of rfl rfl rfl rfl
  obtain ⟨t, rfl, ht, q1, q2⟩ := h
  refine ⟨_, (pss_cons (ps_asg (pe_partition (pv 0) pe_str) (pg_tupK K (n := 3) rfl (pgs_cons (pg_name (i := 1) sc_parse_rule.nd rfl (Or.inl rfl) (.inl rfl)) (pgs_cons (pg_name (i := 2) sc_parse_rule.nd rfl (Or.inl rfl) (.inl rfl)) (pgs_cons (pg_name (i := 3) sc_parse_rule.nd rfl (Or.inl rfl) (.inl rfl)) pgs_nil)))))
  (pss_cons (ps_if (PW.pt (pw_or (pt_cmpR op_eq (pv 2) pe_str (nomark _)) (pw_or1 (pt_not (pt_val (pe_def D_is_name hr (by first | decide | omega) (pa_cons (pv 1) pa_nil)))))))
  (pss_one (ps_raise rfl tk (pmk_raise x_InvalidText hr (by first | decide | omega))))
  pss_nil)
  (pss_one (ps_ret (pe_tup (pa_cons (pv 1) (StX.pa_star (pe_defx (E := E) D_parse_goal tk (fun _ _ _ _ h => h) hr (by first | decide | omega) (pa_cons (pv 3) pa_nil)) pa_nil))))))), ?_⟩
  have hL : t.length ≤ sizeLine := Nat.le_trans ht (by decide)
  obtain ⟨l1, l2⟩ := col_len t
  refine ⟨_, rfl, ⟨_, rfl⟩, t, colS, rfl, rfl, by decide +kernel, hL, fun p hp => ?_⟩
  have e0 := same_new hp (.tup [.str (Txt.partition t colS).1, .str (Txt.partition t colS).2.1, .str (Txt.partition t colS).2.2])
  refine ⟨p, _, rfl, SqT.of upd_same, rfl, _, _, rfl, _, _, rfl, _, _, rfl, rfl, ?_⟩
  refine ⟨_, rfl, rfl, _, rfl, ?_⟩
  refine if_dec (fun h => ?_) (fun h => ?_)
  · have hg : ruleP t = none := if_pos (.inl (V.str.inj h))
    exact fun dd H2 e2 hth => q2 hg dd H2 (e0.trans e2) hth
  refine ⟨_, rfl, _, rfl, Nat.le_trans l1 (Nat.le_trans ht (by decide)), fun H1 e1 => ⟨_, rfl, ?_⟩⟩
  refine if_nb (fun h2 => ?_) (fun h2 => ?_)
  · have hg : ruleP t = none := if_pos (.inr h2)
    exact fun dd H2 e2 hth => q2 hg dd H2 (e0.trans (e1.trans e2)) hth
  have hg : ruleP t = match goalP (Txt.partition t colS).2.2 with
    | some (.tuple [l, r]) => some (.tuple [.str (Txt.partition t colS).1, l, r])
    | _ => none := if_neg fun z => z.elim (fun z => h (congrArg V.str z)) (fun z => by rw [h2] at z; cases z)
  refine ⟨_, rfl, _, rfl, _, rfl, Nat.le_trans l2 ht, fun d hd v H2 e2 hv => ?_, fun no dd H' e' hth => ?_⟩
  rotate_left
  · rw [no] at hg
    exact q2 hg dd H' (e0.trans (e1.trans e')) hth
  obtain ⟨l, r, rfl, _⟩ := goal_shape hd
  rw [hd] at hg
  cases hv with
  | tup hx ha =>
  rename_i a xs
  have lx := ha.len
  refine ⟨a, xs, rfl, .inl hx.sqT, ?_⟩
  show (V.str (Txt.partition t colS).1 :: (xs ++ [])).length ≤ sizeLine ∧ ∀ p, H2 p = none → Q (.ref p) (upd H2 p (.tup (V.str (Txt.partition t colS).1 :: (xs ++ []))))
  rw [List.append_nil]
  refine ⟨(by rw [List.length_cons, lx]; show 3 ≤ sizeLine; decide), fun p2 hp2 => ?_⟩
  have e3 := same_new hp2 (.tup (.str (Txt.partition t colS).1 :: xs))
  exact q1 _ hg _ _ (e0.trans (e1.trans (e2.trans e3))) (.tup (.inl upd_same) (.cons (.str _) (ha.up (Same.T e3))))
def spRG (K : PySem.W.Frag) (f : Str → Option PyData) : Sp := fun vs H Q _ => ∃ (t : Str), vs = [.str t] ∧ t.length ≤ 10000 ∧ ∀ v H', Same H H' → Tp K H' v (optD (f t)) → Q v H'
theorem ok_read_goal {f : Addr} {fd : FuncData} (F : FunD K "_law_read_goal" "_law_read_goal" (defArgs s_law_read_goal) (defBody s_law_read_goal) (defScope s_law_read_goal) [] [] f fd) (hm : mg "_law_read_goal" = some (.ref f)) (T : Top K mg)
    (D_law_read : Def P w K mg base "_law_read" 13 ["_law_mtext"] (spRead K)) : Def P w K mg base "_law_read_goal" 14 ["_law_mtext"] (spRG K goalP) := by
  refine def_mk F hm (F.bindsN fun _ _ _ _ _ _ us hl => match us, hl with | [_], _ => rfl) sc_law_read_goal (fun vs H Q E h => ?_) (fun cdv A outer s H vs Q E hr h => ?_)
  · obtain ⟨t, rfl, _⟩ := h
    rfl
  obtain ⟨t, rfl, ht, q⟩ := h
  refine ⟨_, (pss_cons (ps_asg (pe_partition (pv 0) pe_str) (pg_tupK K (n := 3) rfl (pgs_cons (pg_name (i := 1) sc_law_read_goal.nd rfl (Or.inl rfl) (.inl rfl)) (pgs_cons (pg_name (i := 2) sc_law_read_goal.nd rfl (Or.inl rfl) (.inl rfl)) (pgs_cons (pg_name (i := 3) sc_law_read_goal.nd rfl (Or.inl rfl) (.inl rfl)) pgs_nil)))))
  (pss_cons (ps_set (i := 4) sc_law_read_goal.nd rfl (Or.inl rfl) (pe_lst (pa_cons (pe_def D_law_read hr (by first | decide | omega) (pa_cons (pv 1) pa_nil)) (pa_cons (pe_def D_law_read hr (by first | decide | omega) (pa_cons (pv 3) pa_nil)) pa_nil))))
  (pss_one (ps_ret (pe_ifExp (PW.pt (pw_or (pt_cmpR op_eq (pv 2) pe_str (nomark _)) (pw_or1 (pt_cmpR (op_inK K (r65 hr)) pe_non (pv 4) (by rfl))))) pe_non (pe_tup (pa_cons (pe_ix (ix_listK K) (pv 4) pe_int (fun _ _ => rfl)) (pa_cons (pe_ix (ix_listK K) (pv 4) pe_int (fun _ _ => rfl)) pa_nil)))))))), ?_⟩
  have hL : t.length ≤ sizeLine := Nat.le_trans ht (by decide)
  obtain ⟨l1, l2⟩ := less_len t
  refine ⟨_, rfl, ⟨_, rfl⟩, t, lessS, rfl, rfl, by decide +kernel, hL, fun p hp => ?_⟩
  have e0 := same_new hp (.tup [.str (Txt.partition t lessS).1, .str (Txt.partition t lessS).2.1, .str (Txt.partition t lessS).2.2])
  refine ⟨p, _, rfl, SqT.of upd_same, rfl, _, _, rfl, _, _, rfl, _, _, rfl, rfl, ?_⟩
  refine ⟨_, rfl, _, rfl, Nat.le_trans l1 ht, fun v H1 e1 hv => ?_⟩
  refine ⟨_, rfl, _, rfl, Nat.le_trans l2 ht, fun u H2 e2 hu => ?_⟩
  refine ⟨(by show 2 ≤ sizeLine; decide), fun p2 hp2 => ?_⟩
  have e3 := same_new hp2 (.lst [v, u])
  have hv2 := hv.up (Same.T (e2.trans e3))
  have hu2 := hu.up (Same.T e3)
  have h2 : (upd H2 p2 (.lst [v, u])) p2 = some (.lst [v, u]) := upd_same
  have e03 := e0.trans (e1.trans (e2.trans e3))
  generalize upd H2 p2 (.lst [v, u]) = H3 at hv2 hu2 h2 e03 ⊢
  refine ⟨_, rfl, rfl, _, rfl, ?_⟩
  refine if_dec (fun h => ?_) (fun h => ?_)
  · have hg : goalP t = none := if_pos (V.str.inj h)
    rw [hg] at q
    exact q .non H3 e03 .non
  have hg : goalP t = match parseD (Txt.partition t lessS).1, parseD (Txt.partition t lessS).2.2 with
    | some l, some r => some (.tuple [l, r])
    | _, _ => none := if_neg fun z => h (congrArg V.str z)
  have opt : ∀ o : Str, PyData.eqv (optD (parseD o)) .none = (parseD o).isNone ∧ Nice 4 (optD (parseD o)) := fun o => by
    cases z : parseD o with
    | none => exact ⟨rfl, by decide +kernel, by show 0 ≤ 4; decide⟩
    | some d => exact ⟨wide_no (drawn_wide (parse_drawn z).1), drawn_nice (parse_drawn z).1⟩
  have o1 := opt (Txt.partition t lessS).1
  have o2 := opt (Txt.partition t lessS).2.2
  have nl : Nice 5 (.list [optD (parseD (Txt.partition t lessS).1), optD (parseD (Txt.partition t lessS).2.2)]) := Nice.list (n := 4) (by simp) fun c hc => by
    simp only [List.mem_cons, List.not_mem_nil, or_false] at hc
    rcases hc with rfl | rfl
    · exact o1.2
    · exact o2.2
  refine ⟨_, rfl, .none, _, .non, .inl (.lst (SqL.of h2) (.cons hv2.dp (.cons hu2.dp .nil))), rfl, nl.shaped, _, rfl, ?_⟩
  rw [List.any_cons, List.any_cons, List.any_nil, o1.1, o2.1, Bool.or_false]
  cases h1 : parseD (Txt.partition t lessS).1 with
  | none =>
    rw [h1] at hg
    rw [hg] at q
    exact q .non H3 e03 .non
  | some d =>
    cases h3 : parseD (Txt.partition t lessS).2.2 with
    | none =>
      rw [h1, h3] at hg
      rw [hg] at q
      exact q .non H3 e03 .non
    | some e =>
      rw [h1, h3] at hg
      rw [hg] at q
      rw [h1] at hv2
      rw [h3] at hu2
      refine ⟨_, rfl, p2, _, _, v, rfl, rfl, SqL.of h2, at0, _, rfl, p2, _, _, u, rfl, rfl, SqL.of h2, atI_nat (j := 1) rfl, (by show 2 ≤ sizeLine; decide), fun p3 hp3 => ?_⟩
      have e4 := same_new hp3 (.tup [v, u])
      exact q _ _ (e03.trans e4) (.tup (.inl upd_same) (.cons (hv2.up (Same.T e4)) (.cons (hu2.up (Same.T e4)) .nil)))
theorem ok_read_rule {f : Addr} {fd : FuncData} (F : FunD K "_law_read_rule" "_law_read_rule" (defArgs s_law_read_rule) (defBody s_law_read_rule) (defScope s_law_read_rule) [] [] f fd) (hm : mg "_law_read_rule" = some (.ref f)) (T : Top K mg)
    (D_law_read_goal : Def P w K mg base "_law_read_goal" 14 ["_law_mtext"] (spRG K goalP)) (D_law_is_name : Def P w K mg base "_law_is_name" 1 ["_law_mtext"] (spName K)) : Def P w K mg base "_law_read_rule" 15 ["_law_mtext"] (spRG K ruleP) := by
  refine def_mk F hm (F.bindsN fun _ _ _ _ _ _ us hl => match us, hl with | [_], _ => rfl) sc_law_read_rule (fun vs H Q E h => ?_) (fun cdv A outer s H vs Q E hr h => ?_)
  · obtain ⟨t, rfl, _⟩ := h
    rfl
  obtain ⟨t, rfl, ht, q⟩ := h
  refine ⟨_, (pss_cons (ps_asg (pe_partition (pv 0) pe_str) (pg_tupK K (n := 3) rfl (pgs_cons (pg_name (i := 1) sc_law_read_rule.nd rfl (Or.inl rfl) (.inl rfl)) (pgs_cons (pg_name (i := 2) sc_law_read_rule.nd rfl (Or.inl rfl) (.inl rfl)) (pgs_cons (pg_name (i := 3) sc_law_read_rule.nd rfl (Or.inl rfl) (.inl rfl)) pgs_nil)))))
  (pss_cons (ps_set (i := 4) sc_law_read_rule.nd rfl (Or.inl rfl) (pe_def D_law_read_goal hr (by first | decide | omega) (pa_cons (pv 3) pa_nil)))
  (pss_one (ps_ret (pe_ifExp (PW.pt (pw_or (pt_cmpR op_eq (pv 2) pe_str (nomark _)) (pw_or (pt_cmp (pc_isN (pv 4)) (by rfl)) (pw_or1 (pt_not (pt_val (pe_def D_law_is_name hr (by first | decide | omega) (pa_cons (pv 1) pa_nil)))))))) pe_non (pe_tup (pa_cons (pv 1) (pa_cons (pe_ix (ix_tupK K) (pv 4) pe_int (fun _ _ => rfl)) (pa_cons (pe_ix (ix_tupK K) (pv 4) pe_int (fun _ _ => rfl)) pa_nil))))))))), ?_⟩
  have hL : t.length ≤ sizeLine := Nat.le_trans ht (by decide)
  obtain ⟨l1, l2⟩ := col_len t
  refine ⟨_, rfl, ⟨_, rfl⟩, t, colS, rfl, rfl, by decide +kernel, hL, fun p hp => ?_⟩
  have e0 := same_new hp (.tup [.str (Txt.partition t colS).1, .str (Txt.partition t colS).2.1, .str (Txt.partition t colS).2.2])
  refine ⟨p, _, rfl, SqT.of upd_same, rfl, _, _, rfl, _, _, rfl, _, _, rfl, rfl, ?_⟩
  refine ⟨_, rfl, _, rfl, Nat.le_trans l2 ht, fun v H1 e1 hv => ?_⟩
  have e01 := e0.trans e1
  refine ⟨_, rfl, rfl, _, rfl, ?_⟩
  refine if_dec (fun h => ?_) (fun h => ?_)
  · have hg : ruleP t = none := if_pos (.inl (V.str.inj h))
    rw [hg] at q
    exact q .non H1 e01 .non
  cases h1 : goalP (Txt.partition t colS).2.2 with
  | none =>
    rw [h1] at hv
    have hv : Tp K H1 v .none := hv
    cases hv
    have hg : ruleP t = none := by
      unfold ruleP
      rw [h1]
      exact ite_self _
    rw [hg] at q
    exact ⟨_, rfl, _, rfl, q .non H1 e01 .non⟩
  | some d =>
    obtain ⟨l, r, rfl, _⟩ := goal_shape h1
    rw [h1] at hv
    have hv : Tp K H1 v (.tuple [l, r]) := hv
    cases hv with
    | tup hx ha =>
    rename_i a xs
    refine ⟨_, rfl, _, rfl, ?_⟩
    refine ⟨_, rfl, _, rfl, Nat.le_trans l1 (Nat.le_trans ht (by decide)), fun H2 e2 => ⟨_, rfl, ?_⟩⟩
    refine if_nb (fun h2 => ?_) (fun h2 => ?_)
    · have hg : ruleP t = none := if_pos (.inr h2)
      rw [hg] at q
      exact q .non H2 (e01.trans e2) .non
    have hg : ruleP t = match goalP (Txt.partition t colS).2.2 with
      | some (.tuple [l, r]) => some (.tuple [.str (Txt.partition t colS).1, l, r])
      | _ => none := if_neg fun z => z.elim (fun z => h (congrArg V.str z)) (fun z => by rw [h2] at z; cases z)
    rw [h1] at hg
    rw [hg] at q
    have hx2 := up_t e2 hx.sqT
    have ha2 := ha.up (Same.T e2)
    cases ha2 with
    | @cons v1 vr _ _ hv1 hvr =>
    cases hvr with
    | @cons v2 vn _ _ hv2 hvn =>
    cases hvn with
    | nil =>
    refine ⟨_, rfl, _, rfl, a, _, _, v1, rfl, rfl, hx2, at0, _, rfl, a, _, _, v2, rfl, rfl, hx2, atI_nat (j := 1) rfl, (by show 3 ≤ sizeLine; decide), fun p3 hp3 => ?_⟩
    have e4 := same_new hp3 (.tup [.str (Txt.partition t colS).1, v1, v2])
    exact q _ _ (e01.trans (e2.trans e4)) (.tup (.inl upd_same) (.cons (.str _) (.cons (hv1.up (Same.T e4)) (.cons (hv2.up (Same.T e4)) .nil))))
end
end FF
/-! texts of rules -/
namespace FF
open PySem PySem.Spec PyProof.Rows L2
def ruleT (nm : Str) (d e : PyData) : Str := nm ++ colS ++ (textD 5 d ++ lessS ++ textD 5 e)
structure RuleA (K : PySem.W.Frag) (H : Hp) (p : Addr) (nm : Str) (d e : PyData) : Prop where
  ex : ∃ v u, SqU K H p [.str nm, v, u] ∧ Tp K H v d ∧ Tp K H u e
  nm : isNameS nm = true
  hd : Drawn 4 d
  he : Drawn 4 e
  md : meas 5 d ≤ 24
  me : meas 5 e ≤ 24
theorem RuleA.tp {K : PySem.W.Frag} {H : Hp} {p : Addr} {nm : Str} {d e : PyData} (h : RuleA K H p nm d e) : Tp K H (.ref p) (.tuple [.str nm, d, e]) := by
  obtain ⟨v, u, h1, h2, h3⟩ := h.ex
  exact .tup h1 (.cons (.str _) (.cons h2 (.cons h3 .nil)))
theorem RuleA.of {K : PySem.W.Frag} {H : Hp} {p : Addr} {nm : Str} {d e : PyData} (h : Tp K H (.ref p) (.tuple [.str nm, d, e])) (h1 : isNameS nm = true) (h2 : Drawn 4 d) (h3 : Drawn 4 e) (h4 : meas 5 d ≤ 24) (h5 : meas 5 e ≤ 24) : RuleA K H p nm d e := by
  cases h with
  | tup hx ha =>
  cases ha with
  | cons hv hr =>
  cases hv with
  | str z =>
  cases hr with
  | cons hv1 hr1 =>
  cases hr1 with
  | cons hv2 hr2 =>
  cases hr2 with
  | nil => exact ⟨⟨_, _, hx, hv1, hv2⟩, h1, h2, h3, h4, h5⟩
theorem name_len {z : Str} (h : isNameS z = true) : z.length ≤ 6 := by
  unfold isNameS at h
  rw [Bool.and_eq_true, Bool.and_eq_true] at h
  have := of_decide_eq_true h.1.2
  omega
theorem name_nice {z : Str} (h : isNameS z = true) : Nice 0 (.str z) := by
  obtain ⟨h1, h2⟩ := Bool.and_eq_true_iff.mp h
  have h3 : z.length ≤ 6 := by
    have := of_decide_eq_true (Bool.and_eq_true_iff.mp h1).2
    omega
  refine ⟨?_, Nat.le_of_eq (by rw [PyData.depth])⟩
  simp only [nice, Bool.and_eq_true, decide_eq_true_eq]
  refine ⟨by omega, ?_⟩
  show (z.cps.all fun x => decide (x < 0x110000)) = true
  rw [← Array.all_toList, List.all_eq_true]
  intro c hc
  have h4 := of_decide_eq_true (List.all_eq_true.mp h2 c hc)
  rw [show smallS.cps.toList = [97, 98, 99, 100, 101, 102, 103, 104, 105, 106, 107, 108, 109, 110, 111, 112, 113, 114, 115, 116, 117, 118, 119, 120, 121, 122] by decide +kernel] at h4
  refine decide_eq_true ?_
  simp only [List.mem_cons, List.not_mem_nil, or_false] at h4
  omega
theorem RuleA.nice {K : PySem.W.Frag} {H : Hp} {p : Addr} {nm : Str} {d e : PyData} (h : RuleA K H p nm d e) : Nice 5 (.tuple [.str nm, d, e]) := Nice.tuple (n := 4) (by simp) fun c hc => by
  simp only [List.mem_cons, List.not_mem_nil, or_false] at hc
  rcases hc with rfl | rfl | rfl
  · exact (name_nice h.nm).mono (by decide)
  · exact drawn_nice h.hd
  · exact drawn_nice h.he
theorem RuleA.up {K : PySem.W.Frag} {H H' : Hp} {p : Addr} {nm : Str} {d e : PyData} (h : RuleA K H p nm d e) (s : SameT H H') : RuleA K H' p nm d e := .of (h.tp.up s) h.nm h.hd h.he h.md h.me
def spRX (K : PySem.W.Frag) : Sp := fun vs H Q _ => ∃ (p : Addr) (nm : Str) (d e : PyData), vs = [.ref p] ∧ RuleA K H p nm d e ∧ ∀ H', Same H H' → Q (.str (ruleT nm d e)) H'
def spFR (K : PySem.W.Frag) : Sp := fun vs H Q E => (∃ (p : Addr) (nm : Str) (d e : PyData), vs = [.ref p] ∧ RuleA K H p nm d e ∧ ∀ H', Same H H' → Q (.str (ruleT nm d e)) H') ∨
  (∃ (v : V) (d : PyData), vs = [v] ∧ Dp K H v d ∧ nice d = true ∧ isRuleD d = false ∧ ∀ dd H', Same H H' → H' dd = some (.xd [("index", .int 0), ("code", .str "InvalidRules")]) → E (.ref (He.ga K "InvalidRules")) (some dd) H')
theorem str_assoc (a b c : Str) : a ++ b ++ c = a ++ (b ++ c) := tl_inj (by rw [tl_app, tl_app, tl_app, tl_app, List.append_assoc])
theorem str_nil (a : Str) : Str.empty ++ a = a := tl_inj (by rw [tl_app] <;> rfl)
section
variable {P : Program} {w : World} {K : PySem.W.Frag} {mg : Str → Option Value} {base : Heap}
theorem ok_law_rule_text {f : Addr} {fd : FuncData} (F : FunD K "_law_rule_text" "_law_rule_text" (defArgs s_law_rule_text) (defBody s_law_rule_text) (defScope s_law_rule_text) [] [] f fd) (hm : mg "_law_rule_text" = some (.ref f)) (T : Top K mg)
    (D_law_goal_text : Def P w K mg base "_law_goal_text" 6 ["_law_left", "_law_right"] (spGT K)) : Def P w K mg base "_law_rule_text" 7 ["_law_one"] (spRX K) := by
  refine def_mk F hm (F.bindsN fun _ _ _ _ _ _ us hl => match us, hl with | [_], _ => rfl) sc_law_rule_text (fun vs H Q E h => ?_) (fun cdv A outer s H vs Q E hr h => ?_)
  · obtain ⟨p, nm, d, e, rfl, _⟩ := h
    rfl
  obtain ⟨p, nm, d, e, rfl, hA, q⟩ := h
  obtain ⟨v, u, hp, hv, hu⟩ := hA.ex
  refine ⟨_, (pss_one (ps_ret (pe_op op_add_str (pe_op op_add_str (pe_ix (ix_tupK K) (pv 0) pe_int (fun _ _ => rfl)) pe_str) (pe_def D_law_goal_text hr (by first | decide | omega) (pa_cons (pe_ix (ix_tupK K) (pv 0) pe_int (fun _ _ => rfl)) (pa_cons (pe_ix (ix_tupK K) (pv 0) pe_int (fun _ _ => rfl)) pa_nil)))))), ?_⟩
  have hS : ∀ {n : Nat}, n ≤ 1000 → n ≤ sizeLine := fun h => Nat.le_trans h (by decide)
  have l1 := text185 hA.hd hA.md
  have l2 := text185 hA.he hA.me
  have l3 : lessS.length = 3 := by decide +kernel
  have l4 : colS.length = 2 := by decide +kernel
  have l5 := name_len hA.nm
  have z1 : nm.length + colS.length ≤ 1000 := by omega
  have z2 : (nm ++ colS).length + (textD 5 d ++ lessS ++ textD 5 e).length ≤ 1000 := by
    rw [app_len, app_len, app_len]
    omega
  refine ⟨_, rfl, p, _, _, _, rfl, rfl, hp.sqT, at0, _, _, rfl, rfl, hS z1, ?_⟩
  exact ⟨_, rfl, p, _, _, v, rfl, rfl, hp.sqT, atI_nat (j := 1) rfl, _, rfl, p, _, _, u, rfl, rfl, hp.sqT, atI_nat (j := 2) rfl, v, u, d, e, rfl, hv, hu, hA.hd, hA.he, hA.md, hA.me, fun H1 e1 => ⟨_, _, rfl, rfl, hS z2, q H1 e1⟩⟩
theorem ok_format_rule {f : Addr} {fd : FuncData} (F : FunD K "format_rule" "format_rule" (defArgs s_format_rule) (defBody s_format_rule) (defScope s_format_rule) [] [] f fd) (T : Top K mg)
    (D_is_rule : Def P w K mg base "is_rule" 15 ["value"] (spRule K)) (D_goal_text : Def P w K mg base "goal_text" 6 ["left", "right"] (spGT K)) (x_InvalidRules : RaiseD1 P w K mg base "InvalidRules" "FaultError" 2 "InvalidRules" "index") : FnOk P w K mg base (L2.CX P w) 16 f fd ["rule"] (spFR K) := by
  refine FunD.ok F sc_format_rule (fun vs H Q E h => ?_) (fun cdv A outer s0 H vs Q E hr h => ?_)
  · rcases h with ⟨p, nm, d, e, rfl, _⟩ | ⟨v, d, rfl, _⟩ <;> rfl
  have tk : Takes (cxOf (L2.CX P w) P w K mg base ["rule"] "format_rule" (defScope s_format_rule) f cdv A outer s0 H E) fun cls d _ H => E cls d H := takes_of rfl rfl rfl rfl
  refine ⟨_, (pss_cons (ps_if (pt_not (pt_val (pe_def D_is_rule hr (by first | decide | omega) (pa_cons (pv 0) pa_nil))))
  (pss_one (ps_raise rfl tk (pmk_raise1 x_InvalidRules hr (by first | decide | omega) (pa_cons pe_int pa_nil) (mono := by intro σ H Q Q' h q; first | exact h _ _ q | exact (let ⟨v, e, q⟩ := q; ⟨v, e, h _ _ q⟩) | exact (let ⟨v, e, x, n, e2, h2, q⟩ := q; ⟨v, e, x, n, e2, h2, h _ _ q⟩) | exact (let ⟨v, e, a, b, c, d, e1, e2, h1, h2, q⟩ := q; ⟨v, e, a, b, c, d, e1, e2, h1, h2, h _ _ q⟩)))))
  pss_nil)
  (pss_one (ps_ret (pe_joined (PJ.cons (pe_fmt (pe_ix (ix_tupK K) (pv 0) pe_int (fun _ _ => rfl))) (PJ.cons pe_str (PJ.cons (pe_fmt (pe_def D_goal_text hr (by first | decide | omega) (pa_cons (pe_ix (ix_tupK K) (pv 0) pe_int (fun _ _ => rfl)) (pa_cons (pe_ix (ix_tupK K) (pv 0) pe_int (fun _ _ => rfl)) pa_nil)))) PJ.nil))))))), ?_⟩
  rcases h with ⟨p, nm, d, e, rfl, hA, q⟩ | ⟨v, d, rfl, hd, hn, hno, q⟩
  · obtain ⟨v, u, hp, hv, hu⟩ := hA.ex
    have hS : ∀ {n : Nat}, n ≤ 1000 → n ≤ sizeLine := fun h => Nat.le_trans h (by decide)
    have l1 := text185 hA.hd hA.md
    have l2 := text185 hA.he hA.me
    have l3 : lessS.length = 3 := by decide +kernel
    have l4 : colS.length = 2 := by decide +kernel
    have l5 := name_len hA.nm
    refine ⟨_, rfl, .ref p, _, rfl, hA.tp.dp, hA.nice.ok, fun H1 e1 => ⟨_, rfl, ?_⟩⟩
    have hr : isRuleD (.tuple [.str nm, d, e]) = true := by
      show (isNameS nm && (fitsB d && fitsB e)) = true
      rw [hA.nm, fits_of hA.hd hA.md, fits_of hA.he hA.me] <;> rfl
    rw [hr]
    have hp1 : SqT K H1 p [.str nm, v, u] := up_t e1 hp.sqT
    have y1 : (Str.empty ++ nm).length ≤ 1000 := by
      rw [str_nil]
      omega
    have y2 : (Str.empty ++ nm ++ colS).length ≤ 1000 := by
      rw [str_nil, app_len]
      omega
    have y3 : (textD 5 d ++ lessS ++ textD 5 e).length ≤ 1000 := by
      rw [app_len, app_len]
      omega
    have y4 : (Str.empty ++ nm ++ colS ++ (textD 5 d ++ lessS ++ textD 5 e)).length ≤ 1000 := by
      rw [str_nil, app_len, app_len, app_len, app_len]
      omega
    refine ⟨_, rfl, p, _, _, _, rfl, rfl, hp1, at0, .inl ⟨_, rfl, hS (by omega), _, rfl, hS y1, _, rfl, hS y2, ?_⟩⟩
    refine ⟨_, rfl, p, _, _, v, rfl, rfl, hp1, atI_nat (j := 1) rfl, _, rfl, p, _, _, u, rfl, rfl, hp1, atI_nat (j := 2) rfl, v, u, d, e, rfl, hv.up (Same.T e1), hu.up (Same.T e1), hA.hd, hA.he, hA.md, hA.me, fun H2 e2 => .inl ⟨_, rfl, hS y3, _, rfl, hS y4, ?_⟩⟩
    have := q H2 (e1.trans e2)
    rw [show Str.empty ++ nm = nm from str_nil nm]
    exact this
  · refine ⟨_, rfl, v, d, rfl, hd, hn, fun H1 e1 => ⟨_, rfl, ?_⟩⟩
    rw [hno]
    exact ⟨.int 0, rfl, fun dd H2 e2 ht => q dd H2 (e1.trans e2) ht⟩
end
end FF
/-! texts are nice -/
namespace FF
open PySem PySem.Spec PyProof.Rows L2
theorem text_low : ∀ {n : Nat} {d : PyData}, Drawn n d → ∀ c ∈ tl (textD (n + 1) d), c < 0x110000 := by
  have lt : ∀ {z : Str}, isLet (.str z) = true → ∀ c ∈ tl z, c < 0x110000 := fun {z} h c hc => by
    obtain ⟨k, e, hk⟩ := let_shape h
    rw [PyData.str.inj e] at hc
    rw [lettersS_val] at hk
    have : c = k := by simpa using hc
    subst this
    simp only [List.mem_cons, List.not_mem_nil, or_false] at hk
    omega
  intro n
  induction n with
  | zero =>
    intro d h
    rcases drawn_shape h with ⟨z, rfl, hz⟩ | ⟨_, _, _, _, _, _, _, e, _⟩
    · exact lt hz
    · cases e
  | succ n ih =>
    intro d h
    rcases drawn_shape h with ⟨z, rfl, hz⟩ | ⟨o, ps, k, rfl, ho, l2, l4, e, hp⟩
    · exact lt hz
    · cases e
      obtain ⟨c, rfl, hc⟩ := op_sign ho
      have hcl : c < 0x110000 := by
        rcases Bool.or_eq_true _ _ ▸ hc with h | h
        · rw [eq_of_beq h]; decide
        · rw [eq_of_beq h]; decide
      have part : ∀ p ∈ ps, ∀ x ∈ tl (partT (textD (n + 1)) p), x < 0x110000 := fun p hpp x hx => by
        have h1 := ih (hp p hpp)
        rcases drawn_shape (hp p hpp) with ⟨z, rfl, hz⟩ | ⟨o2, ps2, _, rfl, _⟩
        · exact lt hz x hx
        · have hx : x ∈ tl (("(" : Str) ++ textD (n + 1) (.tuple (.str o2 :: ps2)) ++ ")") := hx
          rw [par_tl] at hx
          rcases List.mem_cons.mp hx with rfl | hx
          · decide
          rcases List.mem_append.mp hx with hx | hx
          · exact h1 x hx
          · rw [List.mem_singleton.mp hx]; decide
      match ps, l2, part with
      | p :: ps, _, part =>
      intro x hx
      rw [text_tup] at hx
      rcases List.mem_append.mp hx with hx | hx
      · exact part p List.mem_cons_self x hx
      · obtain ⟨l, hl, hx⟩ := List.mem_flatMap.mp hx
        obtain ⟨q, hq, rfl⟩ := List.mem_map.mp hl
        rcases List.mem_cons.mp hx with rfl | hx
        · decide
        rcases List.mem_cons.mp hx with rfl | hx
        · exact hcl
        rcases List.mem_cons.mp hx with rfl | hx
        · decide
        · exact part q (List.mem_cons_of_mem _ hq) x hx
theorem nice_of {z : Str} (hl : z.length ≤ 20000) (h : ∀ c ∈ tl z, c < 0x110000) : nice (.str z) = true := by
  simp only [nice, Bool.and_eq_true, decide_eq_true_eq]
  refine ⟨hl, ?_⟩
  show (z.cps.all fun x => decide (x < 0x110000)) = true
  rw [← Array.all_toList, List.all_eq_true]
  exact fun c hc => decide_eq_true (h c hc)
theorem less_tl : tl lessS = [32, 60, 32] := by decide +kernel
theorem col_tl : tl colS = [58, 32] := by decide +kernel
theorem goalT_nice {d e : PyData} (hd : Drawn 4 d) (he : Drawn 4 e) (md : meas 5 d ≤ 24) (me : meas 5 e ≤ 24) : Nice 0 (.str (textD 5 d ++ lessS ++ textD 5 e)) := by
  refine ⟨nice_of ?_ fun c hc => ?_, Nat.le_of_eq (by rw [PyData.depth])⟩
  · have l1 := text185 hd md
    have l2 := text185 he me
    have l3 : lessS.length = 3 := by decide +kernel
    rw [app_len, app_len]
    omega
  · rw [tl_app, tl_app, less_tl] at hc
    rcases List.mem_append.mp hc with hc | hc
    · rcases List.mem_append.mp hc with hc | hc
      · exact text_low hd c hc
      · simp only [List.mem_cons, List.not_mem_nil, or_false] at hc
        omega
    · exact text_low he c hc
theorem ruleT_nice {nm : Str} {d e : PyData} (hn : isNameS nm = true) (hd : Drawn 4 d) (he : Drawn 4 e) (md : meas 5 d ≤ 24) (me : meas 5 e ≤ 24) : Nice 0 (.str (ruleT nm d e)) := by
  refine ⟨nice_of ?_ fun c hc => ?_, Nat.le_of_eq (by rw [PyData.depth])⟩
  · have l1 := text185 hd md
    have l2 := text185 he me
    have l3 : lessS.length = 3 := by decide +kernel
    have l4 : colS.length = 2 := by decide +kernel
    have l5 := name_len hn
    unfold ruleT
    rw [app_len, app_len, app_len, app_len]
    omega
  · unfold ruleT at hc
    rw [tl_app, tl_app, tl_app, tl_app, less_tl, col_tl] at hc
    rcases List.mem_append.mp hc with hc | hc
    · rcases List.mem_append.mp hc with hc | hc
      · have h2 := of_decide_eq_true (List.all_eq_true.mp (Bool.and_eq_true_iff.mp hn).2 c hc)
        rw [smallS_val] at h2
        simp only [List.mem_cons, List.not_mem_nil, or_false] at h2
        omega
      · simp only [List.mem_cons, List.not_mem_nil, or_false] at hc
        omega
    · rcases List.mem_append.mp hc with hc | hc
      · rcases List.mem_append.mp hc with hc | hc
        · exact text_low hd c hc
        · simp only [List.mem_cons, List.not_mem_nil, or_false] at hc
          omega
      · exact text_low he c hc
end FF
/-! displays whose values satisfy a relation kept by Same -/
namespace FF
open PySem PySem.Spec PyProof.Rows L2
/-! ### displays while a list (at l) may change -/
inductive All2 (R : V → PyData → Prop) : List V → List PyData → Prop
  | nil : All2 R [] []
  | cons {v : V} {d : PyData} {vs : List V} {ds : List PyData} : R v d → All2 R vs ds → All2 R (v :: vs) (d :: ds)
section
variable {R : Hp → V → PyData → Prop} {P : V → Hp → Prop} {σ : L2.St} {H : Hp}
def EvR (R : Hp → V → PyData → Prop) (te : TE) (σ : L2.St) (H : Hp) (d : PyData) : Prop := ∀ H1, Same H H1 → ∀ Q : VK, (∀ v H2, Same H1 H2 → R H2 v d → Q v H2) → te σ H1 Q
def EvRs (R : Hp → V → PyData → Prop) (ta : TA) (σ : L2.St) (H : Hp) (ds : List PyData) : Prop := ∀ H1, Same H H1 → ∀ Q : List V → Hp → Prop, (∀ vs H2, Same H1 H2 → All2 (R H2) vs ds → Q vs H2) → ta σ H1 Q
def MonoR (R : Hp → V → PyData → Prop) : Prop := ∀ (H H' : Hp) (v : V) (d : PyData), Same H H' → R H v d → R H' v d
theorem evr_c {v : V} {d : PyData} (h : ∀ H, R H v d) : EvR R (tC v) σ H d := fun H1 _ Q q => q v H1 (Same.refl H1) (h H1)
theorem evr_var (hm : MonoR R) {i : Nat} {v : V} {d : PyData} (h : σ[i]? = some (some v)) (hd : R H v d) : EvR R (tVar i) σ H d := fun H1 e Q q => ⟨v, h, q v H1 (Same.refl H1) (hm _ _ _ _ e hd)⟩
theorem evrs_nil : EvRs R tNil σ H [] := fun H1 _ Q q => q [] H1 (Same.refl H1) .nil
theorem all2_up (hm : MonoR R) {H H' : Hp} (e : Same H H') {vs : List V} {ds : List PyData} (h : All2 (R H) vs ds) : All2 (R H') vs ds := by
  induction h with
  | nil => exact .nil
  | cons a _ ih => exact .cons (hm _ _ _ _ e a) ih
theorem all2_len {R : V → PyData → Prop} {vs : List V} {ds : List PyData} (h : All2 R vs ds) : vs.length = ds.length := by
  induction h with
  | nil => rfl
  | cons a _ ih => simp [ih]
theorem evrs_cons (hm : MonoR R) {te : TE} {ta : TA} {d : PyData} {ds : List PyData} (h : EvR R te σ H d) (t : EvRs R ta σ H ds) : EvRs R (tCons te ta) σ H (d :: ds) := fun H1 e Q q =>
  h H1 e _ fun v H2 e2 hd => t H2 (e.trans e2) _ fun vs H3 e3 hs => q (v :: vs) H3 (e2.trans e3) (.cons (hm _ _ _ _ e3 hd) hs)
theorem evr_tup (hm : MonoR R) {ta : TA} {ds : List PyData} (ht : ∀ H1 p vs, Same H H1 → H1 p = none → All2 (R (upd H1 p (.tup vs))) vs ds → R (upd H1 p (.tup vs)) (.ref p) (.tuple ds)) (h : EvRs R ta σ H ds) (hl : ds.length ≤ 20000) : EvR R (tTup ta) σ H (.tuple ds) := fun H1 e Q q =>
  h H1 e _ fun vs H2 e2 hs => ⟨by rw [all2_len hs]; exact le_line hl, fun p hp => q _ _ (e2.trans (same_new hp _)) (ht H2 p vs (e.trans e2) hp (all2_up hm (same_new hp _) hs))⟩
theorem evr_lst (hm : MonoR R) {ta : TA} {ds : List PyData} (ht : ∀ H1 p vs, Same H H1 → H1 p = none → All2 (R (upd H1 p (.lst vs))) vs ds → R (upd H1 p (.lst vs)) (.ref p) (.list ds)) (h : EvRs R ta σ H ds) (hl : ds.length ≤ 20000) : EvR R (tLst ta) σ H (.list ds) := fun H1 e Q q =>
  h H1 e _ fun vs H2 e2 hs => ⟨by rw [all2_len hs]; exact le_line hl, fun p hp => q _ _ (e2.trans (same_new hp _)) (ht H2 p vs (e.trans e2) hp (all2_up hm (same_new hp _) hs))⟩
/-- rows of values of which each has P -/
def EvP (P : V → Hp → Prop) (te : TE) (σ : L2.St) (H : Hp) : Prop := ∀ H1, Same H H1 → ∀ Q : VK, (∀ v H2, Same H1 H2 → P v H2 → Q v H2) → te σ H1 Q
def EvPs (P : V → Hp → Prop) (n : Nat) (ta : TA) (σ : L2.St) (H : Hp) : Prop := ∀ H1, Same H H1 → ∀ Q : List V → Hp → Prop, (∀ vs H2, Same H1 H2 → vs.length = n → (∀ v ∈ vs, P v H2) → Q vs H2) → ta σ H1 Q
theorem evp_r {te : TE} {d : PyData} (h : EvR R te σ H d) (hp : ∀ v H2, R H2 v d → P v H2) : EvP P te σ H := fun H1 e Q q => h H1 e Q fun v H2 e2 r => q v H2 e2 (hp v H2 r)
theorem evps_nil : EvPs P 0 tNil σ H := fun H1 _ Q q => q [] H1 (Same.refl H1) rfl (fun v h => by cases h)
theorem evps_cons (hm : ∀ v H H', Same H H' → P v H → P v H') {te : TE} {ta : TA} {n : Nat} (h : EvP P te σ H) (t : EvPs P n ta σ H) : EvPs P (n + 1) (tCons te ta) σ H := fun H1 e Q q =>
  h H1 e _ fun v H2 e2 hd => t H2 (e.trans e2) _ fun vs H3 e3 hl hs => q (v :: vs) H3 (e2.trans e3) (by rw [List.length_cons, hl]) fun w hw => by
    rcases List.mem_cons.mp hw with rfl | hw
    · exact hm _ _ _ e3 hd
    · exact hs w hw
theorem evpl_lst (hm : ∀ v H H', Same H H' → P v H → P v H') {ta : TA} {n : Nat} (h : EvPs P n ta σ H) (hn : n ≤ 20000) : ∀ H1, Same H H1 → ∀ Q : VK, (∀ p vs H2, H1 p = none → Same H1 H2 → H2 p = some (.lst vs) → vs.length = n → (∀ v ∈ vs, P v H2) → Q (.ref p) H2) → tLst ta σ H1 Q := fun H1 e Q q =>
  h H1 e _ fun vs H2 e2 hl hs => ⟨by rw [hl]; exact le_line hn, fun p hp => q p vs _ ((Same.trans e2 (Same.refl _)).free hp) (e2.trans (same_new hp _)) upd_same hl fun v hv => hm _ _ _ (same_new hp _) (hs v hv)⟩
end

section
variable {K : PySem.W.Frag} {σ : L2.St} {H : Hp} {ta : TA} {ds : List PyData}
abbrev RT (K : PySem.W.Frag) (H : Hp) (v : V) (d : PyData) : Prop := Tp K H v d
theorem monoT : MonoR (RT K) := fun H H' v d e h => h.up (Same.T e)
theorem allT {vs : List V} {ds : List PyData} (h : All2 (RT K H) vs ds) : TpAll K H vs ds := by
  induction h with
  | nil => exact .nil
  | cons a _ ih => exact .cons a ih
theorem evt_tup (h : EvRs (RT K) ta σ H ds) (hn : ds.length ≤ 20000) : EvR (RT K) (tTup ta) σ H (.tuple ds) := evr_tup monoT (fun H1 p vs e hp ha => .tup (.inl upd_same) (allT ha)) h hn
end
end FF
/-! what the law of texts compares: the due answers; bad goals and rules -/
namespace FF
open PySem PySem.Spec PyProof.Rows L2
def dueO : Option PyData → PyData
  | some d => .tuple [d, .str ""]
  | none => .tuple [.none, .str "InvalidText"]
theorem due_item {K : PySem.W.Frag} {σ : L2.St} {Hx : Hp} {w : V} {o : Option PyData} {j : Nat} (hσ : σ[j]? = some (some w)) (ht : ∀ d, o = some d → isTup d = true) (hw : Tp K Hx w (optD o)) {Q' : VK} (k : ∀ y H3, Same Hx H3 → Tp K H3 y (dueO o) → Q' y H3) :
    tIf (tB (tIsN (tVar j))) (tTup (tCons (tC V.non) (tCons (tC (V.str "InvalidText")) tNil))) (tTup (tCons (tVar j) (tCons (tC (V.str "")) tNil))) σ Hx Q' := by
  cases o with
  | none =>
    have hw : Tp K Hx w .none := hw
    cases hw
    refine ⟨_, hσ, _, rfl, ?_⟩
    refine iteT ⟨(by show 2 ≤ sizeLine; decide), fun p hp => k _ _ (same_new hp _) (.tup (.inl upd_same) (.cons .non (.cons (.str _) .nil)))⟩
  | some d =>
    have hw : Tp K Hx w d := hw
    have hn : w ≠ .non := fun z => by
      rw [z] at hw
      cases hw
      cases ht _ rfl
    refine ⟨_, hσ, _, rfl, ?_⟩
    rw [decide_eq_false hn]
    refine ⟨_, hσ, (by show 2 ≤ sizeLine; decide), fun p hp => k _ _ (same_new hp _) (.tup (.inl upd_same) (.cons (hw.up (Same.T (same_new hp _))) (.cons (.str _) .nil)))⟩
theorem goal_tup {t : Str} {d : PyData} (h : goalP t = some d) : isTup d = true := by
  obtain ⟨l, r, rfl, _⟩ := goal_shape h
  rfl
theorem rule_shape {t : Str} {d : PyData} (h : ruleP t = some d) : ∃ nm l r, d = .tuple [.str nm, l, r] ∧ isNameS nm = true ∧ Drawn 4 l ∧ Drawn 4 r := by
  unfold ruleP at h
  split at h
  · cases h
  · rename_i hno
    cases h1 : goalP (Txt.partition t colS).2.2 with
    | none =>
      rw [h1] at h
      cases h
    | some g =>
      obtain ⟨l, r, rfl, hl, hr⟩ := goal_shape h1
      rw [h1] at h
      cases h
      refine ⟨_, l, r, rfl, ?_, hl, hr⟩
      cases q : isNameS (Txt.partition t colS).1 with
      | true => rfl
      | false => exact absurd (.inr q) hno
theorem rule_tup {t : Str} {d : PyData} (h : ruleP t = some d) : isTup d = true := by
  obtain ⟨_, l, r, rfl, _⟩ := rule_shape h
  rfl
theorem due_nice {n : Nat} {o : Option PyData} (h : ∀ d, o = some d → Nice n d) : Nice (n + 1) (dueO o) := by
  cases o with
  | none => exact ⟨by decide +kernel, by show 1 ≤ n + 1; omega⟩
  | some d =>
    exact Nice.tuple (by simp) fun c hc => by
      simp only [List.mem_cons, List.not_mem_nil, or_false] at hc
      rcases hc with rfl | rfl
      · exact h _ rfl
      · exact ⟨by decide +kernel, by show 0 ≤ n; omega⟩
theorem goal_due (t : Str) : Nice 6 (dueO (goalP t)) := due_nice fun d hd => by
  obtain ⟨l, r, rfl, hl, hr⟩ := goal_shape hd
  exact Nice.tuple (n := 4) (by simp) fun c hc => by
    simp only [List.mem_cons, List.not_mem_nil, or_false] at hc
    rcases hc with rfl | rfl
    · exact drawn_nice hl
    · exact drawn_nice hr
theorem rule_due (t : Str) : Nice 6 (dueO (ruleP t)) := due_nice fun d hd => by
  obtain ⟨nm, l, r, rfl, hn, hl, hr⟩ := rule_shape hd
  exact Nice.tuple (n := 4) (by simp) fun c hc => by
    simp only [List.mem_cons, List.not_mem_nil, or_false] at hc
    rcases hc with rfl | rfl | rfl
    · exact (name_nice hn).mono (by decide)
    · exact drawn_nice hl
    · exact drawn_nice hr
theorem ttc_pg {K : PySem.W.Frag} {tl : (XK → Hp → VK → Prop)} {H : Hp} {Q : VK} {f : Str → Option PyData} {t : Str} (x : OwnX K "InvalidText" "FaultError") (ht : t.length ≤ 10000) (h : ∀ (E : XK) (R : VK), spPG K f [.str t] H R E → tl E H R)
    (k : ∀ v H', Same H H' → Tp K H' v (dueO (f t)) → Q v H') : TTc K (He.ga K "FaultError") tl H Q := by
  refine h _ _ ⟨t, rfl, ht, fun d hd v H' e hv p hp => ?_, fun no dd H' e hth => ⟨_, _, rfl, x.c, x.exm, hth, fun p hp => ?_⟩⟩
  · have e2 := same_new hp (.tup [v, .str ""])
    refine k _ _ (e.trans e2) ?_
    rw [hd]
    exact .tup (.inl upd_same) (.cons (hv.up (Same.T e2)) (.cons (.str _) .nil))
  · refine k _ _ (e.trans (same_new hp _)) ?_
    rw [no]
    exact .tup (.inl upd_same) (.cons .non (.cons (.str _) .nil))
/-! ### displays of data -/
abbrev RD (K : PySem.W.Frag) (H : Hp) (v : V) (d : PyData) : Prop := Dp K H v d
section
variable {K : PySem.W.Frag} {σ : L2.St} {H : Hp} {ta : TA} {ds : List PyData}
theorem monoD : MonoR (RD K) := fun H H' v d e h => up_d e h
theorem allD {vs : List V} {ds : List PyData} (h : All2 (RD K H) vs ds) : DpAll K H vs ds := by
  induction h with
  | nil => exact .nil
  | cons a _ ih => exact .cons a ih
theorem evd_tup (h : EvRs (RD K) ta σ H ds) (hn : ds.length ≤ 20000) : EvR (RD K) (tTup ta) σ H (.tuple ds) := evr_tup monoD (fun H1 p vs e hp ha => .tup (SqT.of upd_same) (allD ha)) h hn
theorem evd_lst (h : EvRs (RD K) ta σ H ds) (hn : ds.length ≤ 20000) : EvR (RD K) (tLst ta) σ H (.list ds) := evr_lst monoD (fun H1 p vs e hp ha => .lst (SqL.of upd_same) (allD ha)) h hn
abbrev BG (K : PySem.W.Frag) (f : PyData → Bool) (x : V) (H : Hp) : Prop := ∃ d, Dp K H x d ∧ Nice 40 d ∧ f d = false
theorem bg_up {f : PyData → Bool} : ∀ v H H', Same H H' → BG K f v H → BG K f v H' := fun v H H' e ⟨d, a, b, c⟩ => ⟨d, up_d e a, b, c⟩
theorem bg_n {f : PyData → Bool} {v : V} {H H' : Hp} (e : LamX.ExtN H H') : BG K f v H → BG K f v H' := fun ⟨d, a, b, c⟩ => ⟨d, sn_d e a, b, c⟩
theorem bg_p {f : PyData → Bool} {te : TE} {d : PyData} (h : EvR (RD K) te σ H d) (hn : Nice 40 d) (hf : f d = false) : EvP (BG K f) te σ H := evp_r h fun v H2 r => ⟨d, r, hn, hf⟩
end
theorem evr_ix0 {K : PySem.W.Frag} {σ : L2.St} {H : Hp} {i : Nat} {p : Addr} {x : V} {xs : List V} {d : PyData} (hσ : σ[i]? = some (some (.ref p))) (hs : SqT K H p (x :: xs)) (hd : Dp K H x d) : EvR (RD K) (tOp (rIxT K) (tVar i) (tC (V.int 0))) σ H d := fun H1 e Q q => ⟨_, hσ, p, _, _, x, rfl, rfl, up_t e hs, at0, q x H1 (Same.refl _) (up_d e hd)⟩
theorem evr_list1 {K : PySem.W.Frag} {σ : L2.St} {H : Hp} {i : Nat} {p : Addr} {xs : List V} {ds : List PyData} (hσ : σ[i]? = some (some (.ref p))) (hs : SqT K H p xs) (hd : DpAll K H xs ds) :
    EvR (RD K) (tCB (fun xs H Q => ∃ p ys, xs = [V.ref p] ∧ (SqL K H p ys ∨ SqT K H p ys) ∧ ∀ l, H l = none → Q (.ref l) (upd H l (.lst ys))) (tCons (tVar i) tNil)) σ H (.list ds) := fun H1 e Q q =>
  ⟨_, hσ, p, xs, rfl, .inr (up_t e hs), fun l hl => q _ _ (same_new hl _) (.lst (SqL.of upd_same) (up_da (e.trans (same_new hl _)) hd))⟩
theorem dp_bls {K : PySem.W.Frag} {H : Hp} {f : Str → Bool} : ∀ {l : List Str}, DpAll K H (l.map fun z => V.bl (f z)) (l.map fun z => PyData.bool (f z))
  | [] => .nil
  | _ :: _ => .cons (.bl _) dp_bls
theorem nice_t {n : Nat} {ds : List PyData} (hl : ds.length ≤ 20) (h : ∀ d ∈ ds, Nice n d) (hn : n < 40) : Nice 40 (.tuple ds) := (Nice.tuple (by omega) h).mono (by omega)
theorem nice_l {n : Nat} {ds : List PyData} (hl : ds.length ≤ 20) (h : ∀ d ∈ ds, Nice n d) (hn : n < 40) : Nice 40 (.list ds) := (Nice.list (by omega) h).mono (by omega)
theorem drawn_noG {d : PyData} (h : Drawn 4 d) : isGoalD d = false := by
  rcases drawn_shape h with ⟨z, rfl, _⟩ | ⟨o, ps, k, rfl, ho, l2, l4, _⟩
  · rfl
  · match ps, l2 with
    | p :: q :: r, _ => rfl
end FF
namespace FF
open PySem PySem.Spec PyProof.Rows L2
def TBL (K : PySem.W.Frag) : List (Addr × Str) := [((He.cT K ("law", none)).2, (("law" : Str) ++ ".<locals>.") ++ "<lambda>")]
def spLaw (K : PySem.W.Frag) : Sp := fun vs H Q _ => ∃ (a : Addr) (ns : List Int), vs = [.ref a] ∧ SqL K H a (ns.map V.int) ∧ LamX.Tabs (TBL K) H ∧ ∀ H', Q (.bl true) H'
theorem Src.upN {H H' : Hp} {s : Addr} (e : LamX.ExtN H H') (h : Src H s) : Src H' s := by
  obtain ⟨c, ns, h1, h2⟩ := h
  exact ⟨c, ns, e _ _ h1 (fun ps z => by unfold hid at z; cases z), e _ _ h2 (fun ps z => by cases z)⟩
theorem tp_n {K : PySem.W.Frag} {H H' : Hp} {v : V} {d : PyData} (h : Tp K H v d) (e : LamX.ExtN H H') : Tp K H' v d := h.up fun b xs hb => e _ _ hb fun ps z => by cases z
abbrev wdA : List Str := ["", "a", "abcdef", "abcdefg", "aB", "a b", "zzz", "a1", "z\n"]
section
variable {P : Program} {w : World} {K : PySem.W.Frag} {mg : Str → Option Value} {base : Heap}
theorem ok_law {gC gI fPR fR : Addr} {fd fdC fdI fdPR fdR : FuncData} (F : FunD K "law" "law" (defArgs s_law) (defBody s_law) (defScope s_law) [] [] (He.fAd K ("law", none)) fd) (T : Top K mg)
    (TB : LamX.TabB base mg (He.codeOf K ("law", none)) (He.cT K ("law", none)).2)
    (F_law_call : FunD K "_law_call" "_law_call" (defArgs s_law_call) (defBody s_law_call) (defScope s_law_call) [] [] gC fdC) (m_law_call : mg "_law_call" = some (.ref gC))
    (F_law_index_told : FunD K "_law_index_told" "_law_index_told" (defArgs s_law_index_told) (defBody s_law_index_told) (defScope s_law_index_told) [] [] gI fdI) (m_law_index_told : mg "_law_index_told" = some (.ref gI))
    (FPR0 : FunD K "parse_rule" "parse_rule" (defArgs s_parse_rule) (defBody s_parse_rule) (defScope s_parse_rule) [] [] fPR fdPR) (hmPR : mg "parse_rule" = some (.ref fPR)) (FPR : FnOk P w K mg base (L2.CX P w) 19 fPR fdPR ["text"] (spPG K ruleP))
    (FR0 : FunD K "format_rule" "format_rule" (defArgs s_format_rule) (defBody s_format_rule) (defScope s_format_rule) [] [] fR fdR) (hmR : mg "format_rule" = some (.ref fR)) (FR : FnOk P w K mg base (L2.CX P w) 16 fR fdR ["rule"] (spFR K))
    (D_parse_goal : DefX P w K mg base "parse_goal" 18 ["text"] (spPG K goalP)) (D_format_goal : DefX P w K mg base "format_goal" 15 ["goal"] (spFG K)) (D_is_name : Def P w K mg base "is_name" 1 ["text"] (spName K)) (D_law_is_name : Def P w K mg base "_law_is_name" 1 ["_law_mtext"] (spName K))
    (D_law_source : Def P w K mg base "_law_source" 1 ["_law_script"] (spSource K)) (D_law_take : Def P w K mg base "_law_take" 1 ["_law_source_here", "_law_many"] spTake) (D_law_pick : Def P w K mg base "_law_pick" 2 ["_law_source_here", "_law_row"] (spPick K))
    (D_law_any_term : Def P w K mg base "_law_any_term" 9 ["_law_source_here"] (spAnyR K)) (D_law_names : Def P w K mg base "_law_names" 3 ["_law_source_here", "_law_many"] (spNamesG K)) (D_law_odd : Def P w K mg base "_law_odd" 3 ["_law_source_here", "_law_word"] (spOdd0 K))
    (D_law_goal_text : Def P w K mg base "_law_goal_text" 6 ["_law_left", "_law_right"] (spGT K)) (D_law_rule_text : Def P w K mg base "_law_rule_text" 7 ["_law_one"] (spRX K)) (D_law_spoilt : Def P w K mg base "_law_spoilt" 2 ["_law_source_here", "_law_mtext"] spSpoilt)
    (D_law_read_goal : Def P w K mg base "_law_read_goal" 14 ["_law_mtext"] (spRG K goalP)) (D_law_read_rule : Def P w K mg base "_law_read_rule" 15 ["_law_mtext"] (spRG K ruleP))
    (D_law_same : Def P w K mg base "_law_same" 40 ["_law_found", "_law_due"] (spSame K 40)) (x_InvalidText : OwnX K "InvalidText" "FaultError") (x_InvalidGoal : OwnX K "InvalidGoal" "FaultError") :
    FnOk P w K mg base CX0 42 (He.fAd K ("law", none)) fd ["_law_script"] (spLaw K) := by
  have b_law_call : Binds K fdC ["_law_ask"] [] := F_law_call.bindsN fun _ _ _ _ _ _ us hl => match us, hl with | [_], _ => rfl
  have b_law_index_told : Binds K fdI ["_law_ask"] [] := F_law_index_told.bindsN fun _ _ _ _ _ _ us hl => match us, hl with | [_], _ => rfl
  have kp1 : KBn K fdPR ["text"] 0 ["text"] (fun us ws => us ++ ws) (fun vs zs => vs ++ zs) := kb_plain FPR0 fun kV doc pm an cdv ct us ws h1 h2 => match us, ws, h1, h2 with
    | [], [_], _, _ => rfl
  have kr1 : KBn K fdR ["rule"] 0 ["rule"] (fun us ws => us ++ ws) (fun vs zs => vs ++ zs) := kb_plain FR0 fun kV doc pm an cdv ct us ws h1 h2 => match us, ws, h1, h2 with
    | [], [_], _, _ => rfl
  have D_format_rule : DefX P w K mg base "format_rule" 16 ["rule"] (spFR K) := ⟨fR, fdR, FR, hmR, FR0.kp, FR0.bindsN fun _ _ _ _ _ _ us hl => match us, hl with | [_], _ => rfl⟩
  refine fn_mkC F sc_law (fun vs H Q E h => ?_) (fun cdv A outer s0 H vs Q E ec hr h => ?_)
  · obtain ⟨a, ns, rfl, _⟩ := h
    rfl
  subst ec
  obtain ⟨a, ns, rfl, hS, hT, q⟩ := h
  refine ⟨_, (pss_cons (ps_set (i := 1) sc_law.nd rfl (Or.inr rfl) (pe_def D_law_source hr (by first | decide | omega) (pa_cons (pv 0) pa_nil)))
  (pss_cons (ps_for PassesOwn.never rfl (pi_range1 (by rfl) T.b_range (pa_cons pe_int pa_nil)) (pg_name (i := 2) sc_law.nd rfl (Or.inl rfl) (.inl rfl))
  (pss_cons (ps_par (i := 3) (j := 4) (by rfl) sc_law.nd rfl rfl (by decide) rfl rfl (pa_cons (pe_def D_law_any_term hr (by first | decide | omega) (pa_cons (pv 1) pa_nil)) (pa_cons (pe_def D_law_any_term hr (by first | decide | omega) (pa_cons (pv 1) pa_nil)) pa_nil)) (by rfl))
  (pss_cons (ps_set (i := 5) sc_law.nd rfl (Or.inl rfl) (pe_tup (pa_cons (pe_ix (ix_listK K) (pe_def D_law_names hr (by first | decide | omega) (pa_cons (pv 1) (pa_cons pe_int pa_nil))) pe_int (fun _ _ => rfl)) (pa_cons (pv 3) (pa_cons (pv 4) pa_nil)))))
  (pss_cons (ps_set (i := 6) sc_law.nd rfl (Or.inr rfl) (pe_lst (pa_cons (pe_def D_law_goal_text hr (by first | decide | omega) (pa_cons (pv 3) (pa_cons (pv 4) pa_nil))) (pa_cons (pe_def D_law_rule_text hr (by first | decide | omega) (pa_cons (pv 5) pa_nil)) pa_nil))))
  (pss_cons (ps_if (pt_not (pt_val (pe_def D_law_same hr (by first | decide | omega) (pa_cons (pe_lst (pa_cons (pe_defN D_format_goal hr (by first | decide | omega) (pa_cons (pe_tup (pa_cons (pv 3) (pa_cons (pv 4) pa_nil))) pa_nil)) (pa_cons (pe_defN D_format_rule hr (by first | decide | omega) (pa_cons (pv 5) pa_nil)) (pa_cons (pe_callN0 FR (hr.mono (by decide)) rfl hmR FR0.kp kr1 passN (pk_cons (pv 5) pk_nil)) pa_nil)))) (pa_cons (pe_op op_cat (pv 6) (pe_slice (sl_listK K) (pv 6) (po_some pe_int) po_none)) pa_nil)))))
  (pss_one (ps_ret pe_bl))
  pss_nil)
  (pss_cons (ps_for PassesOwn.never rfl (pi_range1 (by rfl) T.b_range (pa_cons (pe_def D_law_take hr (by first | decide | omega) (pa_cons (pv 1) (pa_cons pe_int pa_nil))) pa_nil)) (pg_name (i := 7) sc_law.nd rfl (Or.inl rfl) (.inl rfl))
  (pss_one (ps_set (i := 6) sc_law.nd rfl (Or.inr rfl) (pe_lc (own := [("_law_mtext", 8)]) rfl sc_law.nd (pi_listK K (pv 6)) (blkOk_by (by kernel_rfl)) (fun _ _ _ _ _ => (pg_name (i := 8) sc_law.nd rfl (Or.inl rfl) (.inr rfl))) (fun _ _ _ _ _ => pts_nil) (fun _ _ _ _ _ => (pe_def D_law_spoilt hr (by first | decide | omega) (pa_cons (pv 1) (pa_cons (pv 8) pa_nil))))))))
  (pss_cons (ps_set (i := 9) sc_law.nd rfl (Or.inl rfl) (pe_lst (pa_cons (pe_def D_law_read_goal hr (by first | decide | omega) (pa_cons (pe_ix (ix_listK K) (pv 6) pe_int (fun _ _ => rfl)) pa_nil)) (pa_cons (pe_def D_law_read_rule hr (by first | decide | omega) (pa_cons (pe_ix (ix_listK K) (pv 6) pe_int (fun _ _ => rfl)) pa_nil)) pa_nil))))
  (pss_cons (ps_setLc (i := 10) (own := [("_law_word", 11)]) rfl sc_law.nd rfl rfl (sw_true rfl rfl rfl (by kernel_rfl)) (pi_listK K (pv 9)) (blkOk_by (by kernel_rfl)) (fun _ _ _ _ _ => (pg_name (i := 11) sc_law.nd rfl (Or.inl rfl) (.inr rfl))) (fun _ _ _ _ _ => pts_nil) (fun _ _ _ _ _ => (pe_ifExp (pt_cmp (pc_isN (pv 11)) (by rfl)) (pe_tup (pa_cons pe_non (pa_cons pe_str pa_nil))) (pe_tup (pa_cons (pv 11) (pa_cons pe_str pa_nil))))))
  (pss_cons (ps_if (pt_not (pt_val (pe_def D_law_same hr (by first | decide | omega) (pa_cons (pe_lst (pa_cons (pe_lamS (by rfl) m_law_call F_law_call b_law_call sc_law_call rfl (Or.inl rfl) (fun cdg => gives_law_call T) TB rfl rfl hr (lam_by (st := s_law) rfl (by decide +kernel)) rfl (fun _ _ _ _ _ => rfl) (fun A1 outer1 s1 H1 E1 f1 c1 hr1 => (pe_defx (E := E1) D_parse_goal (takes_of rfl rfl rfl rfl) (fun _ _ _ _ h => h) hr1 (by first | decide | omega) (pa_cons (pe_ix (ix_listK K) (pv 6) pe_int (fun _ _ => rfl)) pa_nil)))) (pa_cons (pe_lamS (by rfl) m_law_call F_law_call b_law_call sc_law_call rfl (Or.inl rfl) (fun cdg => gives_law_call T) TB rfl rfl hr (lam_by (st := s_law) rfl (by decide +kernel)) rfl (fun _ _ _ _ _ => rfl) (fun A1 outer1 s1 H1 E1 f1 c1 hr1 => (pe_callN0 (E := E1) FPR (hr1.mono (by decide)) rfl hmPR FPR0.kp kp1 (passes_call (takes_of rfl rfl rfl rfl) (fun _ _ _ _ h => h)) (pk_cons (pe_ix (ix_listK K) (pv 6) pe_int (fun _ _ => rfl)) pk_nil)))) pa_nil))) (pa_cons (pv 10) pa_nil)))))
  (pss_one (ps_ret pe_bl))
  pss_nil)
  (pss_cons (ps_set (i := 12) sc_law.nd rfl (Or.inl rfl) (pe_def D_law_odd hr (by first | decide | omega) (pa_cons (pv 1) (pa_cons (pv 3) pa_nil))))
  (pss_cons (ps_set (i := 13) sc_law.nd rfl (Or.inr rfl) (pe_lst (pa_cons (pe_tup (pa_cons (pv 3) (pa_cons (pv 12) pa_nil))) (pa_cons (pe_tup (pa_cons (pv 12) (pa_cons (pv 3) pa_nil))) (pa_cons (pe_tup (pa_cons (pv 3) pa_nil)) (pa_cons (pe_lst (pa_cons (pv 3) (pa_cons (pv 4) pa_nil))) (pa_cons (pe_tup (pa_cons (pv 3) (pa_cons (pv 4) (pa_cons (pv 4) pa_nil)))) (pa_cons pe_non (pa_cons (pv 3) pa_nil)))))))))
  (pss_cons (ps_if (pt_cmpR (op_neK K hr.units) (pe_lamS (by rfl) m_law_call F_law_call b_law_call sc_law_call rfl (Or.inl rfl) (fun cdg => gives_law_call T) TB rfl rfl hr (lam_by (st := s_law) rfl (by decide +kernel)) rfl (fun _ _ _ _ _ => rfl) (fun A1 outer1 s1 H1 E1 f1 c1 hr1 => (pe_defx (E := E1) D_format_goal (takes_of rfl rfl rfl rfl) (fun _ _ _ _ h => h) hr1 (by first | decide | omega) (pa_cons (pe_def D_law_pick hr1 (by first | decide | omega) (pa_cons (pv 1) (pa_cons (pv 13) pa_nil))) pa_nil)))) (pe_tup (pa_cons pe_non (pa_cons pe_str pa_nil))) (nomark _))
  (pss_one (ps_ret pe_bl))
  pss_nil)
  (pss_cons (ps_set (i := 13) sc_law.nd rfl (Or.inr rfl) (pe_lst (pa_cons (pe_tup (pa_cons pe_str (pa_cons (pv 3) (pa_cons (pv 4) pa_nil)))) (pa_cons (pe_tup (pa_cons pe_str (pa_cons (pv 3) (pa_cons (pv 4) pa_nil)))) (pa_cons (pe_tup (pa_cons pe_str (pa_cons (pv 3) (pa_cons (pv 4) pa_nil)))) (pa_cons (pe_tup (pa_cons (pe_ix (ix_tupK K) (pv 5) pe_int (fun _ _ => rfl)) (pa_cons (pv 12) (pa_cons (pv 4) pa_nil)))) (pa_cons (pe_tup (pa_cons (pe_ix (ix_tupK K) (pv 5) pe_int (fun _ _ => rfl)) (pa_cons (pv 3) pa_nil))) pa_nil)))))))
  (pss_cons (ps_set (i := 13) sc_law.nd rfl (Or.inr rfl) (pe_op op_cat (pv 13) (pe_lst (pa_cons (pe_callTy (call_list_ofK K) (by rfl) T.b_list (by decide +kernel) (pa_cons (pv 5) pa_nil)) (pa_cons (pe_tup (pa_cons pe_int (pa_cons (pv 3) (pa_cons (pv 4) pa_nil)))) (pa_cons (pe_tup (pa_cons (pe_ix (ix_tupK K) (pv 5) pe_int (fun _ _ => rfl)) (pa_cons (pv 3) (pa_cons (pv 4) (pa_cons (pv 4) pa_nil))))) (pa_cons (pe_tup (pa_cons (pe_ix (ix_tupK K) (pv 5) pe_int (fun _ _ => rfl)) (pa_cons (pv 3) (pa_cons (pv 12) pa_nil)))) (pa_cons pe_non pa_nil))))))))
  (pss_cons (ps_set (i := 14) sc_law.nd rfl (Or.inr rfl) (pe_def D_law_pick hr (by first | decide | omega) (pa_cons (pv 1) (pa_cons (pv 13) pa_nil))))
  (pss_one (ps_if (pt_not (pt_val (pe_def D_law_same hr (by first | decide | omega) (pa_cons (pe_lamS (by rfl) m_law_index_told F_law_index_told b_law_index_told sc_law_index_told rfl (Or.inl rfl) (fun cdg => gives_law_index_told T) TB rfl rfl hr (lam_by (st := s_law) rfl (by decide +kernel)) rfl (fun _ _ _ _ _ => rfl) (fun A1 outer1 s1 H1 E1 f1 c1 hr1 => (pe_defx (E := E1) D_format_rule (takes_of rfl rfl rfl rfl) (fun _ _ _ _ h => h) hr1 (by first | decide | omega) (pa_cons (pv 14) pa_nil)))) (pa_cons pe_int pa_nil)))))
  (pss_one (ps_ret pe_bl))
  pss_nil)))))))))))))))))
  (pss_cons (ps_set (i := 15) sc_law.nd rfl (Or.inl rfl) (pe_lst (pa_cons pe_str (pa_cons pe_str (pa_cons pe_str (pa_cons pe_str (pa_cons pe_str (pa_cons pe_str (pa_cons pe_str (pa_cons pe_str (pa_cons pe_str pa_nil)))))))))))
  (pss_one (ps_ret (pe_def D_law_same hr (by first | decide | omega) (pa_cons (pe_lc (own := [("_law_word", 11)]) rfl sc_law.nd (pi_listK K (pv 15)) (blkOk_by (by kernel_rfl)) (fun _ _ _ _ _ => (pg_name (i := 11) sc_law.nd rfl (Or.inl rfl) (.inr rfl))) (fun _ _ _ _ _ => pts_nil) (fun _ _ _ _ _ => (pe_def D_is_name hr (by first | decide | omega) (pa_cons (pv 11) pa_nil)))) (pa_cons (pe_lc (own := [("_law_word", 11)]) rfl sc_law.nd (pi_listK K (pv 15)) (blkOk_by (by kernel_rfl)) (fun _ _ _ _ _ => (pg_name (i := 11) sc_law.nd rfl (Or.inl rfl) (.inr rfl))) (fun _ _ _ _ _ => pts_nil) (fun _ _ _ _ _ => (pe_def D_law_is_name hr (by first | decide | omega) (pa_cons (pv 11) pa_nil)))) pa_nil)))))))), ?_⟩
  refine ⟨_, rfl, a, ns, rfl, hS, fun s H1 e1 hs1 => ?_⟩
  refine ⟨5, rfl, by omega, by omega, ?_⟩
  refine for_range (lo := 0) (n := 5) (fun i σ H' => ∃ o2 o3 o4 o5 o6 o7 o8 o9 oa ob oc od oe of, σ = [some (.ref a), some (.ref s), o2, o3, o4, o5, o6, o7, o8, o9, oa, ob, oc, od, oe, of] ∧ Src H' s ∧ LamX.Tabs (TBL K) H') ⟨none, none, none, none, none, none, none, none, none, none, none, none, none, none, rfl, hs1, hT.ext e1⟩ ?_ ?_
  · clear hs1 hT e1 hS
    rintro i σ H' hi ⟨o2, o3, o4, o5, o6, o7, o8, o9, oa, ob, oc, od, oe, of, rfl, hs, hT⟩
    refine ⟨_, rfl, s, rfl, hs, fun v H2 d e2 hv2 hd md => ?_⟩
    refine ⟨_, rfl, s, rfl, hs.up e2, fun u H3 e e3 hu3 he me => ?_⟩
    refine ⟨v, u, rfl, _, rfl, s, 1, rfl, (hs.up e2).up e3, by decide, fun r ss H4 e4 hr0 hr4 hlen hnm _ => ?_⟩
    obtain ⟨nm, rfl⟩ := List.length_eq_one_iff.mp hlen
    have hnm := hnm nm (List.mem_singleton.mpr rfl)
    refine ⟨r, _, _, .str nm, rfl, rfl, SqL.of hr4, at0, _, rfl, _, rfl, (by show 3 ≤ sizeLine; decide), fun p hp => ?_⟩
    have e5 := same_new hp (.tup [.str nm, v, u])
    have hv5 := hv2.up (Same.T (e3.trans (e4.trans e5)))
    have hu5 := hu3.up (Same.T (e4.trans e5))
    have hA5 : RuleA K (upd H4 p (.tup [.str nm, v, u])) p nm d e := .of (.tup (.inl upd_same) (.cons (.str _) (.cons hv5 (.cons hu5 .nil)))) hnm hd he md me
    have hs5 := (((hs.up e2).up e3).up e4).up e5
    have hT5 := (((hT.ext e2).ext e3).ext e4).ext e5
    generalize upd H4 p (.tup [.str nm, v, u]) = H5 at hv5 hu5 hA5 hs5 hT5 ⊢
    clear hs hT e2 e3 e4 e5 hv2 hu3 hr0 hr4 hlen hp
    dsimp only
    refine ⟨_, rfl, _, rfl, v, u, d, e, rfl, hv5, hu5, hd, he, md, me, fun H6 e6 => ?_⟩
    refine ⟨_, rfl, p, nm, d, e, rfl, hA5.up (Same.T e6), fun H7 e7 => ⟨(by show 2 ≤ sizeLine; decide), fun p6 hp6 => ?_⟩⟩
    have e8 := same_new hp6 (.lst [.str (textD 5 d ++ lessS ++ textD 5 e), .str (ruleT nm d e)])
    have e58 := e6.trans (e7.trans e8)
    have hv8 := hv5.up (Same.T e58)
    have hu8 := hu5.up (Same.T e58)
    have hA8 := hA5.up (Same.T e58)
    have hs8 := hs5.up e58
    have hT8 := hT5.ext e58
    have h68 : (upd H7 p6 (.lst [.str (textD 5 d ++ lessS ++ textD 5 e), .str (ruleT nm d e)])) p6 = some (.lst [.str (textD 5 d ++ lessS ++ textD 5 e), .str (ruleT nm d e)]) := upd_same
    generalize upd H7 p6 (.lst [.str (textD 5 d ++ lessS ++ textD 5 e), .str (ruleT nm d e)]) = H8 at hv8 hu8 hA8 hs8 hT8 h68 ⊢
    clear hv5 hu5 hA5 hs5 hT5 e6 e7 e8 e58 hp6
    refine ⟨_, rfl, _, rfl, (by show 2 ≤ sizeLine; decide), fun t7 ht7 => ?_⟩
    have e9 := same_new ht7 (.tup [v, u])
    refine .inl ⟨t7, v, u, d, e, rfl, .inl upd_same, hv8.up (Same.T e9), hu8.up (Same.T e9), hd, he, md, me, fun H10 e10 => ?_⟩
    refine ⟨_, rfl, .inl ⟨p, nm, d, e, rfl, hA8.up (Same.T (e9.trans e10)), fun H11 e11 => ?_⟩⟩
    refine ⟨_, rfl, rfl, .inl ⟨p, nm, d, e, rfl, hA8.up (Same.T (e9.trans (e10.trans e11))), fun H12 e12 => ?_⟩⟩
    refine ⟨(by show 3 ≤ sizeLine; decide), fun p8 hp8 => ?_⟩
    have e13 := same_new hp8 (.lst [.str (textD 5 d ++ lessS ++ textD 5 e), .str (ruleT nm d e), .str (ruleT nm d e)])
    have e8d := e9.trans (e10.trans (e11.trans (e12.trans e13)))
    refine ⟨_, rfl, _, rfl, _, rfl, p6, _, rfl, SqL.of (e8d _ _ h68), fun p9 hp9 => ?_⟩
    rw [show cutV [V.str (textD 5 d ++ lessS ++ textD 5 e), V.str (ruleT nm d e)] (some 1) none = [V.str (ruleT nm d e)] from cut1]
    have e14 := same_new hp9 (.lst [.str (ruleT nm d e)])
    refine ⟨p6, p9, _, _, rfl, rfl, e14 _ _ (e8d _ _ h68), upd_same, (by show 3 ≤ sizeLine; decide), fun p10 hp10 => ?_⟩
    have e15 := same_new hp10 (.lst [.str (textD 5 d ++ lessS ++ textD 5 e), .str (ruleT nm d e), .str (ruleT nm d e)])
    have g1 := goalT_nice hd he md me
    have g2 := ruleT_nice hnm hd he md me
    have n1 : Nice 1 (.list [.str (textD 5 d ++ lessS ++ textD 5 e), .str (ruleT nm d e), .str (ruleT nm d e)]) := Nice.list (n := 0) (by simp) fun c hc => by
      simp only [List.mem_cons, List.not_mem_nil, or_false] at hc
      rcases hc with rfl | rfl | rfl
      · exact g1
      · exact g2
      · exact g2
    have gl : (textD 5 d ++ lessS ++ textD 5 e).length ≤ 403 := by
      have l1 := text185 hd md
      have l2 := text185 he me
      have l3 : lessS.length = 3 := by decide +kernel
      rw [app_len, app_len]
      omega
    have rl : (ruleT nm d e).length ≤ 411 := by
      have l4 : colS.length = 2 := by decide +kernel
      have l5 := name_len hnm
      show (nm ++ colS ++ (textD 5 d ++ lessS ++ textD 5 e)).length ≤ 411
      rw [app_len, app_len nm]
      omega
    refine ⟨.ref p8, .ref p10, .list [.str (textD 5 d ++ lessS ++ textD 5 e), .str (ruleT nm d e), .str (ruleT nm d e)], rfl, .lst (SqL.of (e15 _ _ (e14 _ _ upd_same))) (.cons (.str _) (.cons (.str _) (.cons (.str _) .nil))), .lst (SqL.of upd_same) (.cons (.str _) (.cons (.str _) (.cons (.str _) .nil))), n1.ok, by have := n1.dp; omega, by decide, fun Hg eg => ⟨_, rfl, iteF ?_⟩⟩
    have e8g := e8d.trans (e14.trans (e15.trans eg))
    have hvg := hv8.up (Same.T e8g)
    have hug := hu8.up (Same.T e8g)
    have hAg := hA8.up (Same.T e8g)
    have hsg := hs8.up e8g
    have hTg := hT8.ext e8g
    have h6g := e8g _ _ h68
    clear hv8 hu8 hA8 hs8 hT8 h68 e8g e8d e14 e15 eg e9 e10 e11 e12 e13 ht7 hp8 hp9 hp10
    generalize textD 5 d ++ lessS ++ textD 5 e = gt at gl h6g g1 n1 ⊢
    generalize ruleT nm d e = rt at rl h6g g2 n1 ⊢
    refine ⟨_, rfl, s, 3, rfl, by omega, by omega, hsg, fun m m0 m1 => ?_⟩
    obtain ⟨m, rfl⟩ : ∃ k : Nat, m = k := ⟨m.toNat, by omega⟩
    refine ⟨(m : Int), rfl, by omega, by omega, ?_⟩
    rw [Int.toNat_natCast]
    refine for_range (lo := 0) (n := m) (fun k σ H' => ∃ (px : Addr) (t1 t2 : Str) (o7 : Option V), σ = [some (.ref a), some (.ref s), some (.int (0 + i)), some v, some u, some (.ref p), some (.ref px), o7, o8, o9, oa, ob, oc, od, oe, of] ∧ Same Hg H' ∧ H' px = some (.lst [.str t1, .str t2]) ∧ t1.length + 2 ≤ 500 * 2 ^ k ∧ t2.length + 2 ≤ 500 * 2 ^ k)
      ⟨p6, gt, rt, o7, rfl, Same.refl _, h6g, by rw [Nat.pow_zero]; omega, by rw [Nat.pow_zero]; omega⟩ ?_ ?_
    · rintro k σ H' hk ⟨px, t1, t2, o7', rfl, ek, hpx, b1, b2⟩
      have h2k : 2 ^ k ≤ 2 ^ 2 := Nat.pow_le_pow_right (by decide) (by omega)
      refine ⟨_, rfl, px, rfl, ⟨_, SqL.of hpx⟩, fun D hD => ?_⟩
      refine lc_mapL (j := 8) (fun i u _ => ∃ t t', [t1, t2][i]? = some t ∧ u = .str t' ∧ t'.length ≤ 2 * t.length + 2) (fun _ _ _ _ _ h => h) hD (SqL.of hpx) (by show 2 ≤ sizeLine; decide) (fun _ => rfl) ?_ ?_
      · intro i x Hx hx ex Q' k'
        have hsx : Src Hx s := (hsg.up ek).up ex
        match i, hx with
        | 0, hx =>
          cases hx
          exact ⟨_, rfl, _, rfl, s, t1, rfl, hsx, by omega, fun t' ht' => k' _ _ (Same.refl _) ⟨t1, t', rfl, rfl, ht'⟩⟩
        | 1, hx =>
          cases hx
          exact ⟨_, rfl, _, rfl, s, t2, rfl, hsx, by omega, fun t' ht' => k' _ _ (Same.refl _) ⟨t2, t', rfl, rfl, ht'⟩⟩
      · intro Hx ys ex hDx hlx hy
        match ys, hlx, hy with
        | [y1, y2], _, hy =>
        obtain ⟨_, t1', q1, rfl, c1⟩ := hy 0 _ rfl
        cases q1
        obtain ⟨_, t2', q2, rfl, c2⟩ := hy 1 _ rfl
        cases q2
        exact ⟨D, t1', t2', _, rfl, ek.trans ex, hDx, by rw [Nat.pow_succ]; omega, by rw [Nat.pow_succ]; omega⟩
    · rintro σ H9 ⟨px, t1, t2, o7', rfl, ek, hpx, b1, b2⟩
      have h2k : 2 ^ m ≤ 2 ^ 2 := Nat.pow_le_pow_right (by decide) (by omega)
      have hv9 := hvg.up (Same.T ek)
      have hu9 := hug.up (Same.T ek)
      have hA9 := hAg.up (Same.T ek)
      have hs9 := hsg.up ek
      have hT9 := hTg.ext ek
      have b1 : t1.length ≤ 10000 := by omega
      have b2 : t2.length ≤ 10000 := by omega
      clear hvg hug hAg hsg hTg h6g ek
      refine ⟨_, rfl, px, _, _, .str t1, rfl, rfl, SqL.of hpx, at0, t1, rfl, b1, fun w1 Ha ea hw1 => ?_⟩
      refine ⟨_, rfl, px, _, _, .str t2, rfl, rfl, SqL.of (ea _ _ hpx), atI_nat (j := 1) rfl, t2, rfl, b2, fun w2 Hb eb hw2 => ⟨(by show 2 ≤ sizeLine; decide), fun pr hpr => ?_⟩⟩
      have e10 := same_new hpr (.lst [w1, w2])
      have hw1b := hw1.up (Same.T (eb.trans e10))
      have hw2b := hw2.up (Same.T e10)
      have hprb : (upd Hb pr (.lst [w1, w2])) pr = some (.lst [w1, w2]) := upd_same
      have eab := ea.trans (eb.trans e10)
      have hpxb := eab _ _ hpx
      have hvb := hv9.up (Same.T eab)
      have hub := hu9.up (Same.T eab)
      have hAb := hA9.up (Same.T eab)
      have hsb := hs9.up eab
      have hTb := hT9.ext eab
      generalize upd Hb pr (.lst [w1, w2]) = H10 at hw1b hw2b hprb hpxb hvb hub hAb hsb hTb ⊢
      clear ea eb hw1 hw2 hpr e10 eab hpx hv9 hu9 hA9 hs9 hT9
      refine ⟨_, rfl, pr, rfl, ⟨_, SqL.of hprb⟩, fun D hD => ?_⟩
      refine lc_mapL (j := 11) (fun i y H' => ∃ o, [goalP t1, ruleP t2][i]? = some o ∧ Tp K H' y (dueO o)) (fun i y H H' e ⟨o, h1, h2⟩ => ⟨o, h1, h2.up e⟩) hD (SqL.of hprb) (by show 2 ≤ sizeLine; decide) (fun _ => rfl) ?_ ?_
      · intro i x Hx hx ex Q' k'
        match i, hx with
        | 0, hx =>
          cases hx
          exact due_item rfl (fun d hd => goal_tup hd) (hw1b.up (Same.T ex)) fun y H3 e3 hy => k' y H3 e3 ⟨_, rfl, hy⟩
        | 1, hx =>
          cases hx
          exact due_item rfl (fun d hd => rule_tup hd) (hw2b.up (Same.T ex)) fun y H3 e3 hy => k' y H3 e3 ⟨_, rfl, hy⟩
      intro H11 ys ex hDx hlx hy
      match ys, hlx, hy with
      | [y1, y2], _, hy =>
      obtain ⟨_, q1, hy1⟩ := hy 0 _ rfl
      cases q1
      obtain ⟨_, q2, hy2⟩ := hy 1 _ rfl
      cases q2
      have hpxc := ex _ _ hpxb
      have hvc := hvb.up (Same.T ex)
      have huc := hub.up (Same.T ex)
      have hAc := hAb.up (Same.T ex)
      have hsc := hsb.up ex
      have hTc := hTb.ext ex
      clear ex hpxb hvb hub hAb hsb hTb hprb hw1b hw2b hD hy
      refine ⟨hTc, fun H12 eN hT12 => ttc_pg x_InvalidText b1 (fun E R h => ⟨_, rfl, px, _, _, _, rfl, rfl, SqL.of (eN _ _ hpxc (fun ps z => by cases z)), at0, h⟩) fun z1 H13 e13 hz1 => ?_⟩
      refine ⟨hT12.ext e13, fun H14 eN2 hT14 => ttc_pg x_InvalidText b2 (fun E R h => ⟨_, rfl, px, _, _, _, rfl, rfl, SqL.of (eN2 _ _ (e13 _ _ (eN _ _ hpxc (fun ps z => by cases z))) (fun ps z => by cases z)), atI_nat (j := 1) rfl, rfl, h⟩) fun z2 H15 e15 hz2 => ?_⟩
      refine ⟨(by show 2 ≤ sizeLine; decide), fun pz hpz => ?_⟩
      have e16 := same_new hpz (.lst [z1, z2])
      have tr : ∀ {v : V} {d : PyData}, Tp K H11 v d → Tp K (upd H15 pz (.lst [z1, z2])) v d := fun h => ((tp_n ((tp_n h eN).up (Same.T e13)) eN2).up (Same.T e15)).up (Same.T e16)
      have hD16 : (upd H15 pz (.lst [z1, z2])) D = some (.lst [y1, y2]) := e16 _ _ (e15 _ _ (eN2 _ _ (e13 _ _ (eN _ _ hDx (fun ps z => by cases z))) (fun ps z => by cases z)))
      have hz1b := ((tp_n hz1 eN2).up (Same.T e15)).up (Same.T e16)
      have hz2b := hz2.up (Same.T e16)
      have hvd := tr hvc
      have hud := tr huc
      have hAd : RuleA K (upd H15 pz (.lst [z1, z2])) p nm d e := .of (tr hAc.tp) hnm hd he md me
      have hsd := ((((hsc.upN eN).up e13).upN eN2).up e15).up e16
      have hTd := (hT14.ext e15).ext e16
      have hy1b := tr hy1
      have hy2b := tr hy2
      have hpzb : (upd H15 pz (.lst [z1, z2])) pz = some (.lst [z1, z2]) := upd_same
      generalize upd H15 pz (.lst [z1, z2]) = H16 at hD16 hz1b hz2b hvd hud hAd hsd hTd hy1b hy2b hpzb ⊢
      clear tr e16 e15 eN2 e13 eN hpz hT14 hT12 hz1 hz2 hvc huc hAc hsc hTc hDx hy1 hy2 hpxc
      have nd : Nice 7 (.list [dueO (goalP t1), dueO (ruleP t2)]) := Nice.list (n := 6) (by simp) fun c hc => by
        simp only [List.mem_cons, List.not_mem_nil, or_false] at hc
        rcases hc with rfl | rfl
        · exact goal_due t1
        · exact rule_due t2
      refine ⟨_, rfl, .ref pz, .ref D, _, rfl, .lst (SqL.of hpzb) (.cons hz1b.dp (.cons hz2b.dp .nil)), .lst (SqL.of hD16) (.cons hy1b.dp (.cons hy2b.dp .nil)), nd.ok, by have := nd.dp; omega, by decide, fun H17 e17 => ⟨_, rfl, iteF ?_⟩⟩
      have hve := hvd.up (Same.T e17)
      have hue := hud.up (Same.T e17)
      have hAe := hAd.up (Same.T e17)
      have hse := hsd.up e17
      have hTe := hTd.ext e17
      clear hD16 hz1b hz2b hvd hud hAd hsd hTd hy1b hy2b hpzb e17 nd
      refine ⟨_, rfl, _, rfl, s, v, d, rfl, hse, hve.dp, (drawn_nice hd).mono (by decide), fun ov H18 dd e18 hod hno hmo => ?_⟩
      have hof : fitsB dd = false := by
        have h5 : meas 5 dd = 0 := meas_down 5 dd (meas_down 6 dd (meas_down 7 dd (meas_down 8 dd hmo)))
        show (decide (1 ≤ meas 5 dd) && decide (meas 5 dd ≤ 24)) = false
        rw [h5] <;> rfl
      have hvf := hve.up (Same.T e18)
      have huf := hue.up (Same.T e18)
      have hAf := hAe.up (Same.T e18)
      have hsf := hse.up e18
      have hTf := hTe.ext e18
      clear hve hue hAe hse hTe e18
      have dv := hvf.dp
      have du := huf.dp
      have nL : Nice 30 d := (drawn_nice hd).mono (by decide)
      have nR : Nice 30 e := (drawn_nice he).mono (by decide)
      have t1' : ∀ {a : PyData}, Nice 30 a → Nice 40 (.tuple [a]) := fun h1 => nice_t (n := 30) (by simp) (fun c hc => by rw [List.mem_singleton.mp hc]; exact h1) (by decide)
      have t2' : ∀ {a b : PyData}, Nice 30 a → Nice 30 b → Nice 40 (.tuple [a, b]) ∧ Nice 40 (.list [a, b]) := fun h1 h2 => ⟨nice_t (n := 30) (by simp) (fun c hc => by
        simp only [List.mem_cons, List.not_mem_nil, or_false] at hc
        rcases hc with rfl | rfl <;> assumption) (by decide), nice_l (n := 30) (by simp) (fun c hc => by
        simp only [List.mem_cons, List.not_mem_nil, or_false] at hc
        rcases hc with rfl | rfl <;> assumption) (by decide)⟩
      have t3' : ∀ {a b c : PyData}, Nice 30 a → Nice 30 b → Nice 30 c → Nice 40 (.tuple [a, b, c]) ∧ Nice 40 (.list [a, b, c]) := fun h1 h2 h3 => ⟨nice_t (n := 30) (by simp) (fun c hc => by
        simp only [List.mem_cons, List.not_mem_nil, or_false] at hc
        rcases hc with rfl | rfl | rfl <;> assumption) (by decide), nice_l (n := 30) (by simp) (fun c hc => by
        simp only [List.mem_cons, List.not_mem_nil, or_false] at hc
        rcases hc with rfl | rfl | rfl <;> assumption) (by decide)⟩
      have t4' : ∀ {a b c f : PyData}, Nice 30 a → Nice 30 b → Nice 30 c → Nice 30 f → Nice 40 (.tuple [a, b, c, f]) := fun h1 h2 h3 h4 => nice_t (n := 30) (by simp) (fun c hc => by
        simp only [List.mem_cons, List.not_mem_nil, or_false] at hc
        rcases hc with rfl | rfl | rfl | rfl <;> assumption) (by decide)
      dsimp only
      refine seq_asg ?_
      refine evpl_lst (P := BG K isGoalD) (n := 7) bg_up (evps_cons bg_up (bg_p (d := .tuple [d, dd]) (by (repeat (first | exact evrs_nil | exact evr_c (fun H => .str _) | exact evr_c (fun H => .int _) | exact evr_c (fun H => .non) | exact evr_var monoD rfl (by assumption) | apply evd_tup | apply evd_lst | apply evrs_cons monoD | exact Nat.le_of_ble_eq_true rfl | decide))) (t2' nL hno).1 (by show (fitsB d && fitsB dd) = false; rw [hof, Bool.and_false]))
        (evps_cons bg_up (bg_p (d := .tuple [dd, d]) (by (repeat (first | exact evrs_nil | exact evr_c (fun H => .str _) | exact evr_c (fun H => .int _) | exact evr_c (fun H => .non) | exact evr_var monoD rfl (by assumption) | apply evd_tup | apply evd_lst | apply evrs_cons monoD | exact Nat.le_of_ble_eq_true rfl | decide))) (t2' hno nL).1 (by show (fitsB dd && fitsB d) = false; rw [hof, Bool.false_and]))
        (evps_cons bg_up (bg_p (d := .tuple [d]) (by (repeat (first | exact evrs_nil | exact evr_c (fun H => .str _) | exact evr_c (fun H => .int _) | exact evr_c (fun H => .non) | exact evr_var monoD rfl (by assumption) | apply evd_tup | apply evd_lst | apply evrs_cons monoD | exact Nat.le_of_ble_eq_true rfl | decide))) (t1' nL) rfl)
        (evps_cons bg_up (bg_p (d := .list [d, e]) (by (repeat (first | exact evrs_nil | exact evr_c (fun H => .str _) | exact evr_c (fun H => .int _) | exact evr_c (fun H => .non) | exact evr_var monoD rfl (by assumption) | apply evd_tup | apply evd_lst | apply evrs_cons monoD | exact Nat.le_of_ble_eq_true rfl | decide))) (t2' nL nR).2 rfl)
        (evps_cons bg_up (bg_p (d := .tuple [d, e, e]) (by (repeat (first | exact evrs_nil | exact evr_c (fun H => .str _) | exact evr_c (fun H => .int _) | exact evr_c (fun H => .non) | exact evr_var monoD rfl (by assumption) | apply evd_tup | apply evd_lst | apply evrs_cons monoD | exact Nat.le_of_ble_eq_true rfl | decide))) (t3' nL nR nR).1 rfl)
        (evps_cons bg_up (bg_p (d := .none) (evr_c fun H => .non) ⟨by decide +kernel, by decide +kernel⟩ rfl)
        (evps_cons bg_up (bg_p (d := d) (by (repeat (first | exact evrs_nil | exact evr_c (fun H => .str _) | exact evr_c (fun H => .int _) | exact evr_c (fun H => .non) | exact evr_var monoD rfl (by assumption) | apply evd_tup | apply evd_lst | apply evrs_cons monoD | exact Nat.le_of_ble_eq_true rfl | decide))) (nL.mono (by decide)) (drawn_noG hd)) evps_nil))))))) (by decide) H18 (Same.refl _) _ fun p13 xs H19 _ e19 hp13 hxl hxs => ?_
      have hvg := hvf.up (Same.T e19)
      have hug := huf.up (Same.T e19)
      have hAg := hAf.up (Same.T e19)
      have hog := up_d e19 hod
      have hsg := hsf.up e19
      have hTg := hTf.ext e19
      clear hvf huf hAf hod hsf hTf e19 dv du
      refine ⟨hTg, fun H20 eN hT20 => ?_⟩
      have hne : xs ≠ [] := fun z => by rw [z] at hxl; cases hxl
      refine ⟨_, rfl, _, rfl, s, p13, xs, rfl, hsg.upN eN, SqL.of (eN _ _ hp13 (fun ps z => by cases z)), hne, by omega, fun x hx => ?_⟩
      obtain ⟨dx, x1, x2, x3⟩ := bg_n eN (hxs x hx)
      refine .inr ⟨x, dx, rfl, x1, x2.ok, x3, fun d2 H21 e21 hth => ⟨_, _, rfl, x_InvalidGoal.c, x_InvalidGoal.exm, hth, fun p14 hp14 => ?_⟩⟩
      have g14 := same_new hp14 (.tup [.non, .str "InvalidGoal"])
      refine ⟨(by show 2 ≤ sizeLine; decide), fun p15 hp15 => ?_⟩
      have g15 := same_new hp15 (.tup [.non, .str "InvalidGoal"])
      refine ⟨.tuple [.none, .str "InvalidGoal"], .tuple [.none, .str "InvalidGoal"], .tup (SqT.of (g15 _ _ upd_same)) (.cons .non (.cons (.str _) .nil)), .tup (SqT.of upd_same) (.cons .non (.cons (.str _) .nil)), by decide +kernel, by decide +kernel, _, rfl, if_nb (fun h => absurd h (by decide +kernel)) (fun _ => ?_)⟩
      have eg := e21.trans (g14.trans g15)
      have hvh := (tp_n hvg eN).up (Same.T eg)
      have huh := (tp_n hug eN).up (Same.T eg)
      have hAh : RuleA K (upd (upd H21 p14 (.tup [.non, .str "InvalidGoal"])) p15 (.tup [.non, .str "InvalidGoal"])) p nm d e := .of ((tp_n hAg.tp eN).up (Same.T eg)) hnm hd he md me
      have hoh := up_d eg (sn_d eN hog)
      have hsh := (hsg.upN eN).up eg
      have hTh := hT20.ext eg
      generalize upd (upd H21 p14 (.tup [.non, .str "InvalidGoal"])) p15 (.tup [.non, .str "InvalidGoal"]) = H22 at hvh huh hAh hoh hsh hTh ⊢
      clear eg g15 g14 hp14 hp15 e21 hth x1 x2 x3 hx hvg hug hAg hog hsg hTg hT20 eN hp13 hxs hxl hne
      have dv := hvh.dp
      have du := huh.dp
      obtain ⟨va, ua, hsq, hva, hua⟩ := hAh.ex
      have hsq := hsq.sqT
      have nN : Nice 30 (.str nm) := (name_nice hnm).mono (by decide)
      have nS : ∀ z : Str, nice (.str z) = true → Nice 30 (.str z) := fun z h => ⟨h, by rw [PyData.depth]; omega⟩
      unfold tNext
      dsimp only
      refine seq_asg ?_
      refine evpl_lst (P := BG K isRuleD) (n := 5) bg_up (evps_cons bg_up (bg_p (d := .tuple [.str "", d, e]) (by (repeat (first | exact evrs_nil | exact evr_c (fun H => .str _) | exact evr_c (fun H => .int _) | exact evr_c (fun H => .non) | exact evr_var monoD rfl (by assumption) | apply evd_tup | apply evd_lst | apply evrs_cons monoD | exact Nat.le_of_ble_eq_true rfl | decide))) (t3' (nS "" (by decide +kernel)) nL nR).1 (by show (isNameS "" && (fitsB d && fitsB e)) = false; rw [show isNameS "" = false by decide +kernel, Bool.false_and]))
        (evps_cons bg_up (bg_p (d := .tuple [.str "Ab", d, e]) (by (repeat (first | exact evrs_nil | exact evr_c (fun H => .str _) | exact evr_c (fun H => .int _) | exact evr_c (fun H => .non) | exact evr_var monoD rfl (by assumption) | apply evd_tup | apply evd_lst | apply evrs_cons monoD | exact Nat.le_of_ble_eq_true rfl | decide))) (t3' (nS "Ab" (by decide +kernel)) nL nR).1 (by show (isNameS "Ab" && (fitsB d && fitsB e)) = false; rw [show isNameS "Ab" = false by decide +kernel, Bool.false_and]))
        (evps_cons bg_up (bg_p (d := .tuple [.str "abcdefg", d, e]) (by (repeat (first | exact evrs_nil | exact evr_c (fun H => .str _) | exact evr_c (fun H => .int _) | exact evr_c (fun H => .non) | exact evr_var monoD rfl (by assumption) | apply evd_tup | apply evd_lst | apply evrs_cons monoD | exact Nat.le_of_ble_eq_true rfl | decide))) (t3' (nS "abcdefg" (by decide +kernel)) nL nR).1 (by show (isNameS "abcdefg" && (fitsB d && fitsB e)) = false; rw [show isNameS "abcdefg" = false by decide +kernel, Bool.false_and]))
        (evps_cons bg_up (bg_p (d := .tuple [.str nm, dd, e]) (evd_tup (evrs_cons monoD (evr_ix0 rfl hsq (.str nm)) (by (repeat (first | exact evrs_nil | exact evr_c (fun H => .str _) | exact evr_c (fun H => .int _) | exact evr_c (fun H => .non) | exact evr_var monoD rfl (by assumption) | apply evd_tup | apply evd_lst | apply evrs_cons monoD | exact Nat.le_of_ble_eq_true rfl | decide)))) (by simp)) (t3' nN hno nR).1 (by show (isNameS nm && (fitsB dd && fitsB e)) = false; rw [hof, Bool.false_and, Bool.and_false]))
        (evps_cons bg_up (bg_p (d := .tuple [.str nm, d]) (evd_tup (evrs_cons monoD (evr_ix0 rfl hsq (.str nm)) (by (repeat (first | exact evrs_nil | exact evr_c (fun H => .str _) | exact evr_c (fun H => .int _) | exact evr_c (fun H => .non) | exact evr_var monoD rfl (by assumption) | apply evd_tup | apply evd_lst | apply evrs_cons monoD | exact Nat.le_of_ble_eq_true rfl | decide)))) (by simp)) (t2' nN nL).1 rfl) evps_nil))))) (by decide) H22 (Same.refl _) _ fun p16 xs H23 _ e23 hp16 hxl hxs => ?_
      refine seq_asg (op_of ⟨_, rfl, ?_⟩)
      have dv := up_d e23 dv
      have du := up_d e23 du
      have hoh := up_d e23 hoh
      have hsq := up_t e23 hsq
      refine evpl_lst (P := BG K isRuleD) (n := 5) bg_up (evps_cons bg_up (bg_p (d := .list [.str nm, d, e]) (evr_list1 rfl hsq (.cons (.str _) (.cons (up_d e23 hva.dp) (.cons (up_d e23 hua.dp) .nil)))) (t3' nN nL nR).2 rfl)
        (evps_cons bg_up (bg_p (d := .tuple [.int 3, d, e]) (by (repeat (first | exact evrs_nil | exact evr_c (fun H => .str _) | exact evr_c (fun H => .int _) | exact evr_c (fun H => .non) | exact evr_var monoD rfl (by assumption) | apply evd_tup | apply evd_lst | apply evrs_cons monoD | exact Nat.le_of_ble_eq_true rfl | decide))) (t3' ⟨by decide +kernel, by decide +kernel⟩ nL nR).1 rfl)
        (evps_cons bg_up (bg_p (d := .tuple [.str nm, d, e, e]) (evd_tup (evrs_cons monoD (evr_ix0 rfl hsq (.str nm)) (by (repeat (first | exact evrs_nil | exact evr_c (fun H => .str _) | exact evr_c (fun H => .int _) | exact evr_c (fun H => .non) | exact evr_var monoD rfl (by assumption) | apply evd_tup | apply evd_lst | apply evrs_cons monoD | exact Nat.le_of_ble_eq_true rfl | decide)))) (by simp)) (t4' nN nL nR nR) rfl)
        (evps_cons bg_up (bg_p (d := .tuple [.str nm, d, dd]) (evd_tup (evrs_cons monoD (evr_ix0 rfl hsq (.str nm)) (by (repeat (first | exact evrs_nil | exact evr_c (fun H => .str _) | exact evr_c (fun H => .int _) | exact evr_c (fun H => .non) | exact evr_var monoD rfl (by assumption) | apply evd_tup | apply evd_lst | apply evrs_cons monoD | exact Nat.le_of_ble_eq_true rfl | decide)))) (by simp)) (t3' nN nL hno).1 (by show (isNameS nm && (fitsB d && fitsB dd)) = false; rw [hof, Bool.and_false, Bool.and_false]))
        (evps_cons bg_up (bg_p (d := .none) (evr_c fun H => .non) ⟨by decide +kernel, by decide +kernel⟩ rfl) evps_nil))))) (by decide) H23 (Same.refl _) _ fun p17 zs H24 _ e24 hp17 hzl hzs => ?_
      have hsk := (hsh.up e23).up e24
      have hTk := (hTh.ext e23).ext e24
      refine ⟨p16, p17, xs, zs, rfl, rfl, e24 _ _ hp16, hp17, le_line (by omega), fun p18 hp18 => ?_⟩
      have e25 := same_new hp18 (.lst (xs ++ zs))
      have hall : ∀ x ∈ xs ++ zs, BG K isRuleD x (upd H24 p18 (.lst (xs ++ zs))) := fun x hx => by
        rcases List.mem_append.mp hx with hx | hx
        · exact bg_up _ _ _ e25 (bg_up _ _ _ e24 (hxs x hx))
        · exact bg_up _ _ _ e25 (hzs x hx)
      have hne : xs ++ zs ≠ [] := fun z => by
        have := congrArg List.length z
        rw [List.length_append, hxl] at this
        simp at this
      refine ⟨_, rfl, _, rfl, s, p18, xs ++ zs, rfl, hsk.up e25, SqL.of upd_same, hne, (by rw [List.length_append]; omega), fun x hx => ?_⟩
      obtain ⟨dx, x1, x2, x3⟩ := hall x hx
      have hsl := hsk.up e25
      have hTl := hTk.ext e25
      generalize upd H24 p18 (.lst (xs ++ zs)) = H25 at x1 hsl hTl ⊢
      refine ⟨hTl, fun H26 eN hT26 => ?_⟩
      refine ⟨_, rfl, .inr ⟨x, dx, rfl, sn_d eN x1, x2.ok, x3, fun d3 H27 e27 hd3 => ⟨.int 0, d3, rfl, rfl, hd3, ?_⟩⟩⟩
      refine ⟨.int 0, .int 0, .int 0, rfl, .int _, .int _, by decide +kernel, by decide +kernel, by decide, fun H28 e28 => ⟨_, rfl, iteF ?_⟩⟩
      exact ⟨_, _, _, _, _, _, _, _, _, _, _, _, _, _, rfl, ((hsl.upN eN).up e27).up e28, (hT26.ext e27).ext e28⟩
  · rintro σ H' ⟨o2, o3, o4, o5, o6, o7, o8, o9, oa, ob, oc, od, oe, of, rfl, hs, hT⟩
    refine ⟨(by show 9 ≤ sizeLine; decide), fun p15 hp15 => ?_⟩
    have h15 : (upd H' p15 (.lst (wdA.map V.str))) p15 = some (.lst (wdA.map V.str)) := upd_same
    have short : ∀ z ∈ wdA, z.length ≤ 20000 := fun z hz => of_decide_eq_true (List.all_eq_true.mp (show (wdA.all fun z => decide (z.length ≤ 20000)) = true by decide +kernel) z hz)
    refine ⟨_, rfl, p15, rfl, ⟨_, SqL.of h15⟩, fun D hD => ?_⟩
    refine lc_mapL (j := 11) (fun i y _ => ∃ z, wdA[i]? = some z ∧ y = .bl (isNameS z)) (fun _ _ _ _ _ h => h) hD (SqL.of h15) (by show 9 ≤ sizeLine; decide) (fun _ => rfl) ?_ ?_
    · intro i x Hx hx ex Q' k'
      rw [List.getElem?_map] at hx
      obtain ⟨z, hz, rfl⟩ := Option.map_eq_some_iff.mp hx
      exact ⟨_, rfl, z, rfl, short z (List.mem_of_getElem? hz), fun H3 e3 => k' _ _ e3 ⟨z, hz, rfl⟩⟩
    intro H1 ys e1 hD1 hl1 hy
    have hmap : ys = wdA.map fun z => V.bl (isNameS z) := eq_map_of (hl1.trans (List.length_map ..)) fun i u hu => hy i u hu
    subst hmap
    refine ⟨_, rfl, p15, rfl, ⟨_, SqL.of (e1 _ _ h15)⟩, fun D2 hD2 => ?_⟩
    refine lc_mapL (j := 11) (fun i y _ => ∃ z, wdA[i]? = some z ∧ y = .bl (isNameS z)) (fun _ _ _ _ _ h => h) hD2 (SqL.of (e1 _ _ h15)) (by show 9 ≤ sizeLine; decide) (fun _ => rfl) ?_ ?_
    · intro i x Hx hx ex Q' k'
      rw [List.getElem?_map] at hx
      obtain ⟨z, hz, rfl⟩ := Option.map_eq_some_iff.mp hx
      exact ⟨_, rfl, z, rfl, short z (List.mem_of_getElem? hz), fun H3 e3 => k' _ _ e3 ⟨z, hz, rfl⟩⟩
    intro H2 ys2 e2 hD22 hl2 hy2
    have hmap : ys2 = wdA.map fun z => V.bl (isNameS z) := eq_map_of (hl2.trans (List.length_map ..)) fun i u hu => hy2 i u hu
    subst hmap
    exact ⟨.ref D, .ref D2, .list (wdA.map fun z => .bool (isNameS z)), rfl, .lst (SqL.of (e2 _ _ hD1)) dp_bls, .lst (SqL.of hD22) dp_bls, by decide +kernel, by decide +kernel, by decide, fun H3 _ => q H3⟩
end
end FF
namespace FF
open PySem PySem.Spec PyProof.Rows L2
def d_is_letter : He.DefD := ⟨("is_letter", none), "is_letter", "is_letter", defArgs s_is_letter, defBody s_is_letter, defScope s_is_letter, [], []⟩
def d_measured : He.DefD := ⟨("measured", none), "measured", "measured", defArgs s_measured, defBody s_measured, defScope s_measured, [], []⟩
def d_is_term : He.DefD := ⟨("is_term", none), "is_term", "is_term", defArgs s_is_term, defBody s_is_term, defScope s_is_term, [], [("max_depth", .int 5), ("max_size", .int 24)]⟩
def d_is_name : He.DefD := ⟨("is_name", none), "is_name", "is_name", defArgs s_is_name, defBody s_is_name, defScope s_is_name, [], []⟩
def d_text_of : He.DefD := ⟨("text_of", none), "text_of", "text_of", defArgs s_text_of, defBody s_text_of, defScope s_text_of, [], []⟩
def d_parse_term : He.DefD := ⟨("parse_term", none), "parse_term", "parse_term", defArgs s_parse_term, defBody s_parse_term, defScope s_parse_term, [], []⟩
def d_is_goal : He.DefD := ⟨("is_goal", none), "is_goal", "is_goal", defArgs s_is_goal, defBody s_is_goal, defScope s_is_goal, [], []⟩
def d_is_rule : He.DefD := ⟨("is_rule", none), "is_rule", "is_rule", defArgs s_is_rule, defBody s_is_rule, defScope s_is_rule, [], []⟩
def d_goal_text : He.DefD := ⟨("goal_text", none), "goal_text", "goal_text", defArgs s_goal_text, defBody s_goal_text, defScope s_goal_text, [], []⟩
def d_format_goal : He.DefD := ⟨("format_goal", none), "format_goal", "format_goal", defArgs s_format_goal, defBody s_format_goal, defScope s_format_goal, [], []⟩
def d_parse_goal : He.DefD := ⟨("parse_goal", none), "parse_goal", "parse_goal", defArgs s_parse_goal, defBody s_parse_goal, defScope s_parse_goal, [], []⟩
def d_format_rule : He.DefD := ⟨("format_rule", none), "format_rule", "format_rule", defArgs s_format_rule, defBody s_format_rule, defScope s_format_rule, [], []⟩
def d_parse_rule : He.DefD := ⟨("parse_rule", none), "parse_rule", "parse_rule", defArgs s_parse_rule, defBody s_parse_rule, defScope s_parse_rule, [], []⟩
def d_law_source : He.DefD := ⟨("_law_source", none), "_law_source", "_law_source", defArgs s_law_source, defBody s_law_source, defScope s_law_source, [], []⟩
def d_law_take : He.DefD := ⟨("_law_take", none), "_law_take", "_law_take", defArgs s_law_take, defBody s_law_take, defScope s_law_take, [], []⟩
def d_law_pick : He.DefD := ⟨("_law_pick", none), "_law_pick", "_law_pick", defArgs s_law_pick, defBody s_law_pick, defScope s_law_pick, [], []⟩
def d_law_mixed : He.DefD := ⟨("_law_mixed", none), "_law_mixed", "_law_mixed", defArgs s_law_mixed, defBody s_law_mixed, defScope s_law_mixed, [], []⟩
def d_law_same : He.DefD := ⟨("_law_same", none), "_law_same", "_law_same", defArgs s_law_same, defBody s_law_same, defScope s_law_same, [], []⟩
def d_law_call : He.DefD := ⟨("_law_call", none), "_law_call", "_law_call", defArgs s_law_call, defBody s_law_call, defScope s_law_call, [], []⟩
def d_law_text : He.DefD := ⟨("_law_text", none), "_law_text", "_law_text", defArgs s_law_text, defBody s_law_text, defScope s_law_text, [], []⟩
def d_law_leaves : He.DefD := ⟨("_law_leaves", none), "_law_leaves", "_law_leaves", defArgs s_law_leaves, defBody s_law_leaves, defScope s_law_leaves, [], []⟩
def d_law_term : He.DefD := ⟨("_law_term", none), "_law_term", "_law_term", defArgs s_law_term, defBody s_law_term, defScope s_law_term, [], []⟩
def d_law_any_term : He.DefD := ⟨("_law_any_term", none), "_law_any_term", "_law_any_term", defArgs s_law_any_term, defBody s_law_any_term, defScope s_law_any_term, [], []⟩
def d_law_signs : He.DefD := ⟨("_law_signs", none), "_law_signs", "_law_signs", defArgs s_law_signs, defBody s_law_signs, defScope s_law_signs, [], []⟩
def d_law_names : He.DefD := ⟨("_law_names", none), "_law_names", "_law_names", defArgs s_law_names, defBody s_law_names, defScope s_law_names, [], []⟩
def d_law_odd : He.DefD := ⟨("_law_odd", none), "_law_odd", "_law_odd", defArgs s_law_odd, defBody s_law_odd, defScope s_law_odd, [], []⟩
def d_law_nest : He.DefD := ⟨("_law_nest", none), "_law_nest", "_law_nest", defArgs s_law_nest, defBody s_law_nest, defScope s_law_nest, [], []⟩
def d_law_read_term : He.DefD := ⟨("_law_read_term", none), "_law_read_term", "_law_read_term", defArgs s_law_read_term, defBody s_law_read_term, defScope s_law_read_term, [], []⟩
def d_law_read_piece : He.DefD := ⟨("_law_read_piece", none), "_law_read_piece", "_law_read_piece", defArgs s_law_read_piece, defBody s_law_read_piece, defScope s_law_read_piece, [], []⟩
def d_law_read : He.DefD := ⟨("_law_read", none), "_law_read", "_law_read", defArgs s_law_read, defBody s_law_read, defScope s_law_read, [], []⟩
def d_law_spoilt : He.DefD := ⟨("_law_spoilt", none), "_law_spoilt", "_law_spoilt", defArgs s_law_spoilt, defBody s_law_spoilt, defScope s_law_spoilt, [], []⟩
def d_law_is_name : He.DefD := ⟨("_law_is_name", none), "_law_is_name", "_law_is_name", defArgs s_law_is_name, defBody s_law_is_name, defScope s_law_is_name, [], []⟩
def d_law_read_goal : He.DefD := ⟨("_law_read_goal", none), "_law_read_goal", "_law_read_goal", defArgs s_law_read_goal, defBody s_law_read_goal, defScope s_law_read_goal, [], []⟩
def d_law_read_rule : He.DefD := ⟨("_law_read_rule", none), "_law_read_rule", "_law_read_rule", defArgs s_law_read_rule, defBody s_law_read_rule, defScope s_law_read_rule, [], []⟩
def d_law_goal_text : He.DefD := ⟨("_law_goal_text", none), "_law_goal_text", "_law_goal_text", defArgs s_law_goal_text, defBody s_law_goal_text, defScope s_law_goal_text, [], []⟩
def d_law_rule_text : He.DefD := ⟨("_law_rule_text", none), "_law_rule_text", "_law_rule_text", defArgs s_law_rule_text, defBody s_law_rule_text, defScope s_law_rule_text, [], []⟩
def d_law_index_told : He.DefD := ⟨("_law_index_told", none), "_law_index_told", "_law_index_told", defArgs s_law_index_told, defBody s_law_index_told, defScope s_law_index_told, [], []⟩
def d_law : He.DefD := ⟨("law", none), "law", "law", defArgs s_law, defBody s_law, defScope s_law, [], []⟩
def d_FaultError_init : He.DefD := ⟨("FaultError", some "__init__"), "__init__", "FaultError.__init__", defArgs s_FaultError_init, defBody s_FaultError_init, defScope s_FaultError_init, [], []⟩
def d_InvalidText_init : He.DefD := ⟨("InvalidText", some "__init__"), "__init__", "InvalidText.__init__", defArgs s_InvalidText_init, defBody s_InvalidText_init, defScope s_InvalidText_init, [], []⟩
def d_InvalidRules_init : He.DefD := ⟨("InvalidRules", some "__init__"), "__init__", "InvalidRules.__init__", defArgs s_InvalidRules_init, defBody s_InvalidRules_init, defScope s_InvalidRules_init, [], []⟩
def d_InvalidGoal_init : He.DefD := ⟨("InvalidGoal", some "__init__"), "__init__", "InvalidGoal.__init__", defArgs s_InvalidGoal_init, defBody s_InvalidGoal_init, defScope s_InvalidGoal_init, [], []⟩
def d_Reader___init__ : He.DefD := ⟨("Reader", some "__init__"), "__init__", "Reader.__init__", defArgs s_Reader___init__, defBody s_Reader___init__, defScope s_Reader___init__, [], []⟩
def d_Reader_sees : He.DefD := ⟨("Reader", some "sees"), "sees", "Reader.sees", defArgs s_Reader_sees, defBody s_Reader_sees, defScope s_Reader_sees, [], []⟩
def d_Reader_take : He.DefD := ⟨("Reader", some "take"), "take", "Reader.take", defArgs s_Reader_take, defBody s_Reader_take, defScope s_Reader_take, [], []⟩
def d_Reader_part : He.DefD := ⟨("Reader", some "part"), "part", "Reader.part", defArgs s_Reader_part, defBody s_Reader_part, defScope s_Reader_part, [], []⟩
def d_Reader_sequence : He.DefD := ⟨("Reader", some "sequence"), "sequence", "Reader.sequence", defArgs s_Reader_sequence, defBody s_Reader_sequence, defScope s_Reader_sequence, [], []⟩
def d_Reader_alone : He.DefD := ⟨("Reader", some "alone"), "alone", "Reader.alone", defArgs s_Reader_alone, defBody s_Reader_alone, defScope s_Reader_alone, [], []⟩
def fn : List He.DefD := [d_is_letter, d_measured, d_is_term, d_is_name, d_text_of, d_parse_term, d_is_goal, d_is_rule, d_goal_text, d_format_goal, d_parse_goal, d_format_rule, d_parse_rule, d_law_source, d_law_take, d_law_pick, d_law_mixed, d_law_same, d_law_call, d_law_text, d_law_leaves, d_law_term, d_law_any_term, d_law_signs, d_law_names, d_law_odd, d_law_nest, d_law_read_term, d_law_read_piece, d_law_read, d_law_spoilt, d_law_is_name, d_law_read_goal, d_law_read_rule, d_law_goal_text, d_law_rule_text, d_law_index_told, d_law, d_FaultError_init, d_InvalidText_init, d_InvalidRules_init, d_InvalidGoal_init, d_Reader___init__, d_Reader_sees, d_Reader_take, d_Reader_part, d_Reader_sequence, d_Reader_alone]
def fa : List He.Fa := [.free "IndexError", .free "LookupError", .free "ValueError", .free "all", .free "bool", .free "dict", .free "int", .free "isinstance", .free "len", .free "list", .free "max", .free "min", .free "range", .free "sorted", .free "str", .free "sum", .free "tuple", .free "zip", .str "LETTERS" "abcdefgh", .glo "OPERATORS", .int "MAX_DEPTH" 5, .int "MAX_SIZE" 24, .str "SMALL_LETTERS" "abcdefghijklmnopqrstuvwxyz", .int "MAX_NAME" 6, .str "BELOW" " < ", .glo "FaultError", .glo "Missing", .glo "InvalidText", .glo "InvalidRules", .glo "InvalidGoal", .glo "NothingLeft", .glo "Reader", .noat "Reader" "text", .noat "Reader" "at", .noat "InvalidRules" "index", .exm "InvalidRules" "InvalidRules" true, .cls "Reader", .mkr "Reader", .meth "Reader" "sees", .meth "Reader" "take", .meth "Reader" "part", .meth "Reader" "sequence", .meth "Reader" "alone", .glo "is_letter", .glo "measured", .glo "is_term", .glo "is_name", .glo "text_of", .glo "parse_term", .glo "is_goal", .glo "is_rule", .glo "goal_text", .glo "format_goal", .glo "parse_goal", .glo "format_rule", .glo "parse_rule", .glo "_law_source", .glo "_law_take", .glo "_law_pick", .glo "_law_mixed", .glo "_law_same", .glo "_law_call", .glo "_law_text", .glo "_law_leaves", .glo "_law_term", .glo "_law_any_term", .glo "_law_signs", .glo "_law_names", .glo "_law_odd", .glo "_law_nest", .glo "_law_read_term", .glo "_law_read_piece", .glo "_law_read", .glo "_law_spoilt", .glo "_law_is_name", .glo "_law_read_goal", .glo "_law_read_rule", .glo "_law_goal_text", .glo "_law_rule_text", .glo "_law_index_told", .glo "law"]
def ex (K : PySem.W.Frag) : Bool := He.tupB K "OPERATORS" [.str "&", .str "|"] && ownXB K "InvalidText" "FaultError" && ownXB K "InvalidRules" "FaultError" && ownXB K "InvalidGoal" "FaultError" && feCB K "FaultError"
theorem top_of {K : PySem.W.Frag} {h : Heap} {mg : Str → Option Value} (X : K.In h) (G : h.Ns mainGlobals mg) (c : He.SaysD fa fn K) (e : ex K = true) : Top K mg where
  b_IndexError := He.free_ok X G (c.fact 0 (f := .free "IndexError") rfl)
  b_LookupError := He.free_ok X G (c.fact 1 (f := .free "LookupError") rfl)
  b_ValueError := He.free_ok X G (c.fact 2 (f := .free "ValueError") rfl)
  b_all := He.free_ok X G (c.fact 3 (f := .free "all") rfl)
  b_bool := He.free_ok X G (c.fact 4 (f := .free "bool") rfl)
  b_dict := He.free_ok X G (c.fact 5 (f := .free "dict") rfl)
  b_int := He.free_ok X G (c.fact 6 (f := .free "int") rfl)
  b_isinstance := He.free_ok X G (c.fact 7 (f := .free "isinstance") rfl)
  b_len := He.free_ok X G (c.fact 8 (f := .free "len") rfl)
  b_list := He.free_ok X G (c.fact 9 (f := .free "list") rfl)
  b_max := He.free_ok X G (c.fact 10 (f := .free "max") rfl)
  b_min := He.free_ok X G (c.fact 11 (f := .free "min") rfl)
  b_range := He.free_ok X G (c.fact 12 (f := .free "range") rfl)
  b_sorted := He.free_ok X G (c.fact 13 (f := .free "sorted") rfl)
  b_str := He.free_ok X G (c.fact 14 (f := .free "str") rfl)
  b_sum := He.free_ok X G (c.fact 15 (f := .free "sum") rfl)
  b_tuple := He.free_ok X G (c.fact 16 (f := .free "tuple") rfl)
  b_zip := He.free_ok X G (c.fact 17 (f := .free "zip") rfl)
  g_LETTERS := He.str_ok X G (c.fact 18 (f := .str "LETTERS" "abcdefgh") rfl)
  g_OPERATORS := He.glo_ok X G (c.fact 19 (f := .glo "OPERATORS") rfl)
  t_OPERATORS := fun H => He.tupB_ok (vs := [.str "&", .str "|"]) (by simp only [ex, Bool.and_eq_true] at e; simp only [e]) H
  g_MAX_DEPTH := He.int_ok X G (c.fact 20 (f := .int "MAX_DEPTH" 5) rfl)
  g_MAX_SIZE := He.int_ok X G (c.fact 21 (f := .int "MAX_SIZE" 24) rfl)
  g_SMALL_LETTERS := He.str_ok X G (c.fact 22 (f := .str "SMALL_LETTERS" "abcdefghijklmnopqrstuvwxyz") rfl)
  g_MAX_NAME := He.int_ok X G (c.fact 23 (f := .int "MAX_NAME" 6) rfl)
  g_BELOW := He.str_ok X G (c.fact 24 (f := .str "BELOW" " < ") rfl)
  c_FaultError := He.glo_ok X G (c.fact 25 (f := .glo "FaultError") rfl)
  c_Missing := He.glo_ok X G (c.fact 26 (f := .glo "Missing") rfl)
  c_InvalidText := He.glo_ok X G (c.fact 27 (f := .glo "InvalidText") rfl)
  c_InvalidRules := He.glo_ok X G (c.fact 28 (f := .glo "InvalidRules") rfl)
  c_InvalidGoal := He.glo_ok X G (c.fact 29 (f := .glo "InvalidGoal") rfl)
  c_NothingLeft := He.glo_ok X G (c.fact 30 (f := .glo "NothingLeft") rfl)
  c_Reader := He.glo_ok X G (c.fact 31 (f := .glo "Reader") rfl)
  x_InvalidText := ownXB_ok (by simp only [ex, Bool.and_eq_true] at e; simp only [e])
  x_InvalidRules := ownXB_ok (by simp only [ex, Bool.and_eq_true] at e; simp only [e])
  x_InvalidGoal := ownXB_ok (by simp only [ex, Bool.and_eq_true] at e; simp only [e])
  n_Reader_text := He.noat_ok (c.fact 32 (f := .noat "Reader" "text") rfl)
  n_Reader_at := He.noat_ok (c.fact 33 (f := .noat "Reader" "at") rfl)
  n_InvalidRules_index := He.noat_ok (c.fact 34 (f := .noat "InvalidRules" "index") rfl)
  e_InvalidRules := He.exm_ok (c.fact 35 (f := .exm "InvalidRules" "InvalidRules" true) rfl)
  k_Reader := He.cls_ok (c.fact 36 (f := .cls "Reader") rfl)
  mk_Reader := He.mkr_ok (c.fact 37 (f := .mkr "Reader") rfl)
  m_Reader_sees := He.meth_ok (c.fact 38 (f := .meth "Reader" "sees") rfl)
  m_Reader_take := He.meth_ok (c.fact 39 (f := .meth "Reader" "take") rfl)
  m_Reader_part := He.meth_ok (c.fact 40 (f := .meth "Reader" "part") rfl)
  m_Reader_sequence := He.meth_ok (c.fact 41 (f := .meth "Reader" "sequence") rfl)
  m_Reader_alone := He.meth_ok (c.fact 42 (f := .meth "Reader" "alone") rfl)
  fe := feCB_ok (by simp only [ex, Bool.and_eq_true] at e; simp only [e])
def loose : List PySem.Str := [("FaultError" : PySem.Str), ("Missing" : PySem.Str), ("InvalidText" : PySem.Str), ("InvalidRules" : PySem.Str), ("InvalidGoal" : PySem.Str), ("NothingLeft" : PySem.Str), ("LETTERS" : PySem.Str), ("OPERATORS" : PySem.Str), ("MAX_DEPTH" : PySem.Str), ("MAX_SIZE" : PySem.Str), ("is_letter" : PySem.Str), ("measured" : PySem.Str), ("is_term" : PySem.Str), ("SMALL_LETTERS" : PySem.Str), ("MAX_NAME" : PySem.Str), ("BELOW" : PySem.Str), ("is_name" : PySem.Str), ("text_of" : PySem.Str), ("Reader" : PySem.Str), ("parse_term" : PySem.Str), ("is_goal" : PySem.Str), ("is_rule" : PySem.Str), ("goal_text" : PySem.Str), ("format_goal" : PySem.Str), ("parse_goal" : PySem.Str), ("format_rule" : PySem.Str), ("parse_rule" : PySem.Str), ("_law_source" : PySem.Str), ("_law_take" : PySem.Str), ("_law_pick" : PySem.Str), ("_law_mixed" : PySem.Str), ("_law_same" : PySem.Str), ("_law_call" : PySem.Str), ("_law_text" : PySem.Str), ("_law_leaves" : PySem.Str), ("_law_term" : PySem.Str), ("_law_any_term" : PySem.Str), ("_law_signs" : PySem.Str), ("_law_names" : PySem.Str), ("_law_odd" : PySem.Str), ("_law_nest" : PySem.Str), ("_law_read_term" : PySem.Str), ("_law_read_piece" : PySem.Str), ("_law_read" : PySem.Str), ("_law_spoilt" : PySem.Str), ("_law_is_name" : PySem.Str), ("_law_read_goal" : PySem.Str), ("_law_read_rule" : PySem.Str), ("_law_goal_text" : PySem.Str), ("_law_rule_text" : PySem.Str), ("_law_index_told" : PySem.Str)]
abbrev R : PySem.W.OpenRow := PySem.W.OpenLaw.row PySem.Challenge.rw_fivefault_k07_texts_of_rules_and_goals
abbrev hk : PySem.W.Hook := hookY 4 fa fn [("law", none)] ex
def ob (s : PySem.W.SharedT) : He.AlX := obsY 4 fa fn [("law", none)] ex (HandSHeadRun.getT s)
theorem ob_eq (s : PySem.W.SharedT) : ob s = hk.obs s.abs := obsY_eq (HandSHeadRun.getT_eq s)
theorem run (w : World) : HandSHeadRun.RunEq R (PySem.W.view R.prog [55]) hk ob 4000 loose w := by
  intro os
  kernel_rfl
end FF

namespace FF
open PySem PySem.Spec PyProof.Rows L2
theorem facts {P : Program} {w : World} {K : PySem.W.Frag} {h : Heap} {mg : Str → Option Value} {f : Addr} (X : K.In h) (G : h.Ns mainGlobals mg) (hfa : mg ("law" : Str) = some (.ref f)) (cx : He.SaysX fa fn [] [("law", none)] ex w h K) :
    ∃ fd : FuncData, (∀ (s : Shared) (v : Value), BindsTo s fd ⟨[v], []⟩ [("_law_script", v)]) ∧ ∀ base : Heap, K.In base → base.Ns mainGlobals mg → (∀ p ∈ [He.cT K ("law", none)], LamX.TabB base mg p.1 p.2) → FnOk P w K mg base CX0 42 f fd ["_law_script"] (spLaw K) := by
  have c := cx.t.d
  have T := top_of X G c cx.more
  obtain ⟨fd_is_letter, F_is_letter⟩ := c.def_ 0 (d := d_is_letter) rfl
  have m_is_letter := He.glo_ok X G (c.fact 43 (f := .glo "is_letter") rfl)
  obtain ⟨fd_measured, F_measured⟩ := c.def_ 1 (d := d_measured) rfl
  have m_measured := He.glo_ok X G (c.fact 44 (f := .glo "measured") rfl)
  obtain ⟨fd_is_term, F_is_term⟩ := c.def_ 2 (d := d_is_term) rfl
  have m_is_term := He.glo_ok X G (c.fact 45 (f := .glo "is_term") rfl)
  obtain ⟨fd_is_name, F_is_name⟩ := c.def_ 3 (d := d_is_name) rfl
  have m_is_name := He.glo_ok X G (c.fact 46 (f := .glo "is_name") rfl)
  obtain ⟨fd_text_of, F_text_of⟩ := c.def_ 4 (d := d_text_of) rfl
  have m_text_of := He.glo_ok X G (c.fact 47 (f := .glo "text_of") rfl)
  obtain ⟨fd_parse_term, F_parse_term⟩ := c.def_ 5 (d := d_parse_term) rfl
  have m_parse_term := He.glo_ok X G (c.fact 48 (f := .glo "parse_term") rfl)
  obtain ⟨fd_is_goal, F_is_goal⟩ := c.def_ 6 (d := d_is_goal) rfl
  have m_is_goal := He.glo_ok X G (c.fact 49 (f := .glo "is_goal") rfl)
  obtain ⟨fd_is_rule, F_is_rule⟩ := c.def_ 7 (d := d_is_rule) rfl
  have m_is_rule := He.glo_ok X G (c.fact 50 (f := .glo "is_rule") rfl)
  obtain ⟨fd_goal_text, F_goal_text⟩ := c.def_ 8 (d := d_goal_text) rfl
  have m_goal_text := He.glo_ok X G (c.fact 51 (f := .glo "goal_text") rfl)
  obtain ⟨fd_format_goal, F_format_goal⟩ := c.def_ 9 (d := d_format_goal) rfl
  have m_format_goal := He.glo_ok X G (c.fact 52 (f := .glo "format_goal") rfl)
  obtain ⟨fd_parse_goal, F_parse_goal⟩ := c.def_ 10 (d := d_parse_goal) rfl
  have m_parse_goal := He.glo_ok X G (c.fact 53 (f := .glo "parse_goal") rfl)
  obtain ⟨fd_format_rule, F_format_rule⟩ := c.def_ 11 (d := d_format_rule) rfl
  have m_format_rule := He.glo_ok X G (c.fact 54 (f := .glo "format_rule") rfl)
  obtain ⟨fd_parse_rule, F_parse_rule⟩ := c.def_ 12 (d := d_parse_rule) rfl
  have m_parse_rule := He.glo_ok X G (c.fact 55 (f := .glo "parse_rule") rfl)
  obtain ⟨fd_law_source, F_law_source⟩ := c.def_ 13 (d := d_law_source) rfl
  have m_law_source := He.glo_ok X G (c.fact 56 (f := .glo "_law_source") rfl)
  obtain ⟨fd_law_take, F_law_take⟩ := c.def_ 14 (d := d_law_take) rfl
  have m_law_take := He.glo_ok X G (c.fact 57 (f := .glo "_law_take") rfl)
  obtain ⟨fd_law_pick, F_law_pick⟩ := c.def_ 15 (d := d_law_pick) rfl
  have m_law_pick := He.glo_ok X G (c.fact 58 (f := .glo "_law_pick") rfl)
  obtain ⟨fd_law_mixed, F_law_mixed⟩ := c.def_ 16 (d := d_law_mixed) rfl
  have m_law_mixed := He.glo_ok X G (c.fact 59 (f := .glo "_law_mixed") rfl)
  obtain ⟨fd_law_same, F_law_same⟩ := c.def_ 17 (d := d_law_same) rfl
  have m_law_same := He.glo_ok X G (c.fact 60 (f := .glo "_law_same") rfl)
  obtain ⟨fd_law_call, F_law_call⟩ := c.def_ 18 (d := d_law_call) rfl
  have m_law_call := He.glo_ok X G (c.fact 61 (f := .glo "_law_call") rfl)
  obtain ⟨fd_law_text, F_law_text⟩ := c.def_ 19 (d := d_law_text) rfl
  have m_law_text := He.glo_ok X G (c.fact 62 (f := .glo "_law_text") rfl)
  obtain ⟨fd_law_leaves, F_law_leaves⟩ := c.def_ 20 (d := d_law_leaves) rfl
  have m_law_leaves := He.glo_ok X G (c.fact 63 (f := .glo "_law_leaves") rfl)
  obtain ⟨fd_law_term, F_law_term⟩ := c.def_ 21 (d := d_law_term) rfl
  have m_law_term := He.glo_ok X G (c.fact 64 (f := .glo "_law_term") rfl)
  obtain ⟨fd_law_any_term, F_law_any_term⟩ := c.def_ 22 (d := d_law_any_term) rfl
  have m_law_any_term := He.glo_ok X G (c.fact 65 (f := .glo "_law_any_term") rfl)
  obtain ⟨fd_law_signs, F_law_signs⟩ := c.def_ 23 (d := d_law_signs) rfl
  have m_law_signs := He.glo_ok X G (c.fact 66 (f := .glo "_law_signs") rfl)
  obtain ⟨fd_law_names, F_law_names⟩ := c.def_ 24 (d := d_law_names) rfl
  have m_law_names := He.glo_ok X G (c.fact 67 (f := .glo "_law_names") rfl)
  obtain ⟨fd_law_odd, F_law_odd⟩ := c.def_ 25 (d := d_law_odd) rfl
  have m_law_odd := He.glo_ok X G (c.fact 68 (f := .glo "_law_odd") rfl)
  obtain ⟨fd_law_nest, F_law_nest⟩ := c.def_ 26 (d := d_law_nest) rfl
  have m_law_nest := He.glo_ok X G (c.fact 69 (f := .glo "_law_nest") rfl)
  obtain ⟨fd_law_read_term, F_law_read_term⟩ := c.def_ 27 (d := d_law_read_term) rfl
  have m_law_read_term := He.glo_ok X G (c.fact 70 (f := .glo "_law_read_term") rfl)
  obtain ⟨fd_law_read_piece, F_law_read_piece⟩ := c.def_ 28 (d := d_law_read_piece) rfl
  have m_law_read_piece := He.glo_ok X G (c.fact 71 (f := .glo "_law_read_piece") rfl)
  obtain ⟨fd_law_read, F_law_read⟩ := c.def_ 29 (d := d_law_read) rfl
  have m_law_read := He.glo_ok X G (c.fact 72 (f := .glo "_law_read") rfl)
  obtain ⟨fd_law_spoilt, F_law_spoilt⟩ := c.def_ 30 (d := d_law_spoilt) rfl
  have m_law_spoilt := He.glo_ok X G (c.fact 73 (f := .glo "_law_spoilt") rfl)
  obtain ⟨fd_law_is_name, F_law_is_name⟩ := c.def_ 31 (d := d_law_is_name) rfl
  have m_law_is_name := He.glo_ok X G (c.fact 74 (f := .glo "_law_is_name") rfl)
  obtain ⟨fd_law_read_goal, F_law_read_goal⟩ := c.def_ 32 (d := d_law_read_goal) rfl
  have m_law_read_goal := He.glo_ok X G (c.fact 75 (f := .glo "_law_read_goal") rfl)
  obtain ⟨fd_law_read_rule, F_law_read_rule⟩ := c.def_ 33 (d := d_law_read_rule) rfl
  have m_law_read_rule := He.glo_ok X G (c.fact 76 (f := .glo "_law_read_rule") rfl)
  obtain ⟨fd_law_goal_text, F_law_goal_text⟩ := c.def_ 34 (d := d_law_goal_text) rfl
  have m_law_goal_text := He.glo_ok X G (c.fact 77 (f := .glo "_law_goal_text") rfl)
  obtain ⟨fd_law_rule_text, F_law_rule_text⟩ := c.def_ 35 (d := d_law_rule_text) rfl
  have m_law_rule_text := He.glo_ok X G (c.fact 78 (f := .glo "_law_rule_text") rfl)
  obtain ⟨fd_law_index_told, F_law_index_told⟩ := c.def_ 36 (d := d_law_index_told) rfl
  have m_law_index_told := He.glo_ok X G (c.fact 79 (f := .glo "_law_index_told") rfl)
  obtain ⟨fd_law, F_law⟩ := c.def_ 37 (d := d_law) rfl
  have m_law := He.glo_ok X G (c.fact 80 (f := .glo "law") rfl)
  obtain ⟨fd_FaultError_init, F_FaultError_init⟩ := c.def_ 38 (d := d_FaultError_init) rfl
  obtain ⟨fd_InvalidText_init, F_InvalidText_init⟩ := c.def_ 39 (d := d_InvalidText_init) rfl
  obtain ⟨fd_InvalidRules_init, F_InvalidRules_init⟩ := c.def_ 40 (d := d_InvalidRules_init) rfl
  obtain ⟨fd_InvalidGoal_init, F_InvalidGoal_init⟩ := c.def_ 41 (d := d_InvalidGoal_init) rfl
  obtain ⟨fd_Reader___init__, F_Reader___init__⟩ := c.def_ 42 (d := d_Reader___init__) rfl
  obtain ⟨fd_Reader_sees, F_Reader_sees⟩ := c.def_ 43 (d := d_Reader_sees) rfl
  obtain ⟨fd_Reader_take, F_Reader_take⟩ := c.def_ 44 (d := d_Reader_take) rfl
  obtain ⟨fd_Reader_part, F_Reader_part⟩ := c.def_ 45 (d := d_Reader_part) rfl
  obtain ⟨fd_Reader_sequence, F_Reader_sequence⟩ := c.def_ 46 (d := d_Reader_sequence) rfl
  obtain ⟨fd_Reader_alone, F_Reader_alone⟩ := c.def_ 47 (d := d_Reader_alone) rfl
  have e := hfa.symm.trans m_law
  cases e
  have b := FunD.bindsA (ps := ["_law_script"]) F_law fun _ _ _ _ _ _ us hl => match us, hl with | [_], _ => rfl
  refine ⟨fd_law, fun s v => b s [v] rfl, fun base _ _ hTB => ?_⟩
  have D_take : Def P w K mg base "_law_take" 1 ["_law_source_here", "_law_many"] spTake := take_hid (ok_take F_law_take m_law_take T)
  have D_source : Def P w K mg base "_law_source" 1 ["_law_script"] (spSource K) := ok_source F_law_source m_law_source T
  have D_pick : Def P w K mg base "_law_pick" 2 ["_law_source_here", "_law_row"] (spPick K) := ok_pick F_law_pick m_law_pick T D_take
  have D_mixed : Def P w K mg base "_law_mixed" 2 ["_law_source_here", "_law_row"] (spMixed K) := ok_mixed F_law_mixed m_law_mixed T D_take
  have D_signs : Def P w K mg base "_law_signs" 3 ["_law_source_here", "_law_most"] spSigns := ok_signs F_law_signs m_law_signs T D_take D_mixed
  have D_term : Def P w K mg base "_law_term" 8 ["_law_source_here", "_law_signs_here", "_law_deep", "_law_room"] (spTermR K 6) := ok_termR F_law_term m_law_term T D_take D_pick 6
  have D_any : Def P w K mg base "_law_any_term" 9 ["_law_source_here"] (spAnyR K) := ok_anyR F_law_any_term m_law_any_term T D_take D_pick D_signs D_term
  have D_nest : Def P w K mg base "_law_nest" 1 ["_law_many"] (spNest K) := ok_nest F_law_nest m_law_nest T
  have D_odd : Def P w K mg base "_law_odd" 3 ["_law_source_here", "_law_word"] (spOdd0 K) := ok_odd0 F_law_odd m_law_odd T D_pick D_nest
  have D_same : ∀ n, Def P w K mg base "_law_same" n ["_law_found", "_law_due"] (spSame K n) := fun n => by
    induction n with
    | zero => exact same_none F_law_same m_law_same
    | succ n ih => exact ok_same_step F_law_same m_law_same T ih
  have D_let : Def P w K mg base "is_letter" 1 ["value"] (spIsLetter K) := ok_is_letter F_is_letter m_is_letter T
  have D_measured : ∀ n, Def P w K mg base "measured" (n + 1) ["value", "max_depth"] (spMeasured K n) := fun n => by
    induction n with
    | zero => exact (def_none F_measured m_measured (F_measured.bindsN fun _ _ _ _ _ _ us hl => match us, hl with | [_, _], _ => rfl) fun vs H Q E ⟨_, _, _, _, _, _, h, _⟩ => by omega).mono (Nat.zero_le _)
    | succ n ih => exact ok_measured_step F_measured m_measured T D_let ih
  have b_fe : Binds K fd_FaultError_init ["self", "code"] [] := F_FaultError_init.bindsN fun _ _ _ _ _ _ us hl => match us, hl with | [_, _], _ => rfl
  have FE : FnOk P w K mg base CX0 1 (He.ma K (He.ga K "FaultError") "__init__") fd_FaultError_init ["self", "code"] (spFE K) := fn_fe F_FaultError_init T
  have R_text : RaiseD P w K mg base "InvalidText" "FaultError" 2 "InvalidText" := ⟨T.x_InvalidText, T.c_InvalidText, fd_InvalidText_init, fn_InvalidText F_InvalidText_init T FE b_fe, F_InvalidText_init.bindsN fun _ _ _ _ _ _ us hl => match us, hl with | [_], _ => rfl⟩
  have D_to : ∀ n, Def P w K mg base "text_of" n ["term"] (spText K n) := fun n => by
    induction n with
    | zero => exact def_none F_text_of m_text_of (F_text_of.bindsN fun _ _ _ _ _ _ us hl => match us, hl with | [_], _ => rfl) fun vs H Q E ⟨_, _, _, _, _, _, h, _⟩ => by omega
    | succ n ih => exact ok_text_of_step F_text_of m_text_of T ih
  have D_lt : ∀ n, Def P w K mg base "_law_text" n ["_law_word"] (spTextM K n) := fun n => by
    induction n with
    | zero => exact def_none F_law_text m_law_text (F_law_text.bindsN fun _ _ _ _ _ _ us hl => match us, hl with | [_], _ => rfl) fun vs H Q E ⟨_, _, _, _, _, _, h, _⟩ => by omega
    | succ n ih => exact ok_law_textM_step F_law_text m_law_text T ih
  have D_lv : ∀ n, Def P w K mg base "_law_leaves" n ["_law_word"] (spLeaves K n) := fun n => by
    induction n with
    | zero => exact def_none F_law_leaves m_law_leaves (F_law_leaves.bindsN fun _ _ _ _ _ _ us hl => match us, hl with | [_], _ => rfl) fun vs H Q E ⟨_, _, _, _, _, _, h, _⟩ => by omega
    | succ n ih => exact ok_leaves_step F_law_leaves m_law_leaves T ih
  have D_rt : ∀ n, Def P w K mg base "_law_read_term" (2 * n) ["_law_mtext", "_law_deep"] (spRT K n) := fun n => by
    induction n with
    | zero => exact def_none F_law_read_term m_law_read_term (F_law_read_term.bindsN fun _ _ _ _ _ _ us hl => match us, hl with | [_, _], _ => rfl) fun vs H Q E ⟨_, _, _, _, h, _⟩ => by omega
    | succ n ih => exact ok_read_term F_law_read_term m_law_read_term T (ok_read_piece F_law_read_piece m_law_read_piece T ih)
  have D_read : Def P w K mg base "_law_read" 13 ["_law_mtext"] (spRead K) := ok_read F_law_read m_law_read T (D_rt 6) (D_lv 5)
  have D_sp : Def P w K mg base "_law_spoilt" 2 ["_law_source_here", "_law_mtext"] spSpoilt := ok_spoilt F_law_spoilt m_law_spoilt T D_take
  have R_goal : RaiseD P w K mg base "InvalidGoal" "FaultError" 2 "InvalidGoal" := ⟨T.x_InvalidGoal, T.c_InvalidGoal, fd_InvalidGoal_init, fn_InvalidGoal F_InvalidGoal_init T FE b_fe, F_InvalidGoal_init.bindsN fun _ _ _ _ _ _ us hl => match us, hl with | [_], _ => rfl⟩
  have R_rules : RaiseD1 P w K mg base "InvalidRules" "FaultError" 2 "InvalidRules" "index" := ⟨T.x_InvalidRules, T.n_InvalidRules_index, T.c_InvalidRules, fd_InvalidRules_init, fn_InvalidRules F_InvalidRules_init T FE b_fe, F_InvalidRules_init.bindsN fun _ _ _ _ _ _ us hl => match us, hl with | [_, _], _ => rfl⟩
  have R_sees := ok_sees (P := P) (w := w) (base := base) F_Reader_sees T
  have R_take := ok_takeW F_Reader_take T R_sees R_text
  have R_alone := ok_alone F_Reader_alone T D_let R_text
  have R_seq : ∀ n, MethX P w K mg base "Reader" "sequence" (2 * n + 4) ["self", "max_depth"] (spRd K rSeq n) := fun n => by
    induction n with
    | zero => exact (methx_none F_Reader_sequence (F_Reader_sequence.bindsN fun _ _ _ _ _ _ us hl => match us, hl with | [_, _], _ => rfl) T.k_Reader T.m_Reader_sequence fun vs H Q E ⟨_, _, _, _, _, _, _, _, h, _⟩ => by omega).mono (Nat.zero_le _)
    | succ n ih => exact ok_sequence F_Reader_sequence T R_sees R_alone R_text (ok_part F_Reader_part T R_take D_let R_text ih)
  have M_Reader : MakeD P w K mg base "Reader" 1 ["self", "text"] _ := ⟨⟨fd_Reader___init__, fn_reader_init F_Reader___init__ T, F_Reader___init__.bindsN fun _ _ _ _ _ _ us hl => match us, hl with | [_, _], _ => rfl⟩, T.mk_Reader, T.c_Reader⟩
  have FP := fn_parse_term F_parse_term T M_Reader F_is_term m_is_term (fn_is_term F_is_term T (D_measured 11)) (R_seq 6) R_text
  have D_pt : DefX P w K mg base "parse_term" 17 ["text"] (spParse K) := ⟨_, _, FP, m_parse_term, F_parse_term.kp, F_parse_term.bindsN fun _ _ _ _ _ _ us hl => match us, hl with | [_], _ => rfl⟩
  have D_name : Def P w K mg base "is_name" 1 ["text"] (spName K) := ok_is_name F_is_name m_is_name T
  have D_lname : Def P w K mg base "_law_is_name" 1 ["_law_mtext"] (spName K) := ok_law_is_name F_law_is_name m_law_is_name T
  have D_goal : Def P w K mg base "is_goal" 14 ["value"] (spGoal K) := ok_is_goal F_is_goal m_is_goal T F_is_term m_is_term (fn_is_term F_is_term T (D_measured 11))
  have D_rule : Def P w K mg base "is_rule" 15 ["value"] (spRule K) := ok_is_rule F_is_rule m_is_rule T D_name D_goal
  have D_gt : Def P w K mg base "goal_text" 6 ["left", "right"] (spGT K) := ok_goal_text F_goal_text m_goal_text T (D_to 5)
  have D_lgt : Def P w K mg base "_law_goal_text" 6 ["_law_left", "_law_right"] (spGT K) := ok_law_goal_text F_law_goal_text m_law_goal_text T (D_lt 5)
  have D_lrt : Def P w K mg base "_law_rule_text" 7 ["_law_one"] (spRX K) := ok_law_rule_text F_law_rule_text m_law_rule_text T D_lgt
  have D_fg : DefX P w K mg base "format_goal" 15 ["goal"] (spFG K) := ok_format_goal F_format_goal m_format_goal T D_goal D_gt R_goal
  have D_pg : DefX P w K mg base "parse_goal" 18 ["text"] (spPG K goalP) := ok_parse_goal F_parse_goal m_parse_goal T D_pt R_text
  have D_rg : Def P w K mg base "_law_read_goal" 14 ["_law_mtext"] (spRG K goalP) := ok_read_goal F_law_read_goal m_law_read_goal T D_read
  have D_rr : Def P w K mg base "_law_read_rule" 15 ["_law_mtext"] (spRG K ruleP) := ok_read_rule F_law_read_rule m_law_read_rule T D_rg D_lname
  have D_names : Def P w K mg base "_law_names" 3 ["_law_source_here", "_law_many"] (spNamesG K) := ok_namesG F_law_names m_law_names T D_take D_pick
  exact ok_law F_law T (hTB (He.cT K ("law", none)) (List.mem_singleton.mpr rfl)) F_law_call m_law_call F_law_index_told m_law_index_told F_parse_rule m_parse_rule (ok_parse_rule F_parse_rule T D_pg D_name R_text) F_format_rule m_format_rule (ok_format_rule F_format_rule T D_rule D_gt R_rules)
    D_pg D_fg D_name D_lname D_source D_take D_pick D_any D_names D_odd D_lgt D_lrt D_sp D_rg D_rr (D_same 40) T.x_InvalidText T.x_InvalidGoal
end FF
open PySem PySem.W PySem.Calls PyProof.Rows
set_option maxRecDepth 100000 in
set_option maxHeartbeats 0 in
theorem PySem.Challenge.cw_fivefault_k07_texts_of_rules_and_goals_holds : PySem.Challenge.rw_fivefault_k07_texts_of_rules_and_goals.Holds := by
  w_on; o_law
  refine HandSHeadRun.head_any (r := PySem.W.OpenLaw.row PySem.Challenge.rw_fivefault_k07_texts_of_rules_and_goals) (q := PySem.W.view (PySem.W.OpenLaw.row PySem.Challenge.rw_fivefault_k07_texts_of_rules_and_goals).prog [55]) (H := FF.hk) (ob := FF.ob) (M := 4000) (loose := FF.loose) (d := HandSHeadRun.topDef (PySem.W.OpenLaw.row PySem.Challenge.rw_fivefault_k07_texts_of_rules_and_goals).prog 55) (kwd := []) FF.ob_eq
    (by kernel_rfl) (fun s => by kernel_rfl) FF.run (by kernel_rfl) (by kernel_rfl) (by kernel_rfl) (by rfl) (by first | assumption | decide +kernel) (by decide +kernel) ⟨rfl, rfl, rfl, rfl, rfl, by decide +kernel⟩ ?hw ?hc
  case hw => w_witness2
  case hc =>
    refine LamX.walk_ofTsE (l := PySem.Challenge.rw_fivefault_k07_texts_of_rules_and_goals) (n := 63) (k := 42) (x := "_law_script") (CX := fun _ => L2.CX0) rfl (by decide) (by kernel_rfl) ⟨rfl, by decide, by decide⟩ ?F (fun _ _ _ _ _ z => z)
    intro w mg fa h Y G hmg0
    obtain ⟨K, KX, c⟩ := Y
    have hmg : mg ("law" : PySem.Str) = some (.ref fa) := by
      have e : (HandSHeadRun.topDef (PySem.W.OpenLaw.row PySem.Challenge.rw_fivefault_k07_texts_of_rules_and_goals).prog 55).name = ("law" : PySem.Str) := by kernel_rfl
      rw [← e]
      exact hmg0
    obtain ⟨fd, hb, hF⟩ := FF.facts (P := (PySem.Challenge.rw_fivefault_k07_texts_of_rules_and_goals).prog) (w := w) KX G hmg c
    refine ⟨K, KX, fd, [He.cT K ("law", none)], FF.spLaw K, fun p hp => ?_, fun p hp => ?_, fun p hp => ?_, hb, fun H a ns hl _ hT hS => ⟨a, ns, rfl, hS, fun p hp => ?_, fun _ => rfl⟩, hF⟩
    · exact List.mem_singleton.mp hp ▸ c.empty ("law", none) (by simp)
    · exact List.mem_singleton.mp hp ▸ c.out ("law", none) (by simp)
    · exact List.mem_singleton.mp hp ▸ PySem.W.codeHd_of_K KX (c.hd ("law", none) (by simp))
    · exact List.mem_singleton.mp hp ▸ LamX.TabS.nil (hT (He.cT K ("law", none)) (by simp))

