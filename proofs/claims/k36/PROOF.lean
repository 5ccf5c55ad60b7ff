import PyProof.Rows.All
import Wide.All
import OpenK.AllK
import Wide.FinOn
import HandS.ForMost
import HandS.IsInst
import HandS.Deep
import HandS.Zip
import HandS.Defaults
import HandS.More
import HandS.Conv
import HandS.Style
import HandS.Codes
import HandS.ExcInit
import HandS.ExcField
import HandS.TryMany
import HandS.ClsMeth
import HandS.Lambda
import HandS.EndTab
import HandS.HeadWalk
import HandS.WordsExc
import PyProof.P3Eq
import HandS.HeadHook4
import HandS.Head2
import HandS.HeadEnd
import PyProof.P3In
import PyProof.ListStr
import HandS.Star
import HandS.DictComp
import HandS.FStr
import HandS.StrMore
import PyProof.Rows.SortShellSt
import KE.GoesMore
import HandS.Walk
import HandS.SetKeys
import HandS.IntHex
import HandS.OwnEq
import HandS.DictSub
import HandS.MakeKwOnly
import KE.DataCmp
import HandS.Property
import HandS.MethStar
import HandS.SetFor
import HandS.SetBool
import HandS.Strs
import HandS.TupAny
import HandS.GenYield
import HandS.GenList
import HandS.IterVal
import HandS.SortKw
import KE.DatumOrd
import PySem.Challenge.RW_fivefault_k36_whole_boards_spread_or_hav
set_option Elab.async false
set_option linter.all false
set_option maxRecDepth 100000
set_option maxHeartbeats 2000000
/-! Fivefault, part 1: heaps that grow, data, the draws' source. -/
namespace FF
open PySem PySem.Spec PyProof.Rows L2

/-! ### heaps that grow -/
theorem same_new {H : Hp} {p : Addr} (h : H p = none) (o : HO) : Same H (upd H p o) := fun b u q => by rw [upd_ne (ne_of_none q h)]; exact q
theorem same_rd {H H' : Hp} {a : Addr} {u : HO} (e : Same H H') (h : Rd H a u) : Rd H' a u := by
  rcases h with h | ⟨o, h⟩
  · exact .inl (e _ _ h)
  · exact .inr ⟨o, e _ _ h⟩
theorem up_l {K : PySem.W.Frag} {H H' : Hp} {a : Addr} {xs : List V} (e : Same H H') (h : SqL K H a xs) : SqL K H' a xs := by
  rcases h with h | h
  · exact .inl (same_rd e h)
  · exact .inr h
theorem up_t {K : PySem.W.Frag} {H H' : Hp} {a : Addr} {xs : List V} (e : Same H H') (h : SqT K H a xs) : SqT K H' a xs := by
  rcases h with h | h
  · exact .inl (same_rd e h)
  · exact .inr h
mutual
theorem up_d {K : PySem.W.Frag} {H H' : Hp} (e : Same H H') : ∀ {v : V} {d : PyData}, Dp K H v d → Dp K H' v d
  | _, _, .non => .non
  | _, _, .bl b => .bl b
  | _, _, .int i => .int i
  | _, _, .str x => .str x
  | _, _, .lst h a => .lst (up_l e h) (up_da e a)
  | _, _, .tup h a => .tup (up_t e h) (up_da e a)
theorem up_da {K : PySem.W.Frag} {H H' : Hp} (e : Same H H') : ∀ {vs : List V} {ds : List PyData}, DpAll K H vs ds → DpAll K H' vs ds
  | _, _, .nil => .nil
  | _, _, .cons h a => .cons (up_d e h) (up_da e a)
end
theorem da_get {K : PySem.W.Frag} {H : Hp} : ∀ {vs : List V} {ds : List PyData} {i : Nat} {v : V}, DpAll K H vs ds → vs[i]? = some v → ∃ d, ds[i]? = some d ∧ Dp K H v d
  | _, _, 0, _, .cons h _, e => by cases e; exact ⟨_, rfl, h⟩
  | _, _, i + 1, _, .cons _ t, e => da_get (i := i) t e
theorem da_len {K : PySem.W.Frag} {H : Hp} : ∀ {vs : List V} {ds : List PyData}, DpAll K H vs ds → vs.length = ds.length
  | _, _, .nil => rfl
  | _, _, .cons _ t => congrArg Nat.succ (da_len t)
theorem da_app {K : PySem.W.Frag} {H : Hp} : ∀ {vs ws : List V} {ds es : List PyData}, DpAll K H vs ds → DpAll K H ws es → DpAll K H (vs ++ ws) (ds ++ es)
  | _, _, _, _, .nil, r => r
  | _, _, _, _, .cons h t, r => .cons h (da_app t r)
theorem da_drop {K : PySem.W.Frag} {H : Hp} : ∀ (n : Nat) {vs : List V} {ds : List PyData}, DpAll K H vs ds → DpAll K H (vs.drop n) (ds.drop n)
  | 0, _, _, r => r
  | _ + 1, _, _, .nil => .nil
  | n + 1, _, _, .cons _ t => da_drop n t
theorem da_take {K : PySem.W.Frag} {H : Hp} : ∀ (n : Nat) {vs : List V} {ds : List PyData}, DpAll K H vs ds → DpAll K H (vs.take n) (ds.take n)
  | 0, _, _, _ => .nil
  | _ + 1, _, _, .nil => .nil
  | n + 1, _, _, .cons h t => .cons h (da_take n t)

/-! ### what data is -/
def tyN : PyData → String
  | .none => "NoneType"
  | .bool _ => "bool"
  | .int _ => "int"
  | .str _ => "str"
  | .list _ => "list"
  | .tuple _ => "tuple"
  | .dict _ => "dict"
theorem dp_ty {K : PySem.W.Frag} {H : Hp} {v : V} {d : PyData} (h : Dp K H v d) : TyX K H v (.type (tyN d)) := by
  cases h with
  | non => exact .base .non
  | bl b => exact .base (.bl b)
  | int i => exact .base (.int i)
  | str x => exact .base (.str x)
  | lst h _ =>
    rcases h with (h | ⟨o, h⟩) | ⟨o, _, _, h, c, _⟩
    · exact .base (.lst h)
    · exact .base (.frz h)
    · exact .kList h c
  | tup h _ =>
    rcases h with (h | ⟨o, h⟩) | ⟨o, _, _, h, c, _⟩
    · exact .base (.tup h)
    · exact .fTuple h
    · exact .kTuple h c
def isStr : PyData → Bool
  | .str _ => true
  | _ => false
def isTup : PyData → Bool
  | .tuple _ => true
  | _ => false
def isLst : PyData → Bool
  | .list _ => true
  | _ => false
def isBool : PyData → Bool
  | .bool _ => true
  | _ => false
def isInt : PyData → Bool
  | .bool _ => true
  | .int _ => true
  | _ => false
def isDict : PyData → Bool
  | .dict _ => true
  | _ => false
theorem kb_str (d : PyData) : kitB (tyN d) "str" = some (isStr d) := by cases d <;> kernel_rfl
theorem kb_tup (d : PyData) : kitB (tyN d) "tuple" = some (isTup d) := by cases d <;> kernel_rfl
theorem kb_lst (d : PyData) : kitB (tyN d) "list" = some (isLst d) := by cases d <;> kernel_rfl
theorem kb_bool (d : PyData) : kitB (tyN d) "bool" = some (isBool d) := by cases d <;> kernel_rfl
theorem kb_int (d : PyData) : kitB (tyN d) "int" = some (isInt d) := by cases d <;> kernel_rfl
theorem kb_dict (d : PyData) : kitB (tyN d) "dict" = some (isDict d) := by cases d <;> kernel_rfl
/-- isinstance(x, T) over data -/
def rIsD (K : PySem.W.Frag) (T : String) (f : PyData → Bool) : List V → Hp → VK → Prop := fun xs H Q => ∃ (x : V) (d : PyData), xs = [x, .ty T] ∧ Dp K H x d ∧ Q (.bl (f d)) H
theorem call_isD {X : Cx} {T : String} {f : PyData → Bool} (hk : ∀ d, kitB (tyN d) T = some (f d)) : CallR X (.builtin "isinstance") (rIsD X.K T f) := by
  intro pins s σ H xs us Q I r h
  obtain ⟨x, d, rfl, hd, q⟩ := h
  exact call_isi pins s σ H _ us Q I r ⟨x, .ty T, _, _, _, rfl, .ty T, dp_ty hd, kit_ty (hk d), q⟩

/-! ### defs of the text -/
/-- the def x of the top keeps the promise sp at level k -/
structure Def (P : Program) (w : World) (K : PySem.W.Frag) (mg : Str → Option Value) (base : Heap) (x : Str) (k : Nat) (ps : List Str) (sp : Sp) : Prop where
  ex : ∃ (f : Addr) (fd : FuncData), FnOk P w K mg base CX0 k f fd ps sp ∧ mg x = some (.ref f) ∧ PySem.W.keepIn K (.ref f) = true ∧ Binds K fd ps []
theorem pe_def {X : Cx} {x : Str} {k j : Nat} {ps : List Str} {sp : Sp} {e : Expr} {es : List Expr} {p pos : Pos} {t : TA} (D : Def X.prog X.w X.K X.mg X.base x k ps sp) (hr : Room j X.A) (hkj : k ≤ j) (ha : PA X (e :: es) t)
    (hg : Gl X x := by rfl) (hdb : (x == ("__debug__" : Str)) = false := by decide) (he : starEach (e :: es) X.env = (false, eval e X.env) :: starEach es X.env := by rfl) (hpl : (backTo pos (starEach es X.env)).any (·.1) = false := by rfl) :
    PE X (.Call (.Name x p) (e :: es) [] pos) (tCall sp [] E0 t) := by
  obtain ⟨f, fd, F, hm, hk, hb⟩ := D.ex
  exact pe_call F (hr.mono hkj) hg hm hk hb .nil pass0 ha hdb he hpl
theorem pe_def0 {X : Cx} {x : Str} {k j : Nat} {ps : List Str} {sp : Sp} {p pos : Pos} (D : Def X.prog X.w X.K X.mg X.base x k ps sp) (hr : Room j X.A) (hkj : k ≤ j)
    (hg : Gl X x := by rfl) (hdb : (x == ("__debug__" : Str)) = false := by decide) :
    PE X (.Call (.Name x p) [] [] pos) (tCall sp [] E0 tNil) := by
  obtain ⟨f, fd, F, hm, hk, hb⟩ := D.ex
  exact pe_call0 F (hr.mono hkj) hg hm hk hb .nil pass0 hdb
theorem Def.imp {P : Program} {w : World} {K : PySem.W.Frag} {mg : Str → Option Value} {base : Heap} {x : Str} {k : Nat} {ps : List Str} {sp sp' : Sp} (D : Def P w K mg base x k ps sp) (h : ∀ vs H Q E, sp' vs H Q E → sp vs H Q E) : Def P w K mg base x k ps sp' := by
  obtain ⟨f, fd, F, r⟩ := D.ex
  exact ⟨f, fd, F.imp h, r⟩
theorem Def.mono {P : Program} {w : World} {K : PySem.W.Frag} {mg : Str → Option Value} {base : Heap} {x : Str} {j k : Nat} {ps : List Str} {sp : Sp} (D : Def P w K mg base x j ps sp) (h : j ≤ k) : Def P w K mg base x k ps sp := by
  obtain ⟨f, fd, F, r⟩ := D.ex
  exact ⟨f, fd, F.mono h, r⟩

/-! ### a list that is hidden: its state is some good one -/
/-- at a stands a list whose items are good -/
def hid (good : List V → Prop) (a : Addr) : HO := .ext fun h => ∃ (xs : List V) (its : List Value) (n : Nat), good xs ∧ xs.length ≤ sizeLine ∧ Vals xs its ∧ h.get? a = some { cls := .type "list", data := .seq its.toArray n }
section
variable {P : Program} {w : World} {K : PySem.W.Frag} {mg : Str → Option Value} {base : Heap}
theorem upd_back {H : Hp} {a : Addr} {o u : HO} (h : H a = some u) : upd (upd H a o) a u = H := by
  funext b
  unfold upd
  split
  · next e => rw [e, h]
  · rfl
theorem hok_open {H : Hp} {h : Heap} {a : Addr} {good : List V → Prop} (hs : H a = some (hid good a)) (ok : HOk P w H h) : ∃ xs, good xs ∧ HOk P w (upd H a (.lst xs)) h := by
  obtain ⟨⟨xs, its, n, hg, hz, hv, he⟩, _, _⟩ := ok a _ hs
  refine ⟨xs, hg, fun b o e => ?_⟩
  by_cases hb : b = a
  · subst hb
    rw [upd_same] at e
    cases e
    exact ⟨hz, its, n, hv, he⟩
  · rw [upd_ne hb] at e
    refine (ok b o e).stay (fun _ _ _ q => q) (fun c q => ?_) (fun c ys q => ?_)
    · have hc : c ≠ a := by
        intro z
        rw [z, hs] at q
        cases q
      rw [upd_ne hc]
      exact q
    · have hc : c ≠ a := by
        intro z
        rw [z, hs] at q
        cases q
      rw [upd_ne hc]
      exact q
theorem hok_shut {H : Hp} {h : Heap} {a : Addr} {good : List V → Prop} {xs : List V} (hs : H a = some (.lst xs)) (hg : good xs) (ok : HOk P w H h) : HOk P w (upd H a (hid good a)) h := by
  obtain ⟨hz, its, n, hv, he⟩ := ok a _ hs
  intro b o e
  by_cases hb : b = a
  · subst hb
    rw [upd_same] at e
    cases e
    refine ⟨⟨xs, its, n, hg, hz, hv, he⟩, ⟨_, he⟩, fun h1 h2 ⟨xs1, its1, n1, g1, z1, v1, e1⟩ hk => ⟨xs1, its1, n1, g1, z1, v1, hk _ e1⟩⟩
  · rw [upd_ne hb] at e
    refine (ok b o e).stay (fun _ _ _ q => q) (fun c q => ?_) (fun c ys q => ?_)
    · have hc : c ≠ a := by
        intro z
        rw [z, hs] at q
        cases q
      rw [upd_ne hc]
      exact q
    · have hc : c ≠ a := by
        intro z
        rw [z, hs] at q
        cases q
      rw [upd_ne hc]
      exact q
/-- the list at a opened: what its items are the body may read and change; behind it the list is hidden again -/
theorem FnOk.open_ {k : Nat} {f : Addr} {fd : FuncData} {ps : List Str} {sp sp' : Sp} (F : FnOk P w K mg base CX0 k f fd ps sp) (len : ∀ vs H Q E, sp' vs H Q E → vs.length = ps.length)
    (h : ∀ vs H Q E, sp' vs H Q E → ∃ (a : Addr) (good : List V → Prop), H a = some (hid good a) ∧
      ∀ xs, good xs → sp vs (upd H a (.lst xs)) (fun v H' => ∃ ys, H' a = some (.lst ys) ∧ good ys ∧ Q v (upd H' a (hid good a))) E) : FnOk P w K mg base CX0 k f fd ps sp' := by
  refine ⟨len, fun A outer s H args us vs Q E hr e0 hb hv hsp => ?_⟩
  obtain ⟨a, good, ha, hq⟩ := h vs H Q E hsp
  obtain ⟨xs, hg, ok⟩ := hok_open ha e0.hok
  have dom : ∀ {b}, H b = none → (upd H a (.lst xs)) b = none := fun {b} n => by
    rw [upd_ne (fun z => by rw [z, ha] at n; cases n)]
    exact n
  have e1 : Env0 P w K mg base A outer s (upd H a (.lst xs)) := ⟨e0.frames, e0.mod, fun b o e => ⟨(e0.bs b o e).1, dom (e0.bs b o e).2⟩, e0.bsz, e0.funs, fun b hb => dom (e0.frf b hb), ok, e0.bare⟩
  refine codeAny_mono (F.run A outer s _ args us vs _ E hr e1 hb hv (hq xs hg)) fun r s' hc => ?_
  cases r with
  | error e => exact hc
  | ok fl =>
    cases fl with
    | ret u =>
      obtain ⟨v, H', os, bare, un, hok, rv, ys, hy, gy, q⟩ := hc
      refine ⟨v, _, os, bare, ?_, hok_shut hy gy hok, rv, q⟩
      have back : ∀ {b o}, H b = some o → b ≠ a → (upd H a (.lst xs)) b = some o := fun {b o} e hb => by rw [upd_ne hb]; exact e
      have notA : ∀ {b}, H b = none → b ≠ a := fun {b} n z => by rw [z, ha] at n; cases n
      refine ⟨fun b o e n h1 h2 => un.keep b o e (dom n) h1 h2, fun b o e n h1 h2 => un.slot b o e (dom n) h1 h2, fun b o e n h1 => ?_, un.there, fun b ys' e => ?_, fun b o u' e => ?_, fun b ps' e => ?_⟩
      · rw [upd_ne (notA n)]
        exact un.free b o e (dom n) h1
      · have hb : b ≠ a := fun z => by rw [z, ha] at e; cases e
        rw [upd_ne hb]
        exact un.tups b ys' (back e hb)
      · have hb : b ≠ a := fun z => by rw [z, ha] at e; cases e
        rw [upd_ne hb]
        exact un.frzs b o u' (back e hb)
      · have hb : b ≠ a := fun z => by rw [z, ha] at e; cases e
        rw [upd_ne hb]
        exact un.tbls b ps' (back e hb)
    | next => exact hc
    | brk => exact hc
    | cont => exact hc
/-- behind the body the list at a is hidden -/
theorem FnOk.shut_ {k : Nat} {f : Addr} {fd : FuncData} {ps : List Str} {sp sp' : Sp} (F : FnOk P w K mg base CX0 k f fd ps sp) (len : ∀ vs H Q E, sp' vs H Q E → vs.length = ps.length)
    (h : ∀ vs H Q E, sp' vs H Q E → sp vs H (fun v H' => ∃ (a : Addr) (good : List V → Prop) (ys : List V), H a = none ∧ H' a = some (.lst ys) ∧ good ys ∧ Q v (upd H' a (hid good a))) E) : FnOk P w K mg base CX0 k f fd ps sp' := by
  refine ⟨len, fun A outer s H args us vs Q E hr e0 hb hv hsp => ?_⟩
  refine codeAny_mono (F.run A outer s _ args us vs _ E hr e0 hb hv (h vs H Q E hsp)) fun r s' hc => ?_
  cases r with
  | error e => exact hc
  | ok fl =>
    cases fl with
    | ret u =>
      obtain ⟨v, H', os, bare, un, hok, rv, a, good, ys, hn, hy, gy, q⟩ := hc
      refine ⟨v, _, os, bare, ?_, hok_shut hy gy hok, rv, q⟩
      refine ⟨un.keep, un.slot, fun b o e n h1 => ?_, un.there, fun b ys' e => ?_, fun b o u' e => ?_, fun b ps' e => ?_⟩
      · have hb : b ≠ a := fun z => by
          have q1 := un.free b o e n h1
          rw [z, hy] at q1
          cases q1
        rw [upd_ne hb]
        exact un.free b o e n h1
      · rw [upd_ne (ne_of_none e hn)]
        exact un.tups b ys' e
      · rw [upd_ne (ne_of_none e hn)]
        exact un.frzs b o u' e
      · rw [upd_ne (ne_of_none e hn)]
        exact un.tbls b ps' e
    | next => exact hc
    | brk => exact hc
    | cont => exact hc
end
end FF
/-! Fivefault, part 2: defs by their bodies, names of the top, the draws' source. -/
namespace FF
open PySem PySem.Spec PyProof.Rows L2

/-! ### names of the top -/
section
variable {X : Cx} {x : Str} {pos : Pos}
theorem pe_gi {i : Int} (h : ∃ t, X.mg x = some (.int i t)) (hg : Gl X x := by rfl) (hd : (x == ("__debug__" : Str)) = false := by decide) : PE X (.Name x pos) (tC (.int i)) := by
  obtain ⟨t, h⟩ := h
  exact pe_glob hg h ⟨t, rfl⟩ hd
theorem pe_gs {z : Str} (h : ∃ t, X.mg x = some (.str z t)) (hg : Gl X x := by rfl) (hd : (x == ("__debug__" : Str)) = false := by decide) : PE X (.Name x pos) (tC (.str z)) := by
  obtain ⟨t, h⟩ := h
  exact pe_glob hg h ⟨t, rfl⟩ hd
theorem pe_gT {a : Addr} (h : X.mg x = some (.ref a)) (hg : Gl X x := by rfl) (hd : (x == ("__debug__" : Str)) = false := by decide) : PE X (.Name x pos) (tC (.ref a)) := pe_glob (v := .ref a) hg h rfl hd
end
/-! ### a def by its body -/
section
variable {P : Program} {w : World} {K : PySem.W.Frag} {mg : Str → Option Value} {base : Heap}
theorem def_mk {x : Str} {st : Stmt} {f : Addr} {fd : FuncData} {dvs : List V} {kws : List (Str × V)} {N ps : List Str} {k : Nat} {sp : Sp} (F : FunD K x x (defArgs st) (defBody st) (defScope st) dvs kws f fd) (hm : mg x = some (.ref f)) (hb : Binds K fd ps [])
    (S : FnScope N ps (defScope st)) (len : ∀ vs H Q E, sp vs H Q E → vs.length = ps.length)
    (body : ∀ (cdv : Value) (A : Around) (outer : List Env) (s : Shared) (H : Hp) (vs : List V) (Q : VK) (E : XK), Room k (A.deeper (envOfC x (defScope st) s.heap.objs.size f cdv)) → sp vs H Q E →
      ∃ t, PSs (cxOf CX0 P w K mg base N x (defScope st) f cdv A outer s H E).nox (defBody st) t ∧ t { nx := fun _ H' => Q .non H', rt := Q } (start N vs) H) : Def P w K mg base x (k + 1) ps sp :=
  ⟨f, fd, FunD.ok F S len (fun cdv A outer s H vs Q E hr h => let ⟨t, a, b⟩ := body cdv A outer s H vs Q E hr h; ⟨t, PSs.nox a, b⟩), hm, F.kp, hb⟩
/-- two more ways to say it: the list at an address hidden -/
theorem Def.open_ {x : Str} {k : Nat} {ps : List Str} {sp sp' : Sp} (D : Def P w K mg base x k ps sp) (len : ∀ vs H Q E, sp' vs H Q E → vs.length = ps.length)
    (h : ∀ vs H Q E, sp' vs H Q E → ∃ (a : Addr) (good : List V → Prop), H a = some (hid good a) ∧
      ∀ xs, good xs → sp vs (upd H a (.lst xs)) (fun v H' => ∃ ys, H' a = some (.lst ys) ∧ good ys ∧ Q v (upd H' a (hid good a))) E) : Def P w K mg base x k ps sp' := by
  obtain ⟨f, fd, F, r⟩ := D.ex
  exact ⟨f, fd, FnOk.open_ F len h, r⟩
theorem Def.shut_ {x : Str} {k : Nat} {ps : List Str} {sp sp' : Sp} (D : Def P w K mg base x k ps sp) (len : ∀ vs H Q E, sp' vs H Q E → vs.length = ps.length)
    (h : ∀ vs H Q E, sp' vs H Q E → sp vs H (fun v H' => ∃ (a : Addr) (good : List V → Prop) (ys : List V), H a = none ∧ H' a = some (.lst ys) ∧ good ys ∧ Q v (upd H' a (hid good a))) E) : Def P w K mg base x k ps sp' := by
  obtain ⟨f, fd, F, r⟩ := D.ex
  exact ⟨f, fd, FnOk.shut_ F len h, r⟩
end
/-! ### list of a text -/
theorem vals_at : ∀ {xs : List V} {us : List Value}, xs.length = us.length → (∀ (i : Nat) (x : V), xs[i]? = some x → ∃ u, us[i]? = some u ∧ RelV x u) → Vals xs us
  | [], [], _, _ => .nil
  | [], _ :: _, h, _ => by cases h
  | _ :: _, [], h, _ => by cases h
  | x :: xs, u :: us, h, k => by
    obtain ⟨u', e, r⟩ := k 0 x rfl
    cases e
    exact .cons r (vals_at (Nat.succ.inj h) fun i y hy => k (i + 1) y hy)
theorem items_signs {z : Str} {us : Array Value} (h : ItemsOf (SignAt z) us z.cps.size) : Vals (z.cps.toList.map fun c => V.str ⟨#[c]⟩) us.toList := by
  obtain ⟨h1, h2⟩ := h
  refine vals_at (by simp [h1]) fun i x hx => ?_
  rw [List.getElem?_map] at hx
  cases e : z.cps.toList[i]? with
  | none => rw [e] at hx; cases hx
  | some c =>
    rw [e] at hx
    cases hx
    have hi : i < us.size := by
      have := (List.getElem?_eq_some_iff.mp e).1
      simp at this
      omega
    obtain ⟨c', u, e1, e2⟩ := h2 i us[i] (Array.getElem?_eq_getElem hi)
    have e3 : z.cps.toList[i]? = some c' := by simpa using e1
    rw [e] at e3
    cases e3
    exact ⟨us[i], by simp [hi], u, e2⟩
def rListS : List V → Hp → VK → Prop := fun xs H Q => ∃ z : Str, xs = [.str z] ∧ z.length ≤ sizeLine ∧ ∀ l, H l = none → Q (.ref l) (upd H l (.lst (z.cps.toList.map fun c => V.str ⟨#[c]⟩)))
theorem call_list_s {X : Cx} (hc : X.calm = true) : CallR X (.type "list") rListS := by
  intro pins s σ H xs us Q I r h
  obtain ⟨z, rfl, hz, q⟩ := h
  obtain ⟨u, rfl, t, rfl⟩ := Vals.one r
  refine call_list_str (I.ok.hd hc) z t (fun h' tk acc' c' hk hl hi => ?_) hz
  have hv := items_signs hi
  exact ⟨.ref _, _, I.laid (t' := tk) (o := .lst (z.cps.toList.map fun c => V.str ⟨#[c]⟩)) hk (Nat.le_refl _) ⟨by rw [List.length_map]; exact hz, acc'.toList, c', hv, by simpa using hl⟩, rfl, q _ (I.hok.fresh (Nat.le_refl _))⟩
end FF
/-! Fivefault, part 3: data that is well formed; in, not in; measures of values. -/
namespace FF
open PySem PySem.Spec PyProof.Rows L2

/-! ### data that is well formed: texts are short, nested at most 60 deep -/
mutual
def nice : PyData → Bool
  | .none => true
  | .bool _ => true
  | .int _ => true
  | .str x => decide (x.length ≤ 20000) && PyData.strOk x
  | .list xs => decide (xs.length ≤ 20000) && niceAll xs
  | .tuple xs => decide (xs.length ≤ 20000) && niceAll xs
  | .dict _ => false
def niceAll : List PyData → Bool
  | [] => true
  | x :: xs => nice x && niceAll xs
end
mutual
theorem nice_lay : ∀ d : PyData, nice d = true → d.canLay0 = true
  | .none, _ => rfl
  | .bool _, _ => rfl
  | .int _, _ => rfl
  | .str x, h => by
    simp only [nice, Bool.and_eq_true] at h
    simp only [PyData.canLay0]
    exact h.2
  | .list xs, h => by
    simp only [nice, Bool.and_eq_true] at h
    simp only [PyData.canLay0]
    exact niceAll_lay xs h.2
  | .tuple xs, h => by
    simp only [nice, Bool.and_eq_true] at h
    simp only [PyData.canLay0]
    exact niceAll_lay xs h.2
  | .dict _, h => by simp [nice] at h
theorem niceAll_lay : ∀ ds : List PyData, niceAll ds = true → PyData.canLayAll0 ds = true
  | [], _ => rfl
  | x :: xs, h => by
    simp only [niceAll, Bool.and_eq_true] at h
    simp only [PyData.canLayAll0, nice_lay x h.1, niceAll_lay xs h.2, Bool.and_self]
end
theorem niceAll_mem : ∀ {ds : List PyData} {d : PyData}, niceAll ds = true → d ∈ ds → nice d = true
  | x :: xs, d, h, m => by
    simp only [niceAll, Bool.and_eq_true] at h
    rcases List.mem_cons.mp m with e | m
    · rw [e]; exact h.1
    · exact niceAll_mem h.2 m
theorem niceAll_of : ∀ {ds : List PyData}, (∀ d ∈ ds, nice d = true) → niceAll ds = true
  | [], _ => rfl
  | x :: xs, h => by
    simp only [niceAll, Bool.and_eq_true]
    exact ⟨h x (List.mem_cons_self ..), niceAll_of fun d m => h d (List.mem_cons_of_mem _ m)⟩
theorem depthAll_mem : ∀ {ds : List PyData} {d : PyData}, d ∈ ds → d.depth ≤ PyData.depthAll ds
  | x :: xs, d, m => by
    rw [PyData.depthAll]
    rcases List.mem_cons.mp m with e | m
    · rw [e]; omega
    · have := depthAll_mem m; omega
theorem depthAll_of : ∀ {ds : List PyData} {n : Nat}, (∀ d ∈ ds, d.depth ≤ n) → PyData.depthAll ds ≤ n
  | [], _, _ => by rw [PyData.depthAll]; omega
  | x :: xs, n, h => by
    rw [PyData.depthAll]
    have h1 := h x (List.mem_cons_self ..)
    have h2 := depthAll_of fun d m => h d (List.mem_cons_of_mem x m)
    omega
/-- nested at most n deep, with short texts -/
structure Nice (n : Nat) (d : PyData) : Prop where
  ok : nice d = true
  dp : d.depth ≤ n
theorem Nice.shaped {n : Nat} {d : PyData} (h : Nice n d) (hn : n ≤ 64 := by decide) : SeqAt.shaped d = true := by
  have h1 := nice_lay d h.ok
  have h2 : d.depth ≤ 64 := Nat.le_trans h.dp hn
  show (d.canLay0 && decide (d.depth ≤ 64)) = true
  rw [h1, decide_eq_true h2] <;> rfl
theorem Nice.mono {m n : Nat} {d : PyData} (h : Nice m d) (hm : m ≤ n) : Nice n d := ⟨h.ok, Nat.le_trans h.dp hm⟩
theorem Nice.itemT {n : Nat} {ds : List PyData} {d : PyData} (h : Nice n (.tuple ds)) (m : d ∈ ds) : Nice n d := by
  obtain ⟨h1, h2⟩ := h
  simp only [nice, Bool.and_eq_true] at h1
  simp only [PyData.depth] at h2
  have := depthAll_mem m
  exact ⟨niceAll_mem h1.2 m, by omega⟩
theorem Nice.itemL {n : Nat} {ds : List PyData} {d : PyData} (h : Nice n (.list ds)) (m : d ∈ ds) : Nice n d := by
  obtain ⟨h1, h2⟩ := h
  simp only [nice, Bool.and_eq_true] at h1
  simp only [PyData.depth] at h2
  have := depthAll_mem m
  exact ⟨niceAll_mem h1.2 m, by omega⟩
theorem Nice.tuple {n : Nat} {ds : List PyData} (hl : ds.length ≤ 20000) (h : ∀ d ∈ ds, Nice n d) : Nice (n + 1) (.tuple ds) := by
  refine ⟨by simp only [nice, Bool.and_eq_true, decide_eq_true_eq]; exact ⟨hl, niceAll_of fun d m => (h d m).ok⟩, ?_⟩
  simp only [PyData.depth]
  have := depthAll_of (n := n) fun d m => (h d m).dp
  omega
theorem Nice.list {n : Nat} {ds : List PyData} (hl : ds.length ≤ 20000) (h : ∀ d ∈ ds, Nice n d) : Nice (n + 1) (.list ds) := by
  refine ⟨by simp only [nice, Bool.and_eq_true, decide_eq_true_eq]; exact ⟨hl, niceAll_of fun d m => (h d m).ok⟩, ?_⟩
  simp only [PyData.depth]
  have := depthAll_of (n := n) fun d m => (h d m).dp
  omega
theorem nice_str {z : Str} (h : nice (.str z) = true) : z.length ≤ sizeLine := by
  simp only [nice, Bool.and_eq_true, decide_eq_true_eq] at h
  exact Nat.le_trans h.1 (by decide)

theorem nice_tl {ds : List PyData} (h : nice (.tuple ds) = true) : ds.length ≤ 20000 := by
  simp only [nice, Bool.and_eq_true, decide_eq_true_eq] at h
  exact h.1
theorem nice_ll {ds : List PyData} (h : nice (.list ds) = true) : ds.length ≤ 20000 := by
  simp only [nice, Bool.and_eq_true, decide_eq_true_eq] at h
  exact h.1
theorem nice_ti {ds : List PyData} {d : PyData} (h : nice (.tuple ds) = true) (m : d ∈ ds) : nice d = true := by
  simp only [nice, Bool.and_eq_true, decide_eq_true_eq] at h
  exact niceAll_mem h.2 m
theorem nice_li {ds : List PyData} {d : PyData} (h : nice (.list ds) = true) (m : d ∈ ds) : nice d = true := by
  simp only [nice, Bool.and_eq_true, decide_eq_true_eq] at h
  exact niceAll_mem h.2 m
theorem le_line {n : Nat} (h : n ≤ 20000) : n ≤ sizeLine := Nat.le_trans h (by decide)
theorem lt_line {n : Nat} (h : n ≤ 20000) : n < sizeLine := Nat.lt_of_le_of_lt h (by decide)

/-! ### x in a written tuple or list, for any data -/
def rInDs (K : PySem.W.Frag) (neg : Bool) : R2 := fun x y H Q => ∃ d ds, Dp K H x d ∧ (Dp K H y (.list ds) ∨ Dp K H y (.tuple ds)) ∧ SeqAt.shaped d = true ∧ SeqAt.shaped (.list ds) = true ∧ Q (.bl (if neg then !(ds.any fun z => PyData.eqv z d) else (ds.any fun z => PyData.eqv z d))) H
theorem op_inDs {X : Cx} (hu : X.A.units + 65 < cLine) : OpR X (compareOp .In) (rInDs X.K false) := by
  intro pins s σ H x y v u Q I rx ry h
  obtain ⟨d, ds, hd, he | he, sd, se, q⟩ := h
  · obtain ⟨as, r1⟩ := Dp.reads I d x v hd rx
    obtain ⟨bs, r2⟩ := Dp.reads I (.list ds) y u he ry
    exact SeqAt.in_list_reads r2 r1 (SeqAt.canLay_of_shaped se) (SeqAt.canLay_of_shaped sd) (room_in_shaped sd hu) ⟨.bl _, H, I, rfl, q⟩
  · obtain ⟨as, r1⟩ := Dp.reads I d x v hd rx
    obtain ⟨bs, r2⟩ := Dp.reads I (.tuple ds) y u he ry
    exact SeqAt.in_tuple_reads r2 r1 (SeqAt.canLay_of_shaped se) (SeqAt.canLay_of_shaped sd) (room_in_shaped sd hu) ⟨.bl _, H, I, rfl, q⟩
theorem op_notInDs {X : Cx} (hu : X.A.units + 65 < cLine) : OpR X (compareOp .NotIn) (rInDs X.K true) := by
  intro pins s σ H x y v u Q I rx ry h
  obtain ⟨d, ds, hd, he | he, sd, se, q⟩ := h
  · obtain ⟨as, r1⟩ := Dp.reads I d x v hd rx
    obtain ⟨bs, r2⟩ := Dp.reads I (.list ds) y u he ry
    exact SeqAt.notIn_list_reads r2 r1 (SeqAt.canLay_of_shaped se) (SeqAt.canLay_of_shaped sd) (room_in_shaped sd hu) ⟨.bl _, H, I, rfl, q⟩
  · obtain ⟨as, r1⟩ := Dp.reads I d x v hd rx
    obtain ⟨bs, r2⟩ := Dp.reads I (.tuple ds) y u he ry
    exact SeqAt.notIn_tuple_reads r2 r1 (SeqAt.canLay_of_shaped se) (SeqAt.canLay_of_shaped sd) (room_in_shaped sd hu) ⟨.bl _, H, I, rfl, q⟩

/-! ### letters and measures -/
abbrev lettersS : Str := "abcdefgh"
def isLetS (z : Str) : Bool := match z.cps.toList with
  | [c] => decide (c ∈ lettersS.cps.toList)
  | _ => false
def isLet : PyData → Bool
  | .str z => isLetS z
  | _ => false
def isOp : PyData → Bool
  | .str z => decide (z = ("&" : Str)) || decide (z = ("|" : Str))
  | _ => false
theorem len1 {z : Str} (h : z.length = 1) : ∃ c, z = ⟨#[c]⟩ := by
  obtain ⟨⟨l⟩⟩ := z
  match l, h with
  | [c], _ => exact ⟨c, rfl⟩
theorem isLetS_one {c : Nat} : isLetS ⟨#[c]⟩ = decide (c ∈ lettersS.cps.toList) := rfl
theorem isLetS_no {z : Str} (h : z.length ≠ 1) : isLetS z = false := by
  obtain ⟨⟨l⟩⟩ := z
  match l, h with
  | [], _ => rfl
  | [c], h => exact absurd rfl h
  | _ :: _ :: _, _ => rfl
/-- what stands in a tuple of the form of a term -/
def measP (f : PyData → Int) : PyData → Int
  | .tuple (x :: y :: z :: r) => if isOp x = true then (if (0 : Int) ∈ ((y :: z :: r).map f) then 0 else ((y :: z :: r).map f).sum) else 0
  | _ => 0
/-- the size of a value of the form of a term, at most n deep, or 0 -/
def meas : Nat → PyData → Int
  | 0, _ => 0
  | n + 1, d => if isLet d = true then 1 else if n = 0 then 0 else measP (meas n) d
theorem meas_let {n : Nat} {d : PyData} (h : isLet d = true) : meas n d = if 0 < n then 1 else 0 := by
  cases n with
  | zero => rfl
  | succ n =>
    show (if isLet d = true then (1 : Int) else _) = _
    rw [if_pos h, if_pos (Nat.succ_pos n)]
theorem meas_low {n : Nat} {d : PyData} (h : isLet d = false) (hn : n < 2) : meas n d = 0 := by
  match n, hn with
  | 0, _ => rfl
  | 1, _ =>
    show (if isLet d = true then (1 : Int) else if 0 = 0 then 0 else _) = _
    rw [if_neg (by rw [h]; decide), if_pos rfl]
theorem meas_up {n : Nat} {d : PyData} (h : isLet d = false) (hn : 0 < n) : meas (n + 1) d = measP (meas n) d := by
  show (if isLet d = true then (1 : Int) else if n = 0 then 0 else measP (meas n) d) = _
  rw [if_neg (by rw [h]; decide), if_neg (by omega)]
end FF
/-! Fivefault, part 4: hidden lists read and stored; calls with keywords; tests. -/
namespace FF
open PySem PySem.Spec PyProof.Rows L2

section
variable {X : Cx} {pins : List (Addr × Obj)} {σ : L2.St} {H : Hp} {s : Shared} {a : Addr} {good : List V → Prop}
theorem inv_open (ha : H a = some (hid good a)) (I : Inv X pins σ H s) : ∃ xs, good xs ∧ Inv X pins σ (upd H a (.lst xs)) s := by
  obtain ⟨xs, hg, ok⟩ := hok_open ha I.hok
  have dom : ∀ {b}, H b = none → (upd H a (.lst xs)) b = none := fun {b} n => by
    rw [upd_ne (fun z => by rw [z, ha] at n; cases n)]
    exact n
  have back : ∀ {b o}, H b = some o → (∀ φ, o ≠ .ext φ) → (upd H a (.lst xs)) b = some o := fun {b o} e hb => by
    rw [upd_ne (fun z => by rw [z, ha] at e; cases e; exact hb _ rfl)]
    exact e
  refine ⟨xs, hg, I.ok, I.os, I.bare, ⟨I.base.keep, I.base.slot, fun b o e n x => dom (I.base.free b o e n x), I.base.there, fun b ys e => back (I.base.tups b ys e) (fun _ z => nomatch z), fun b o u e => back (I.base.frzs b o u e) (fun _ z => nomatch z), fun b ps e => ?_⟩, I.loc, I.cell, dom I.free, fun x c e => dom (I.freeC x c e), fun p hp => ?_, ok, I.len⟩
  · obtain ⟨m, q⟩ := I.base.tbls b ps e
    exact ⟨m, back q (fun _ z => nomatch z)⟩
  · obtain ⟨h1, h2, h3⟩ := I.pin p hp
    exact ⟨h1, dom h2, h3⟩
theorem inv_shut {xs : List V} (ha : H a = some (.lst xs)) (hg : good xs) (I : Inv X pins σ H s) : Inv X pins σ (upd H a (hid good a)) s := by
  have dom : ∀ {b}, H b = none → (upd H a (hid good a)) b = none := fun {b} n => by
    rw [upd_ne (fun z => by rw [z, ha] at n; cases n)]
    exact n
  have back : ∀ {b o}, H b = some o → (∀ ys, o ≠ .lst ys) → (upd H a (hid good a)) b = some o := fun {b o} e hb => by
    rw [upd_ne (fun z => by rw [z, ha] at e; cases e; exact hb _ rfl)]
    exact e
  refine ⟨I.ok, I.os, I.bare, ⟨I.base.keep, I.base.slot, fun b o e n x => dom (I.base.free b o e n x), I.base.there, fun b ys e => back (I.base.tups b ys e) (fun _ z => nomatch z), fun b o u e => back (I.base.frzs b o u e) (fun _ z => nomatch z), fun b ps e => ?_⟩, I.loc, I.cell, dom I.free, fun x c e => dom (I.freeC x c e), fun p hp => ?_, hok_shut ha hg I.hok, I.len⟩
  · obtain ⟨m, q⟩ := I.base.tbls b ps e
    exact ⟨m, back q (fun _ z => nomatch z)⟩
  · obtain ⟨h1, h2, h3⟩ := I.pin p hp
    exact ⟨h1, dom h2, h3⟩
end
/-- xs[i] of a hidden list -/
def rIxH : R2 := fun x y H Q => ∃ (a : Addr) (good : List V → Prop) (i : Int), x = .ref a ∧ y = .int i ∧ H a = some (hid good a) ∧ ∀ xs, good xs → ∃ v, atI xs i = some v ∧ Q v H
theorem ix_hid {X : Cx} : IxR X rIxH := by
  intro value slice pins s σ H x y v u Q I rx ry h hs
  obtain ⟨a, good, i, rfl, rfl, ha, q⟩ := h
  obtain ⟨xs, hg, I1⟩ := inv_open ha I
  obtain ⟨z, hz, q⟩ := q xs hg
  refine thn (ix_list value slice pins s σ _ _ _ v u (fun v H' => H' = upd H a (.lst xs) ∧ v = z) I1 rx ry ⟨a, xs, i, z, rfl, rfl, SqL.of upd_same, hz, rfl, rfl⟩ hs) fun v s1 ⟨v', H', I2, r, e1, e2⟩ => ?_
  subst e1 e2
  have I3 := inv_shut (good := good) upd_same hg I2
  rw [upd_back ha] at I3
  exact ⟨_, H, I3, r, q⟩
/-- xs[i] = v of a hidden list -/
def rSetH : V → V → V → Hp → (Hp → Prop) → Prop := fun o i v H Q => ∃ (a : Addr) (good : List V → Prop) (k : Int), o = .ref a ∧ i = .int k ∧ H a = some (hid good a) ∧ (∀ xs, good xs → ∃ j, ixN xs.length k = some j ∧ good (xs.set j v)) ∧ Q H
theorem set_hid {X : Cx} : PSet X rSetH := by
  intro pins s σ H o i v u1 u2 u3 Q I r1 r2 r3 h
  obtain ⟨a, good, k, rfl, rfl, ha, hj, q⟩ := h
  obtain ⟨xs, hg, I1⟩ := inv_open ha I
  obtain ⟨j, e, hg2⟩ := hj xs hg
  refine thn (set_list pins s σ _ _ _ v u1 u2 u3 (fun H' => H' = upd (upd H a (.lst xs)) a (.lst (xs.set j v))) I1 r1 r2 r3 ⟨a, xs, k, j, rfl, rfl, upd_same, e, rfl⟩) fun _ s1 ⟨H', I2, e1⟩ => ?_
  subst e1
  rw [upd_upd] at I2
  have I3 : Inv X pins σ (upd (upd H a (.lst (xs.set j v))) a (hid good a)) s1 := inv_shut (good := good) upd_same hg2 I2
  rw [upd_back ha] at I3
  exact ⟨H, I3, q⟩
/-- a list that is made, hidden: the rule for a display -/
def tHide (good : List V → Prop) (te : TE) : TE := fun σ H Q => te σ H fun v H' => ∃ a xs, v = .ref a ∧ H' a = some (.lst xs) ∧ good xs ∧ Q (.ref a) (upd H' a (hid good a))
theorem pe_hide {X : Cx} {e : Expr} {te : TE} {good : List V → Prop} (h : PE X e te) : PE X e (tHide good te) := by
  refine ⟨fun pins s σ H Q I hw => ?_⟩
  refine thn (h.run pins s σ H _ I hw) fun v s1 ⟨v', H', I1, r, a, xs, e, ha, hg, q⟩ => ?_
  subst e
  exact ⟨_, _, inv_shut ha hg I1, r, q⟩

/-! ### calls with keywords -/
section
variable {K : PySem.W.Frag} {x qual : Str} {params : Arguments} {body : List Stmt} {scope : Scope} {kws : List (Str × V)} {f : Addr} {fd : FuncData} {ps : List Str}
theorem kbinds0 (F : FunD K x qual params body scope [] kws f fd) (n : Nat) (ks : List Str) (ms : List (Str × V)) (g : {α : Type} → List α → List α → List α → List α) (hk : kws ≠ []) (hms : ∀ q ∈ ms, q ∈ kws)
    (hrel : ∀ {vs mz zs : List V} {us mv ws : List Value}, Vals vs us → Vals mz mv → Vals zs ws → Vals (g vs mz zs) (g us mv ws))
    (h : ∀ (D : Addr) (doc pm : Value) (an : Option Addr) (cdv ct : Value) (us mv ws : List Value), us.length = n → mv.length = ms.length → ws.length = ks.length →
      KwChain D ((ms.map (·.1)).zip mv) (bindArgs (PySem.W.fnOf x qual params body scope .none (.ref D) doc pm an cdv ct) ⟨us, ks.zip ws⟩) (ps.zip (g us mv ws))) :
    ∃ mv : List Value, KBn K fd ps n ks (fun us ws => g us mv ws) (fun vs zs => g vs (ms.map (·.2)) zs) := by
  obtain ⟨oc, od, dV, kV, doc, pm, an, cdv, ct, osl, rfl, lk, hcd, hD, hK⟩ := F.ex
  rcases hD with ⟨_, rfl⟩ | ⟨e, _⟩
  · rcases hK with e | ⟨D, rfl, hq⟩
    · exact absurd e hk
    · obtain ⟨mv, hl, rk, hks⟩ := kwd_vals (ms := ms) fun q hm => hq q (hms q hm)
      exact ⟨mv, ⟨fun s us ws X l1 l2 => BindsTo.of_looks fun M => KwChain.looks X hks (h D doc pm an cdv ct us mv ws l1 hl l2), fun r1 r2 => hrel r1 rk r2⟩⟩
  · exact absurd rfl e
end
section
variable {X : Cx} {CX : CXT} {k n : Nat} {f : Addr} {fd : FuncData} {ps ks : List Str} {sp : Sp} {E : XK} {x : Str} {p pos : Pos} {kws : List Keyword} {tk : TA} {g : List Value → List Value → List Value} {gV : List V → List V → List V}
def tCallN0 (m : Nat) (sp : Sp) (gV : List V → List V → List V) (E : XK) (tk : TA) : TE := fun σ H Q => tk σ H fun zs H2 => zs.length = m ∧ sp (gV [] zs) H2 Q E
theorem pe_callN0 (F : FnOk X.prog X.w X.K X.mg X.base CX k f fd ps sp) (hr : Room k X.A) (hg : Gl X x) (hm : X.mg x = some (.ref f)) (hk : PySem.W.keepIn X.K (.ref f) = true) (hb : KBn X.K fd ps 0 ks g gV) (hx : Passes CX X E)
    (hkw : PK X kws tk) (hall : (backToKw pos (keywordEach kws X.env)).all (·.1.isSome) = true := by rfl) (hks : (backToKw pos (keywordEach kws X.env)).filterMap (·.1) = ks := by rfl)
    (hdb : (x == ("__debug__" : Str)) = false := by decide)
    (hpl : ((backTo pos (starEach [] X.env)).any (·.1) || (backToKw pos (keywordEach kws X.env)).any (·.1.isNone)) = false := by rfl) :
    PE X (.Call (.Name x p) [] kws pos) (tCallN0 ks.length sp gV E tk) := by
  refine ⟨fun pins s σ H Q I h => ?_⟩
  refine wpAny_Call_Name_kw (ld_glob I hg hm ?_ hdb)
  refine PySem.W.callWith_KW0 (h₀ := X.base) I.ok.mod.kin hk hall ?_ hpl
  refine thn (hkw.run pos pins s σ H _ I h) fun ws s2 ⟨zs, H2, I2, rz, l2, q2⟩ => ⟨I2.kIn, ?_⟩
  rw [hks]
  exact run_fnN F hr hb hx I2 .nil rz rfl l2 q2
end

/-! ### tests -/
theorem if_int {a b : Int} {A B : Prop} (h1 : a = b → A) (h2 : a ≠ b → B) : if decide (V.int a = V.int b) = true then A else B := by
  by_cases h : a = b
  · rw [decide_eq_true (congrArg V.int h)]
    exact iteT (h1 h)
  · rw [decide_eq_false (fun z => h (V.int.inj z))]
    exact iteF (h2 h)
theorem if_dec {p : Prop} [Decidable p] {A B : Prop} (h1 : p → A) (h2 : ¬ p → B) : if decide p = true then A else B := by
  by_cases h : p
  · rw [decide_eq_true h]
    exact iteT (h1 h)
  · rw [decide_eq_false h]
    exact iteF (h2 h)
theorem if_b {b : Bool} {A B : Prop} (h1 : b = true → A) (h2 : b = false → B) : if b = true then A else B := by
  cases b
  · exact iteF (h2 rfl)
  · exact iteT (h1 rfl)
theorem if_nb {b : Bool} {A B : Prop} (h1 : b = false → A) (h2 : b = true → B) : if (!b) = true then A else B := by
  cases b
  · exact iteT (h1 rfl)
  · exact iteF (h2 rfl)
theorem qi {Q : VK} {H : Hp} {a b : Int} (h : Q (.int a) H) (e : a = b) : Q (.int b) H := e ▸ h
theorem qb {Q : VK} {H : Hp} {a b : Bool} (h : Q (.bl a) H) (e : a = b) : Q (.bl b) H := e ▸ h
theorem r65 {k : Nat} {A : Around} (hr : Room k A) : A.units + 65 < cLine := by have := hr.un; omega
theorem at0 {α : Type} {x : α} {xs : List α} : atI (x :: xs) 0 = some x := atI_nat (j := 0) rfl
end FF
/-! Fivefault, part 5: tuples never change; comprehensions that map; slices. -/
namespace FF
open PySem PySem.Spec PyProof.Rows L2

/-! ### tuples stay -/
def SameT (H H' : Hp) : Prop := ∀ b xs, H b = some (.tup xs) → H' b = some (.tup xs)
theorem SameT.refl (H : Hp) : SameT H H := fun _ _ h => h
theorem SameT.trans {H H1 H2 : Hp} (a : SameT H H1) (b : SameT H1 H2) : SameT H H2 := fun c o h => b c o (a c o h)
theorem Same.T {H H' : Hp} (e : Same H H') : SameT H H' := fun b xs h => e b _ h
theorem SameT.upd {H H' : Hp} {p : Addr} {o : HO} (e : SameT H H') (h : ∀ xs, H' p ≠ some (.tup xs)) : SameT H (upd H' p o) := fun b xs q => by
  have := e b xs q
  rw [upd_ne (fun z => h xs (by rw [← z]; exact this))]
  exact this
theorem SameT.updL {H H' : Hp} {p : Addr} {o : HO} {ys : List V} (e : SameT H H') (h : H' p = some (.lst ys)) : SameT H (L2.upd H' p o) := e.upd fun xs z => by rw [h] at z; cases z
def SqU (K : PySem.W.Frag) (H : Hp) (a : Addr) (xs : List V) : Prop :=
  H a = some (.tup xs) ∨ ∃ (o : Obj) (its : Array Value) (n : Nat), K.lookup a = some o ∧ o.cls = .type "tuple" ∧ o.data = .seq its n ∧ its.size ≤ sizeLine ∧ Vals xs its.toList
theorem SqU.sqT {K : PySem.W.Frag} {H : Hp} {a : Addr} {xs : List V} (h : SqU K H a xs) : SqT K H a xs := by
  rcases h with h | h
  · exact .inl (.inl h)
  · exact .inr h
theorem SqU.up {K : PySem.W.Frag} {H H' : Hp} {a : Addr} {xs : List V} (e : SameT H H') (h : SqU K H a xs) : SqU K H' a xs := by
  rcases h with h | h
  · exact .inl (e _ _ h)
  · exact .inr h
mutual
/-- data of tuples, texts and the like: no lists -/
inductive Tp (K : PySem.W.Frag) (H : Hp) : V → PyData → Prop
  | non : Tp K H .non .none
  | bl (b : Bool) : Tp K H (.bl b) (.bool b)
  | int (i : Int) : Tp K H (.int i) (.int i)
  | str (x : Str) : Tp K H (.str x) (.str x)
  | tup {a : Addr} {xs : List V} {ds : List PyData} : SqU K H a xs → TpAll K H xs ds → Tp K H (.ref a) (.tuple ds)
inductive TpAll (K : PySem.W.Frag) (H : Hp) : List V → List PyData → Prop
  | nil : TpAll K H [] []
  | cons {v : V} {vs : List V} {d : PyData} {ds : List PyData} : Tp K H v d → TpAll K H vs ds → TpAll K H (v :: vs) (d :: ds)
end
section
variable {K : PySem.W.Frag} {H H' : Hp}
mutual
theorem Tp.dp : ∀ {v : V} {d : PyData}, Tp K H v d → Dp K H v d
  | _, _, .non => .non
  | _, _, .bl b => .bl b
  | _, _, .int i => .int i
  | _, _, .str x => .str x
  | _, _, .tup h a => .tup h.sqT a.dp
theorem TpAll.dp : ∀ {vs : List V} {ds : List PyData}, TpAll K H vs ds → DpAll K H vs ds
  | _, _, .nil => .nil
  | _, _, .cons h a => .cons h.dp a.dp
end
mutual
theorem Tp.up (e : SameT H H') : ∀ {v : V} {d : PyData}, Tp K H v d → Tp K H' v d
  | _, _, .non => .non
  | _, _, .bl b => .bl b
  | _, _, .int i => .int i
  | _, _, .str x => .str x
  | _, _, .tup h a => .tup (h.up e) (a.up e)
theorem TpAll.up (e : SameT H H') : ∀ {vs : List V} {ds : List PyData}, TpAll K H vs ds → TpAll K H' vs ds
  | _, _, .nil => .nil
  | _, _, .cons h a => .cons (h.up e) (a.up e)
end
theorem TpAll.len : ∀ {vs : List V} {ds : List PyData}, TpAll K H vs ds → vs.length = ds.length
  | _, _, .nil => rfl
  | _, _, .cons _ t => congrArg Nat.succ (TpAll.len t)
theorem TpAll.get : ∀ {vs : List V} {ds : List PyData} {i : Nat} {v : V}, TpAll K H vs ds → vs[i]? = some v → ∃ d, ds[i]? = some d ∧ Tp K H v d
  | _, _, 0, _, .cons h _, e => by cases e; exact ⟨_, rfl, h⟩
  | _, _, i + 1, _, .cons _ t, e => TpAll.get (i := i) t e
theorem TpAll.app : ∀ {vs ws : List V} {ds es : List PyData}, TpAll K H vs ds → TpAll K H ws es → TpAll K H (vs ++ ws) (ds ++ es)
  | _, _, _, _, .nil, r => r
  | _, _, _, _, .cons h t, r => .cons h (t.app r)
theorem TpAll.of_get : ∀ {vs : List V} {ds : List PyData}, vs.length = ds.length → (∀ (i : Nat) (v : V) (d : PyData), vs[i]? = some v → ds[i]? = some d → Tp K H v d) → TpAll K H vs ds
  | [], [], _, _ => .nil
  | [], _ :: _, h, _ => by cases h
  | _ :: _, [], h, _ => by cases h
  | v :: vs, d :: ds, h, k => .cons (k 0 v d rfl rfl) (TpAll.of_get (Nat.succ.inj h) fun i v d h1 h2 => k (i + 1) v d h1 h2)
end

/-! ### slices t[1:] -/
theorem cut1 {x : V} {xs : List V} : cutV (x :: xs) (some 1) none = xs := by
  show (((x :: xs).drop (HT.sIx (xs.length + 1) 0 (some ((1 : Nat) : Int)))).take (HT.sIx (xs.length + 1) (xs.length + 1) none - HT.sIx (xs.length + 1) 0 (some ((1 : Nat) : Int)))) = xs
  rw [HT.sIx_nat, HT.sIx_none, show min 1 (xs.length + 1) = 1 by omega]
  show xs.take (xs.length + 1 - 1) = xs
  rw [Nat.add_sub_cancel, List.take_length]
theorem notWhole1 {x : V} {xs : List V} : ¬ (HT.sIx (x :: xs).length 0 (some 1) = 0 ∧ HT.sIx (x :: xs).length (x :: xs).length none = (x :: xs).length) := by
  rintro ⟨h, _⟩
  have : HT.sIx (xs.length + 1) 0 (some ((1 : Nat) : Int)) = 0 := h
  rw [HT.sIx_nat] at this
  omega

/-! ### [e for x in xs] -/
section
variable {K : PySem.W.Frag} {a : Addr} {xs : List V} {te : TE} {vs : List Nat} {σ : L2.St} {H1 : Hp} {D : Addr} {Qd : Hp → Prop} {j : Nat}
/-- what a step of the loop over the list gives -/
theorem lc_turn {i : Nat} {H : Hp} {x : V} {R : Nat → V → Hp → Prop} (mono : ∀ i y H H', SameT H H' → R i y H → R i y H') (hD : H1 D = none)
    (p : Same H1 H ∧ ∃ ys, H D = some (.lst ys) ∧ ys.length = i ∧ ∀ m y, ys[m]? = some y → R m y H) (hi : i < sizeLine)
    (st : ∀ Q' : VK, (∀ y H3, Same H H3 → R i y H3 → Q' y H3) → te ((wipe σ vs).set j (some x)) H Q') :
    te ((wipe σ vs).set j (some x)) H fun y H4 => ∃ acc, H4 D = some (.lst acc) ∧ acc.length < sizeLine ∧ (Same H1 (upd H4 D (.lst (acc ++ [y]))) ∧ ∃ ys, (upd H4 D (.lst (acc ++ [y]))) D = some (.lst ys) ∧ ys.length = i + 1 ∧ ∀ m y', ys[m]? = some y' → R m y' (upd H4 D (.lst (acc ++ [y])))) := by
  obtain ⟨e1, ys, h2, h3, h4⟩ := p
  refine st _ fun y H3 e3 r => ?_
  have hd := e3 _ _ h2
  refine ⟨ys, hd, by omega, fun b o q => ?_, ys ++ [y], upd_same, by simp [h3], fun m y' q => ?_⟩
  · rw [upd_ne (ne_of_none q hD)]
    exact e3 _ _ (e1 _ _ q)
  · have eT : SameT H3 (upd H3 D (.lst (ys ++ [y]))) := (SameT.refl H3).updL hd
    by_cases hm : m < ys.length
    · rw [List.getElem?_append_left hm] at q
      exact mono _ _ _ _ ((Same.T e3).trans eT) (h4 m y' q)
    · have : m = ys.length := by
        have := (List.getElem?_eq_some_iff.mp q).1
        simp at this
        omega
      subst this
      rw [List.getElem?_append_right (Nat.le_refl _), Nat.sub_self] at q
      cases q
      rw [h3]
      exact mono _ _ _ _ eT r
theorem lc_mapT (R : Nat → V → Hp → Prop) (mono : ∀ i y H H', SameT H H' → R i y H → R i y H') (hD : H1 D = none) (hs : SqT K H1 a xs) (hz : xs.length ≤ sizeLine)
    (hw : ∀ x, wipe ((wipe σ vs).set j (some x)) vs = wipe σ vs)
    (step : ∀ i x H2, xs[i]? = some x → Same H1 H2 → ∀ Q' : VK, (∀ y H3, Same H2 H3 → R i y H3 → Q' y H3) → te ((wipe σ vs).set j (some x)) H2 Q')
    (done : ∀ H2 ys, Same H1 H2 → H2 D = some (.lst ys) → ys.length = xs.length → (∀ (i : Nat) (y : V), ys[i]? = some y → R i y H2) → Qd H2) :
    ∃ W : Nat → Nat → Hp → Prop, (∃ m, W 0 m (upd H1 D (.lst []))) ∧ ∀ i m H, W i m H →
      ((Itt K a).stop i H ∧ Qd H) ∨ ((Itt K a).go i H ∧ ∃ Nx : Hp → Prop, (∀ H', Nx H' → ∃ m', m' < m ∧ W (i + 1) m' H') ∧ ∀ x H', (Itt K a).yld i H x H' → gName j x (wipe σ vs) H' fun σ2 H2 => wipe σ2 vs = wipe σ vs ∧ tYes σ2 H2 fun b H3 =>
        if b = true then te σ2 H3 fun y H4 => ∃ acc, H4 D = some (.lst acc) ∧ acc.length < sizeLine ∧ Nx (upd H4 D (.lst (acc ++ [y]))) else Nx H3) :=
  lc_tup (fun i H => Same H1 H ∧ ∃ ys, H D = some (.lst ys) ∧ ys.length = i ∧ ∀ m y, ys[m]? = some y → R m y H)
    ⟨same_new hD _, [], upd_same, rfl, fun m y q => by simp at q⟩ (fun i H _ p => up_t p.1 hs)
    (fun i x H hx p => ⟨hw x, lc_turn mono hD p (Nat.lt_of_lt_of_le (List.getElem?_eq_some_iff.mp hx).1 hz) (step i x H hx p.1)⟩)
    fun H ⟨e, ys, h1, h2, h3⟩ => done H ys e h1 h2 h3
theorem lc_mapL (R : Nat → V → Hp → Prop) (mono : ∀ i y H H', SameT H H' → R i y H → R i y H') (hD : H1 D = none) (hs : SqL K H1 a xs) (hz : xs.length ≤ sizeLine)
    (hw : ∀ x, wipe ((wipe σ vs).set j (some x)) vs = wipe σ vs)
    (step : ∀ i x H2, xs[i]? = some x → Same H1 H2 → ∀ Q' : VK, (∀ y H3, Same H2 H3 → R i y H3 → Q' y H3) → te ((wipe σ vs).set j (some x)) H2 Q')
    (done : ∀ H2 ys, Same H1 H2 → H2 D = some (.lst ys) → ys.length = xs.length → (∀ (i : Nat) (y : V), ys[i]? = some y → R i y H2) → Qd H2) :
    ∃ W : Nat → Nat → Hp → Prop, (∃ m, W 0 m (upd H1 D (.lst []))) ∧ ∀ i m H, W i m H →
      ((Itl K a).stop i H ∧ Qd H) ∨ ((Itl K a).go i H ∧ ∃ Nx : Hp → Prop, (∀ H', Nx H' → ∃ m', m' < m ∧ W (i + 1) m' H') ∧ ∀ x H', (Itl K a).yld i H x H' → gName j x (wipe σ vs) H' fun σ2 H2 => wipe σ2 vs = wipe σ vs ∧ tYes σ2 H2 fun b H3 =>
        if b = true then te σ2 H3 fun y H4 => ∃ acc, H4 D = some (.lst acc) ∧ acc.length < sizeLine ∧ Nx (upd H4 D (.lst (acc ++ [y]))) else Nx H3) :=
  lc_list (fun i H => Same H1 H ∧ ∃ ys, H D = some (.lst ys) ∧ ys.length = i ∧ ∀ m y, ys[m]? = some y → R m y H)
    ⟨same_new hD _, [], upd_same, rfl, fun m y q => by simp at q⟩ (fun i H _ p => up_l p.1 hs)
    (fun i x H hx p => ⟨hw x, lc_turn mono hD p (Nat.lt_of_lt_of_le (List.getElem?_eq_some_iff.mp hx).1 hz) (step i x H hx p.1)⟩)
    fun H ⟨e, ys, h1, h2, h3⟩ => done H ys e h1 h2 h3
theorem lc_mapR {n : Nat} {lo : Int} (R : Nat → V → Hp → Prop) (mono : ∀ i y H H', SameT H H' → R i y H → R i y H') (hD : H1 D = none) (hz : n ≤ sizeLine)
    (hw : ∀ x, wipe ((wipe σ vs).set j (some x)) vs = wipe σ vs)
    (step : ∀ i H2, i < n → Same H1 H2 → ∀ Q' : VK, (∀ y H3, Same H2 H3 → R i y H3 → Q' y H3) → te ((wipe σ vs).set j (some (.int (lo + i)))) H2 Q')
    (done : ∀ H2 ys, Same H1 H2 → H2 D = some (.lst ys) → ys.length = n → (∀ (i : Nat) (y : V), ys[i]? = some y → R i y H2) → Qd H2) :
    ∃ W : Nat → Nat → Hp → Prop, (∃ m, W 0 m (upd H1 D (.lst []))) ∧ ∀ i m H, W i m H →
      ((Itr lo n).stop i H ∧ Qd H) ∨ ((Itr lo n).go i H ∧ ∃ Nx : Hp → Prop, (∀ H', Nx H' → ∃ m', m' < m ∧ W (i + 1) m' H') ∧ ∀ x H', (Itr lo n).yld i H x H' → gName j x (wipe σ vs) H' fun σ2 H2 => wipe σ2 vs = wipe σ vs ∧ tYes σ2 H2 fun b H3 =>
        if b = true then te σ2 H3 fun y H4 => ∃ acc, H4 D = some (.lst acc) ∧ acc.length < sizeLine ∧ Nx (upd H4 D (.lst (acc ++ [y]))) else Nx H3) :=
  lc_range (fun i H => Same H1 H ∧ ∃ ys, H D = some (.lst ys) ∧ ys.length = i ∧ ∀ m y, ys[m]? = some y → R m y H)
    ⟨same_new hD _, [], upd_same, rfl, fun m y q => by simp at q⟩
    (fun i H hx p => ⟨hw _, lc_turn mono hD p (Nat.lt_of_lt_of_le hx hz) (step i H hx p.1)⟩)
    fun H ⟨e, ys, h1, h2, h3⟩ => done H ys e h1 h2 h3
/-- the lists' items told by a function of the place -/
theorem eq_map_of {α : Type} {ys : List V} {ds : List α} {f : α → V} (hl : ys.length = ds.length) (h : ∀ (i : Nat) (y : V), ys[i]? = some y → ∃ d, ds[i]? = some d ∧ y = f d) : ys = ds.map f := by
  refine List.ext_getElem? fun i => ?_
  rw [List.getElem?_map]
  cases e : ys[i]? with
  | none =>
    have : ds.length ≤ i := by rw [← hl]; exact List.getElem?_eq_none_iff.mp e
    rw [List.getElem?_eq_none_iff.mpr this] <;> rfl
  | some y =>
    obtain ⟨d, h1, h2⟩ := h i y e
    rw [h1, h2] <;> rfl
end
end FF
/-! Fivefault, part 6: comprehensions over zip. -/
namespace FF
open PySem PySem.Spec PyProof.Rows L2
def ItS (S : Hp → Addr → List V → Prop) (a b : Addr) : It :=
  ⟨fun i H => ∃ (xs ys : List V) (x y : V), S H a xs ∧ S H b ys ∧ xs[i]? = some x ∧ ys[i]? = some y,
    fun i H v H' => ∃ T x y, v = .ref T ∧ H T = none ∧ H' = upd H T (.tup [x, y]) ∧ (∀ xs, S H a xs → xs[i]? = some x) ∧ ∀ ys, S H b ys → ys[i]? = some y,
    fun i H => ∃ xs ys : List V, S H a xs ∧ S H b ys ∧ (xs.length ≤ i ∨ ys.length ≤ i)⟩
section
variable {K : PySem.W.Frag} {S : Hp → Addr → List V → Prop} {a b : Addr} {xs ys : List V} {te : TE} {vs : List Nat} {σ : L2.St} {H1 : Hp} {D : Addr} {Qd : Hp → Prop} {j k : Nat}
theorem lc_zipS (up : ∀ {H H' a xs}, Same H H' → S H a xs → S H' a xs) (R : Nat → V → Hp → Prop) (mono : ∀ i y H H', SameT H H' → R i y H → R i y H') (hD : H1 D = none) (hx : S H1 a xs) (hy : S H1 b ys) (hl : xs.length = ys.length) (hz : xs.length ≤ sizeLine)
    (hw : ∀ x y, wipe (((wipe σ vs).set j (some x)).set k (some y)) vs = wipe σ vs)
    (step : ∀ i x y H2, xs[i]? = some x → ys[i]? = some y → Same H1 H2 → ∀ Q' : VK, (∀ u H3, Same H2 H3 → R i u H3 → Q' u H3) → te (((wipe σ vs).set j (some x)).set k (some y)) H2 Q')
    (done : ∀ H2 us, Same H1 H2 → H2 D = some (.lst us) → us.length = xs.length → (∀ (i : Nat) (u : V), us[i]? = some u → R i u H2) → Qd H2) :
    ∃ W : Nat → Nat → Hp → Prop, (∃ m, W 0 m (upd H1 D (.lst []))) ∧ ∀ i m H, W i m H →
      ((ItS S a b).stop i H ∧ Qd H) ∨ ((ItS S a b).go i H ∧ ∃ Nx : Hp → Prop, (∀ H', Nx H' → ∃ m', m' < m ∧ W (i + 1) m' H') ∧ ∀ x H', (ItS S a b).yld i H x H' → gTup K 2 (gCons (gName j) (gCons (gName k) gNil)) x (wipe σ vs) H' fun σ2 H2 => wipe σ2 vs = wipe σ vs ∧ tYes σ2 H2 fun b H3 =>
        if b = true then te σ2 H3 fun y H4 => ∃ acc, H4 D = some (.lst acc) ∧ acc.length < sizeLine ∧ Nx (upd H4 D (.lst (acc ++ [y]))) else Nx H3) := by
  let Pv : Nat → Hp → Prop := fun i H => Same H1 H ∧ ∃ us, H D = some (.lst us) ∧ us.length = i ∧ ∀ (m : Nat) (u : V), us[m]? = some u → R m u H
  refine ⟨fun i m H => m = xs.length - i ∧ i ≤ xs.length ∧ Pv i H, ⟨xs.length, by simp, Nat.zero_le _, same_new hD _, [], upd_same, rfl, fun m u q => by simp at q⟩, ?_⟩
  rintro i m H ⟨rfl, hi, e, us, h2, h3, h4⟩
  by_cases hlt : i < xs.length
  · refine .inr ⟨⟨xs, ys, xs[i], ys[i]'(by omega), up e hx, up e hy, by simp [hlt], by simp [show i < ys.length by omega]⟩, Pv (i + 1), fun H' p' => ⟨xs.length - (i + 1), by omega, rfl, hlt, p'⟩, ?_⟩
    rintro v H' ⟨T, x, y, rfl, nT, rfl, qx, qy⟩
    refine ⟨T, [x, y], rfl, SqT.of upd_same, rfl, x, [y], rfl, y, [], rfl, rfl, hw x y, ?_⟩
    have eT := same_new nT (.tup [x, y])
    have e' := e.trans eT
    show te (((wipe σ vs).set j (some x)).set k (some y)) (upd H T (.tup [x, y])) _
    refine step i x y _ (qx xs (up e hx)) (qy ys (up e hy)) e' _ fun u H3 e3 r => ?_
    have hd := e3 _ _ (eT _ _ h2)
    refine ⟨us, hd, by omega, fun b o q => ?_, us ++ [u], upd_same, by simp [h3], fun m u' q => ?_⟩
    · rw [upd_ne (ne_of_none q hD)]
      exact e3 _ _ (e' _ _ q)
    · have eD : SameT H3 (upd H3 D (.lst (us ++ [u]))) := (SameT.refl H3).updL hd
      by_cases hm : m < us.length
      · rw [List.getElem?_append_left hm] at q
        exact mono _ _ _ _ (((Same.T eT).trans (Same.T e3)).trans eD) (h4 m u' q)
      · have : m = us.length := by
          have := (List.getElem?_eq_some_iff.mp q).1
          simp at this
          omega
        subst this
        rw [List.getElem?_append_right (Nat.le_refl _), Nat.sub_self] at q
        cases q
        rw [h3]
        exact mono _ _ _ _ eD r
  · have hi2 : i = xs.length := by omega
    exact .inl ⟨⟨xs, ys, up e hx, up e hy, .inl (by omega)⟩, done H us e h2 (by omega) h4⟩
end
theorem all_true : ∀ (n : Nat), (List.replicate n true).all id = true
  | 0 => rfl
  | n + 1 => by rw [List.replicate_succ, List.all_cons, all_true n]; rfl
end FF
/-! Fivefault, part 7: what an expression over data gives (displays of constants and names). -/
namespace FF
open PySem PySem.Spec PyProof.Rows L2
section
variable {K : PySem.W.Frag} {σ : L2.St} {H : Hp}
def EvD (K : PySem.W.Frag) (te : TE) (σ : L2.St) (H : Hp) (d : PyData) : Prop := ∀ H1, Same H H1 → ∀ Q : VK, (∀ v H2, Same H1 H2 → Dp K H2 v d → Q v H2) → te σ H1 Q
def EvDs (K : PySem.W.Frag) (ta : TA) (σ : L2.St) (H : Hp) (ds : List PyData) : Prop := ∀ H1, Same H H1 → ∀ Q : List V → Hp → Prop, (∀ vs H2, Same H1 H2 → DpAll K H2 vs ds → Q vs H2) → ta σ H1 Q
def EvDl (K : PySem.W.Frag) (te : TE) (σ : L2.St) (H : Hp) (ds : List PyData) : Prop := ∀ H1, Same H H1 → ∀ Q : VK, (∀ p vs H2, H1 p = none → Same H1 H2 → H2 p = some (.lst vs) → DpAll K H2 vs ds → Q (.ref p) H2) → te σ H1 Q
theorem ev_non : EvD K (tC .non) σ H .none := fun H1 _ Q q => q .non H1 (Same.refl H1) .non
theorem ev_bl {b : Bool} : EvD K (tC (.bl b)) σ H (.bool b) := fun H1 _ Q q => q _ H1 (Same.refl H1) (.bl b)
theorem ev_int {i : Int} : EvD K (tC (.int i)) σ H (.int i) := fun H1 _ Q q => q _ H1 (Same.refl H1) (.int i)
theorem ev_str {z : Str} : EvD K (tC (.str z)) σ H (.str z) := fun H1 _ Q q => q _ H1 (Same.refl H1) (.str z)
theorem ev_var {i : Nat} {v : V} {d : PyData} (h : σ[i]? = some (some v)) (hd : Dp K H v d) : EvD K (tVar i) σ H d := fun H1 e Q q => ⟨v, h, q v H1 (Same.refl H1) (up_d e hd)⟩
theorem evs_nil : EvDs K tNil σ H [] := fun H1 _ Q q => q [] H1 (Same.refl H1) .nil
theorem evs_cons {te : TE} {ta : TA} {d : PyData} {ds : List PyData} (h : EvD K te σ H d) (t : EvDs K ta σ H ds) : EvDs K (tCons te ta) σ H (d :: ds) := fun H1 e Q q =>
  h H1 e _ fun v H2 e2 hd => t H2 (e.trans e2) _ fun vs H3 e3 hs => q (v :: vs) H3 (e2.trans e3) (.cons (up_d e3 hd) hs)
theorem ev_tup {ta : TA} {ds : List PyData} (h : EvDs K ta σ H ds) (hl : ds.length ≤ 20000) : EvD K (tTup ta) σ H (.tuple ds) := fun H1 e Q q =>
  h H1 e _ fun vs H2 e2 hs => ⟨by rw [da_len hs]; exact le_line hl, fun p hp => q _ _ (e2.trans (same_new hp _)) (.tup (SqT.of upd_same) (up_da (same_new hp _) hs))⟩
theorem ev_lst {ta : TA} {ds : List PyData} (h : EvDs K ta σ H ds) (hl : ds.length ≤ 20000) : EvD K (tLst ta) σ H (.list ds) := fun H1 e Q q =>
  h H1 e _ fun vs H2 e2 hs => ⟨by rw [da_len hs]; exact le_line hl, fun p hp => q _ _ (e2.trans (same_new hp _)) (.lst (SqL.of upd_same) (up_da (same_new hp _) hs))⟩
theorem evl_lst {ta : TA} {ds : List PyData} (h : EvDs K ta σ H ds) (hl : ds.length ≤ 20000) : EvDl K (tLst ta) σ H ds := fun H1 e Q q =>
  h H1 e _ fun vs H2 e2 hs => ⟨by rw [da_len hs]; exact le_line hl, fun p hp => q p vs _ ((Same.trans e2 (Same.refl _)).free hp) (e2.trans (same_new hp _)) upd_same (up_da (same_new hp _) hs)⟩
end
theorem da_mem {K : PySem.W.Frag} {H : Hp} : ∀ {vs : List V} {ds : List PyData} {v : V}, DpAll K H vs ds → v ∈ vs → ∃ d, d ∈ ds ∧ Dp K H v d
  | _, _, _, .cons h t, m => by
    rcases List.mem_cons.mp m with e | m
    · rw [e]; exact ⟨_, List.mem_cons_self .., h⟩
    · obtain ⟨d, h1, h2⟩ := da_mem t m
      exact ⟨d, List.mem_cons_of_mem _ h1, h2⟩
end FF
/-! Fivefault, part 8: the rules that name the written part, with K said outright (for comprehensions' blocks). -/
namespace FF
open PySem PySem.Spec PyProof.Rows L2
section
variable (K : PySem.W.Frag) {X : Cx}
theorem ix_listK (h : X.K = K := by rfl) : IxR X (rIxL K) := by subst h; exact ix_list
theorem ix_tupK (h : X.K = K := by rfl) : IxR X (rIxT K) := by subst h; exact ix_tup
theorem call_lenK (h : X.K = K := by rfl) : CallR X (.builtin "len") (fun xs H Q => ∃ x n, xs = [x] ∧ LenV K x H n ∧ Q (.int n) H) := by subst h; exact call_len
theorem call_isK {T : String} {f : PyData → Bool} (hk : ∀ d, kitB (tyN d) T = some (f d)) (h : X.K = K := by rfl) : CallR X (.builtin "isinstance") (rIsD K T f) := by subst h; exact call_isD hk
theorem op_eqK (hu : X.A.units + 64 < cLine) (h : X.K = K := by rfl) : OpR X (compareOp .Eq) (rEqD K) := by subst h; exact op_eqD hu
theorem op_neK (hu : X.A.units + 64 < cLine) (h : X.K = K := by rfl) : OpR X (compareOp .NotEq) (rNeD K) := by subst h; exact op_neD hu
theorem op_inK (hu : X.A.units + 65 < cLine) (h : X.K = K := by rfl) : OpR X (compareOp .In) (rInDs K false) := by subst h; exact op_inDs hu
theorem op_notInK (hu : X.A.units + 65 < cLine) (h : X.K = K := by rfl) : OpR X (compareOp .NotIn) (rInDs K true) := by subst h; exact op_notInDs hu
theorem op_in_seqK (h : X.K = K := by rfl) : OpR X (compareOp .In) (rIn K false) := by subst h; exact op_in_seq
theorem op_notIn_seqK (h : X.K = K := by rfl) : OpR X (compareOp .NotIn) (rIn K true) := by subst h; exact op_notIn_seq
theorem sl_tupK (h : X.K = K := by rfl) : SlR X (rSlT K) := by subst h; exact sl_tup
theorem sl_listK (h : X.K = K := by rfl) : SlR X (rSlL K) := by subst h; exact sl_list
theorem call_list_ofK (h : X.K = K := by rfl) : CallR X (.type "list") (fun xs H Q => ∃ p ys, xs = [.ref p] ∧ (SqL K H p ys ∨ SqT K H p ys) ∧ ∀ l, H l = none → Q (.ref l) (upd H l (.lst ys))) := by subst h; exact call_list_of
theorem call_tuple_ofK (h : X.K = K := by rfl) : CallR X (.type "tuple") (fun xs H Q => ∃ p ys, xs = [.ref p] ∧ ((SqL K H p ys ∧ ∀ l, H l = none → Q (.ref l) (upd H l (.tup ys))) ∨ (SqT K H p ys ∧ Q (.ref p) H))) := by subst h; exact call_tuple_of
theorem cr_sumK (hc : X.calm = true) (h : X.K = K := by rfl) : CallR X (.builtin "sum") (rSum K) := by subst h; exact cr_sum hc
theorem cr_allK (hc : X.calm = true) (h : X.K = K := by rfl) : CallR X (.builtin "all") (rAll K) := by subst h; exact cr_all hc
theorem cr_anyK (hc : X.calm = true) (h : X.K = K := by rfl) : CallR X (.builtin "any") (rAny K) := by subst h; exact cr_any hc
theorem cr_sortedK (h : X.K = K := by rfl) : CallR X (.builtin "sorted") (rSorted K) := by subst h; exact cr_sorted
theorem cr_sortedSK (h : X.K = K := by rfl) : CallR X (.builtin "sorted") (rSortedS K) := by subst h; exact cr_sortedS
theorem pg_tupK {es : List Expr} {k : Nat} {t : TGs} {n : Nat} {pos : Pos} (hc : X.calm = true) (h : PGs X es t) (hk : X.K = K := by rfl)
    (hn : (assignEach es X.env).length = n := by rfl) (hst : (assignEach es X.env).findIdx? (·.1) = none := by rfl) : PG X (.Tuple es k pos) (gTup K n t) := by subst hk; exact pg_tup hc h hn hst
theorem pi_listK {tg l : Expr} {tl : TE} (hl : PE X l tl) (h : X.K = K := by rfl) : PI X tg l (iList K tl) := by subst h; exact pi_list hl
theorem pi_tupK {tg l : Expr} {tl : TE} (hl : PE X l tl) (h : X.K = K := by rfl) : PI X tg l (iTup K tl) := by subst h; exact pi_tup hl
theorem pi_zipK {e e2 : Expr} {ta : TA} {p pos tpos : Pos} {elts : List Expr} {kk : Nat} (hg : Gl X "zip") (hm : X.mg "zip" = none) (ha : PA X [e, e2] ta) (h : X.K = K := by rfl)
    (hs : starEach [e, e2] X.env = (false, eval e X.env) :: starEach [e2] X.env := by rfl) (hpl : (backTo pos (starEach [e2] X.env)).any (·.1) = false := by rfl) :
    PI X (.Tuple elts kk tpos) (.Call (.Name "zip" p) [e, e2] [] pos) (RZ.iZipA K ta) := by subst h; exact RZ.pi_zipA hg hm ha hs hpl
theorem pi_enumK {e : Expr} {ta : TA} {p pos tpos : Pos} {elts : List Expr} {kk : Nat} (hg : Gl X "enumerate") (hm : X.mg "enumerate" = none) (ha : PA X [e] ta) (h : X.K = K := by rfl) (hs : starEach [e] X.env = [(false, eval e X.env)] := by rfl) :
    PI X (.Tuple elts kk tpos) (.Call (.Name "enumerate" p) [e] [] pos) (iEnum K ta) := by subst h; exact pi_enum hg hm ha hs
theorem pe_bm0K {T name id : String} {r : V → List V → Hp → VK → Prop} {o : Expr} {to : TE} {apos cpos : Pos} (pa : PlainAttrs T) (slot : Slot T name id) (hty : typeOf (.builtin id) = pure (.type "method_descriptor")) (hm : MtR X id r) (ho : PE X o to) (h : X.K = K := by rfl)
    (hbase : attributeBase o name X.env (eval o X.env) = eval o X.env := by rfl) (hline : (apos.endLine == cpos.line) = true := by rfl) : PE X (.Call (.Attribute o name apos) [] [] cpos) (tBM0 K T r to) := by subst h; exact pe_bm0 pa slot hty hm ho hbase hline
theorem pe_bmK {T name id : String} {r : V → List V → Hp → VK → Prop} {o e : Expr} {es : List Expr} {to : TE} {t : TA} {apos cpos : Pos} (pa : PlainAttrs T) (slot : Slot T name id) (hty : typeOf (.builtin id) = pure (.type "method_descriptor")) (hm : MtR X id r) (ho : PE X o to) (ha : PA X (e :: es) t) (h : X.K = K := by rfl)
    (hbase : attributeBase o name X.env (eval o X.env) = eval o X.env := by rfl)
    (hfew : ((backTo cpos (starEach (e :: es) X.env)).all (fun x => !x.1) && (backToKw cpos (keywordEach [] X.env)).all (fun x => x.1.isSome)
      && decide ((e :: es).length + ([] : List Keyword).length + (if ([] : List Keyword).isEmpty then 0 else 1) < 30)) = true := by rfl)
    (hline : (apos.endLine == cpos.line) = true := by rfl) (hs : starEach (e :: es) X.env = (false, eval e X.env) :: starEach es X.env := by rfl) (hplain : (backTo cpos (starEach es X.env)).any (·.1) = false := by rfl) :
    PE X (.Call (.Attribute o name apos) (e :: es) [] cpos) (tBM K T r to t) := by subst h; exact pe_bm pa slot hty hm ho ha hbase hfew hline hs hplain
end
end FF
namespace FF
open L2
theorem seq_asg {te : TE} {i : Nat} {u : TS} {D : Ends} {σ : L2.St} {H : Hp} (h : te σ H fun x H1 => u D (σ.set i (some x)) H1) : tSeq (tAsg te (gName i)) u D σ H := h
theorem ret_of {te : TE} {D : Ends} {σ : L2.St} {H : Hp} (h : te σ H D.rt) : tRet te D σ H := h
theorem op_of {r : R2} {ta tb : TE} {σ : L2.St} {H : Hp} {Q : VK} (h : ta σ H fun x H1 => tb σ H1 fun y H2 => r x y H2 Q) : tOp r ta tb σ H Q := h
end FF
namespace FF
open PySem PySem.Spec PyProof.Rows L2
theorem fn_mk {P : Program} {w : World} {K : PySem.W.Frag} {mg : Str → Option Value} {base : Heap} {x : Str} {st : Stmt} {f : Addr} {fd : FuncData} {dvs : List V} {kws : List (Str × V)} {N ps : List Str} {k : Nat} {sp : Sp} (F : FunD K x x (defArgs st) (defBody st) (defScope st) dvs kws f fd)
    (S : FnScope N ps (defScope st)) (len : ∀ vs H Q E, sp vs H Q E → vs.length = ps.length)
    (body : ∀ (cdv : Value) (A : Around) (outer : List Env) (s : Shared) (H : Hp) (vs : List V) (Q : VK) (E : XK), Room k (A.deeper (envOfC x (defScope st) s.heap.objs.size f cdv)) → sp vs H Q E →
      ∃ t, PSs (cxOf CX0 P w K mg base N x (defScope st) f cdv A outer s H E).nox (defBody st) t ∧ t { nx := fun _ H' => Q .non H', rt := Q } (start N vs) H) : FnOk P w K mg base CX0 (k + 1) f fd ps sp :=
  FunD.ok F S len fun cdv A outer s H vs Q E hr h => let ⟨t, a, b⟩ := body cdv A outer s H vs Q E hr h; ⟨t, PSs.nox a, b⟩
theorem da_rep {K : PySem.W.Frag} {H : Hp} {v : V} {d : PyData} (h : Dp K H v d) : ∀ n : Nat, DpAll K H (List.replicate n [v]).flatten (List.replicate n d)
  | 0 => .nil
  | n + 1 => by
    rw [List.replicate_succ, List.replicate_succ, List.flatten_cons]
    exact .cons h (da_rep h n)
theorem flat_len {v : V} : ∀ n : Nat, (List.replicate n [v]).flatten.length = n
  | 0 => rfl
  | n + 1 => by rw [List.replicate_succ, List.flatten_cons, List.length_append, flat_len n, List.length_singleton]; omega
end FF
namespace FF
open PySem PySem.Spec PyProof.Rows L2
/-- a <= b <= c, both answers at once -/
theorem chain_le {a b c : Int} {tc : TE} {σ : L2.St} {H : Hp} {Q : VK} (hc : ∀ Q' : VK, Q' (.int c) H → tc σ H Q') (h : Q (.bl (decide (a ≤ b) && decide (b ≤ c))) H) :
    rI0 (fun i j => .bl (decide (i ≤ j))) (.int a) (.int b) H fun z H3 => ∃ k, z = .bl k ∧ if k = true then tc σ H3 fun w H4 => rI0 (fun i j => .bl (decide (i ≤ j))) (.int b) w H4 Q else Q (.bl false) H3 := by
  refine ⟨_, _, rfl, rfl, _, rfl, ?_⟩
  refine if_dec (fun h1 => ?_) (fun h1 => ?_)
  · rw [decide_eq_true h1, Bool.true_and] at h
    exact hc _ ⟨_, _, rfl, rfl, h⟩
  · rw [decide_eq_false h1, Bool.false_and] at h
    exact h
end FF
namespace FF
open PySem PySem.Spec PyProof.Rows L2
/-- a promise that is never asked -/
theorem def_none {P : Program} {w : World} {K : PySem.W.Frag} {mg : Str → Option Value} {base : Heap} {x qual : Str} {params : Arguments} {body : List Stmt} {scope : Scope} {dvs : List V} {kws : List (Str × V)} {f : Addr} {fd : FuncData} {ps : List Str} {sp : Sp}
    (F : FunD K x qual params body scope dvs kws f fd) (hm : mg x = some (.ref f)) (hb : Binds K fd ps []) (no : ∀ vs H Q E, ¬ sp vs H Q E) : Def P w K mg base x 0 ps sp :=
  ⟨f, fd, ⟨fun vs H Q E h => absurd h (no vs H Q E), fun A outer s H args us vs Q E _ _ _ _ h => absurd h (no vs H Q E)⟩, hm, F.kp, hb⟩
end FF
/-! Fivefault, part 9: exceptions with own __init__s that call the base's; clauses with names; f(lambda: ..). -/
namespace FF
open PySem PySem.Spec PyProof.Rows L2
/-! ### C.m(self, ..), m a def of the class C -/
section
variable {X : Cx} {CX : CXT} {k : Nat} {C g : Addr} {mc : Value} {fd : FuncData} {ps : List Str} {sp : Sp} {E : XK} {x m : Str} {p1 p2 pos : Pos} {e : Expr} {es : List Expr} {t : TA}
theorem pe_clsfn {pl : Sem Bool} (hg : Gl X x) (hm : X.mg x = some (.ref C)) (r : ClX.CRead X.K C mc) (c : ClX.CVal X.K C mc m (.ref g) (.ref g)) (F : FnOk X.prog X.w X.K X.mg X.base CX k g fd ps sp) (hr : Room k X.A) (hk : PySem.W.keepIn X.K (.ref g) = true) (hb : Binds X.K fd ps []) (hx : Passes CX X E)
    (ha : PA X (e :: es) t) (hd : (x == ("__debug__" : Str)) = false := by decide)
    (hc : eval (.Call (.Attribute (.Name x p1) m p2) (e :: es) [] pos) X.env = (do
      let ov ← eval (.Name x p1) X.env
      standAt p2.atName
      let (f, first) ← holding [ov] (getMethod ov m pl)
      callWith pos f first (backTo pos (starEach (e :: es) X.env)) (backToKw pos (keywordEach [] X.env))) := by rfl)
    (he : starEach (e :: es) X.env = (false, eval e X.env) :: starEach es X.env := by rfl) (hpl : (backTo pos (starEach es X.env)).any (·.1) = false := by rfl) :
    PE X (.Call (.Attribute (.Name x p1) m p2) (e :: es) [] pos) (tCall sp [] E t) := by
  refine ⟨fun pins s σ H Q I h => ?_⟩
  refine PySem.W.methodCall_KW (pl := pl) (ld_glob I hg hm ?_ hd) hc
  refine PySem.W.method_cls I.kIn r.ga (ClX.getcval_ok I r c fun s' I' => ?_)
  refine PySem.W.callWith_K (h₀ := X.base) I.ok.mod.kin hk (thn (ha.run pos pins s' σ H _ I' h) fun us s1 ⟨vs, H1, I1, r1, q⟩ => ⟨I1.kIn, ?_⟩) he hpl
  exact run_fn F hr hb .nil hx I1 r1 q
end
/-! ### C(): an own exception without arguments -/
section
variable {X : Cx} {p pos : Pos}
theorem pmk_oex0 {CX : CXT} {x : Str} {C fI : Addr} {k : Nat} {fd : FuncData} {ps : List Str} {sp : Sp} (T : OexC X.K C) (iC : PySem.W.findIn X.K (.ref C) "__init__" = some (some (.ref fI))) (tI : PySem.W.typeIn X.K (.ref fI) = some (.type "function"))
    (F1 : FnOk X.prog X.w X.K X.mg X.base CX k fI fd ps sp) (hr : Room (k + 1) X.A) (hb : Binds X.K fd ps []) (hx : Passes CX X (fun _ _ _ => False)) (hg : Gl X x) (hm : X.mg x = some (.ref C)) (hdb : (x == ("__debug__" : Str)) = false := by decide) :
    PMk X (.Call (.Name x p) [] [] pos) (tMkO C sp [] tNil) := by
  intro pins s σ H Q I h
  obtain ⟨nm, q, N, bs, bm, sn, sub, ab, col, dd, k0, k1, k2, k3, k5, hC, hbm⟩ := T.cls
  refine wpAny_Call_Name_kw (ld_glob I hg hm ?_ hdb)
  refine PySem.W.callWith_K0 (first := []) I.kIn T.kC ?_
  obtain ⟨hz, q1⟩ := h
  show wpAny _ _ (call (.ref C) []) _ _ _
  obtain ⟨hp, g, dr, tk, os⟩ := s
  have hsz : hp.objs.size ≤ hp.objs.size + 1 := Nat.le_succ _
  have hn : H (hp.objs.size + 1) = none := I.hok.fresh hsz
  have hq := q1 (hp.objs.size + 1) hn
  have kk : ∀ b o, hp.get? b = some o → ((hp.push (PySem.W.kdv_tup [])).push (PySem.HandSPX.excO C hp.objs.size)).get? b = some o := fun b o e => Heap.get?_push_of_some _ (Heap.get?_push_of_some _ e)
  have hget : ((hp.push (PySem.W.kdv_tup [])).push (PySem.HandSPX.excO C hp.objs.size)).get? (hp.objs.size + 1) = some (PySem.HandSPX.excO C hp.objs.size) := by heap_get
  have I2 : Inv X pins σ (upd H (hp.objs.size + 1) (exo (hp.objs.size + 1) C none)) ⟨(hp.push (PySem.W.kdv_tup [])).push (PySem.HandSPX.excO C hp.objs.size), g, dr, tk, os⟩ :=
    I.laid (t' := tk) (a := hp.objs.size + 1) (o := exo (hp.objs.size + 1) C none) (h' := (hp.push (PySem.W.kdv_tup [])).push (PySem.HandSPX.excO C hp.objs.size)) kk hsz (exo_ok hget)
  have r2 : Vals [V.ref (hp.objs.size + 1)] [Value.ref (hp.objs.size + 1)] := .cons rfl .nil
  have hl : ([Value.ref (hp.objs.size + 1)] ++ ([] : List Value)).length = ps.length := by
    have e := F1.len _ _ _ _ hq
    show 1 = ps.length
    exact e
  refine wpAny_call (PySem.HandSPX.call_own F.excBase_ValueError (fun Y => PySem.HandSPX.refsVE_contains Y bm hbm) (I.kIn _ _ hC) (PySem.W.looks_findIn I.kIn iC) (fun self => PySem.W.bind_fn I.kIn self tI) (Nat.zero_le _)
    (codeAny_mono (F1.run _ X.stack _ _ ⟨[Value.ref (hp.objs.size + 1)], []⟩ [Value.ref (hp.objs.size + 1)] _ _ (fun _ _ _ => False) (hr.make C [] []) (I2.env0.make C [] []) (hb _ [Value.ref (hp.objs.size + 1)] I2.kIn hl) r2 hq) fun r s' hq' => ?_))
  cases r with
  | error er => exact hx pins σ _ _ er s' I2 hq'
  | ok fl =>
    cases fl with
    | ret u =>
      obtain ⟨v, H2, os2, bare2, un2, hok2, rv, ev, d, fs, ea, ed, hd1, q2⟩ := hq'
      subst ev
      obtain ⟨h2, g2, d2, t2, os'⟩ := s'
      exact ⟨rv, mk_end (raises_own T.exC T.tyC) I hsz kk un2 hok2 os2 bare2 ea ed hd1 q2⟩
    | next => exact False.elim hq'
    | brk => exact False.elim hq'
    | cont => exact False.elim hq'
end
/-! ### try .. except A as e: .. except B as e: .. -/
abbrev asEnds (i : Nat) (D : Ends) : Ends := { nx := fun σ' H' => D.nx (σ'.set i none) H', rt := D.rt, bk := fun σ' H' => D.bk (σ'.set i none) H', ct := fun σ' H' => D.ct (σ'.set i none) H' }
def wManyA (K : PySem.W.Frag) (i : Nat) (Wout : WX) (D : Ends) : List (Value × (Addr → Value → Option Addr → TS)) → WX
  | [] => Wout
  | (c, ts) :: r => fun cls d σ H => ∃ b, PySem.W.exmOne K cls c = some b ∧ (b = true → ∀ a, H a = none → ts a cls d (asEnds i D) (σ.set i (some (.ref a))) H) ∧ (b = false → wManyA K i Wout D r cls d σ H)
inductive HdsA (X : Cx) (n : Str) : List ExceptHandler → List (Value × (Addr → Value → Option Addr → TS)) → Prop
  | nil : HdsA X n [] []
  | cons {x : Str} {c : Value} {ts : Addr → Value → Option Addr → TS} {b₀ : Stmt} {suite : List Stmt} {np pos' : Pos} {hds : List ExceptHandler} {l : List (Value × (Addr → Value → Option Addr → TS))} (hc : Names X x c)
      (hsu : ∀ (a : Addr) (oe : Obj) (cls : Value) (d : Option Addr) (pn : List (Addr × Obj)), Zc cls d oe → (∃ vs, oe.data = .fields vs) → PSs (X.suite a ((a, oe) :: pn)) (b₀ :: suite) (ts a cls d)) (r : HdsA X n hds l) :
      HdsA X n (.ExceptHandler (some (.Name x np)) (some n) (b₀ :: suite) pos' :: hds) ((c, ts) :: l)
section
variable {X : Cx} {n : Str} {i : Nat} {body : List Stmt} {h₀ : ExceptHandler} {hds : List ExceptHandler} {l : List (Value × (Addr → Value → Option Addr → TS))} {pos : Pos} {tb : WX → TS} {Wout : WX}
theorem ps_try_manyA (hs : X.stack = X.env :: X.outer) (hf : X.env.frame = some X.env.locals) (hN : X.N.Nodup) (hi : X.N[i]? = some n) (hln : X.env.kindOf n = some .local) (tk : Takes X Wout)
    (hb : ∀ (W : WX) (pn : List (Addr × Obj)) (xe : Value → Shared → Prop), Takes (X.tr pn xe) W → PassesOwn (model X.prog X.w) X.A X.env xe → PSs (X.tr pn xe) body (tb W))
    (hh : HdsA X n (h₀ :: hds) l) : PS X (.Try body (h₀ :: hds) [] [] pos) (fun D σ H => tb (wManyA X.K i Wout D l) D σ H) := by
  refine ⟨fun pins s σ H D I h => ?_⟩
  have ok := I.ok
  have hfr : X.A.frames = some (X.env :: X.outer) := by rw [ok.frames, hs]
  have hloc : Loc X.env.scope n := .inl hln
  refine wpAny_Try_except ?_
  refine wpAny_mono ((hb (wManyA X.K i Wout D l) (X.pn ++ pins) (fun e s₁ => wpAny (model X.prog X.w) X.A (noteFrame e X.env) (fun _ s₂ => wpAny (model X.prog X.w) X.A (setFlight e none) (fun _ s₃ =>
    wpAny (model X.prog X.w) X.A (handleBy e X.env (h₀ :: hds)) (SP X pins D) X.xe s₃) X.xe s₂) X.xe s₁) (fun u s' xx => ?_) PassesOwn.looking).run [] s σ H D (I.toTry _) h) (fun f s1 hsp => ?_) (fun e s1 he => he)
  · obtain ⟨a, B, sI, pins', σ', H', cls, d, rfl, J', nb, up, sky, na, os, ag, w⟩ := xx
    have J : Inv X pins σ' H' sI := J'.ofTry ok
    have sky' : Sky B (X.env :: X.outer) a (Zc cls d) X.env.locals s'.heap := by rw [← hs]; exact sky
    show wpAny (model X.prog X.w) X.A (noteFrame (.ref a) X.env) _ _ _
    refine Sky.land Zc.steady hfr hf sky' fun h3 fl3 up3 => ?_
    have J3 : Inv X pins σ' H' { s' with heap := h3 } := J.landed nb fl3.1 (up.trans up3) os ag
    obtain ⟨oe3, vs3, he3, hz3, hd3⟩ := fl3.there
    have notFr : ∀ {h : Heap} {o : Obj} {vs : Array Value}, h.FunFrames B (X.env :: X.outer) → h.get? a = some o → o.data = .fields vs → a ∉ frs (X.env :: X.outer) := fun {h o vs} ff e dd hm => by
      obtain ⟨_, o', e', hnf⟩ := ff.mem hm
      rw [e] at e'; cases e'
      exact hnf _ dd
    have nfr := notFr fl3.2.2.1 he3 hd3
    have nL : a ≠ X.env.locals := fun z => nfr (List.mem_filterMap.mpr ⟨X.env, List.mem_cons_self, by rw [hf, z]⟩)
    have nF : a ∉ X.fs := fun hm => by
      obtain ⟨e, he, q⟩ := List.mem_filterMap.mp hm
      exact nfr (List.mem_filterMap.mpr ⟨e, List.mem_cons_of_mem _ he, q⟩)
    have S3 := J3.suite he3 hd3 na nL nF
    have go : ∀ {hds' : List ExceptHandler} {l' : List (Value × (Addr → Value → Option Addr → TS))}, HdsA X n hds' l' → wManyA X.K i Wout D l' cls d σ' H' →
        wpAny (model X.prog X.w) X.A (handleBy (.ref a) X.env hds') (SP X pins D) X.xe { s' with heap := h3 } := by
      intro hds' l' hk
      induction hk with
      | nil =>
        intro w
        refine wpAny_handleBy_nil ?_
        obtain ⟨k1, k2, k3, oe, vs, T, oT, ts', he, hz, hd, h1, hr⟩ := id fl3
        unfold PySem.passOn
        refine wpAny_bind (wpAny_field he hd h1 ?_)
        rw [if_neg (show ¬ ((Value.ref T == Value.none) = true) from by simp)]
        have fin : wpAny (model X.prog X.w) X.A (setFlight (.ref a) X.env.frame) (fun _ s4 => wpAny (model X.prog X.w) X.A (throw (.ref a) : Sem Flow) (SP X pins D) X.xe s4) X.xe { s' with heap := h3 } := by
          rw [hf]
          refine HandSPX.setFlight_upZ fl3 fun h4 hh4 up4 => wpAny_throw (tk _ _ ?_)
          exact ⟨a, B, sI, pins, σ', H', cls, d, rfl, J, nb, (up.trans up3).trans up4, .inr (.inr (by rw [hs]; exact hh4)), na, os, ag, w⟩
        first
          | exact wpAny_bind (wpAny_pure (wpAny_bind fin))
          | exact wpAny_bind fin
      | @cons x c ts b₀ suite np pos' hds2 l2 hc hsu r ih =>
        intro w
        obtain ⟨b, hb1, hyes, hno⟩ := w
        refine wpAny_handleBy_cons (codeAny_handlers_test ?_) (by intro q; cases q)
        have LT : PySem.W.Looks (model X.prog X.w) h3 (typeOf (.ref a)) cls := fun A Q E s k q => wpAny_typeOf_ref (k _ _ he3) (by rw [hz3.1]; exact q)
        have LM := PySem.W.exm_one (M := model X.prog X.w) (J3.kIn) LT hb1
        have test : ∀ {Q : Value → Shared → Prop} {E : Value → Shared → Prop}, Q c { s' with heap := h3 } → wpAny (model X.prog X.w) (X.A.mark (some (.ref a))) (eval (.Name x np) X.env) Q E { s' with heap := h3 } := fun {Q E} q => by
          obtain ⟨hg, hdbg, hm | ⟨hm, hv, hnn⟩⟩ := hc
          · exact ld_glob (X := X.suite a ((a, oe3) :: (X.pn ++ pins))) S3 hg hm q hdbg
          · exact ld_blt (X := X.suite a ((a, oe3) :: (X.pn ++ pins))) S3 hg hm hv q hnn hdbg
        refine test (LM.here ?_)
        cases b with
        | true =>
          refine codeAny_handlers_suite_as ?_
          refine HandSPX.lands_againZ fl3 fun h4 fl4 up4 => ?_
          have J4 : Inv X pins σ' H' { s' with heap := h4 } := J.landed nb fl4.1 ((up.trans up3).trans up4) os ag
          obtain ⟨oe4, vs4, he4, hz4, hd4⟩ := fl4.there
          have S4 := J4.suite he4 hd4 na nL nF
          refine store_ok (X := X.suite a ((a, oe4) :: (X.pn ++ pins))) (v := .ref a) S4 hN hi hloc rfl (fun s5 S5 => ?_) (.inr hln)
          refine wpAny_mono ((hsu a oe4 cls d (X.pn ++ pins) hz4 ⟨_, hd4⟩).run [] s5 _ H' _ S5 (hyes rfl a na)) (fun f s6 hsp => ?_) (fun _ _ z => False.elim z)
          have end_ : ∀ {σ6 : L2.St} {H6 : Hp} {Q : Shared → Prop}, Inv (X.suite a ((a, oe4) :: (X.pn ++ pins))) [] σ6 H6 s6 → (∀ s7, Inv X pins (σ6.set i none) H6 s7 → Q s7) →
              wpAny (model X.prog X.w) X.A (do bindName X.env n .none; unbindBehindTheSuite X.env n pos') (fun _ s7 => Q s7) X.xe s6 := fun {σ6 H6 Q} S6 hq => gone_ok (S6.unsuite ok) hN hi hln hq
          cases f with
          | next =>
            obtain ⟨σ6, H6, S6, q6⟩ := hsp
            exact end_ S6 fun s7 J7 => ⟨_, _, J7, q6⟩
          | brk =>
            obtain ⟨σ6, H6, S6, q6⟩ := hsp
            exact end_ S6 fun s7 J7 => ⟨_, _, J7, q6⟩
          | cont =>
            obtain ⟨σ6, H6, S6, q6⟩ := hsp
            exact end_ S6 fun s7 J7 => ⟨_, _, J7, q6⟩
          | ret u =>
            obtain ⟨v6, σ6, H6, S6, r6, q6⟩ := hsp
            exact end_ S6 fun s7 J7 => ⟨_, _, _, J7, r6, q6⟩
        | false =>
          show wpAny _ X.A (handleBy (.ref a) X.env hds2) _ _ _
          exact ih (hno rfl)
    exact go hh w
  · cases f with
    | next =>
      obtain ⟨σ', H', J', q⟩ := hsp
      exact wpAny_execs_nil ⟨σ', H', J'.ofTry ok, q⟩
    | brk =>
      obtain ⟨σ', H', J', q⟩ := hsp
      exact ⟨σ', H', J'.ofTry ok, q⟩
    | cont =>
      obtain ⟨σ', H', J', q⟩ := hsp
      exact ⟨σ', H', J'.ofTry ok, q⟩
    | ret u =>
      obtain ⟨v, σ', H', J', r, q⟩ := hsp
      exact ⟨v, σ', H', J'.ofTry ok, r, q⟩
end
theorem pss_ex {X : Cx} {st : List Stmt} {α : Type} {p : α → Prop} {t : α → TS} (h : ∀ c, p c → PSs X st (t c)) : PSs X st (fun D σ H => ∃ c, p c ∧ t c D σ H) :=
  ⟨fun pins s σ H D I ⟨c, hc, q⟩ => (h c hc).run pins s σ H D I q⟩
end FF
/-! Fivefault, part 10: own exceptions told of, defs that raise, f(lambda: ..) caught by clauses. -/
namespace FF
open PySem PySem.Spec PyProof.Rows L2
/-! ### what the written part says of an own class of exceptions, by a Bool -/
def oexB (K : PySem.W.Frag) (C : Addr) : Bool := match K.lookup C with
  | some ⟨.type "type", _, .cls cd, sl⟩ => (match cd.mro, sl.toList with
    | .ref C' :: bm, [_, _, _, _, some (.builtin n), _] => C' == C && n == "ValueError.__new__" && !cd.hasDel && cd.hasDict && PySem.HandSPX.refsVE bm
    | _, _ => false)
  | _ => false
theorem oexB_ok {K : PySem.W.Frag} {C : Addr} (q : oexB K C = true) : ∃ nm q N bs bm sn sub ab col dd k0 k1 k2 k3 k5, K.lookup C = some (excClassObj nm q C N bs bm true sn sub ab col dd k0 k1 k2 k3 k5 "ValueError.__new__") ∧ PySem.HandSPX.refsVE bm = true := by
  unfold oexB at q
  split at q
  · rename_i dd cd sl ho
    split at q
    · rename_i C' bm k0 k1 k2 k3 n k5 hm hs
      simp only [Bool.and_eq_true, beq_iff_eq, Bool.not_eq_true'] at q
      obtain ⟨⟨⟨⟨rfl, rfl⟩, hdel⟩, hdict⟩, ht⟩ := q
      obtain ⟨nm, bs, mro, ns, qn, hd, sn, sub, ab, col, del⟩ := cd
      dsimp only at hm hdel hdict
      subst hm hdel hdict
      have hsl : sl = #[k0, k1, k2, k3, some (.builtin "ValueError.__new__"), k5] := by
        obtain ⟨l⟩ := sl
        simp only at hs
        rw [hs]
      subst hsl
      exact ⟨nm, qn, ns, bs, bm, sn, sub, ab, col, dd, k0, k1, k2, k3, k5, ho, ht⟩
    · cases q
  · cases q
/-- an own class C of exceptions: raised, caught, its code read -/
structure OwnC (K : PySem.W.Frag) (C : Addr) : Prop where
  o : OexC K C
  xf : XfC K C
  noc : PySem.W.findIn K (.ref C) "code" = some none
def ownCB (K : PySem.W.Frag) (C : Addr) : Bool := oexB K C && (He.eqO (PySem.W.findIn K (.ref C) "__setattr__") (some (some (.builtin "object.__setattr__"))) && (decide (PySem.W.subIn K (.ref C) (.type "BaseException") = some true) && (decide (PySem.W.typeIn K (.ref C) = some (.type "type")) &&
  (PySem.W.keepIn K (.ref C) && (xfB K C && He.eqO (PySem.W.findIn K (.ref C) "code") (some none))))))
theorem ownCB_ok {K : PySem.W.Frag} {C : Addr} (h : ownCB K C = true) : OwnC K C := by
  obtain ⟨h1, h⟩ := He.ba h
  obtain ⟨h2, h⟩ := He.ba h
  obtain ⟨h3, h⟩ := He.ba h
  obtain ⟨h4, h⟩ := He.ba h
  obtain ⟨h5, h⟩ := He.ba h
  obtain ⟨h6, h7⟩ := He.ba h
  exact ⟨⟨oexB_ok h1, He.eqO_ok h2, of_decide_eq_true h3, of_decide_eq_true h4, h5⟩, xfB_ok h6, He.eqO_ok h7⟩
/-- the class x: an own class whose own __init__ is a def; caught as y -/
structure OwnX (K : PySem.W.Frag) (x y : Str) : Prop where
  c : OwnC K (He.ga K x)
  ini : PySem.W.findIn K (.ref (He.ga K x)) "__init__" = some (some (.ref (He.ma K (He.ga K x) "__init__")))
  tyI : PySem.W.typeIn K (.ref (He.ma K (He.ga K x) "__init__")) = some (.type "function")
  exm : PySem.W.exmOne K (.ref (He.ga K x)) (.ref (He.ga K y)) = some true
def ownXB (K : PySem.W.Frag) (x y : Str) : Bool := ownCB K (He.ga K x) && (He.eqO (PySem.W.findIn K (.ref (He.ga K x)) "__init__") (some (some (.ref (He.ma K (He.ga K x) "__init__")))) && (decide (PySem.W.typeIn K (.ref (He.ma K (He.ga K x) "__init__")) = some (.type "function")) &&
  decide (PySem.W.exmOne K (.ref (He.ga K x)) (.ref (He.ga K y)) = some true)))
theorem ownXB_ok {K : PySem.W.Frag} {x y : Str} (h : ownXB K x y = true) : OwnX K x y := by
  obtain ⟨h1, h⟩ := He.ba h
  obtain ⟨h2, h⟩ := He.ba h
  obtain ⟨h3, h4⟩ := He.ba h
  exact ⟨ownCB_ok h1, He.eqO_ok h2, of_decide_eq_true h3, of_decide_eq_true h4⟩
/-- x.__init__ read from the class x; ValueError.__init__ -/
structure FeC (K : PySem.W.Frag) (x : Str) : Prop where
  rd : ClX.CRead K (He.ga K x) (.type "type")
  at_ : PySem.W.findCls K (.ref (He.ga K x)) (.type "type") "__init__" = some (.val (.ref (He.ma K (He.ga K x) "__init__")))
  kp : PySem.W.keepIn K (.ref (He.ma K (He.ga K x) "__init__")) = true
  ve : PySem.W.findCls K (.type "ValueError") (.type "type") "__init__" = some (.val (.builtin "ValueError.__init__"))
def fcl (o : Option PySem.W.CFound) (v : Value) : Bool := match o with
  | some (.val u) => decide (u = v)
  | _ => false
theorem fcl_ok {o : Option PySem.W.CFound} {v : Value} (h : fcl o v = true) : o = some (.val v) := by
  cases o with
  | none => cases h
  | some f =>
    cases f with
    | val u => rw [of_decide_eq_true (show decide (u = v) = true from h)]
    | _ => cases h
def feCB (K : PySem.W.Frag) (x : Str) : Bool := PySem.W.readsIn K (He.ga K x) (.type "type") && (He.eqO (PySem.W.specialIn K (.ref (He.ga K x)) "__getattribute__") (some (some (.builtin "type.__getattribute__"))) && (fcl (PySem.W.findCls K (.ref (He.ga K x)) (.type "type") "__init__") (.ref (He.ma K (He.ga K x) "__init__")) &&
  (PySem.W.keepIn K (.ref (He.ma K (He.ga K x) "__init__")) && fcl (PySem.W.findCls K (.type "ValueError") (.type "type") "__init__") (.builtin "ValueError.__init__"))))
theorem feCB_ok {K : PySem.W.Frag} {x : Str} (h : feCB K x = true) : FeC K x := by
  obtain ⟨h1, h⟩ := He.ba h
  obtain ⟨h2, h⟩ := He.ba h
  obtain ⟨h3, h⟩ := He.ba h
  obtain ⟨h4, h5⟩ := He.ba h
  exact ⟨⟨h1, He.eqO_ok h2⟩, fcl_ok h3, h4, fcl_ok h5⟩
/-! ### the __init__s -/
def spFE (K : PySem.W.Frag) : Sp := fun vs H Q _ => ∃ (a C : Addr) (z : V), vs = [.ref a, z] ∧ OexC K C ∧ PySem.W.findIn K (.ref C) "code" = some none ∧ H a = some (exo a C none) ∧
  ∀ dx, H dx = none → dx ≠ a → Q .non (upd (upd H dx (exd dx [("code", z)])) a (exo a C (some dx)))
def spIni (K : PySem.W.Frag) (z : Str) : Sp := fun vs H Q _ => ∃ (a C : Addr), vs = [.ref a] ∧ OexC K C ∧ PySem.W.findIn K (.ref C) "code" = some none ∧ H a = some (exo a C none) ∧
  ∀ dx, H dx = none → dx ≠ a → Q .non (upd (upd H dx (exd dx [("code", .str z)])) a (exo a C (some dx)))
/-- an exception in the air: its dict d, its code z -/
def Thr (z : Str) (d : Option Addr) (H : Hp) : Prop := ∃ (dd : Addr) (fs : List (Str × V)), d = some dd ∧ H dd = some (.xd fs) ∧ fs.lookup ("code" : Str) = some (V.str z)
/-- the class x raised: x() makes an exception with the code z -/
structure RaiseD (P : Program) (w : World) (K : PySem.W.Frag) (mg : Str → Option Value) (base : Heap) (x y : Str) (k : Nat) (z : Str) : Prop where
  own : OwnX K x y
  hm : mg x = some (.ref (He.ga K x))
  ini : ∃ fd, FnOk P w K mg base CX0 k (He.ma K (He.ga K x) "__init__") fd ["self"] (spIni K z) ∧ Binds K fd ["self"] []
def tOwn (K : PySem.W.Frag) (x z : Str) : L2.St → Hp → XK → Prop := fun _ H Q => ∀ d H', Same H H' → Thr z d H' → Q (.ref (He.ga K x)) d H'
theorem pmk_imp {X : Cx} {e : Expr} {t t' : L2.St → Hp → XK → Prop} (h : PMk X e t) (i : ∀ σ H Q, t' σ H Q → t σ H Q) : PMk X e t' := fun pins s σ H Q I q => h pins s σ H Q I (i _ _ _ q)
theorem pmk_raise {X : Cx} {x y z : Str} {k j : Nat} {p pos : Pos} (D : RaiseD X.prog X.w X.K X.mg X.base x y k z) (hr : Room j X.A) (hkj : k + 1 ≤ j) (hg : Gl X x := by rfl) (hdb : (x == ("__debug__" : Str)) = false := by decide) : PMk X (.Call (.Name x p) [] [] pos) (tOwn X.K x z) := by
  obtain ⟨fd, F, hb⟩ := D.ini
  refine pmk_imp (pmk_oex0 D.own.c.o D.own.ini D.own.tyI F (hr.mono hkj) hb pass0 hg D.hm hdb) fun σ H Q q => ?_
  refine ⟨by simp [sizeLine], fun a ha => ⟨a, He.ga X.K x, rfl, D.own.c.o, D.own.c.noc, upd_same, fun dx hdx hne => ⟨rfl, dx, [("code", .str z)], upd_same, ?_, ?_, ?_⟩⟩⟩
  · rw [upd_ne hne, upd_same]
  · rwa [upd_ne hne] at hdx
  · have hdx2 : H dx = none := by rwa [upd_ne hne] at hdx
    refine q _ _ (fun b u hb => ?_) ⟨dx, _, rfl, upd_same, rfl⟩
    have b1 : b ≠ dx := ne_of_none hb hdx2
    have b2 : b ≠ a := ne_of_none hb ha
    rw [upd_ne b1, del_ne b2, upd_ne b2, upd_ne b1, upd_ne b2]
    exact hb
/-! ### defs that may raise -/
structure DefX (P : Program) (w : World) (K : PySem.W.Frag) (mg : Str → Option Value) (base : Heap) (x : Str) (k : Nat) (ps : List Str) (sp : Sp) : Prop where
  ex : ∃ (f : Addr) (fd : FuncData), FnOk P w K mg base (L2.CX P w) k f fd ps sp ∧ mg x = some (.ref f) ∧ PySem.W.keepIn K (.ref f) = true ∧ Binds K fd ps []
theorem DefX.mono {P : Program} {w : World} {K : PySem.W.Frag} {mg : Str → Option Value} {base : Heap} {x : Str} {j k : Nat} {ps : List Str} {sp : Sp} (D : DefX P w K mg base x j ps sp) (h : j ≤ k) : DefX P w K mg base x k ps sp := by
  obtain ⟨f, fd, F, r⟩ := D.ex
  exact ⟨f, fd, F.mono h, r⟩
/-- called where an exception is taken -/
theorem pe_defx {X : Cx} {W : WX} {E : XK} {x : Str} {k j : Nat} {ps : List Str} {sp : Sp} {e : Expr} {es : List Expr} {p pos : Pos} {t : TA} (D : DefX X.prog X.w X.K X.mg X.base x k ps sp) (tk : Takes X W) (hW : ∀ cls d σ' H', E cls d H' → W cls d σ' H') (hr : Room j X.A) (hkj : k ≤ j) (ha : PA X (e :: es) t)
    (hg : Gl X x := by rfl) (hdb : (x == ("__debug__" : Str)) = false := by decide) (he : starEach (e :: es) X.env = (false, eval e X.env) :: starEach es X.env := by rfl) (hpl : (backTo pos (starEach es X.env)).any (·.1) = false := by rfl) :
    PE X (.Call (.Name x p) (e :: es) [] pos) (tCall sp [] E t) := by
  obtain ⟨f, fd, F, hm, hk, hb⟩ := D.ex
  exact pe_call F (hr.mono hkj) hg hm hk hb .nil (passes_call tk hW) ha hdb he hpl
theorem passN {X : Cx} : Passes (L2.CX X.prog X.w) X (fun _ _ _ => False) := fun _ _ _ _ _ _ _ h => by
  obtain ⟨_, _, _, _, _, _, _, _, _, _, _, _, z⟩ := h
  exact z.elim
/-- called where none comes -/
theorem pe_defN {X : Cx} {x : Str} {k j : Nat} {ps : List Str} {sp : Sp} {e : Expr} {es : List Expr} {p pos : Pos} {t : TA} (D : DefX X.prog X.w X.K X.mg X.base x k ps sp) (hr : Room j X.A) (hkj : k ≤ j) (ha : PA X (e :: es) t)
    (hg : Gl X x := by rfl) (hdb : (x == ("__debug__" : Str)) = false := by decide) (he : starEach (e :: es) X.env = (false, eval e X.env) :: starEach es X.env := by rfl) (hpl : (backTo pos (starEach es X.env)).any (·.1) = false := by rfl) :
    PE X (.Call (.Name x p) (e :: es) [] pos) (tCall sp [] (fun _ _ _ => False) t) := by
  obtain ⟨f, fd, F, hm, hk, hb⟩ := D.ex
  exact pe_call F (hr.mono hkj) hg hm hk hb .nil passN ha hdb he hpl
theorem defx_mk {P : Program} {w : World} {K : PySem.W.Frag} {mg : Str → Option Value} {base : Heap} {x : Str} {st : Stmt} {f : Addr} {fd : FuncData} {dvs : List V} {kws : List (Str × V)} {N ps : List Str} {k : Nat} {sp : Sp} (F : FunD K x x (defArgs st) (defBody st) (defScope st) dvs kws f fd) (hm : mg x = some (.ref f)) (hb : Binds K fd ps [])
    (S : FnScope N ps (defScope st)) (len : ∀ vs H Q E, sp vs H Q E → vs.length = ps.length)
    (body : ∀ (cdv : Value) (A : Around) (outer : List Env) (s : Shared) (H : Hp) (vs : List V) (Q : VK) (E : XK), Room k (A.deeper (envOfC x (defScope st) s.heap.objs.size f cdv)) → sp vs H Q E →
      (Takes (cxOf (L2.CX P w) P w K mg base N x (defScope st) f cdv A outer s H E) fun cls d _ H => E cls d H) →
      ∃ t, PSs (cxOf (L2.CX P w) P w K mg base N x (defScope st) f cdv A outer s H E) (defBody st) t ∧ t { nx := fun _ H' => Q .non H', rt := Q } (start N vs) H) : DefX P w K mg base x (k + 1) ps sp :=
  ⟨f, fd, FunD.ok F S len (fun cdv A outer s H vs Q E hr h => body cdv A outer s H vs Q E hr h (takes_of rfl rfl rfl rfl)), hm, F.kp, hb⟩
/-! ### _law_call -/
/-- the first clause's class is FE -/
def TTc (K : PySem.W.Frag) (FE : Addr) : (XK → Hp → VK → Prop) → Hp → VK → Prop := fun tl H Q =>
  tl (fun cls d H' => ∃ (C : Addr) (z : Str), cls = .ref C ∧ OwnC K C ∧ PySem.W.exmOne K (.ref C) (.ref FE) = some true ∧ Thr z d H' ∧ ∀ p, H' p = none → Q (.ref p) (upd H' p (.tup [.non, .str z])))
    H (fun v H' => ∀ p, H' p = none → Q (.ref p) (upd H' p (.tup [v, .str ""])))
end FF
/-! Fivefault, part 11: f(lambda: ..), the promise of an exception told of the slots at the call. -/
namespace FF
open PySem PySem.Spec PyProof.Rows L2 LamX
section
variable {X : Cx} {pins : List (Addr × Obj)} {σ : L2.St} {H HZ : Hp} {s s1 : Shared}
theorem pe_actS {CXg : CXT} {Eg : XK} {Ng : List Str} {qg : Str} {sg : Scope} {g f c' : Addr} {cdg pm ctv : Value} {params : Arguments} {body : Expr} {scope : Scope} {k i : Nat} {a : Str} {pn : List (Addr × Obj)} {xe : Value → Shared → Prop} {W : WX} {tb : XK → TE} {p1 p2 : Pos}
    (I : Inv X pins σ H s) (L : LamS X.env.scope scope) (hf : s.heap.get? f = some (PySem.W.kla_obj "<lambda>" (X.env.qual ++ "<lambda>") params body scope (cloFrom X.env.cells scope.names []) pm c' ctv)) (hfn : H f = none) (hfr : f ∉ frs X.stack)
    (hbind : bindArgs (PySem.W.kla_fn "<lambda>" (X.env.qual ++ "<lambda>") params body scope (cloFrom X.env.cells scope.names []) pm (.ref c') ctv) ⟨[], []⟩ = pure [])
    (tk : Takes ((cxOf CXg X.prog X.w X.K X.mg X.base Ng qg sg g cdg X.A X.stack s H Eg).tr pn xe) W) (hr : Room (k + 1) (X.A.deeper (envOfC qg sg s.heap.objs.size g cdg)))
    (hbody : ∀ (A : Around) (outer : List Env) (s : Shared) (H : Hp) (E : XK), Room k (A.deeper (lamEnv X scope s.heap.objs.size f c')) → PE (lamCx X A outer s H E scope f c') body (tb E))
    (hN : Ng[i]? = some a) (hv : Vis sg a) (hd : (a == ("__debug__" : Str)) = false := by decide) (hcd : (a == ("__classdict__" : Str)) = false := by decide) :
    PE ((cxOf CXg X.prog X.w X.K X.mg X.base Ng qg sg g cdg X.A X.stack s H Eg).tr pn xe) (.Call (.Name a p1) [] [] p2)
      (fun σZ HZ Q => σZ[i]? = some (some (.ref f)) ∧ HZ c' = some (CodeO c' (X.env.qual ++ "<lambda>")) ∧ ∃ E : XK, (∀ cls d H', E cls d H' → W cls d σZ H') ∧ tb E σ HZ Q) := by
  refine ⟨fun pinsZ sZ σZ HZ Q IZ h => ?_⟩
  obtain ⟨hs, hc, E, hW, ht⟩ := h
  refine wpAny_Call_Name_kw (thn ((pe_var (pos := p1) (i := i) hN hv hd hcd).run pinsZ sZ σZ HZ (fun v H1 => v = .ref f ∧ H1 = HZ) IZ ⟨.ref f, hs, rfl, rfl⟩) fun u s1 ⟨v, H1, I1, r1, q1⟩ => ?_)
  obtain ⟨ev, eH⟩ := q1
  subst ev
  rw [eH] at I1
  obtain rfl : u = Value.ref f := r1
  have of1 := I1.base.keep f _ hf hfn hfr (fun z => nomatch (show f ∈ ([] : List Addr) from z))
  refine PySem.W.callWith_F0 ⟨_, _, _, _, of1⟩ ?_
  have un : Un (frs X.stack) [] H HZ s.heap s1.heap := I1.base
  obtain ⟨⟨oc, vs, t, hoc, hdc, hvc⟩, _, _⟩ := I1.hok c' _ hc
  have rc : codeAny (model X.prog X.w) (X.A.deeper (envOfC qg sg s.heap.objs.size g cdg)) (.call (.ref f) ⟨[], []⟩) (CR (L2.CX X.prog X.w) (envOfC qg sg s.heap.objs.size g cdg :: X.stack) X.prog X.w HZ s1 Q E) s1 := by
    refine PySem.W.kla_callFunE hr.depth of1 rfl L.co L.gen rfl ⟨c', oc, vs, t, rfl, hoc, hdc, hvc⟩ ?_
    rw [hbind]
    refine wpAny_pure (wpAny_newFunctionEnv (fun y hy => (L.own y hy).2) (fun y hy => absurd hy (by simp)) (fun h₁ hns hsb => ⟨I1.nolimit.fresh _ hsb, ?_⟩) L.kind)
    show codeAny _ _ (.expr body (lamEnv X scope s1.heap.objs.size f c')) _ _
    have kp : ∀ b o, s1.heap.get? b = some o → h₁.get? b = some o := fun b o e => hsb.extBut b o (Nat.ne_of_lt (Heap.lt_size e)) (Heap.get?_push_of_some _ e)
    have J := lam_start2 (f := f) (c' := c') (E := E) (tk := s1.toks + ([] : List (Str × Value)).length) I L I1.env0 hr.hd un hns kp
    refine PySem.W.kla_codeExpr (wpAny_mono ((hbody _ _ s1 HZ E (hr.deeper _)).run [] _ _ HZ Q J ht) (fun v s' hq => ?_) fun e s' hq => hq)
    obtain ⟨w', H', J', rv, q⟩ := hq
    exact ⟨w', H', J'.os, J'.bare, J'.base, J'.hok, rv, q⟩
  refine wpAny_call (codeAny_mono rc fun r s' hq => ?_)
  cases r with
  | error e => exact tk e s' (XE.of_call I1 (fun cls d H' h => hW cls d H' h) hq)
  | ok fl =>
    cases fl with
    | ret u => exact I1.after hq
    | next => exact False.elim hq
    | brk => exact False.elim hq
    | cont => exact False.elim hq
end
/-- the def that calls what it got -/
def GivesS (X : Cx) (Ng : List Str) (x : Str) (sg : Scope) (g : Addr) (cdg : Value) (bg : List Stmt) (a : Str) (q : Str) (TT : (XK → Hp → VK → Prop) → Hp → VK → Prop) : Prop :=
  ∀ (f c' : Addr) (s : Shared) (H : Hp) (Q : VK) (tl : XK → Hp → VK → Prop),
    (∀ (W : WX) (pn : List (Addr × Obj)) (xe : Value → Shared → Prop) (p1 p2 : Pos), Takes ((cxOf C8.CX0 X.prog X.w X.K X.mg X.base Ng x sg g cdg X.A X.stack s H C8.E0).tr pn xe) W →
      PE ((cxOf C8.CX0 X.prog X.w X.K X.mg X.base Ng x sg g cdg X.A X.stack s H C8.E0).tr pn xe) (.Call (.Name a p1) [] [] p2) (fun σZ HZ Q => σZ[0]? = some (some (.ref f)) ∧ HZ c' = some (CodeO c' q) ∧ ∃ E : XK, (∀ cls d H', E cls d H' → W cls d σZ H') ∧ tl E HZ Q)) →
    H c' = some (CodeO c' q) → TT tl H Q →
    ∃ t, PSs (cxOf C8.CX0 X.prog X.w X.K X.mg X.base Ng x sg g cdg X.A X.stack s H C8.E0).nox bg t ∧ t { nx := fun _ H' => Q .non H', rt := Q } (L2.start Ng [.ref f]) H
/-- x(lambda: body), x a def of the top -/
theorem pe_lamS {X : Cx} {T : List (Addr × Str)} {TT : (XK → Hp → VK → Prop) → Hp → VK → Prop} {x a : Str} {g c P : Addr} {k : Nat} {st : Stmt} {fd : FuncData} {Ng : List Str} {params : Arguments} {body : Expr} {scope : Scope} {t : XK → TE} {p lpos pos : Pos}
    (hg : Gl X x) (hm : X.mg x = some (.ref g)) (F : FunD X.K x x (defArgs st) (defBody st) (defScope st) [] [] g fd) (hb : L2.Binds X.K fd [a] []) (Sg : FnScope Ng [a] (defScope st)) (hNg : Ng[0]? = some a) (hva : Vis (defScope st) a)
    (hG : ∀ cdg, GivesS X Ng x (defScope st) g cdg (defBody st) a (X.env.qual ++ "<lambda>") TT)
    (TB : TabB X.base X.mg c P) (hcode : X.env.code = .ref c) (hT : T = [(P, X.env.qual ++ "<lambda>")]) (hr : Room (k + 2) X.A) (L : LamS X.env.scope scope) (hdef : defaultsOf params X.env = ([], []))
    (hbind : ∀ (q : Str) (cl : List (Str × Addr)) (pm cv ctv : Value), bindArgs (PySem.W.kla_fn "<lambda>" q params body scope cl pm cv ctv) ⟨[], []⟩ = pure [])
    (hbody : ∀ (A : Around) (outer : List Env) (s : Shared) (H : Hp) (E : XK) (f c' : Addr), Room k (A.deeper (lamEnv X scope s.heap.objs.size f c')) → PE (lamCx X A outer s H E scope f c') body (t E))
    (hdb : (x == ("__debug__" : Str)) = false := by decide) (hd : (a == ("__debug__" : Str)) = false := by decide) (hcd : (a == ("__classdict__" : Str)) = false := by decide) :
    PE X (.Call (.Name x p) [.Lambda params body scope lpos] [] pos) (tLam T TT t) := by
  obtain ⟨oc, od, dV, kV, doc, pm, an, cdv, ct, osl, rfl, lk, hcg, _, _⟩ := F.ex
  refine ⟨fun pins s σ H Q I h => ?_⟩
  obtain ⟨hTs, h⟩ := h
  refine wpAny_Call_Name_kw (ld_glob I hg hm ?_ hdb)
  refine PySem.W.callWith_K (h₀ := X.base) I.ok.mod.kin F.kp ?_ (by rfl) (by rfl)
  show wpAny _ _ (spliced ((false, eval (.Lambda params body scope lpos) X.env) :: backTo pos (starEach [] X.env))) _ _ s
  have hmT : (P, X.env.qual ++ "<lambda>") ∈ T := by rw [hT]; exact List.mem_singleton.mpr rfl
  have hu : ∀ p ∈ T, p.1 = P → p.2 = X.env.qual ++ "<lambda>" := fun p hp _ => by rw [hT] at hp; rw [List.mem_singleton.mp hp]
  refine Calls.spliced_cons (lam_make2 I TB hcode hmT hu hTs hdef (L.has I.ok) fun f c' pm' ctv H1 s' I1 eN T1 hf hfn hfr hco => ?_)
  refine Calls.spliced_nil ⟨I1.kIn, ?_⟩
  have rc : codeAny (model X.prog X.w) X.A (.call (.ref g) ⟨[.ref f], []⟩) (CR C8.CX0 X.stack X.prog X.w H1 s' Q C8.E0) s' := by
    refine run_ofS (N := Ng) (ps := [a]) (us := [.ref f]) (vs := [.ref f]) lk hcg Sg hr I1.env0 (hb s' [.ref f] I1.kIn rfl) (.cons rfl .nil) rfl fun hr' => ?_
    obtain ⟨t', ht', hq'⟩ := hG cdv f c' s' H1 Q (fun E H' Q' => t E σ H' Q') (fun W pn xe p1 p2 tk => pe_actS (i := 0) I1 L hf hfn hfr (hbind _ _ _ _ _) tk hr' (fun A outer s H E hr2 => hbody A outer s H E f c' hr2) hNg hva hd hcd) hco (h H1 eN T1)
    exact ⟨t', ht'.nox, hq'⟩
  refine wpAny_call (codeAny_mono rc fun r s2 hq => ?_)
  cases r with
  | error e => exact (show False from hq).elim
  | ok fl =>
    cases fl with
    | ret u => exact I1.after hq
    | next => exact False.elim hq
    | brk => exact False.elim hq
    | cont => exact False.elim hq
/-- a def told with its code object -/
theorem fn_mkC {P : Program} {w : World} {K : PySem.W.Frag} {mg : Str → Option Value} {base : Heap} {x : Str} {st : Stmt} {fd : FuncData} {dvs : List V} {kws : List (Str × V)} {N ps : List Str} {k : Nat} {sp : Sp} {p : He.Defn} (F : FunD K x x (defArgs st) (defBody st) (defScope st) dvs kws (He.fAd K p) fd)
    (S : FnScope N ps (defScope st)) (len : ∀ vs H Q E, sp vs H Q E → vs.length = ps.length)
    (body : ∀ (cdv : Value) (A : Around) (outer : List Env) (s : Shared) (H : Hp) (vs : List V) (Q : VK) (E : XK), cdv = .ref (He.codeOf K p) → Room k (A.deeper (envOfC x (defScope st) s.heap.objs.size (He.fAd K p) cdv)) → sp vs H Q E →
      ∃ t, PSs (cxOf CX0 P w K mg base N x (defScope st) (He.fAd K p) cdv A outer s H E).nox (defBody st) t ∧ t { nx := fun _ H' => Q .non H', rt := Q } (start N vs) H) : FnOk P w K mg base CX0 (k + 1) (He.fAd K p) fd ps sp := by
  obtain ⟨oc, od, dV, kV, doc, pm, an, cdv, ct, osl, rfl, lk, hcd, _, _⟩ := F.ex
  obtain ⟨c, ec⟩ := He.codeIn_ref hcd
  have e : cdv = .ref (He.codeOf K p) := by rw [ec, He.codeOf_eq lk (show (PySem.W.fnOf x x (defArgs st) (defBody st) (defScope st) dV kV doc pm an cdv ct).code = .ref c from ec)]
  exact fn_of lk hcd S len fun A outer s H vs Q E hr hsp => let ⟨t, a, b⟩ := body cdv A outer s H vs Q E e hr hsp; ⟨t, PSs.nox a, b⟩
/-! ### heaps in which all but the tables stay -/
theorem sn_rd {H H' : Hp} {a : Addr} {u : HO} (e : ExtN H H') (h : Rd H a u) (n : ∀ ps, u ≠ .tbl ps) : Rd H' a u := by
  rcases h with h | ⟨o, h⟩
  · exact .inl (e _ _ h n)
  · exact .inr ⟨o, e _ _ h fun ps z => by cases z⟩
theorem sn_l {K : PySem.W.Frag} {H H' : Hp} {a : Addr} {xs : List V} (e : ExtN H H') (h : SqL K H a xs) : SqL K H' a xs := by
  rcases h with h | h
  · exact .inl (sn_rd e h fun ps z => by cases z)
  · exact .inr h
theorem sn_t {K : PySem.W.Frag} {H H' : Hp} {a : Addr} {xs : List V} (e : ExtN H H') (h : SqT K H a xs) : SqT K H' a xs := by
  rcases h with h | h
  · exact .inl (sn_rd e h fun ps z => by cases z)
  · exact .inr h
mutual
theorem sn_d {K : PySem.W.Frag} {H H' : Hp} (e : ExtN H H') : ∀ {v : V} {d : PyData}, Dp K H v d → Dp K H' v d
  | _, _, .non => .non
  | _, _, .bl b => .bl b
  | _, _, .int i => .int i
  | _, _, .str x => .str x
  | _, _, .lst h a => .lst (sn_l e h) (sn_da e a)
  | _, _, .tup h a => .tup (sn_t e h) (sn_da e a)
theorem sn_da {K : PySem.W.Frag} {H H' : Hp} (e : ExtN H H') : ∀ {vs : List V} {ds : List PyData}, DpAll K H vs ds → DpAll K H' vs ds
  | _, _, .nil => .nil
  | _, _, .cons h a => .cons (sn_d e h) (sn_da e a)
end
theorem sn_of {H H' : Hp} (e : Same H H') : ExtN H H' := ExtN.of e
end FF
/-! Fivefault, part 12: defs with *v alone. -/
namespace FF
open PySem PySem.Spec PyProof.Rows L2 StX
structure DefS (P : Program) (w : World) (K : PySem.W.Frag) (mg : Str → Option Value) (base : Heap) (x : Str) (k : Nat) (sp : Sp) : Prop where
  ex : ∃ f : Addr, FnR P w K mg base (L2.CX P w) k f sp ∧ mg x = some (.ref f) ∧ PySem.W.keepIn K (.ref f) = true
section
variable {X : Cx} {W : WX} {E : XK} {x : Str} {k j : Nat} {sp : Sp} {e : Expr} {es : List Expr} {p pos : Pos} {t : TA}
theorem pe_defs (D : DefS X.prog X.w X.K X.mg X.base x k sp) (tk : Takes X W) (hW : ∀ cls d σ' H', E cls d H' → W cls d σ' H') (hr : Room j X.A) (hkj : k ≤ j) (ha : PA X (e :: es) t)
    (hg : Gl X x := by rfl) (hd : (x == ("__debug__" : Str)) = false := by decide) (he : starEach (e :: es) X.env = (false, eval e X.env) :: starEach es X.env := by rfl) (hpl : (backTo pos (starEach es X.env)).any (·.1) = false := by rfl) :
    PE X (.Call (.Name x p) (e :: es) [] pos) (tCall sp [] E t) := by
  obtain ⟨f, F, hm, hk⟩ := D.ex
  refine ⟨fun pins s σ H Q I h => ?_⟩
  refine wpAny_Call_Name_kw (ld_glob I hg hm ?_ hd)
  refine PySem.W.callWith_K (h₀ := X.base) I.ok.mod.kin hk (thn (ha.run pos pins s σ H _ I h) fun us s1 ⟨vs, H1, I1, r, q⟩ => ⟨I1.kIn, ?_⟩) he hpl
  have q2 : sp (vs ++ []) H1 Q E := q
  rw [List.append_nil] at q2
  exact wpAny_call (run_fnR F (hr.mono hkj) (passes_call tk hW) I1 r q2)
theorem pe_defs0 (D : DefS X.prog X.w X.K X.mg X.base x k sp) (tk : Takes X W) (hW : ∀ cls d σ' H', E cls d H' → W cls d σ' H') (hr : Room j X.A) (hkj : k ≤ j)
    (hg : Gl X x := by rfl) (hd : (x == ("__debug__" : Str)) = false := by decide) :
    PE X (.Call (.Name x p) [] [] pos) (fun _ H Q => sp [] H Q E) := by
  obtain ⟨f, F, hm, hk⟩ := D.ex
  refine ⟨fun pins s σ H Q I h => ?_⟩
  refine wpAny_Call_Name_kw (ld_glob I hg hm ?_ hd)
  refine PySem.W.callWith_K0 I.kIn hk ?_
  exact wpAny_call (run_fnR F (hr.mono hkj) (passes_call tk hW) I .nil h)
end
/-- a reading with a wish that is stronger -/
theorem pe_mono {X : Cx} {e : Expr} {t : TE} (h : PE X e t) : PE X e (fun σ H Q => ∃ Q' : VK, (∀ v H', Q' v H' → Q v H') ∧ t σ H Q') :=
  ⟨fun pins s σ H Q I ⟨Q', hq, ht⟩ => thn (h.run pins s σ H Q' I ht) fun u s1 ⟨v, H1, I1, r, q⟩ => ⟨v, H1, I1, r, hq v H1 q⟩⟩
theorem lam_by {X : Cx} {scope : Scope} (st : Stmt) (h : X.env.scope = defScope st) (hb : LamX.lamSB (defScope st) scope = true) : LamX.LamS X.env.scope scope := by
  rw [h]
  exact LamX.lamS_by hb
theorem bind_star0 {B : List Value → Sem (List (Str × Value))} {pv : Str} (h0 : B [] = (newTuple [] >>= fun t => pure [(pv, t)])) (h1 : ∀ r rs, B (r :: rs) = (newTuple (r :: rs) >>= fun t => pure [(pv, t)])) :
    ∀ us rest : List Value, us.length = ([] : List Str).length → B (us ++ rest) = (newTuple rest >>= fun t => pure (([] : List Str).zip us ++ [(pv, t)]))
  | [], [], _ => h0
  | [], r :: rs, _ => h1 r rs
theorem defs_mk {P : Program} {w : World} {K : PySem.W.Frag} {mg : Str → Option Value} {base : Heap} {x pv : Str} {st : Stmt} {f : Addr} {fd : FuncData} {N : List Str} {k : Nat} {sp : Sp} (F : FunD K x x (defArgs st) (defBody st) (defScope st) [] [] f fd) (hm : mg x = some (.ref f))
    (S : FnScope N [pv] (defScope st)) (h0 : ∀ (kV doc pm : Value) (an : Option Addr) (cdv ct : Value), bindArgs (PySem.W.fnOf x x (defArgs st) (defBody st) (defScope st) .none kV doc pm an cdv ct) ⟨[], []⟩ = (newTuple [] >>= fun t => pure [(pv, t)]))
    (h1 : ∀ (kV doc pm : Value) (an : Option Addr) (cdv ct : Value) (r : Value) (rs : List Value), bindArgs (PySem.W.fnOf x x (defArgs st) (defBody st) (defScope st) .none kV doc pm an cdv ct) ⟨r :: rs, []⟩ = (newTuple (r :: rs) >>= fun t => pure [(pv, t)]))
    (body : ∀ (cdv : Value) (A : Around) (outer : List Env) (s : Shared) (H : Hp) (vs : List V) (Q : VK) (E : XK), Room k (A.deeper (envOfC x (defScope st) s.heap.objs.size f cdv)) → sp vs H Q E →
      (Takes (cxOf (L2.CX P w) P w K mg base N x (defScope st) f cdv A outer s H E) fun cls d _ H => E cls d H) →
      ∃ t, PSs (cxOf (L2.CX P w) P w K mg base N x (defScope st) f cdv A outer s H E) (defBody st) t ∧ t { nx := fun _ H' => Q .non H', rt := Q } (start N vs) H) :
    DefS P w K mg base x (k + 1) (fun vs H Q E => vs.length ≤ sizeLine ∧ ∀ p, H p = none → sp [V.ref p] (upd H p (.tup vs)) Q E) := by
  have kp := F.kp
  obtain ⟨oc, od, dV, kV, doc, pm, an, cdv, ct, osl, rfl, lk, hcd, hD, _⟩ := F.ex
  obtain rfl : dV = .none := by
    rcases hD with ⟨_, e⟩ | ⟨e, _⟩
    · exact e
    · exact absurd rfl e
  refine ⟨f, FnR.imp (fn_star (ps := []) (sp := sp) lk hcd S cxUp (bind_star0 (B := fun us => bindArgs (PySem.W.fnOf x x (defArgs st) (defBody st) (defScope st) .none kV doc pm an cdv ct) ⟨us, []⟩) (h0 _ _ _ _ _ _) (h1 _ _ _ _ _ _))
    fun A outer s H vs Q E hr h => body cdv A outer s H vs Q E hr h (takes_of rfl rfl rfl rfl)) fun vs H Q E ⟨hz, h⟩ => ⟨[], vs, rfl, rfl, hz, h⟩, hm, kp⟩
end FF
/-! Fivefault, part 13: a list that stands aside during a call. -/
namespace FF
open PySem PySem.Spec PyProof.Rows L2
section
variable {P : Program} {w : World} {K : PySem.W.Frag} {mg : Str → Option Value} {base : Heap}
abbrev veil (H : Hp) (a : Addr) (xs : List V) : Hp := upd H a (hid (fun ys => ys = xs) a)
/-- the list at a is not seen by the body; it stays as it is -/
theorem FnOk.veil_ {k : Nat} {f : Addr} {fd : FuncData} {ps : List Str} {sp sp' : Sp} (F : FnOk P w K mg base CX0 k f fd ps sp) (len : ∀ vs H Q E, sp' vs H Q E → vs.length = ps.length)
    (h : ∀ vs H Q E, sp' vs H Q E → ∃ (a : Addr) (xs : List V), H a = some (.lst xs) ∧ sp vs (veil H a xs) (fun v H' => H' a = some (hid (fun ys => ys = xs) a) ∧ Q v (upd H' a (.lst xs))) E) : FnOk P w K mg base CX0 k f fd ps sp' := by
  refine ⟨len, fun A outer s H args us vs Q E hr e0 hb hv hsp => ?_⟩
  obtain ⟨a, xs, ha, hq⟩ := h vs H Q E hsp
  have ok := hok_shut (good := fun ys => ys = xs) ha rfl e0.hok
  have dom : ∀ {b}, H b = none → (veil H a xs) b = none := fun {b} n => by
    show upd _ _ _ _ = _
    rw [upd_ne (fun z => by rw [z, ha] at n; cases n)]
    exact n
  have e1 : Env0 P w K mg base A outer s (veil H a xs) := ⟨e0.frames, e0.mod, fun b o e => ⟨(e0.bs b o e).1, dom (e0.bs b o e).2⟩, e0.bsz, e0.funs, fun b hb => dom (e0.frf b hb), ok, e0.bare⟩
  refine codeAny_mono (F.run A outer s _ args us vs _ E hr e1 hb hv hq) fun r s' hc => ?_
  cases r with
  | error e => exact hc
  | ok fl =>
    cases fl with
    | ret u =>
      obtain ⟨v, H', os, bare, un, hok, rv, hy, q⟩ := hc
      obtain ⟨zs, rfl, hok2⟩ := hok_open hy hok
      refine ⟨v, _, os, bare, ?_, hok2, rv, q⟩
      have back : ∀ {b o}, H b = some o → b ≠ a → (veil H a zs) b = some o := fun {b o} e hb => by
        show upd _ _ _ _ = _
        rw [upd_ne hb]
        exact e
      have notA : ∀ {b}, H b = none → b ≠ a := fun {b} n z => by rw [z, ha] at n; cases n
      refine ⟨fun b o e n h1 h2 => un.keep b o e (dom n) h1 h2, fun b o e n h1 h2 => un.slot b o e (dom n) h1 h2, fun b o e n h1 => ?_, un.there, fun b ys' e => ?_, fun b o u' e => ?_, fun b ps' e => ?_⟩
      · rw [upd_ne (notA n)]
        exact un.free b o e (dom n) h1
      · have hb : b ≠ a := fun z => by rw [z, ha] at e; cases e
        rw [upd_ne hb]
        exact un.tups b ys' (back e hb)
      · have hb : b ≠ a := fun z => by rw [z, ha] at e; cases e
        rw [upd_ne hb]
        exact un.frzs b o u' (back e hb)
      · have hb : b ≠ a := fun z => by rw [z, ha] at e; cases e
        rw [upd_ne hb]
        exact un.tbls b ps' (back e hb)
    | next => exact hc
    | brk => exact hc
    | cont => exact hc
theorem Def.veil_ {x : Str} {k : Nat} {ps : List Str} {sp sp' : Sp} (D : Def P w K mg base x k ps sp) (len : ∀ vs H Q E, sp' vs H Q E → vs.length = ps.length)
    (h : ∀ vs H Q E, sp' vs H Q E → ∃ (a : Addr) (xs : List V), H a = some (.lst xs) ∧ sp vs (veil H a xs) (fun v H' => H' a = some (hid (fun ys => ys = xs) a) ∧ Q v (upd H' a (.lst xs))) E) : Def P w K mg base x k ps sp' := by
  obtain ⟨f, fd, F, r⟩ := D.ex
  exact ⟨f, fd, FnOk.veil_ F len h, r⟩
end
theorem hid_lst {good : List V → Prop} {a : Addr} {xs : List V} : hid good a ≠ .lst xs := fun z => by unfold hid at z; cases z
theorem hid_tup {good : List V → Prop} {a : Addr} {xs : List V} : hid good a ≠ .tup xs := fun z => by unfold hid at z; cases z
theorem hid_frz {good : List V → Prop} {a : Addr} {o : Obj} {u : HO} : hid good a ≠ .frz o u := fun z => by unfold hid at z; cases z
theorem rd_off {H : Hp} {a b : Addr} {good : List V → Prop} {u o : HO} (h : H a = some (hid good a)) (r : Rd H b u) (n : hid good a ≠ u) : Rd (upd H a o) b u := by
  have hb : b ≠ a := fun z => by
    subst z
    rcases r with r | ⟨p, r⟩
    · rw [h] at r
      exact n (Option.some.inj r)
    · rw [h] at r
      exact hid_frz (Option.some.inj r)
  rcases r with r | ⟨p, r⟩
  · exact .inl (by rw [upd_ne hb]; exact r)
  · exact .inr ⟨p, by rw [upd_ne hb]; exact r⟩
mutual
/-- data that does not pass the hidden list -/
theorem off_d {K : PySem.W.Frag} {H : Hp} {a : Addr} {good : List V → Prop} {o : HO} (h : H a = some (hid good a)) : ∀ {v : V} {d : PyData}, Dp K H v d → Dp K (upd H a o) v d
  | _, _, .non => .non
  | _, _, .bl b => .bl b
  | _, _, .int i => .int i
  | _, _, .str x => .str x
  | _, _, .lst hs ds => .lst (hs.elim (fun r => .inl (rd_off h r hid_lst)) .inr) (off_da h ds)
  | _, _, .tup hs ds => .tup (hs.elim (fun r => .inl (rd_off h r hid_tup)) .inr) (off_da h ds)
theorem off_da {K : PySem.W.Frag} {H : Hp} {a : Addr} {good : List V → Prop} {o : HO} (h : H a = some (hid good a)) : ∀ {vs : List V} {ds : List PyData}, DpAll K H vs ds → DpAll K (upd H a o) vs ds
  | _, _, .nil => .nil
  | _, _, .cons x r => .cons (off_d h x) (off_da h r)
end
theorem da_set {K : PySem.W.Frag} {H : Hp} {v : V} {d : PyData} (h : Dp K H v d) : ∀ {vs : List V} {ds : List PyData} (j : Nat), DpAll K H vs ds → DpAll K H (vs.set j v) (ds.set j d)
  | _, _, _, .nil => .nil
  | _, _, 0, .cons _ r => .cons h r
  | _, _, j + 1, .cons x r => .cons x (da_set h j r)
/-- all but the object at a stays -/
def SameB (a : Addr) (H H' : Hp) : Prop := ∀ b u, b ≠ a → H b = some u → H' b = some u
theorem tabs_b {T : List (Addr × Str)} {a : Addr} {H H' : Hp} {xs : List V} (t : LamX.Tabs T H) (ha : H a = some (.lst xs)) (e : SameB a H H') : LamX.Tabs T H' := fun p hp => by
  obtain ⟨ps, h1, h2, h3⟩ := t p hp
  refine ⟨ps, e _ _ (fun z => by rw [z, ha] at h1; cases h1) h1, h2, fun pos cv hc => ?_⟩
  obtain ⟨c, e1, e2⟩ := h3 pos cv hc
  exact ⟨c, e1, e _ _ (fun z => by rw [z, ha] at e2; unfold LamX.CodeO at e2; cases e2) e2⟩
theorem sameT_b {a : Addr} {H H' : Hp} {xs : List V} (ha : H a = some (.lst xs)) (e : SameB a H H') : SameT H H' := fun b ys h => e b _ (fun z => by rw [z, ha] at h; cases h) h
end FF
/-! Fivefault, part 14: the Hook, with the interpreter's own statics in sight. -/
namespace FF
open PySem PySem.Spec PyProof.Rows L2
def obsY (n : Nat) (fa : List He.Fa) (fn : List He.DefD) (tf : List He.Defn) (ex : PySem.W.Frag → Bool) (g : Addr → Option Obj) : He.AlX :=
  (He.obsT fa fn [] (He.frT g (He.asD g n ++ [PySem.cStatics])), ex (He.frT g (He.asD g n ++ [PySem.cStatics])) && He.tabsB g tf (He.frT g (He.asD g n ++ [PySem.cStatics])))
theorem saysY_of {fa : List He.Fa} {fn : List He.DefD} {tf : List He.Defn} {ex : PySem.W.Frag → Bool} {w : World} {h : Heap} {l : List Addr} (e : ((He.obsT fa fn [] (He.frT h.get? l), ex (He.frT h.get? l) && He.tabsB h.get? tf (He.frT h.get? l)) : He.AlX) = He.valX fn [] w) : He.SaysX fa fn [] tf ex w h (He.frT h.get? l) := by
  have e1 : He.obsT fa fn [] (He.frT h.get? l) = He.valT fn [] w := congrArg (fun z : He.AlX => z.1) e
  have e2 : (ex (He.frT h.get? l) && He.tabsB h.get? tf (He.frT h.get? l)) = true := congrArg (fun z : He.AlX => z.2) e
  obtain ⟨h1, h2⟩ := He.ba e2
  have key := fun p hp => He.ba (List.all_eq_true.mp h2 p hp)
  have tab : ∀ p ∈ tf, ∃ o, h.get? (He.cT (He.frT h.get? l) p).2 = some o ∧ He.emptyTab o = true := fun p hp => by
    have h4 := (key p hp).2
    cases q : h.get? (He.cT (He.frT h.get? l) p).2 with
    | none =>
      rw [q] at h4
      cases h4
    | some o =>
      rw [q] at h4
      exact ⟨o, rfl, h4⟩
  exact ⟨e1, h1, fun p hp => (key p hp).1, fun p hp => let ⟨_, q, z⟩ := tab p hp; He.frT_none q z, fun p hp => by
    obtain ⟨_, q, z⟩ := tab p hp
    rw [q, He.emptyTab_eq z]⟩
def hookY (n : Nat) (fa : List He.Fa) (fn : List He.DefD) (tf : List He.Defn) (ex : PySem.W.Frag → Bool) : PySem.W.Hook where
  α := He.AlX
  obs := fun s => obsY n fa fn tf ex s.heap.get?
  val := fun w => He.valX fn [] w
  says := fun w h => ∃ K : PySem.W.Frag, K.In h ∧ He.SaysX fa fn [] tf ex w h K
  of := fun _ _ e => ⟨_, He.frT_in, saysY_of e⟩
  keeps := fun _ _ _ ⟨K, hK, c⟩ k => ⟨K, PySem.W.Frag.In.keeps hK k, ⟨c.t, c.more, c.hd, c.out, fun p hp => k _ _ (c.empty p hp)⟩⟩
theorem obsY_eq {n : Nat} {fa : List He.Fa} {fn : List He.DefD} {tf : List He.Defn} {ex : PySem.W.Frag → Bool} {g : Addr → Option Obj} {s : Shared} (h : ∀ a, g a = s.heap.get? a) : obsY n fa fn tf ex g = (hookY n fa fn tf ex).obs s := by
  have e : g = s.heap.get? := funext h
  rw [e] <;> rfl
end FF
/-! Fivefault, part 15: comprehensions with a test, over a text; dicts made of pairs. -/
namespace FF
open PySem PySem.Spec PyProof.Rows L2
section
variable {K : PySem.W.Frag} {a D : Addr} {xs : List V} {tt : TT} {te : TE} {vs : List Nat} {j : Nat} {σ : L2.St} {H1 : Hp} {Qd : Hp → Prop}
theorem same_at {H H1 : Hp} {D : Addr} {o : HO} (hD : H1 D = none) (e : Same H1 H) : Same H1 (upd H D o) := fun b u hb => by
  rw [upd_ne (ne_of_none hb hD)]
  exact e _ _ hb
theorem lc_filtL (hD : H1 D = none) (hs : SqL K H1 a xs) (hz : xs.length ≤ sizeLine)
    (hw : ∀ x, wipe ((wipe σ vs).set j (some x)) vs = wipe σ vs)
    (test : ∀ (i : Nat) (x : V) (H2 : Hp), xs[i]? = some x → Same H1 H2 → ∀ Qb : Bool → Hp → Prop, (∀ b H3, Same H2 H3 → Qb b H3) → tt ((wipe σ vs).set j (some x)) H2 Qb)
    (elt : ∀ x H2 (Q' : VK), Q' x H2 → te ((wipe σ vs).set j (some x)) H2 Q')
    (done : ∀ H2 ys, Same H1 H2 → H2 D = some (.lst ys) → ys.length ≤ xs.length → (∀ y ∈ ys, y ∈ xs) → Qd H2) :
    ∃ W : Nat → Nat → Hp → Prop, (∃ m, W 0 m (upd H1 D (.lst []))) ∧ ∀ i m H, W i m H →
      ((Itl K a).stop i H ∧ Qd H) ∨ ((Itl K a).go i H ∧ ∃ Nx : Hp → Prop, (∀ H', Nx H' → ∃ m', m' < m ∧ W (i + 1) m' H') ∧ ∀ x H', (Itl K a).yld i H x H' → gName j x (wipe σ vs) H' fun σ2 H2 => wipe σ2 vs = wipe σ vs ∧ tt σ2 H2 fun b H3 =>
        if b = true then te σ2 H3 fun y H4 => ∃ acc, H4 D = some (.lst acc) ∧ acc.length < sizeLine ∧ Nx (upd H4 D (.lst (acc ++ [y]))) else Nx H3) :=
  lc_list (fun i H => Same H1 H ∧ ∃ ys, H D = some (.lst ys) ∧ ys.length ≤ i ∧ ∀ y ∈ ys, y ∈ xs)
    ⟨same_new hD _, [], upd_same, Nat.le_refl _, fun y h => by cases h⟩ (fun i H _ p => up_l p.1 hs)
    (fun i x H hx ⟨e, ys, h1, h2, h3⟩ => ⟨hw x, test i x H hx e _ fun b H3 e3 => by
      cases b with
      | false => exact ⟨e.trans e3, ys, e3 _ _ h1, Nat.le_succ_of_le h2, h3⟩
      | true =>
        refine elt x H3 _ ⟨ys, e3 _ _ h1, ?_, same_at hD (e.trans e3), _, upd_same, ?_, fun y hy => ?_⟩
        · exact Nat.lt_of_le_of_lt h2 (Nat.lt_of_lt_of_le (List.getElem?_eq_some_iff.mp hx).1 hz)
        · rw [List.length_append, List.length_singleton]
          exact Nat.succ_le_succ h2
        · rcases List.mem_append.mp hy with hy | hy
          · exact h3 y hy
          · rw [List.mem_singleton.mp hy]
            exact List.mem_of_getElem? hx⟩)
    fun H ⟨e, ys, h1, h2, h3⟩ => done H ys e h1 h2 h3
theorem lc_str {x : Str} (R : V → Hp → Prop) (mono : ∀ y H H', SameT H H' → R y H → R y H') (hD : H1 D = none) (hz : x.cps.size ≤ sizeLine)
    (hw : ∀ v, wipe ((wipe σ vs).set j (some v)) vs = wipe σ vs)
    (step : ∀ (i c : Nat) (H2 : Hp), x.cps[i]? = some c → Same H1 H2 → ∀ Q' : VK, (∀ y H3, Same H2 H3 → R y H3 → Q' y H3) → te ((wipe σ vs).set j (some (.str ⟨#[c]⟩))) H2 Q')
    (done : ∀ H2 ys, Same H1 H2 → H2 D = some (.lst ys) → ys.length ≤ x.cps.size → (∀ y ∈ ys, R y H2) → Qd H2) :
    ∃ W : Nat → Nat → Hp → Prop, (∃ m, W 0 m (upd H1 D (.lst []))) ∧ ∀ i m H, W i m H →
      ((Its x).stop i H ∧ Qd H) ∨ ((Its x).go i H ∧ ∃ Nx : Hp → Prop, (∀ H', Nx H' → ∃ m', m' < m ∧ W (i + 1) m' H') ∧ ∀ v H', (Its x).yld i H v H' → gName j v (wipe σ vs) H' fun σ2 H2 => wipe σ2 vs = wipe σ vs ∧ tYes σ2 H2 fun b H3 =>
        if b = true then te σ2 H3 fun y H4 => ∃ acc, H4 D = some (.lst acc) ∧ acc.length < sizeLine ∧ Nx (upd H4 D (.lst (acc ++ [y]))) else Nx H3) := by
  refine ⟨fun i m H => m = x.cps.size - i ∧ i ≤ x.cps.size ∧ Same H1 H ∧ ∃ ys, H D = some (.lst ys) ∧ ys.length ≤ i ∧ ∀ y ∈ ys, R y H, ⟨_, rfl, Nat.zero_le _, same_new hD _, [], upd_same, Nat.le_refl _, fun y h => by cases h⟩, ?_⟩
  rintro i m H ⟨rfl, hi, e, ys, h1, h2, h3⟩
  by_cases hlt : i < x.cps.size
  · refine .inr ⟨hlt, fun H' => i + 1 ≤ x.cps.size ∧ Same H1 H' ∧ ∃ ys, H' D = some (.lst ys) ∧ ys.length ≤ i + 1 ∧ ∀ y ∈ ys, R y H', fun H' p' => ⟨x.cps.size - (i + 1), by omega, rfl, p'⟩, fun v H' y => ?_⟩
    obtain ⟨rfl, c, hc, rfl⟩ := y
    refine ⟨hw _, ?_⟩
    unfold tYes
    dsimp only
    rw [if_pos rfl]
    refine step i c _ hc e _ fun y H3 e3 r => ⟨ys, e3 _ _ h1, Nat.lt_of_le_of_lt h2 (Nat.lt_of_lt_of_le hlt hz), hlt, same_at hD (e.trans e3), _, upd_same, ?_, fun z hz => ?_⟩
    · rw [List.length_append, List.length_singleton]
      exact Nat.succ_le_succ h2
    · have eT : ∀ {H : Hp}, H D = some (.lst ys) → ∀ o, SameT H (upd H D o) := fun hl o b xs hb => by
        rw [upd_ne (fun z => by rw [z, hl] at hb; cases hb)]
        exact hb
      rcases List.mem_append.mp hz with hz | hz
      · exact mono _ _ _ (eT (e3 _ _ h1) _) (mono _ _ _ (Same.T e3) (h3 z hz))
      · rw [List.mem_singleton.mp hz]
        exact mono _ _ _ (eT (e3 _ _ h1) _) r
  · exact .inl ⟨Nat.le_of_not_lt hlt, done H ys e h1 (Nat.le_trans h2 hi) h3⟩
end
/-- every parameter by name or place, no defaults -/
theorem kb_plain {K : PySem.W.Frag} {x qual : Str} {params : Arguments} {body : List Stmt} {scope : Scope} {kws : List (Str × V)} {f : Addr} {fd : FuncData} {ps : List Str} {n : Nat} {ks : List Str} (F : FunD K x qual params body scope [] kws f fd)
    (h : ∀ (kV doc pm : Value) (an : Option Addr) (cdv ct : Value) (us ws : List Value), us.length = n → ws.length = ks.length → bindArgs (PySem.W.fnOf x qual params body scope .none kV doc pm an cdv ct) ⟨us, ks.zip ws⟩ = pure (ps.zip (us ++ ws))) :
    KBn K fd ps n ks (fun us ws => us ++ ws) (fun vs zs => vs ++ zs) := by
  obtain ⟨oc, od, dV, kV, doc, pm, an, cdv, ct, osl, rfl, lk, hcd, hD, hK⟩ := F.ex
  rcases hD with ⟨_, rfl⟩ | ⟨e, _⟩
  · exact ⟨fun s us ws _ l1 l2 => .of_eq (h kV doc pm an cdv ct us ws l1 l2), fun r1 r2 => r1.append r2⟩
  · exact absurd rfl e
/-! ### dicts made of pairs -/
def BlK (kvs : List (Key × V)) : Prop := (kvs.map (·.1)).Nodup ∧ ∀ p ∈ kvs, ∃ b, p.2 = V.bl b
theorem putK_bl {kvs : List (Key × V)} {k : Key} {b : Bool} (h : BlK kvs) : BlK (putK kvs k (.bl b)) := by
  unfold putK
  by_cases e : (kvs.any fun kv => decide (kv.1 = k)) = true
  · rw [if_pos e]
    refine ⟨?_, fun p hp => ?_⟩
    · rw [List.map_map, show ((fun x : Key × V => x.1) ∘ fun kv : Key × V => if kv.1 = k then (kv.1, V.bl b) else kv) = fun x => x.1 from funext fun x => by
        show (if x.1 = k then (x.1, V.bl b) else x).1 = x.1
        split <;> rfl]
      exact h.1
    · obtain ⟨q, hq, rfl⟩ := List.mem_map.mp hp
      by_cases z : q.1 = k
      · rw [if_pos z]
        exact ⟨b, rfl⟩
      · rw [if_neg z]
        exact h.2 q hq
  · rw [if_neg e]
    refine ⟨?_, fun p hp => ?_⟩
    · rw [List.map_append]
      refine List.nodup_append.mpr ⟨h.1, by simp, fun x hx y hy z => ?_⟩
      obtain ⟨q, hq, rfl⟩ := List.mem_map.mp hx
      have hy2 : y = k := by simpa using hy
      exact e (List.any_eq_true.mpr ⟨q, hq, decide_eq_true (z.trans hy2)⟩)
    · rcases List.mem_append.mp hp with hp | hp
      · exact h.2 p hp
      · rw [List.mem_singleton.mp hp]
        exact ⟨b, rfl⟩
theorem mergeK_bl : ∀ {more kvs : List (Key × V)}, BlK kvs → (∀ p ∈ more, ∃ b, p.2 = V.bl b) → BlK (mergeK kvs more)
  | [], _, h, _ => h
  | (k, v) :: r, kvs, h, hm => by
    obtain ⟨b, hb⟩ := hm (k, v) List.mem_cons_self
    have hb' : v = .bl b := hb
    subst hb'
    exact mergeK_bl (more := r) (putK_bl h) fun p hp => hm p (List.mem_cons_of_mem _ hp)
theorem blK_nil : BlK [] := ⟨.nil, fun p h => by cases h⟩
end FF
/-! Fivefault, part 16: keywords gathered in a dict (def f(a, .., **d), called with keywords). -/
namespace FF
open PySem PySem.Spec PyProof.Rows L2
section
variable {prog : Program} {w : World} {A : Around} {E : Value → Shared → Prop} {d : Addr}
theorem kw_set {s : Shared} {es : List DictEntry} {n : Nat} {k : Str} {v : Value} {Q : Unit → Shared → Prop} (D : s.heap.get? d = some (PySem.W.dictOf es n)) (hs : ∀ e ∈ es, e.key.isStr k = false) (hr : ∀ e ∈ es, e.refKey = false)
    (h : ∀ h', h'.get? d = some (PySem.W.dictOf (es ++ [⟨PyData.keyHash w.params k, .str k s.toks, v⟩]) (n + 1)) → (∀ b, b ≠ d → h'.get? b = s.heap.get? b) → h'.objs.size = s.heap.objs.size → Q () { s with heap := h', toks := s.toks + 1 }) :
    wpAny (model prog w) A (nsSet d k v) Q E s := by
  have e1 : es.any (·.key.isStr k) = false := by
    rw [Bool.eq_false_iff]
    intro q
    obtain ⟨e, he, z⟩ := List.any_eq_true.mp q
    rw [hs e he] at z
    cases z
  have e2 : es.any (·.refKey) = false := by
    rw [Bool.eq_false_iff]
    intro q
    obtain ⟨e, he, z⟩ := List.any_eq_true.mp q
    rw [hr e he] at z
    cases z
  have e : Obj.putName k (PyData.keyHash w.params k) (.str k s.toks) v (PySem.W.dictOf es n) = PySem.W.dictOf (es ++ [⟨PyData.keyHash w.params k, .str k s.toks, v⟩]) (n + 1) := by
    rw [PySem.W.putName_dict, PySem.W.putL_new hs]
    show PySem.W.dictOf _ (if es.any (·.key.isStr k) then n else n + 1) = _
    rw [e1, if_neg Bool.false_ne_true]
  have c : aRefKeyMayBeTheName k es.toArray = false := by
    rw [aRefKeyMayBeTheName_at, ← Array.any_toList, ← Array.any_toList]
    show (!es.any (·.key.isStr k) && es.any (·.refKey)) = false
    rw [e2, Bool.and_false]
  unfold nsSet
  refine wpAny_bind (wpAny_bind (wpAny_askSetting (wpAny_pure (wpAny_bind (wpAny_mkText (wpAny_bind (wpAny_loadPart D ?_)))))))
  dsimp only
  rw [c]
  refine wpAny_updatePart D (h _ ?_ (fun b hb => Heap.get?_update_other _ _ (Ne.symm hb)) (Heap.size_update ..))
  have U := Heap.get?_update_self (Obj.putName k (PyData.keyHash w.params k) (.str k s.toks) v) D (by rw [e] <;> rfl)
  rw [e] at U
  exact U
theorem kw_fill {Q : PUnit → Shared → Prop} : ∀ (ex : List (Str × Value)) (s : Shared) (es : List DictEntry) (n : Nat), s.heap.get? d = some (PySem.W.dictOf es n) →
    (∀ e ∈ es, ∀ x ∈ ex, e.key.isStr x.1 = false) → (∀ e ∈ es, e.refKey = false) → (ex.map (·.1)).Nodup →
    (∀ h', h'.get? d = some (PySem.W.dictOf (es ++ PySem.W.kwEs w.params s.toks ex) (n + ex.length)) → (∀ b, b ≠ d → h'.get? b = s.heap.get? b) → h'.objs.size = s.heap.objs.size → Q ⟨⟩ { s with heap := h', toks := s.toks + ex.length }) →
    wpAny (model prog w) A (forIn ex PUnit.unit fun x _ => (nsSet d x.1 x.2 >>= fun _ => pure (ForInStep.yield PUnit.unit))) Q E s
  | [], s, es, n, D, _, _, _, h => by
    rw [List.forIn_nil]
    refine wpAny_pure (h s.heap ?_ (fun _ _ => rfl) rfl)
    show s.heap.get? d = some (PySem.W.dictOf (es ++ []) n)
    rw [List.append_nil]
    exact D
  | x :: r, s, es, n, D, hs, hr, hn, h => by
    obtain ⟨hn1, hn2⟩ := List.nodup_cons.mp (show (x.1 :: r.map (·.1)).Nodup from hn)
    rw [List.forIn_cons]
    refine wpAny_bind (wpAny_bind (kw_set D (fun e he => hs e he x List.mem_cons_self) hr fun h' D' k1 z1 => wpAny_pure ?_))
    show wpAny (model prog w) A (forIn r PUnit.unit fun x _ => (nsSet d x.1 x.2 >>= fun _ => pure (ForInStep.yield PUnit.unit))) Q E { s with heap := h', toks := s.toks + 1 }
    refine kw_fill r { s with heap := h', toks := s.toks + 1 } _ _ D' (fun e he y hy => ?_) (fun e he => ?_) hn2 fun h'' D'' k2 z2 => ?_
    · rcases List.mem_append.mp he with he | he
      · exact hs e he y (List.mem_cons_of_mem _ hy)
      · obtain rfl := List.mem_singleton.mp he
        show (x.1 == y.1) = false
        exact beq_eq_false_iff_ne.mpr fun q => hn1 (by rw [q]; exact List.mem_map_of_mem hy)
    · rcases List.mem_append.mp he with he | he
      · exact hr e he
      · obtain rfl := List.mem_singleton.mp he
        rfl
    · have t1 : s.toks + 1 + r.length = s.toks + (r.length + 1) := by omega
      have t2 : n + 1 + r.length = n + (r.length + 1) := by omega
      show Q ⟨⟩ { s with heap := h'', toks := s.toks + 1 + r.length }
      rw [t1]
      refine h h'' ?_ (fun b hb => (k2 b hb).trans (k1 b hb)) (z2.trans z1)
      rw [t2, List.append_assoc] at D''
      exact D''
theorem kwEs_mix : ∀ (ex : List (Str × Value)) (t : Tok), Pairs (mixKind prog w) (PySem.W.kwEs w.params t ex) (ex.map fun x => ((.inr x.1 : Key), x.2))
  | [], _ => Pairs.nil
  | x :: r, t => Pairs.cons (by show decide _ = true; exact decide_eq_true rfl) rfl (kwEs_mix r (t + 1))
theorem kwEs_dict {h : Heap} {ex : List (Str × Value)} {t : Tok} {n : Nat} (D : h.get? d = some (PySem.W.dictOf (PySem.W.kwEs w.params t ex) n)) (hn : (ex.map (·.1)).Nodup) : h.DictOf (mixKind prog w) d (ex.map fun x => ((.inr x.1 : Key), x.2)) := by
  refine ⟨_, _, n, D, ⟨rfl, rfl, rfl⟩, rfl, fun e he => ?_, kwEs_mix ex t, ?_⟩
  · obtain ⟨k, u, hk, hh⟩ := PySem.W.kwEs_key ex t e (List.mem_toArray.mp he)
    exact ⟨.inr k, by rw [hk]; show decide _ = true; exact decide_eq_true rfl, hh.trans rfl⟩
  · rw [List.map_map]
    have e : ((fun x : Key × Value => x.1) ∘ fun x : Str × Value => ((.inr x.1 : Key), x.2)) = fun x : Str × Value => (.inr x.1 : Key) := rfl
    rw [e]
    have : (ex.map fun x : Str × Value => (.inr x.1 : Key)) = (ex.map (·.1)).map Sum.inr := by rw [List.map_map] <;> rfl
    rw [this]
    exact hn.map Sum.inr fun a b h z => h (Sum.inr.inj z)
end
end FF
/-! Fivefault, part 17: defs with **d, called with keywords. -/
namespace FF
open PySem PySem.Spec PyProof.Rows L2 StX
/-- the entries that keywords make -/
def kwK (ks : List Str) (zs : List V) : List (Key × V) := (ks.zip zs).map fun x => (.inr x.1, x.2)
theorem kv_of : ∀ {ks : List Str} {zs : List V} {ws : List Value}, Vals zs ws → KV (kwK ks zs) ((ks.zip ws).map fun x => ((.inr x.1 : Key), x.2))
  | [], _, _, _ => by
    simp only [kwK, List.zip_nil_left, List.map_nil]
    exact .nil
  | k :: ks, [], _, .nil => .nil
  | k :: ks, z :: zs, w :: ws, .cons a r => .cons ⟨rfl, a⟩ (kv_of r)
def FnKw (P : Program) (w : World) (K : PySem.W.Frag) (mg : Str → Option Value) (base : Heap) (CX : CXT) (k : Nat) (f : Addr) (n : Nat) (ks : List Str) (sp : Sp) : Prop :=
  ∀ (A : Around) (outer : List Env) (s : Shared) (H : Hp) (us ws : List Value) (vs zs : List V) (Q : VK) (E : XK), Room k A → Env0 P w K mg base A outer s H → Vals vs us → Vals zs ws → vs.length = n → zs.length = ks.length → sp (vs ++ zs) H Q E →
    codeAny (model P w) A (.call (.ref f) ⟨us, ks.zip ws⟩) (CR CX outer P w H s Q E) s
structure DefK (P : Program) (w : World) (K : PySem.W.Frag) (mg : Str → Option Value) (base : Heap) (x : Str) (k n : Nat) (ks : List Str) (sp : Sp) : Prop where
  ex : ∃ f : Addr, FnKw P w K mg base (L2.CX P w) k f n ks sp ∧ mg x = some (.ref f) ∧ PySem.W.keepIn K (.ref f) = true
theorem defk_mk {P : Program} {w : World} {K : PySem.W.Frag} {mg : Str → Option Value} {base : Heap} {x pd : Str} {st : Stmt} {f : Addr} {fd : FuncData} {N ps ks : List Str} {k : Nat} {sp : Sp} (F : FunD K x x (defArgs st) (defBody st) (defScope st) [] [] f fd) (hm : mg x = some (.ref f))
    (S : FnScope N (ps ++ [pd]) (defScope st)) (hnd : ks.Nodup) (hsm : ks.length ≤ 1000)
    (hb : ∀ (kV doc pm : Value) (an : Option Addr) (cdv ct : Value) (us ws : List Value), us.length = ps.length → ws.length = ks.length → bindArgs (PySem.W.fnOf x x (defArgs st) (defBody st) (defScope st) .none kV doc pm an cdv ct) ⟨us, ks.zip ws⟩ =
      ((alloc ({ cls := .type "dict", data := .dict #[] } : Obj) : Sem Addr) >>= fun d => (forIn (ks.zip ws) PUnit.unit fun x _ => (nsSet d x.1 x.2 >>= fun _ => pure (ForInStep.yield PUnit.unit))) >>= fun _ => pure (ps.zip us ++ [(pd, Value.ref d)])))
    (body : ∀ (cdv : Value) (A : Around) (outer : List Env) (s : Shared) (H : Hp) (vs : List V) (Q : VK) (E : XK), Room k (A.deeper (envOfC x (defScope st) s.heap.objs.size f cdv)) → sp vs H Q E →
      (Takes (cxOf (L2.CX P w) P w K mg base N x (defScope st) f cdv A outer s H E) fun cls d _ H => E cls d H) →
      ∃ t, PSs (cxOf (L2.CX P w) P w K mg base N x (defScope st) f cdv A outer s H E) (defBody st) t ∧ t { nx := fun _ H' => Q .non H', rt := Q } (start N vs) H) :
    DefK P w K mg base x (k + 1) ps.length ks (fun xs H Q E => ∃ vs zs, xs = vs ++ zs ∧ vs.length = ps.length ∧ ∀ p, H p = none → sp (vs ++ [V.ref p]) (upd H p (.dK (kwK ks zs))) Q E) := by
  have kp := F.kp
  obtain ⟨oc, od, dV, kV, doc, pm, an, cdv, ct, osl, rfl, lk, hcd, hD, _⟩ := F.ex
  obtain rfl : dV = .none := by
    rcases hD with ⟨_, e⟩ | ⟨e, _⟩
    · exact e
    · exact absurd rfl e
  refine ⟨f, fun A outer s H us ws vs zs Q E hr e0 r rz l1 l2 ⟨vs', zs', ev, lv, hq⟩ => ?_, hm, kp⟩
  obtain ⟨rfl, rfl⟩ : vs = vs' ∧ zs = zs' := List.append_inj ev (l1.trans lv.symm)
  have hn : H s.heap.objs.size = none := e0.hok.fresh (Nat.le_refl _)
  have lu : us.length = ps.length := r.length.symm.trans l1
  have lw : ws.length = ks.length := rz.length.symm.trans l2
  refine run_bnd lk hcd S hr e0 (G := fun xs H2 => ∃ p, H p = none ∧ xs = vs ++ [V.ref p] ∧ H2 = upd H p (.dK (kwK ks zs))) (fun A' Ex Q' h => ?_) fun s2 H2 xs ⟨p, hp, ex, eH⟩ hr' => ?_
  · rw [hb kV doc pm an cdv ct us ws lu lw]
    refine wpAny_bind (wpAny_alloc (wpAny_bind ?_))
    have nd : ((ks.zip ws).map (·.1)).Nodup := by
      have : (ks.zip ws).map (·.1) = ks := by
        rw [List.map_fst_zip]
        omega
      rw [this]
      exact hnd
    refine kw_fill (ks.zip ws) _ [] 0 (Heap.get?_push_size _ rfl) (fun _ he => nomatch he) (fun _ he => nomatch he) nd fun h' D' k1 z1 => wpAny_pure ?_
    have k2 : ∀ b o, s.heap.get? b = some o → h'.get? b = some o := fun b o e => (k1 b (Nat.ne_of_lt (Heap.lt_size e))).trans (Heap.get?_push_of_some _ e)
    have dd := kwEs_dict (prog := P) (w := w) (ex := ks.zip ws) (by rw [List.nil_append] at D'; exact D') nd
    have new : ObjOk P w (upd H s.heap.objs.size (.dK (kwK ks zs))) h' s.heap.objs.size (.dK (kwK ks zs)) := dk_new (le_line (by unfold kwK; rw [List.length_map, List.length_zip]; omega)) (beq_eq_false_iff_ne.mpr (Ne.symm (Nat.ne_of_lt (env0_big e0)))) (kv_of rz) dd
    have un : Un (frs outer) [] H (upd H s.heap.objs.size (.dK (kwK ks zs))) s.heap h' := Un.laid k2 (Nat.le_refl _) hn
    have e1 : Env0 P w K mg base A outer { s with heap := h', toks := s.toks + (ks.zip ws).length } (upd H s.heap.objs.size (.dK (kwK ks zs))) := by
      refine ⟨e0.frames, e0.mod, fun b x e => ⟨k2 b x (e0.bs b x e).1, ?_⟩, ?_, Heap.FunFrames.of_keeps (fun b x e _ => ⟨x, k2 b x e, rfl⟩) e0.funs, fun b hb => ?_, e0.hok.laid k2 (Nat.le_refl _) new, e0.bare⟩
      · rw [upd_ne (Nat.ne_of_lt (Heap.lt_size (e0.bs b x e).1))]
        exact (e0.bs b x e).2
      · show base.objs.size ≤ h'.objs.size
        rw [z1]
        show base.objs.size ≤ (s.heap.push _).objs.size
        rw [Heap.size_push]
        exact Nat.le_succ_of_le e0.bsz
      · obtain ⟨_, x, hx, _⟩ := e0.funs.mem hb
        rw [upd_ne (Nat.ne_of_lt (Heap.lt_size hx))]
        exact e0.frf b hb
    have z := h _ _ (vs ++ [V.ref s.heap.objs.size]) (us ++ [Value.ref s.heap.objs.size]) e1 un rfl (fun e s' => cxUp outer s H _ _ E e s' un k2 rfl) (r.append (.cons rfl .nil)) (by rw [List.length_append, List.length_append, l1] <;> rfl) ⟨_, hn, rfl, rfl⟩
    rw [List.zip_append lu.symm] at z
    exact z
  · subst ex eH
    exact body cdv A outer s2 _ _ Q E hr' (hq p hp) (takes_of rfl rfl rfl rfl)
/-- x(e, .., k = v, ..) of such a def -/
theorem pe_defk {X : Cx} {E : XK} {x : Str} {k j n : Nat} {ks : List Str} {sp : Sp} {e : Expr} {es : List Expr} {kws : List Keyword} {p pos : Pos} {t tk : TA} (D : DefK X.prog X.w X.K X.mg X.base x k n ks sp) (hx : Passes (L2.CX X.prog X.w) X E) (hr : Room j X.A) (hkj : k ≤ j)
    (ha : PA X (e :: es) t) (hkw : PK X kws tk) (hg : Gl X x := by rfl) (hall : (backToKw pos (keywordEach kws X.env)).all (·.1.isSome) = true := by rfl) (hks : (backToKw pos (keywordEach kws X.env)).filterMap (·.1) = ks := by rfl)
    (hdb : (x == ("__debug__" : Str)) = false := by decide) (he : starEach (e :: es) X.env = (false, eval e X.env) :: starEach es X.env := by rfl)
    (hpl : ((backTo pos (starEach (e :: es) X.env)).any (·.1) || (backToKw pos (keywordEach kws X.env)).any (·.1.isNone)) = false := by rfl) :
    PE X (.Call (.Name x p) (e :: es) kws pos) (tCallN n ks.length sp (fun vs zs => vs ++ zs) E t tk) := by
  obtain ⟨f, F, hm, hk⟩ := D.ex
  refine ⟨fun pins s σ H Q I h => ?_⟩
  refine wpAny_Call_Name_kw (ld_glob I hg hm ?_ hdb)
  refine PySem.W.callWith_KW (h₀ := X.base) I.ok.mod.kin hk hall (thn (ha.run pos pins s σ H _ I h) fun us s1 ⟨vs, H1, I1, r, q⟩ => ?_) hpl he
  refine thn (hkw.run pos pins s1 σ H1 _ I1 q) fun ws s2 ⟨zs, H2, I2, rz, l1, l2, q2⟩ => ⟨I2.kIn, ?_⟩
  rw [hks]
  refine wpAny_call (codeAny_mono (F X.A X.stack s2 H2 us ws vs zs Q E (hr.mono hkj) I2.env0 r rz l1 l2 q2) fun r s' hq => ?_)
  cases r with
  | error e => exact hx pins σ H2 s2 e s' I2 hq
  | ok fl =>
    cases fl with
    | ret u => exact I2.after hq
    | next => exact False.elim hq
    | brk => exact False.elim hq
    | cont => exact False.elim hq
theorem pe_defk0 {X : Cx} {E : XK} {x : Str} {k j n : Nat} {sp : Sp} {e : Expr} {es : List Expr} {p pos : Pos} {t : TA} (D : DefK X.prog X.w X.K X.mg X.base x k n [] sp) (hx : Passes (L2.CX X.prog X.w) X E) (hr : Room j X.A) (hkj : k ≤ j)
    (ha : PA X (e :: es) t) (hg : Gl X x := by rfl) (hd : (x == ("__debug__" : Str)) = false := by decide) (he : starEach (e :: es) X.env = (false, eval e X.env) :: starEach es X.env := by rfl) (hpl : (backTo pos (starEach es X.env)).any (·.1) = false := by rfl) :
    PE X (.Call (.Name x p) (e :: es) [] pos) (fun σ H Q => t σ H fun vs H1 => vs.length = n ∧ sp (vs ++ []) H1 Q E) := by
  obtain ⟨f, F, hm, hk⟩ := D.ex
  refine ⟨fun pins s σ H Q I h => ?_⟩
  refine wpAny_Call_Name_kw (ld_glob I hg hm ?_ hd)
  refine PySem.W.callWith_K (h₀ := X.base) I.ok.mod.kin hk (thn (ha.run pos pins s σ H _ I h) fun us s1 ⟨vs, H1, I1, r, l1, q⟩ => ⟨I1.kIn, ?_⟩) he hpl
  refine wpAny_call (codeAny_mono (F X.A X.stack s1 H1 us [] vs [] Q E (hr.mono hkj) I1.env0 r .nil l1 rfl q) fun r s' hq => ?_)
  cases r with
  | error e => exact hx pins σ H1 s1 e s' I1 hq
  | ok fl =>
    cases fl with
    | ret u => exact I1.after hq
    | next => exact False.elim hq
    | brk => exact False.elim hq
    | cont => exact False.elim hq
end FF
/-! Fivefault, part 18: own exceptions with one field. -/
namespace FF
open PySem PySem.Spec PyProof.Rows L2
/-- C.__init__(self, y): the code z, the field f -/
def spIni1 (K : PySem.W.Frag) (z f : Str) : Sp := fun vs H Q _ => ∃ (a C : Addr) (y : V), vs = [.ref a, y] ∧ OexC K C ∧ PySem.W.findIn K (.ref C) "code" = some none ∧ PySem.W.findIn K (.ref C) f = some none ∧ H a = some (exo a C none) ∧
  ∀ dx, H dx = none → dx ≠ a → Q .non (upd (upd (upd H dx (exd dx [("code", .str z)])) a (exo a C (some dx))) dx (exd dx [(f, y), ("code", .str z)]))
structure RaiseD1 (P : Program) (w : World) (K : PySem.W.Frag) (mg : Str → Option Value) (base : Heap) (x y : Str) (k : Nat) (z f : Str) : Prop where
  own : OwnX K x y
  nof : PySem.W.findIn K (.ref (He.ga K x)) f = some none
  hm : mg x = some (.ref (He.ga K x))
  ini : ∃ fd, FnOk P w K mg base CX0 k (He.ma K (He.ga K x) "__init__") fd ["self", f] (spIni1 K z f) ∧ Binds K fd ["self", f] []
def tOwn1 (K : PySem.W.Frag) (x z f : Str) (ta : TA) : L2.St → Hp → XK → Prop := fun σ H Q => ta σ H fun vs H1 => ∃ y, vs = [y] ∧ ∀ dd H', Same H1 H' → H' dd = some (.xd [(f, y), ("code", .str z)]) → Q (.ref (He.ga K x)) (some dd) H'
theorem pmk_raise1 {X : Cx} {x y z f : Str} {k j : Nat} {e : Expr} {p pos : Pos} {ta : TA} (D : RaiseD1 X.prog X.w X.K X.mg X.base x y k z f) (hr : Room j X.A) (hkj : k + 1 ≤ j) (ha : PA X [e] ta) (hg : Gl X x := by rfl) (hdb : (x == ("__debug__" : Str)) = false := by decide)
    (he : starEach [e] X.env = (false, eval e X.env) :: starEach [] X.env := by rfl) (hpl : (backTo pos (starEach [] X.env)).any (·.1) = false := by rfl) (mono : ∀ σ H (Q Q' : List V → Hp → Prop), (∀ vs H1, Q vs H1 → Q' vs H1) → ta σ H Q → ta σ H Q') :
    PMk X (.Call (.Name x p) [e] [] pos) (tOwn1 X.K x z f ta) := by
  obtain ⟨fd, F, hb⟩ := D.ini
  refine pmk_imp (pmk_oex D.own.c.o D.own.ini D.own.tyI F (hr.mono hkj) hb .nil pass0 hg D.hm ha hdb he hpl) fun σ H Q q => ?_
  refine mono σ H _ _ (fun vs H1 ⟨y, ev, q⟩ => ?_) q
  subst ev
  refine ⟨by simp, fun a ha => ⟨a, He.ga X.K x, y, rfl, D.own.c.o, D.own.c.noc, D.nof, upd_same, fun dx hdx hne => ⟨rfl, dx, [(f, y), ("code", .str z)], ?_, upd_same, ?_, ?_⟩⟩⟩
  · rw [upd_ne (Ne.symm hne), upd_same]
  · rwa [upd_ne hne] at hdx
  · have hdx2 : H1 dx = none := by rwa [upd_ne hne] at hdx
    refine q dx _ (fun b u hb => ?_) upd_same
    have b1 : b ≠ dx := ne_of_none hb hdx2
    have b2 : b ≠ a := ne_of_none hb ha
    rw [upd_ne b1, del_ne b2, upd_ne b1, upd_ne b2, upd_ne b1, upd_ne b2]
    exact hb
end FF
/-! Fivefault, part 19: a, *b = t. -/
namespace FF
open PySem PySem.Spec PyProof.Rows L2
theorem tup_tail {prog : Program} {w : World} {A : Around} (hh : A.handled = none) (I ax : Addr) (hne : ax ≠ I) (x : Value) (items : List Value) :
    Walks prog w A I [I, ax] [I] items.length (fun i v => items[i]? = some v) (fun i h => h.IsTupleIter I ax (i + 1) ∧ h.IsTuple ax (x :: items).toArray) :=
  let W := Walks.tuple (prog := prog) (w := w) hh I ax hne (x :: items).toArray
  { sub := W.sub
    frame := fun i h h' st hk => W.frame (i + 1) h h' st hk
    item := fun i s Q E hi st hQ => W.item (i + 1) s Q E (by simpa using hi) st fun v h' tk hP st' hk => hQ v h' tk (by simpa using hP) st' hk
    done := fun s Q E st hQ => W.done s Q E (by simpa using st) hQ
    self := fun i s Q E st hQ => W.self (i + 1) s Q E st hQ }
theorem unpack_star {prog : Program} {w : World} {A : Around} {E : Value → Shared → Prop} {s : Shared} {t : Addr} {x : Value} {items : List Value} {Q : List Value → Shared → Prop} (hh : A.handled = none) (ht : s.heap.IsTuple t (x :: items).toArray) (hz : items.length ≤ sizeLine)
    (hQ : ∀ (h' : Heap) (tk : Nat), (∀ b o, s.heap.get? b = some o → h'.get? b = some o) → Q [x, .ref h'.objs.size] { s with heap := h'.push { cls := .type "list", data := .seq items.toArray }, toks := tk }) :
    wpAny (model prog w) A (unpackItems (.ref t) 2 (some 1)) Q E s := by
  have hlt : t ≠ s.heap.objs.size := by obtain ⟨o, ho, _⟩ := ht; exact Nat.ne_of_lt (Heap.lt_size ho)
  unfold unpackItems
  refine wpAny_bind ?_
  unfold notIterableAtAll
  refine wpAny_bind (wpAny_specialOf ht.typeIs PySem.F.slot_tuple_iter.lookup ?_)
  refine wpAny_pure ?_
  simp only [Bool.false_eq_true, if_false]
  refine wpAny_bind (wpAny_holding (wpAny_pyIter_tuple ht ?_))
  refine wpAny_bind (wpAny_holding (wpAny_draw_tuple hlt 1 0 _ _ ⟨_, Heap.get?_push_size _ rfl, rfl, rfl⟩ (ht.push _) (by simp) fun h₁ hit₁ hs₁ => ?_))
  have e1 : List.take 1 (List.drop 0 (x :: items).toArray.toList) = [x] := by simp
  rw [e1, if_neg (by simp)]
  have ht₁ : h₁.IsTuple t (x :: items).toArray := (ht.push _).extBut hs₁.extBut hlt
  have k1 : ∀ b o, s.heap.get? b = some o → h₁.get? b = some o := fun b o e => hs₁.extBut b o (Nat.ne_of_lt (Heap.lt_size e)) (Heap.get?_push_of_some _ e)
  have hin : s.heap.objs.size < h₁.objs.size := by
    obtain ⟨o, ho, _⟩ := hit₁
    exact Heap.lt_size ho
  have htn : t < h₁.objs.size := by
    obtain ⟨o, ho, _⟩ := ht₁
    exact Heap.lt_size ho
  refine wpAny_bind (wpAny_holding (wpAny_collect_iter (T := "tuple_iterator") (.inr (.inr (.inr rfl))) (Walks.toS (tup_tail (A := A.in1) hh s.heap.objs.size t hlt x items)) (fun i s st => st.1.typeIs) ⟨hit₁, ht₁⟩ (fun b hb => ?_) (by simp) (fun s' acc mv it => ?_) hz))
  · simp only [List.mem_cons, List.not_mem_nil, or_false] at hb
    rcases hb with rfl | rfl
    · exact hin
    · exact htn
  have ea : acc.toList = items := by
    apply List.ext_getElem?
    intro j
    rw [Array.getElem?_toList]
    cases h : acc[j]? with
    | some v => exact (it.2 j v h).symm
    | none =>
      have := Array.getElem?_eq_none_iff.mp h
      rw [it.1] at this
      exact (List.getElem?_eq_none this).symm
  rw [ea, if_neg (by omega)]
  have em : List.take (items.length - (2 - 1 - 1)) items = items := by simp
  have ed : List.drop (items.length - (2 - 1 - 1)) items = [] := by simp
  rw [em, ed]
  obtain ⟨h2, g2, d2, t2, o2⟩ := s'
  obtain ⟨mh, mg, md, mo, mt⟩ := mv
  have mg : g2 = s.gens := mg
  have md : d2 = s.drawn := md
  have mo : o2 = s.os := mo
  subst mg md mo
  refine wpAny_bind (wpAny_newList (wpAny_pure (hQ h2 t2 fun b o e => mh b o (fun hm => ?_) (k1 b o e))) hz)
  rw [List.mem_singleton.mp hm] at e
  exact Nat.lt_irrefl _ (Heap.lt_size e)
/-- a, *b = t -/
theorem pg_star2 {X : Cx} {e1 e2 : Expr} {p3 pos : Pos} {k : Nat} {t : TGs} (hc : X.calm = true) (h : PGs X [e1, e2] t) (hm : (assignEach [e1, .Starred e2 p3] X.env).map (·.2) = (assignEach [e1, e2] X.env).map (·.2) := by rfl)
    (hn : (assignEach [e1, .Starred e2 p3] X.env).length = 2 := by rfl) (hst : (assignEach [e1, .Starred e2 p3] X.env).findIdx? (·.1) = some 1 := by rfl) :
    PG X (.Tuple [e1, .Starred e2 p3] k pos) (fun v σ H Q => ∃ a x0 xs, v = .ref a ∧ SqT X.K H a (x0 :: xs) ∧ ∀ p, H p = none → t [x0, .ref p] σ (upd H p (.lst xs)) Q) := by
  refine ⟨fun pins s σ H v u Q I r hw => ?_⟩
  obtain ⟨a, x0, xs, rfl, hq, hw⟩ := hw
  cases r
  obtain ⟨its, rv, ht, hz⟩ := I.tuple hq
  cases rv with
  | @cons _ u0 _ us r0 rs =>
  have hl : us.length ≤ sizeLine := by
    have := rs.length
    rw [List.length_cons] at hz
    omega
  rw [PyProof.Rows.assign_Tuple]
  refine wpAny_bind (wpAny_standAt ?_)
  unfold unpack
  rw [hn, hst, hm]
  refine wpAny_bind (wpAny_holding (unpack_star (I.ok.hd hc) ht hl fun h' tk kp => ?_))
  have I1 : Inv X pins σ H { s with heap := h', toks := tk } := I.kept kp
  have hf : H h'.objs.size = none := I1.hok.fresh (Nat.le_refl _)
  have I2 : Inv X pins σ (upd H h'.objs.size (.lst xs)) { s with heap := h'.push { cls := .type "list", data := .seq us.toArray }, toks := tk } :=
    I1.laid (t' := tk) (fun b u e => Heap.get?_push_of_some _ e) (Nat.le_refl _) ⟨by rw [rs.length]; exact hl, us, 0, rs, Heap.get?_push_size _ rfl⟩
  exact h.run pins _ σ _ [x0, .ref h'.objs.size] [u0, .ref h'.objs.size] Q I2 (.cons r0 (.cons rfl .nil)) (hw _ hf)
end FF
/-! Fivefault, part 20: methods of own classes, some of which raise; instances whose fields change. -/
namespace FF
open PySem PySem.Spec PyProof.Rows L2
structure MethX (P : Program) (w : World) (K : PySem.W.Frag) (mg : Str → Option Value) (base : Heap) (C m : Str) (k : Nat) (ps : List Str) (sp : Sp) : Prop where
  ex : ∃ fd, FnOk P w K mg base (L2.CX P w) k (He.ma K (He.ga K C) m) fd ps sp ∧ Binds K fd ps []
  cl : Cls K (He.ga K C)
  me : Meth K (He.ga K C) m (He.ma K (He.ga K C) m)
structure MethD (P : Program) (w : World) (K : PySem.W.Frag) (mg : Str → Option Value) (base : Heap) (C m : Str) (k : Nat) (ps : List Str) (sp : Sp) : Prop where
  ex : ∃ fd, FnOk P w K mg base CX0 k (He.ma K (He.ga K C) m) fd ps sp ∧ Binds K fd ps []
  cl : Cls K (He.ga K C)
  me : Meth K (He.ga K C) m (He.ma K (He.ga K C) m)
section
variable {X : Cx} {W : WX} {E : XK} {C m : Str} {k j : Nat} {ps : List Str} {sp : Sp} {o e : Expr} {es : List Expr} {apos pos : Pos} {to : TE} {t : TA} {pl : Sem Bool}
theorem pe_methx (D : MethX X.prog X.w X.K X.mg X.base C m k ps sp) (tk : Takes X W) (hW : ∀ cls d σ' H', E cls d H' → W cls d σ' H') (hr : Room j X.A) (hkj : k ≤ j) (ho : PE X o to) (ha : PA X (e :: es) t)
    (hst : starEach (e :: es) X.env = (false, eval e X.env) :: starEach es X.env := by rfl) (hpl : (backTo pos (starEach es X.env)).any (·.1) = false := by rfl)
    (ht : eval (.Call (.Attribute o m apos) (e :: es) [] pos) X.env = (do
      let ov ← eval o X.env
      standAt apos.atName
      let (f, first) ← holding [ov] (getMethod ov m pl)
      callWith pos f first (backTo pos (starEach (e :: es) X.env)) (backToKw pos (keywordEach [] X.env))) := by rfl) :
    PE X (.Call (.Attribute o m apos) (e :: es) [] pos) (tMeth (He.ga X.K C) m sp [] E to t) := by
  obtain ⟨fd, F, hb⟩ := D.ex
  exact pe_meth ho D.cl D.me F (hr.mono hkj) hb .nil (passes_call tk hW) ha hst hpl ht
theorem pe_methd (D : MethD X.prog X.w X.K X.mg X.base C m k ps sp) (hr : Room j X.A) (hkj : k ≤ j) (ho : PE X o to) (ha : PA X (e :: es) t)
    (hst : starEach (e :: es) X.env = (false, eval e X.env) :: starEach es X.env := by rfl) (hpl : (backTo pos (starEach es X.env)).any (·.1) = false := by rfl)
    (ht : eval (.Call (.Attribute o m apos) (e :: es) [] pos) X.env = (do
      let ov ← eval o X.env
      standAt apos.atName
      let (f, first) ← holding [ov] (getMethod ov m pl)
      callWith pos f first (backTo pos (starEach (e :: es) X.env)) (backToKw pos (keywordEach [] X.env))) := by rfl) :
    PE X (.Call (.Attribute o m apos) (e :: es) [] pos) (tMeth (He.ga X.K C) m sp [] E0 to t) := by
  obtain ⟨fd, F, hb⟩ := D.ex
  exact pe_meth ho D.cl D.me F (hr.mono hkj) hb .nil pass0 ha hst hpl ht
theorem pe_methd0 (D : MethD X.prog X.w X.K X.mg X.base C m k ps sp) (hr : Room j X.A) (hkj : k ≤ j) (ho : PE X o to)
    (ht : eval (.Call (.Attribute o m apos) [] [] pos) X.env = (do
      let ov ← eval o X.env
      standAt apos.atName
      let (f, first) ← holding [ov] (getMethod ov m pl)
      callWith pos f first (backTo pos (starEach [] X.env)) (backToKw pos (keywordEach [] X.env))) := by rfl) :
    PE X (.Call (.Attribute o m apos) [] [] pos) (tMeth (He.ga X.K C) m sp [] E0 to tNil) := by
  obtain ⟨fd, F, hb⟩ := D.ex
  exact pe_meth0 ho D.cl D.me F (hr.mono hkj) hb .nil pass0 ht
end
/-- C(..): the class C with an own __init__ that raises nothing -/
structure MakeD (P : Program) (w : World) (K : PySem.W.Frag) (mg : Str → Option Value) (base : Heap) (C : Str) (k : Nat) (ps : List Str) (sp : Sp) : Prop where
  ex : ∃ fd, FnOk P w K mg base CX0 k (He.ma K (He.ga K C) "__init__") fd ps sp ∧ Binds K fd ps []
  mkr : Mk K (He.ga K C) (He.ma K (He.ga K C) "__init__")
  hm : mg C = some (.ref (He.ga K C))
theorem pe_mkd {X : Cx} {C : Str} {k j : Nat} {ps : List Str} {sp : Sp} {e : Expr} {es : List Expr} {p pos : Pos} {t : TA} (D : MakeD X.prog X.w X.K X.mg X.base C k ps sp) (hr : Room j X.A) (hkj : k + 1 ≤ j) (ha : PA X (e :: es) t)
    (hg : Gl X C := by rfl) (hdb : (C == ("__debug__" : Str)) = false := by decide) (he : starEach (e :: es) X.env = (false, eval e X.env) :: starEach es X.env := by rfl) (hpl : (backTo pos (starEach es X.env)).any (·.1) = false := by rfl) :
    PE X (.Call (.Name C p) (e :: es) [] pos) (tMake (He.ga X.K C) sp [] E0 t) := by
  obtain ⟨fd, F, hb⟩ := D.ex
  exact pe_make D.mkr F (hr.mono hkj) hg D.hm hb .nil pass0 ha hdb he hpl
section
variable {P : Program} {w : World} {K : PySem.W.Frag} {mg : Str → Option Value} {base : Heap}
theorem methx_mk {C m qual : Str} {st : Stmt} {fd : FuncData} {dvs : List V} {kws : List (Str × V)} {N ps : List Str} {k : Nat} {sp : Sp} (F : FunD K m qual (defArgs st) (defBody st) (defScope st) dvs kws (He.ma K (He.ga K C) m) fd) (hb : Binds K fd ps [])
    (cl : Cls K (He.ga K C)) (me : Meth K (He.ga K C) m (He.ma K (He.ga K C) m)) (S : FnScope N ps (defScope st)) (len : ∀ vs H Q E, sp vs H Q E → vs.length = ps.length)
    (body : ∀ (cdv : Value) (A : Around) (outer : List Env) (s : Shared) (H : Hp) (vs : List V) (Q : VK) (E : XK), Room k (A.deeper (envOfC qual (defScope st) s.heap.objs.size (He.ma K (He.ga K C) m) cdv)) → sp vs H Q E →
      (Takes (cxOf (L2.CX P w) P w K mg base N qual (defScope st) (He.ma K (He.ga K C) m) cdv A outer s H E) fun cls d _ H => E cls d H) →
      ∃ t, PSs (cxOf (L2.CX P w) P w K mg base N qual (defScope st) (He.ma K (He.ga K C) m) cdv A outer s H E) (defBody st) t ∧ t { nx := fun _ H' => Q .non H', rt := Q } (start N vs) H) : MethX P w K mg base C m (k + 1) ps sp :=
  ⟨⟨fd, FunD.ok F S len (fun cdv A outer s H vs Q E hr h => body cdv A outer s H vs Q E hr h (takes_of rfl rfl rfl rfl)), hb⟩, cl, me⟩
theorem fnm_mk {C m qual : Str} {st : Stmt} {fd : FuncData} {dvs : List V} {kws : List (Str × V)} {N ps : List Str} {k : Nat} {sp : Sp} (F : FunD K m qual (defArgs st) (defBody st) (defScope st) dvs kws (He.ma K (He.ga K C) m) fd)
    (S : FnScope N ps (defScope st)) (len : ∀ vs H Q E, sp vs H Q E → vs.length = ps.length)
    (body : ∀ (cdv : Value) (A : Around) (outer : List Env) (s : Shared) (H : Hp) (vs : List V) (Q : VK) (E : XK), Room k (A.deeper (envOfC qual (defScope st) s.heap.objs.size (He.ma K (He.ga K C) m) cdv)) → sp vs H Q E →
      ∃ t, PSs (cxOf CX0 P w K mg base N qual (defScope st) (He.ma K (He.ga K C) m) cdv A outer s H E).nox (defBody st) t ∧ t { nx := fun _ H' => Q .non H', rt := Q } (start N vs) H) : FnOk P w K mg base CX0 (k + 1) (He.ma K (He.ga K C) m) fd ps sp :=
  FunD.ok F S len fun cdv A outer s H vs Q E hr h => let ⟨t, a, b⟩ := body cdv A outer s H vs Q E hr h; ⟨t, PSs.nox a, b⟩
theorem methd_mk {C m qual : Str} {st : Stmt} {fd : FuncData} {dvs : List V} {kws : List (Str × V)} {N ps : List Str} {k : Nat} {sp : Sp} (F : FunD K m qual (defArgs st) (defBody st) (defScope st) dvs kws (He.ma K (He.ga K C) m) fd) (hb : Binds K fd ps [])
    (cl : Cls K (He.ga K C)) (me : Meth K (He.ga K C) m (He.ma K (He.ga K C) m)) (S : FnScope N ps (defScope st)) (len : ∀ vs H Q E, sp vs H Q E → vs.length = ps.length)
    (body : ∀ (cdv : Value) (A : Around) (outer : List Env) (s : Shared) (H : Hp) (vs : List V) (Q : VK) (E : XK), Room k (A.deeper (envOfC qual (defScope st) s.heap.objs.size (He.ma K (He.ga K C) m) cdv)) → sp vs H Q E →
      ∃ t, PSs (cxOf CX0 P w K mg base N qual (defScope st) (He.ma K (He.ga K C) m) cdv A outer s H E).nox (defBody st) t ∧ t { nx := fun _ H' => Q .non H', rt := Q } (start N vs) H) : MethD P w K mg base C m (k + 1) ps sp :=
  ⟨⟨fd, fnm_mk F S len body, hb⟩, cl, me⟩
theorem MethX.mono {C m : Str} {j k : Nat} {ps : List Str} {sp : Sp} (D : MethX P w K mg base C m j ps sp) (h : j ≤ k) : MethX P w K mg base C m k ps sp := by
  obtain ⟨fd, F, r⟩ := D.ex
  exact ⟨⟨fd, F.mono h, r⟩, D.cl, D.me⟩
theorem MethD.mono {C m : Str} {j k : Nat} {ps : List Str} {sp : Sp} (D : MethD P w K mg base C m j ps sp) (h : j ≤ k) : MethD P w K mg base C m k ps sp := by
  obtain ⟨fd, F, r⟩ := D.ex
  exact ⟨⟨fd, F.mono h, r⟩, D.cl, D.me⟩
/-- a promise that is never asked -/
theorem methx_none {C m qual : Str} {params : Arguments} {body : List Stmt} {scope : Scope} {fd : FuncData} {dvs : List V} {kws : List (Str × V)} {ps : List Str} {sp : Sp} (_F : FunD K m qual params body scope dvs kws (He.ma K (He.ga K C) m) fd) (hb : Binds K fd ps [])
    (cl : Cls K (He.ga K C)) (me : Meth K (He.ga K C) m (He.ma K (He.ga K C) m)) (no : ∀ vs H Q E, ¬ sp vs H Q E) : MethX P w K mg base C m 0 ps sp :=
  ⟨⟨fd, ⟨fun vs H Q E h => absurd h (no vs H Q E), fun A outer s H args us vs Q E _ _ _ _ h => absurd h (no vs H Q E)⟩, hb⟩, cl, me⟩
end
/-! ### all but one object stays -/
theorem sameT_i {a C dx : Addr} {fs : List (Str × V)} {H H' : Hp} (ha : H a = some (.ins C dx fs)) (e : SameB a H H') : SameT H H' := fun b ys h => e b _ (fun z => by rw [z, ha] at h; cases h) h
theorem sb_refl {a : Addr} {H : Hp} : SameB a H H := fun _ _ _ h => h
theorem SameB.tr {a : Addr} {H H1 H2 : Hp} (x : SameB a H H1) (y : SameB a H1 H2) : SameB a H H2 := fun b u n h => y b u n (x b u n h)
theorem sb_of {a : Addr} {H H1 : Hp} (x : Same H H1) : SameB a H H1 := fun b u _ h => x b u h
theorem sb_upd {a : Addr} {H : Hp} {o : HO} : SameB a H (upd H a o) := fun b u n h => by rw [upd_ne n]; exact h
theorem sb_same {a : Addr} {H H1 : Hp} (ha : H a = none) (x : SameB a H H1) : Same H H1 := fun b u h => x b u (ne_of_none h ha) h
end FF
/-! Fivefault, part 21: {k: v for a in xs for b in ys}. -/
namespace FF
open PySem PySem.Spec PyProof.Rows L2
section
variable {prog : Program} {w : World} {A : Around} {R : Result → Shared → Prop} {s : Shared} {ek ev ga ia gb ib : Expr} {cs ds : List Expr} {scope : Scope} {pos : Pos} {it : Value} {D : Addr} {env : Env}
abbrev dcE (ek ev ga ia gb ib : Expr) (cs ds : List Expr) (scope : Scope) (pos : Pos) : Expr := .DictComp ek ev [⟨ga, ia, cs, 0⟩, ⟨gb, ib, ds, 0⟩] scope pos
abbrev okE (A : Around) (prog : Program) (w : World) (env : Env) (R : Result → Shared → Prop) : Value → Shared → Prop := notedBy (model prog w) A env fun e s' => R (.error e) s'
abbrev testsOf (cs : List Expr) (env : Env) : Sem Bool := forIn cs true fun c r => if r = true then do let ok ← isTrue c env (eval c env); pure (ForInStep.yield ok) else pure (ForInStep.yield r)
theorem dturn_out : compTurn (dcE ek ev ga ia gb ib cs ds scope pos) 0 it (.ref D) env = (do
      standAt ia.pos
      match ← pyNext it with
      | none => pure (.done .next)
      | some v =>
        letOwnedTupleGo ga it v
        assign ga env v
        let mut ok := true
        for c in cs do
          if ok then ok ← isTrue c env (eval c env)
        if ok then
          let x ← eval ib env
          standAt ib.pos
          let x ← foldedSetIterable ib env x
          let _ ← runOwn (.compStart (dcE ek ev ga ia gb ib cs ds scope pos) 1 (← holding [x] (pyIter x)) (.ref D) env) env
        again (.compLoop (dcE ek ev ga ia gb ib cs ds scope pos) 0 it (.ref D) env)) := by rfl
theorem dturn_in : compTurn (dcE ek ev ga ia gb ib cs ds scope pos) 1 it (.ref D) env = (do
      standAt ib.pos
      match ← pyNext it with
      | none => pure (.done .next)
      | some v =>
        letOwnedTupleGo gb it v
        assign gb env v
        let mut ok := true
        for c in ds do
          if ok then ok ← isTrue c env (eval c env)
        if ok then
          (do
            let kv ← eval ek env
            let vv ← holding [kv] (eval ev env)
            standAt { ek.pos with endLine := ev.pos.endLine, endCol := ev.pos.endCol }
            holding [kv, vv] (dictSet D kv vv))
        again (.compLoop (dcE ek ev ga ia gb ib cs ds scope pos) 1 it (.ref D) env)) := by rfl
/-- the loop over the first source -/
theorem dloop_out (hs : ∀ x, foldedSetIterable ib env x = pure x) (J : Nat → Shared → Prop)
    (turn : ∀ n s, J n s → wpAny (model prog w) A (pyNext it) (fun r s₁ => match r with
      | none => R (.ok .next) s₁
      | some v => wpAny (model prog w) A (letOwnedTupleGo ga it v) (fun _ sa => wpAny (model prog w) A (assign ga env v) (fun _ sb => wpAny (model prog w) A (testsOf cs env) (fun ok sc =>
          if ok = true then wpAny (model prog w) A (eval ib env) (fun x sd => wpAny (model prog w) A (pyIter x) (fun i2 se => codeAny (model prog w) A (.compStart (dcE ek ev ga ia gb ib cs ds scope pos) 1 i2 (.ref D) env) (fun r s' => match r with
            | .ok _ => ∃ m, m < n ∧ J m s'
            | .error _ => False) se) (okE A prog w env R) sd) (okE A prog w env R) sc
          else ∃ m, m < n ∧ J m sc) (okE A prog w env R) sb) (okE A prog w env R) sa) (okE A prog w env R) s₁) (okE A prog w env R) s)
    (n : Nat) (h : J n s) : codeAny (model prog w) A (.compLoop (dcE ek ev ga ia gb ib cs ds scope pos) 0 it (.ref D) env) R s := by
  refine codeAny_loop rfl J (fun n s hJ => ?_) n h
  show wpAny _ A ((compTurn (dcE ek ev ga ia gb ib cs ds scope pos) 0 it (.ref D) env).onRaise (fun x => do noteFrame x env; theTreesLotGoes x)) _ _ s
  refine wpAny_noted ?_
  rw [dturn_out]
  refine wpAny_bind (wpAny_standAt (wpAny_bind (wpAny_mono (turn n s hJ) (fun r sa ha => ?_) fun _ _ z => z)))
  match r, ha with
  | none, ha => exact wpAny_pure ha
  | some v, ha =>
    refine wpAny_bind (wpAny_mono ha (fun _ sb hb => wpAny_bind (wpAny_mono hb (fun _ sc hc => wpAny_bind (wpAny_mono hc (fun ok sd hd => ?_) fun _ _ z => z)) fun _ _ z => z)) fun _ _ z => z)
    match ok, hd with
    | false, hd => exact wpAny_pure ⟨rfl, hd⟩
    | true, hd =>
      refine wpAny_bind (wpAny_mono hd (fun x se he => wpAny_bind (wpAny_standAt (wpAny_bind (wpAny_of_eq (hs x) (wpAny_bind (wpAny_holding (wpAny_mono he (fun i2 sf hf => ?_) fun _ _ z => z))))))) fun _ _ z => z)
      refine wpAny_bind (wpAny_runOwn ?_)
      rw [Around.mark_none]
      refine codeAny_mono hf fun r s' hr => ?_
      match r, hr with
      | .ok f, hr =>
        first
          | exact wpAny_pure ⟨rfl, hr⟩
          | exact wpAny_bind (wpAny_pure (wpAny_pure ⟨rfl, hr⟩))
      | .error e, hr => exact hr.elim
/-- the loop over the second -/
theorem dloop_in (J : Nat → Shared → Prop)
    (turn : ∀ n s, J n s → wpAny (model prog w) A (pyNext it) (fun r s₁ => match r with
      | none => R (.ok .next) s₁
      | some v => wpAny (model prog w) A (letOwnedTupleGo gb it v) (fun _ sa => wpAny (model prog w) A (assign gb env v) (fun _ sb => wpAny (model prog w) A (testsOf ds env) (fun ok sc =>
          if ok = true then wpAny (model prog w) A (eval ek env) (fun kv sd => wpAny (model prog w) A (eval ev env) (fun vv se => wpAny (model prog w) A (dictSet D kv vv) (fun _ sf => ∃ m, m < n ∧ J m sf) (okE A prog w env R) se) (okE A prog w env R) sd) (okE A prog w env R) sc
          else ∃ m, m < n ∧ J m sc) (okE A prog w env R) sb) (okE A prog w env R) sa) (okE A prog w env R) s₁) (okE A prog w env R) s)
    (n : Nat) (h : J n s) : codeAny (model prog w) A (.compLoop (dcE ek ev ga ia gb ib cs ds scope pos) 1 it (.ref D) env) R s := by
  refine codeAny_loop rfl J (fun n s hJ => ?_) n h
  show wpAny _ A ((compTurn (dcE ek ev ga ia gb ib cs ds scope pos) 1 it (.ref D) env).onRaise (fun x => do noteFrame x env; theTreesLotGoes x)) _ _ s
  refine wpAny_noted ?_
  rw [dturn_in]
  refine wpAny_bind (wpAny_standAt (wpAny_bind (wpAny_mono (turn n s hJ) (fun r sa ha => ?_) fun _ _ z => z)))
  match r, ha with
  | none, ha => exact wpAny_pure ha
  | some v, ha =>
    refine wpAny_bind (wpAny_mono ha (fun _ sb hb => wpAny_bind (wpAny_mono hb (fun _ sc hc => wpAny_bind (wpAny_mono hc (fun ok sd hd => ?_) fun _ _ z => z)) fun _ _ z => z)) fun _ _ z => z)
    match ok, hd with
    | false, hd => exact wpAny_pure ⟨rfl, hd⟩
    | true, hd =>
      exact wpAny_bind (wpAny_bind (wpAny_mono hd (fun kv se he => wpAny_bind (wpAny_holding (wpAny_mono he (fun vv sf hf => wpAny_bind (wpAny_standAt (wpAny_holding (wpAny_mono hf (fun _ sg hg => wpAny_pure ⟨rfl, hg⟩) fun _ _ z => z)))) fun _ _ z => z))) fun _ _ z => z))
theorem dstart_in (h0 : codeAny (model prog w) A (.compLoop (dcE ek ev ga ia gb ib cs ds scope pos) 1 it (.ref D) env) R s)
    (h : wpAny (model prog w) A (pyIter it) (fun i2 s' => codeAny (model prog w) A (.compLoop (dcE ek ev ga ia gb ib cs ds scope pos) 1 i2 (.ref D) env) R s') (okE A prog w env R) s) :
    codeAny (model prog w) A (.compStart (dcE ek ev ga ia gb ib cs ds scope pos) 1 it (.ref D) env) R s := by
  refine codeAny_of_tree ?_
  show wpAny _ _ ((compStart (dcE ek ev ga ia gb ib cs ds scope pos) 1 it (.ref D) env).onRaise (fun x => do noteFrame x env; standAt theWindowsPlace)) _ _ s
  refine wpAny_notedAt ?_
  unfold compStart
  show wpAny _ _ (ask >>= _) _ _ s
  refine wpAny_bind (wpAny_askSetting (wpAny_ite ?_))
  split
  · first
      | exact wpAny_bind (wpAny_pure (wpAny_pure (And.intro rfl h0)))
      | exact wpAny_pure (And.intro rfl h0)
  · first
      | exact wpAny_bind (wpAny_rule (wpAny_bind (wpAny_standAt (wpAny_bind (wpAny_mono h (fun i2 s' z => wpAny_pure (And.intro rfl z)) fun _ _ x => x)))))
      | (refine wpAny_bind (wpAny_rule ?_); show wpAny _ _ (standAt ib.pos >>= _) _ _ s; exact wpAny_bind (wpAny_standAt (wpAny_bind (wpAny_mono h (fun i2 s' z => wpAny_pure (And.intro rfl z)) fun _ _ x => x))))
end
/-- in every block of the comprehension -/
abbrev InBlk (X : Cx) (scope : Scope) (p : Cx → Prop) : Prop := ∀ (s : Shared) (H : Hp) (C : Addr) (cl : List (Str × Addr)) (fp : List Addr), p (X.blk s H scope (compEnvC scope cl C X.env) fp)
/-- the inner loop of {k: v for a in xs for b in ys} -/
def tDcIn (J : It) (g : TG) (tt : TT) (tk tv : TE) (D : Addr) (vs : List Nat) (σ : L2.St) (H : Hp) (Nx : Hp → Prop) : Prop := ∃ W : Nat → Nat → Hp → Prop, (∃ m, W 0 m H) ∧ ∀ j k H, W j k H →
  (J.stop j H ∧ Nx H) ∨ (J.go j H ∧ ∃ N : Hp → Prop, (∀ H', N H' → ∃ k', k' < k ∧ W (j + 1) k' H') ∧ ∀ x H', J.yld j H x H' → g x (wipe σ vs) H' fun σ3 H5 => wipe σ3 vs = wipe σ vs ∧ tt σ3 H5 fun b H6 =>
    if b = true then tk σ3 H6 fun y H7 => tv σ3 H7 fun z H8 => ∃ kvs key, y = kV key ∧ H8 D = some (.dK kvs) ∧ kvs.length < sizeLine ∧ N (upd H8 D (.dK (putK kvs key z))) else N H6)
def tDc2 (wi : TI) (g : TG) (tt : TT) (wi1 : TI) (g1 : TG) (tt1 : TT) (tk tv : TE) (vs vs1 : List Nat) : TE := fun σ H Q => wi σ H fun J H1 => ∀ D, H1 D = none → ∃ W : Nat → Nat → Hp → Prop, (∃ m, W 0 m (upd H1 D (.dK []))) ∧ ∀ i m H, W i m H →
  (J.stop i H ∧ Q (.ref D) H) ∨ (J.go i H ∧ ∃ Nx : Hp → Prop, (∀ H', Nx H' → ∃ m', m' < m ∧ W (i + 1) m' H') ∧ ∀ x H', J.yld i H x H' → g x (wipe σ vs) H' fun σ2 H2 => wipe σ2 vs = wipe σ vs ∧ tt σ2 H2 fun b H3 =>
    if b = true then wi1 σ2 H3 fun J1 H4 => tDcIn J1 g1 tt1 tk tv D vs1 σ2 H4 Nx else Nx H3)
theorem pe_dc2 {X : Cx} {ek ev ga ia gb ib : Expr} {cs ds : List Expr} {scope : Scope} {own : List (Str × Nat)} {vs1 : List Nat} {pos : Pos} {wi wi1 : TI} {g g1 : TG} {tt tt1 : TT} {tk tv : TE} (calm : X.calm = true) (nd : X.N.Nodup) (pia : PI X ga ia wi) (ok : BlkOk X.N X.env.scope scope own) (sub : ∀ i ∈ vs1, i ∈ own.map (·.2))
    (pga : InBlk X scope fun Y => PG Y ga g) (pta : InBlk X scope fun Y => PTs Y cs tt) (pib : InBlk X scope fun Y => PI Y gb ib wi1) (pgb : InBlk X scope fun Y => PG Y gb g1) (ptb : InBlk X scope fun Y => PTs Y ds tt1) (pek : InBlk X scope fun Y => PE Y ek tk) (pev : InBlk X scope fun Y => PE Y ev tv)
    (fa : ∀ x, foldedSetIterable ia X.env x = pure x := by intro _; rfl) (fb : ∀ env x, foldedSetIterable ib env x = pure x := by intro _ _; rfl) : PE X (dcE ek ev ga ia gb ib cs ds scope pos) (tDc2 wi g tt wi1 g1 tt1 tk tv (own.map (·.2)) vs1) := by
  refine ⟨fun pins s σ H Q I h => ?_⟩
  show wpAny _ X.A (eval (.DictComp ek ev [⟨ga, ia, cs, 0⟩, ⟨gb, ib, ds, 0⟩] scope pos) X.env) _ _ _
  rw [arm_eval_DictComp]
  have cells : ∀ y ∈ scope.names, y.2 = .free → ∃ c, X.env.cells.lookup y.1 = some c := fun y hy e => (ok.free y hy e).elim (fun k => I.ok.has _ (.inl k)) fun k => I.ok.has _ (.inr k)
  refine wpAny_comprehension_free rfl fa (closure_ok cells) ok.kind (fun y hy e => by rw [ok.uniq y hy, e]) (thn (pia.run pins s σ H _ I h) fun xv sa hx => thn hx fun itv sb hb => ?_)
  obtain ⟨it, fp, tn, J, H2, rfl, I2, T, t2, f2, q⟩ := hb
  refine wpAny_newObj_type (newEnv_comp ?_)
  generalize hD : sb.heap.objs.size = D
  have freeD : H2 D = none := I2.hok.fresh (Nat.le_of_eq hD)
  obtain ⟨W, ⟨m0, w0⟩, turn⟩ := q D freeD
  generalize hs3 : ({ sb with heap := sb.heap.push { cls := .type "dict", data := .dict #[] } } : Shared) = s3
  have heap3 : s3.heap = sb.heap.push { cls := .type "dict", data := .dict #[] } := by rw [← hs3]
  have I3 : Inv X pins σ (upd H2 D (.dK [])) s3 := by
    rw [← hs3]
    exact I2.laid (t' := sb.toks) (fun b o e => Heap.get?_push_of_some _ e) (Nat.le_of_eq hD) (by rw [← hD]; exact dk_empty sb.heap I2.big)
  have below : ∀ b ∈ fp, b < sb.heap.objs.size := fun b hb => let ⟨o, e, _⟩ := T.obj _ _ t2 b hb; Heap.lt_size e
  have f3 : ∀ b ∈ fp, FpOk X pins (upd H2 D (.dK [])) b ∧ b < s3.heap.objs.size := fun b hb => by
    refine ⟨⟨?_, (f2 b hb).2⟩, by rw [heap3, Heap.size_push]; exact Nat.lt_succ_of_lt (below b hb)⟩
    rw [upd_ne (by rw [← hD]; exact Nat.ne_of_lt (below b hb))]
    exact (f2 b hb).1
  have t3 : tn 0 s3.heap := T.keep _ _ _ t2 fun b _ o e => by rw [heap3]; exact Heap.get?_push_of_some _ e
  have I4 := block_start I3 ok nd f3
  have off3 : ∀ b ∈ fp, (upd H2 D (.dK [])) b = none := fun b hb => (f3 b hb).1.1
  show codeAny _ _ (.compStart (dcE ek ev ga ia gb ib cs ds scope pos) 0 (.ref it) (.ref D) (compEnvC scope (cellsFrom (s3.heap.objs.size + 1) scope.names (cloFrom X.env.cells scope.names [])) s3.heap.objs.size X.env)) (compPost (model X.prog X.w) X.A X.xe none (EP X pins σ Q) (.ref D) s3.heap.objs.size) { s3 with heap := pushCells (s3.heap.push { cls := .type "dict", data := .dict #[] }) scope.names }
  generalize hcl : cellsFrom (s3.heap.objs.size + 1) scope.names (cloFrom X.env.cells scope.names []) = cl at I4 ⊢
  have rga := pga s3 (upd H2 D (.dK [])) s3.heap.objs.size cl fp
  have rta := pta s3 (upd H2 D (.dK [])) s3.heap.objs.size cl fp
  have rib := pib s3 (upd H2 D (.dK [])) s3.heap.objs.size cl fp
  have rgb := pgb s3 (upd H2 D (.dK [])) s3.heap.objs.size cl fp
  have rtb := ptb s3 (upd H2 D (.dK [])) s3.heap.objs.size cl fp
  have rek := pek s3 (upd H2 D (.dK [])) s3.heap.objs.size cl fp
  have rev := pev s3 (upd H2 D (.dK [])) s3.heap.objs.size cl fp
  have fbe := fb (compEnvC scope cl s3.heap.objs.size X.env)
  generalize hce : compEnvC scope cl s3.heap.objs.size X.env = ce at I4 rga rta rib rgb rtb rek rev fbe ⊢
  have loc : ce.locals = s3.heap.objs.size := by subst hce; rfl
  generalize hH3 : upd H2 D (.dK []) = H3 at I3 I4 rga rta rib rgb rtb rek rev w0 off3 f3
  generalize hs4 : ({ s3 with heap := pushCells (s3.heap.push { cls := .type "dict", data := .dict #[] }) scope.names } : Shared) = s4 at I4 ⊢
  have t4 : tn 0 s4.heap := T.keep _ _ _ t3 fun b _ o e => by rw [← hs4]; exact pushCells_keeps _ _ _ _ (Heap.get?_push_of_some _ e)
  let B := X.blk s3 H3 scope ce fp
  have foot : ∀ {σ' : L2.St} {H' : Hp} {s' : Shared}, Inv B [] σ' H' s' → (∀ b ∈ fp, H' b = none) → ∀ b ∈ fp, FpOk B [] H' b := fun {σ' H' s'} I' hn b hb =>
    ⟨hn b hb, (I'.ok.exf b hb).1, I'.ok.exfs b hb, .inl hb, fun x c e => (I'.ok.exf b hb).2 x c e, fun p hp => absurd (show p ∈ ([] : List (Addr × Obj)) ++ [] from hp) (by simp)⟩
  let Sj : Nat → Shared → Prop := fun n s' => ∃ i H', Inv B [] (wipe σ (own.map (·.2))) H' s' ∧ tn i s'.heap ∧ (∀ b ∈ fp, H' b = none) ∧ W i n H'
  have loop := dloop_out (prog := X.prog) (w := X.w) (A := X.A) (it := .ref it) (D := D) (ek := ek) (ev := ev) (ga := ga) (ia := ia) (gb := gb) (cs := cs) (ds := ds) (scope := scope) (pos := pos) (R := compPost (model X.prog X.w) X.A X.xe none (EP X pins σ Q) (.ref D) s3.heap.objs.size) fbe Sj (fun n s5 hs5 => ?_) m0 (show Sj m0 s4 from ⟨0, H3, I4, t4, off3, w0⟩)
  · exact codeAny_compStart_dict loop (T.self X.A 0 _ _ _ t4 loop)
  obtain ⟨i, H5, I5, t5, n5, w5⟩ := hs5
  rcases turn i n H5 w5 with ⟨stop, qq⟩ | ⟨go, Nx, hNx, step⟩
  · refine thnF (T.done B rfl rfl rfl calm i [] s5 _ H5 (fun _ _ => False) I5 (foot I5 n5) t5 stop) fun r s6 ⟨hr, I6⟩ => ?_
    subst hr
    have I7 : Inv X pins σ H5 s6 := I3.call' (ch := fp) I6.os I6.base I6.hok I6.bare fun b hb => ⟨(f3 b hb).1.2.2.2.1, (f3 b hb).1.2.1, (f3 b hb).1.2.2.2.2.1, (f3 b hb).1.2.2.2.2.2⟩
    have freeC : H5 s3.heap.objs.size = none := loc ▸ (show H5 ce.locals = none from I6.free)
    obtain ⟨m, hn, _⟩ := I6.loc
    have hn : s6.heap.Ns s3.heap.objs.size m := loc ▸ (show s6.heap.Ns ce.locals m from hn)
    obtain ⟨k0, k1, k2, k3, k4, k5⟩ := I3.fpOk (Nat.le_refl _) freeC
    exact ⟨m, hn, fun h'' same => ⟨.ref D, H5, I7.turned (t' := s6.toks) (fun b o hb e => (same.2 b hb).trans e) k0 k1 k3 k4 k5, rfl, qq⟩⟩
  refine thnF (T.item B rfl rfl rfl calm i [] s5 _ H5 (fun _ _ => False) I5 (foot I5 n5) t5 go) fun r s6 ⟨u, hr, h6⟩ => ?_
  subst hr
  refine thnF h6 fun _ s7 ⟨x, H7, I7, r7, y7, t7, n7⟩ => ?_
  refine thnF (rga.run _ s7 _ H7 x u _ (I7.pinned (foot I7 n7) (T.obj _ _ t7)) r7 (step x H7 y7)) fun _ s8 ⟨σ8, H8, I8, hw8, q8⟩ => ?_
  refine thnF (rta.run _ s8 σ8 H8 _ I8 q8) fun b s9 ⟨H9, I9, q9⟩ => ?_
  have turnEnd : ∀ {σ9 : L2.St} {s' : Shared} {H' : Hp}, Inv B ([] ++ pinsAt fp s7.heap) σ9 H' s' → (wipe σ (own.map (·.2))).length = σ9.length → (∀ (j : Nat) v, (wipe σ (own.map (·.2)))[j]? = some (some v) → σ9[j]? = some (some v)) → Nx H' → ∃ m, m < n ∧ Sj m s' := fun {σ9 s' H'} I' hl hk nx => by
    obtain ⟨m', hm, w'⟩ := hNx H' nx
    have stays : ∀ b ∈ fp, ∀ o, s7.heap.get? b = some o → s'.heap.get? b = some o ∧ H' b = none := fun b hb o e =>
      let z := I'.pin (b, o) (List.mem_append_right _ (List.mem_append_right _ (mem_pinsAt hb e)))
      ⟨z.1, z.2.1⟩
    exact ⟨m', hm, i + 1, H', (I'.unpinned (pins := [])).weak hl hk, T.keep _ _ _ t7 fun b hb o e => (stays b hb o e).1, fun b hb => let ⟨o, e, _⟩ := T.obj _ _ t7 b hb; (stays b hb o e).2, w'⟩
  have len8 : (wipe σ (own.map (·.2))).length = σ8.length := by rw [← hw8, wipe_length]
  have keep8 : ∀ (j : Nat) v, (wipe σ (own.map (·.2)))[j]? = some (some v) → σ8[j]? = some (some v) ∧ j ∉ own.map (·.2) := fun j v e => by
    rw [← hw8] at e
    exact wipe_some e
  cases b with
  | false => exact turnEnd I9 len8 (fun j v e => (keep8 j v e).1) (by simpa using q9)
  | true =>
  simp only [if_true] at q9 ⊢
  refine thnF (rib.run _ s9 σ8 H9 _ I9 q9) fun yv s10 hy => thnF hy fun itv s11 h11 => ?_
  obtain ⟨i1, fp1, tn1, J1, H11, rfl, I11, T1, t11, f11, W1, ⟨m1, w1⟩, turn1⟩ := h11
  have foot1 : ∀ {H' : Hp}, (∀ b ∈ fp1, H' b = none) → ∀ b ∈ fp1, FpOk B ([] ++ pinsAt fp s7.heap) H' b := fun hn b hb => ⟨hn b hb, (f11 b hb).2⟩
  let Sk : Nat → Shared → Prop := fun k s' => ∃ j H', Inv B ([] ++ pinsAt fp s7.heap) (wipe σ8 vs1) H' s' ∧ tn1 j s'.heap ∧ (∀ b ∈ fp1, H' b = none) ∧ W1 j k H'
  have loop1 := dloop_in (prog := X.prog) (w := X.w) (A := X.A) (env := ce) (it := .ref i1) (D := D) (ek := ek) (ev := ev) (ga := ga) (ia := ia) (gb := gb) (ib := ib) (cs := cs) (ds := ds) (scope := scope) (pos := pos) (R := fun r s' => match r with
    | .ok _ => ∃ m, m < n ∧ Sj m s'
    | .error _ => False) Sk (fun k s12 hs12 => ?_) m1 (show Sk m1 s11 from ⟨0, H11, I11.weak (wipe_length _ _) (fun j v e => (wipe_some e).1), t11, fun b hb => (f11 b hb).1, w1⟩)
  · exact dstart_in loop1 (T1.self X.A 0 _ _ _ t11 loop1)
  obtain ⟨j, H12, I12, t12, n12, w12⟩ := hs12
  rcases turn1 j k H12 w12 with ⟨stop1, nx1⟩ | ⟨go1, N1, hN1, step1⟩
  · refine thnF (T1.done B rfl rfl rfl calm j _ s12 (wipe σ8 vs1) H12 (fun _ _ => False) I12 (foot1 n12) t12 stop1) fun r s13 ⟨hr, I13⟩ => ?_
    subst hr
    refine turnEnd I13 (len8.trans (wipe_length σ8 vs1).symm) (fun j v e => ?_) nx1
    obtain ⟨e1, e2⟩ := keep8 j v e
    rw [wipe_out fun z => e2 (sub j z)]
    exact e1
  refine thnF (T1.item B rfl rfl rfl calm j _ s12 (wipe σ8 vs1) H12 (fun _ _ => False) I12 (foot1 n12) t12 go1) fun r s13 ⟨u1, hr, h13⟩ => ?_
  subst hr
  refine thnF h13 fun _ s14 ⟨x1, H14, I14, r14, y14, t14, n14⟩ => ?_
  refine thnF (rgb.run _ s14 (wipe σ8 vs1) H14 x1 u1 _ (I14.pinned (foot1 n14) (T1.obj _ _ t14)) r14 (step1 x1 H14 y14)) fun _ s15 ⟨σ15, H15, I15, hw15, q15⟩ => ?_
  refine thnF (rtb.run _ s15 σ15 H15 _ I15 q15) fun b1 s16 ⟨H16, I16, q16⟩ => ?_
  have innerEnd : ∀ {s' : Shared} {H' : Hp}, Inv B (([] ++ pinsAt fp s7.heap) ++ pinsAt fp1 s14.heap) σ15 H' s' → N1 H' → ∃ m, m < k ∧ Sk m s' := fun {s' H'} I' nx => by
    obtain ⟨m', hm, w'⟩ := hN1 H' nx
    have stays : ∀ b ∈ fp1, ∀ o, s14.heap.get? b = some o → s'.heap.get? b = some o ∧ H' b = none := fun b hb o e =>
      let z := I'.pin (b, o) (List.mem_append_right _ (List.mem_append_right _ (mem_pinsAt hb e)))
      ⟨z.1, z.2.1⟩
    exact ⟨m', hm, j + 1, H', I'.unpinned.weak (by rw [← hw15, wipe_length]) (fun j v e => by rw [← hw15] at e; exact (wipe_some e).1), T1.keep _ _ _ t14 fun b hb o e => (stays b hb o e).1, fun b hb => let ⟨o, e, _⟩ := T1.obj _ _ t14 b hb; (stays b hb o e).2, w'⟩
  cases b1 with
  | false => exact innerEnd I16 (by simpa using q16)
  | true =>
  simp only [if_true] at q16 ⊢
  refine thnF (rek.run _ s16 σ15 H16 _ I16 q16) fun yk s17 ⟨kk, H17, I17, r17, q17⟩ => ?_
  refine thnF (rev.run _ s17 σ15 H17 _ I17 q17) fun yv2 s18 ⟨vv, H18, I18, r18, kvs, key, ek2, hD18, hz18, nx⟩ => ?_
  subst ek2
  exact d_dictSet (X := B) I18 hD18 hz18 r17 r18 fun s19 I19 => innerEnd I19 nx
end FF
/-! Fivefault, part 22: sorted(d), a dict with any number of text keys. -/
namespace FF
open PySem PySem.Spec PyProof.Rows L2
def rSortedDA (H0 : Unit) : List V → Hp → VK → Prop := fun xs H Q => ∃ (a : Addr) (kvs : List (Key × V)) (ks : List Str), xs = [.ref a] ∧ H a = some (.dK kvs) ∧ kvs.map (·.1) = ks.map Sum.inr ∧ ∀ ys p, ys.Perm ks → sortedS ys = true → H p = none → Q (.ref p) (upd H p (.lst (ys.map V.str)))
theorem cr_sortedDA {X : Cx} (calm : X.calm = true) : CallR X (.builtin "sorted") (rSortedDA ()) := by
  intro pins s σ H xs us Q I r h
  obtain ⟨a, kvs, ks, rfl, hd, hk, q⟩ := h
  obtain ⟨u, rfl, rx⟩ := vals1 r
  cases rx
  obtain ⟨z, big, vs, rel, dd⟩ := dk_rd I.hok (.inl hd)
  obtain ⟨ep, hat⟩ := dd.dictAt
  have keys : vs.map (·.1) = ks.map Sum.inr := rel.keys.symm.trans hk
  have len : vs.length = ks.length := by simpa using congrArg List.length keys
  have line : vs.length ≤ sizeLine := rel.length ▸ z
  refine Calls.call_function_entry PyProof.Rows.kind_sorted PyProof.Rows.plain_sorted PyProof.Rows.entry_sorted (PyProof.Rows.args_sorted1 _) ?_
  unfold Builtin.«sorted»
  refine wpAny_bind (m := checkCount "sorted" 1 1 _) (wpAny_pure ?_)
  refine wpAny_bind (PySem.W.kdu_collect (A := X.A.in1) (PySem.W.kdl_dict (knd := mixKind X.prog X.w) (kvs := vs) (ep := ep) big) (I.ok.hd calm) hat line fun h' tk acc hkeep hacc => ?_)
  have la : acc.toList.length = ks.length := by rw [Array.length_toList, hacc.1, len]
  have hS : StrsAre acc.toList ks := strs_at la fun j v e => by
    obtain ⟨k, x, e1, e2⟩ := hacc.2 j v (by rw [← Array.getElem?_toList]; exact e)
    have e3 : (ks.map Sum.inr : List Key)[j]? = some k := by
      rw [← keys, List.getElem?_map, e1]
      rfl
    rw [List.getElem?_map] at e3
    match hj : ks[j]?, e3 with
    | some y, e3 =>
      cases Option.some.inj e3
      obtain ⟨t, ev⟩ := Value.isStrOf_shape (x := y) (v := v) e2
      exact ⟨y, t, rfl, ev⟩
  have I1 : Inv X pins σ H { s with heap := h', toks := tk } := I.kept hkeep
  refine wpAny_bind (wpAny_newList ?_ (by rw [la, ← len]; exact line))
  have new : (h'.push (seqObj "list" acc.toList.toArray 0)).get? h'.objs.size = some (seqObj "list" acc.toList.toArray 0) := Heap.get?_push_size _ rfl
  show wpAny _ _ _ _ _ { s with heap := h'.push (seqObj "list" acc.toList.toArray 0), toks := tk }
  refine wpAny_bind (wpAny_holding (wpAny_call_entry PyProof.Rows.slot_list_sort ⟨_, new, rfl⟩ PyProof.Rows.entry_list_sort
    (list_sort_treeKSt strKind_oneLt (s := { s with heap := h'.push (seqObj "list" acc.toList.toArray 0), toks := tk }) new hS.keysOf (fun v1 v2 rest e => keyKind_strs (by rw [← e]; exact hS)) (by rw [la, ← len]; exact line) fun st' hp hs _ => ⟨_, rfl, ?_⟩)
    (PyProof.Rows.args_list_sort _)))
  obtain ⟨ys, g1, g2, g3⟩ := sorted_out_str hS hp hs
  obtain ⟨e', he'⟩ := PyProof.Rows.sortedHeap_at (vs := acc.toList) (out := (arrOf st').map (·.2)) new
  have size : (ys.map V.str).length ≤ sizeLine := by rw [List.length_map, g2.length_eq, ← len]; exact line
  have old : ∀ b o, h'.get? b = some o → (sortedHeap (h'.push (seqObj "list" acc.toList.toArray 0)) h'.objs.size acc.toList ((arrOf st').map (·.2))).get? b = some o := fun b o e => by
    have hb := Heap.lt_size e
    rw [PyProof.Rows.sortedHeap_old (Nat.ne_of_lt hb) (by rw [size_push']; exact Nat.lt_succ_of_lt hb)]
    exact Heap.get?_push_of_some _ e
  exact wpAny_pure ⟨_, rfl, .ref h'.objs.size, upd H h'.objs.size (.lst (ys.map V.str)), I1.laid (t' := tk) old (Nat.le_refl _) ⟨size, ((arrOf st').map (·.2)).toList, e', vals_of_strs g1, by rw [Array.toArray_toList]; exact he'⟩, rfl, q ys _ g2 g3 (I1.hok.fresh (Nat.le_refl _))⟩
end FF
/-! Fivefault, part 23: enumerate over a tuple; what is a list or a tuple, walked. -/
namespace FF
open PySem PySem.Spec PyProof.Rows L2
open Sem (wp)
set_option maxHeartbeats 4000000 in
theorem enumT_new {v : Value} {o : Obj} {p : Heap → Prop} (B : Begins v o p) : Meets (Builtin.«enumerate.__new__» ⟨[.type "enumerate", v], []⟩) (fun _ R s => p s.heap ∧
      R (.ok (.ret (.ref (s.heap.push o).objs.size))) { s with heap := (s.heap.push o).push { cls := .type "enumerate", data := .fields #[.none, .bool false, .ref s.heap.objs.size, rawInt 0, .none, .none] } }) :=
  .of_wp fun prog w A R s h => by
    obtain ⟨hp, g, d, tk, os⟩ := s
    obtain ⟨h1, h⟩ := h
    have hsub := sub_enumerate
    have begin' : ∀ {A' : Around} {E : Value → Shared → Prop} {Q : Value → Shared → Prop}, Q (.ref hp.objs.size) ⟨hp.push o, g, d, tk, os⟩ → wpAny (model prog w) A' (pyIter v) Q E ⟨hp, g, d, tk, os⟩ :=
      fun q => B.iter prog w _ _ ⟨hp, g, d, tk, os⟩ _ h1 q
    wp_walk using begin'
    refine wpAny_stack_any fun st => wpAny_pure ?_
    split
    · rename_i c _ _ _ _ _
      cases (c == Value.type "enumerate") <;> (wp_walk using begin'; exact ⟨_, rfl, h⟩)
    · wp_walk using begin'
      exact ⟨_, rfl, h⟩
section
variable {prog : Program} {w : World} {A : Around} {E : Value → Shared → Prop} {s : Shared}
theorem enumT_call {t : Addr} {items : Array Value} {Q : Value → Shared → Prop} (ht : s.heap.IsTuple t items)
    (h : ∀ h', IsEnum h' (s.heap.objs.size + 1) s.heap.objs.size 0 .none → h'.IsTupleIter s.heap.objs.size t 0 → (∀ b o, s.heap.get? b = some o → h'.get? b = some o) → Q (.ref (s.heap.objs.size + 1)) { s with heap := h' }) :
    wpAny (model prog w) A (call (.type "enumerate") [.ref t]) Q E s := by
  refine callType_new F.called_enumerate (by decide) (F.typeCall_enumerate_1 _) (F.newCall_enumerate_1 _) (fun obj => F.args_object_init_2 obj _) F.entry_enumerate_new (enumT_new (begins_tuple t items)) ⟨ht, ?_⟩
  have two : (s.heap.push { cls := .type "tuple_iterator", data := .fields #[.ref t, .int 0 0] }).objs.size = s.heap.objs.size + 1 := Heap.size_push ..
  show _ ∧ _
  rw [two]
  have he := Heap.get?_push_size (s.heap.push { cls := .type "tuple_iterator", data := .fields #[.ref t, .int 0 0] }) (o := { cls := .type "enumerate", data := .fields #[.none, .bool false, .ref s.heap.objs.size, rawInt 0, .none, .none] }) rfl
  rw [two] at he
  exact ⟨⟨_, he, rfl⟩, h _ he ⟨_, Heap.get?_push_of_some _ (Heap.get?_push_size _ rfl), rfl, rfl⟩ fun b o x => Heap.get?_push_of_some _ (Heap.get?_push_of_some _ x)⟩
end
/-- the tuple at a, each item in a new pair -/
def Itet (K : PySem.W.Frag) (a : Addr) : It :=
  ⟨fun i H => ∃ (xs : List V) (x : V), SqT K H a xs ∧ xs[i]? = some x, fun i H v H' => ∃ T x, v = .ref T ∧ H T = none ∧ H' = upd H T (.tup [.int (i : Nat), x]) ∧ ∀ xs, SqT K H a xs → xs[i]? = some x, fun i H => ∃ xs : List V, SqT K H a xs ∧ xs.length ≤ i⟩
theorem turn_enumT {P : Program} {w : World} {K : PySem.W.Frag} {elts : List Expr} {kk : Nat} {tpos : Pos} (a e it : Addr) :
    Turn P w K (.Tuple elts kk tpos) (Itet K a) [e, it] e (fun i h => (∃ old, IsEnum h e it ((i : Nat) : Int) old) ∧ h.IsTupleIter it a i ∧ e ≠ it) where
  mem := by simp
  obj := fun i h st b hb => by
    obtain ⟨⟨old, he⟩, ⟨o, ho, hc, hd⟩, _⟩ := st
    rcases (show b = e ∨ b = it by simpa using hb) with z | z
    · rw [z]; exact ⟨_, he, fun v q => nomatch q⟩
    · rw [z]; exact ⟨o, ho, fun v q => by rw [hd] at q; cases q⟩
  keep := fun i h h' st k => let ⟨⟨old, he⟩, hi, hne⟩ := st; ⟨⟨old, k e (by simp) _ he⟩, hi.at fun o q => k it (by simp) o q, hne⟩
  item := by
    intro X hP hw hK hc i pins s σ H E I hf st hg
    subst hP hw hK
    obtain ⟨⟨old, he⟩, hit, hne⟩ := st
    obtain ⟨xs, x, hq, hx⟩ := hg
    obtain ⟨its, rv, p, hz⟩ := I.tuple hq
    have hT : s.heap.IsTuple a its.toArray := p
    obtain ⟨u, hu, ru⟩ := rv.get hx
    have hel : e < s.heap.objs.size := Heap.lt_size he
    have hil : it < s.heap.objs.size := by obtain ⟨_, q, _⟩ := hit; exact Heap.lt_size q
    have nei : a ≠ it := fun z => by
      subst z
      obtain ⟨o, ho, hc', _⟩ := hT
      obtain ⟨o', ho', hc2, _⟩ := hit
      rw [ho] at ho'
      cases ho'
      rw [hc'] at hc2
      exact absurd hc2 (by intro z; injection z with z; exact absurd z (by decide))
    have nee : e ≠ a := fun z => by
      subst z
      obtain ⟨o, ho, hc', _⟩ := hT
      have he : s.heap.get? e = some _ := he
      rw [ho] at he
      cases he
      exact absurd hc' (by intro z; injection z with z; exact absurd z (by decide))
    have hlt : i < its.toArray.size := by
      have := (List.getElem?_eq_some_iff.mp hu).1
      simpa using this
    refine wpAny_pyNext_enum_itemD (Draws.tuple (A := X.A.in1) (I.ok.hd hc) it a nei its.toArray) he ⟨hit, hT⟩ hlt hne (by simp [hne, nee]) fun x' h' tk hP' ho hst hT' hsz hk => ?_
    have ex : x' = u := by
      have h1 : its.toArray[i]? = some x' := hP'
      rw [List.getElem?_toArray, hu] at h1
      exact (Option.some.inj h1).symm
    subst ex
    refine ⟨_, rfl, wpAny_letOwnedTupleGo_enum (s := { s with heap := h', toks := tk + 1 }) ho fun h'' he' sb => ?_⟩
    have hT2 : h''.get? s.heap.objs.size = some { cls := .type "tuple", data := .seq #[.int i tk, x'] } := (sb.2 _ (Nat.ne_of_gt hel)).trans hT'
    have new : ObjOk X.prog X.w (upd H s.heap.objs.size (.tup [.int (i : Nat), x])) h'' s.heap.objs.size (.tup [.int (i : Nat), x]) :=
      ⟨by show 2 ≤ sizeLine; decide, [.int i tk, x'], .cons ⟨_, rfl⟩ (.cons ru .nil), ⟨_, hT2, rfl, _, rfl⟩⟩
    have I1 : Inv X pins σ (upd H s.heap.objs.size (.tup [.int (i : Nat), x])) { s with heap := h'', toks := tk + 1 } :=
      I.turnedNew (ch := [e, it]) (fun b ob hb q => (sb.2 b (fun z => hb (by simp [z]))).trans (hk b ob (fun z => hb (by simp [z])) (fun z => hb (by simp [z])) q)) hf (Nat.le_refl _) new
    refine ⟨.ref s.heap.objs.size, _, I1, rfl, ⟨_, x, rfl, I.hok.fresh (Nat.le_refl _), rfl, fun ys hy => by rw [I.tuple_inj hy hq]; exact hx⟩, ⟨⟨x', ?_⟩, hst.1.at fun o q => (sb.2 it (Ne.symm hne)).trans q, hne⟩, fun b hb => ?_⟩
    · rw [show ((i + 1 : Nat) : Int) = (i : Int) + 1 by omega]
      exact he'
    · have hb' : b < s.heap.objs.size := by
        rcases (show b = e ∨ b = it by simpa using hb) with z | z
        · rw [z]; exact hel
        · rw [z]; exact hil
      rw [upd_ne (Nat.ne_of_lt hb')]
      exact (hf b hb).1
  done := by
    intro X hP hw hK hc i pins s σ H E I hf st hg
    subst hP hw hK
    obtain ⟨⟨old, he⟩, hit, hne⟩ := st
    obtain ⟨xs, hq, hx⟩ := hg
    obtain ⟨its, rv, p, hz⟩ := I.tuple hq
    have hT : s.heap.IsTuple a its.toArray := p
    have last : its.toArray[i]? = none := by
      have := rv.length
      rw [List.getElem?_toArray]
      exact List.getElem?_eq_none_iff.mpr (by omega)
    have D : Draws X.prog X.w X.A.in1 it [it, a] i (fun _ _ => True) (fun j h => j = i ∧ h.IsTupleIter it a i ∧ h.IsTuple a its.toArray) :=
      { live := fun _ _ st => let ⟨o, ho, _⟩ := st.2.1; ⟨o, ho⟩
        frame := fun _ _ _ st k => ⟨st.1, st.2.1.at fun o q => k it (by simp) o q, st.2.2.at fun o q => k a (by simp) o q⟩
        item := fun j s Q E hj st _ => absurd st.1 (Nat.ne_of_lt hj)
        done := fun s Q E st hE => wpAny_nextOf_tuple_end (I.ok.hd hc) st.2.1 st.2.2 last hE }
    obtain ⟨f0, f1, f2, f3, f4, f5⟩ := hf it (by simp)
    exact wpAny_pyNext_enum_endD D he ⟨rfl, hit, hT⟩ fun h' eb => ⟨rfl, I.turned (t' := s.toks) (fun b o hb q => eb b o hb q) f0 f1 f3 f4 f5⟩
  self := fun A i s Q E st h => let ⟨⟨_, he⟩, _⟩ := st; wpAny_pyIter_enum he h
/-- enumerate(e), e a list or a tuple -/
def iEnumS (K : PySem.W.Frag) (ta : TA) : TI := fun σ H R => ta σ H fun vs H1 => ∃ a xs, vs = [.ref a] ∧ ((SqL K H1 a xs ∧ R (Ite K a) H1) ∨ (SqT K H1 a xs ∧ R (Itet K a) H1))
theorem pi_enumS (K : PySem.W.Frag) {X : Cx} {e : Expr} {ta : TA} {p pos tpos : Pos} {elts : List Expr} {kk : Nat} (hg : Gl X "enumerate") (hm : X.mg "enumerate" = none) (ha : PA X [e] ta) (hK : X.K = K := by rfl) (hs : starEach [e] X.env = [(false, eval e X.env)] := by rfl) :
    PI X (.Tuple elts kk tpos) (.Call (.Name "enumerate" p) [e] [] pos) (iEnumS K ta) := by
  subst hK
  refine ⟨fun pins s σ H R I h => ?_⟩
  refine Call_ (ld_blt I hg hm boot_enumerate (PyProof.Rows.callWith_type1 (thn (ha.run pos pins s σ H _ I h) fun us s1 ⟨vs, H1, I1, r1, q1⟩ => ?_) hs rfl))
  obtain ⟨a, xs, ex, q⟩ := q1
  subst ex
  cases r1 with
  | cons r rr =>
  cases rr
  cases r
  have foot : ∀ {h' : Heap}, Inv X pins σ H1 { s1 with heap := h' } → ∀ b ∈ [s1.heap.objs.size + 1, s1.heap.objs.size], FpOk X pins H1 b := fun _ b hb => by
    have hle : s1.heap.objs.size ≤ b := by
      rcases (show b = s1.heap.objs.size + 1 ∨ b = s1.heap.objs.size by simpa using hb) with z | z
      · rw [z]; exact Nat.le_succ _
      · rw [z]; exact Nat.le_refl _
    exact I1.fpOk hle (I1.hok.fresh hle)
  rcases q with ⟨hq, q⟩ | ⟨hq, q⟩
  · obtain ⟨its, rv, p', hz⟩ := I1.list hq
    refine call_enumerate_list p'.isList fun h' he hit _ hk => wpAny_pyIter_enum he ?_
    have I2 : Inv X pins σ H1 { s1 with heap := h' } := I1.kept (t' := s1.toks) hk
    exact ⟨s1.heap.objs.size + 1, _, _, _, H1, rfl, I2, turn_enum a (s1.heap.objs.size + 1) s1.heap.objs.size, ⟨⟨.none, he⟩, hit, Nat.succ_ne_self _⟩, foot I2, q⟩
  · obtain ⟨its, rv, p', hz⟩ := I1.tuple hq
    refine enumT_call (show s1.heap.IsTuple a its.toArray from p') fun h' he hit hk => wpAny_pyIter_enum he ?_
    have I2 : Inv X pins σ H1 { s1 with heap := h' } := I1.kept (t' := s1.toks) hk
    exact ⟨s1.heap.objs.size + 1, _, _, _, H1, rfl, I2, turn_enumT a (s1.heap.objs.size + 1) s1.heap.objs.size, ⟨⟨.none, he⟩, hit, Nat.succ_ne_self _⟩, foot I2, q⟩
/-- e, a list or a tuple, walked -/
def iSeq (K : PySem.W.Frag) (tl : TE) : TI := fun σ H R => tl σ H fun v H1 => ∃ a xs, v = .ref a ∧ ((SqL K H1 a xs ∧ R (Itl K a) H1) ∨ (SqT K H1 a xs ∧ R (Itt K a) H1))
theorem pi_seqK (K : PySem.W.Frag) {X : Cx} {tg l : Expr} {tl : TE} (hl : PE X l tl) (hK : X.K = K := by rfl) : PI X tg l (iSeq K tl) := by
  subst hK
  refine ⟨fun pins s σ H R I h => ?_⟩
  refine thn (hl.run pins s σ H _ I h) fun v s1 ⟨x, H1, I1, r1, a, xs, e, q⟩ => ?_
  subst e
  cases r1
  have foot : ∀ b ∈ [s1.heap.objs.size], FpOk X pins H1 b := fun b hb => by
    rw [show b = s1.heap.objs.size by simpa using hb]
    exact I1.fpOk (Nat.le_refl _) (I1.hok.fresh (Nat.le_refl _))
  rcases q with ⟨hq, q⟩ | ⟨hq, q⟩
  · obtain ⟨its, rv, p, hz⟩ := I1.list hq
    exact wpAny_pyIter_list p.isList ⟨s1.heap.objs.size, _, _, _, H1, rfl, I1.kept (t' := s1.toks) fun b o e => Heap.get?_push_of_some _ e, turn_list a _, ⟨_, Heap.get?_push_size _ rfl, rfl, rfl⟩, foot, q⟩
  · obtain ⟨its, rv, p, hz⟩ := I1.tuple hq
    exact wpAny_pyIter_tuple (show s1.heap.IsTuple a its.toArray from p) ⟨s1.heap.objs.size, _, _, _, H1, rfl, I1.kept (t' := s1.toks) fun b o e => Heap.get?_push_of_some _ e, turn_tuple a _, ⟨_, Heap.get?_push_size _ rfl, rfl, rfl⟩, foot, q⟩
end FF
/-! Fivefault, part 24: several except clauses, with and without names. -/
namespace FF
open PySem PySem.Spec PyProof.Rows L2
def wManyB (K : PySem.W.Frag) (Wout : WX) (D : Ends) : List (Value × (Addr → Value → Option Addr → TS)) → WX
  | [] => Wout
  | (c, ts) :: r => fun cls d σ H => ∃ b, PySem.W.exmOne K cls c = some b ∧ (b = true → ∀ a, H a = none → ts a cls d D σ H) ∧ (b = false → wManyB K Wout D r cls d σ H)
/-- the readings of a clause with a name (slot i) -/
abbrev nmd (i : Nat) (ts : Addr → Value → Option Addr → TS) : Addr → Value → Option Addr → TS := fun a cls d D σ H => ts a cls d (asEnds i D) (σ.set i (some (.ref a))) H
inductive HdsB (X : Cx) (n : Str) (i : Nat) : List ExceptHandler → List (Value × (Addr → Value → Option Addr → TS)) → Prop
  | nil : HdsB X n i [] []
  | cons {x : Str} {c : Value} {ts : Addr → Value → Option Addr → TS} {b₀ : Stmt} {suite : List Stmt} {np pos' : Pos} {hds : List ExceptHandler} {l : List (Value × (Addr → Value → Option Addr → TS))} (hc : Names X x c)
      (hsu : ∀ (a : Addr) (oe : Obj) (cls : Value) (d : Option Addr) (pn : List (Addr × Obj)), Zc cls d oe → (∃ vs, oe.data = .fields vs) → PSs (X.suite a ((a, oe) :: pn)) (b₀ :: suite) (ts a cls d)) (r : HdsB X n i hds l) :
      HdsB X n i (.ExceptHandler (some (.Name x np)) (some n) (b₀ :: suite) pos' :: hds) ((c, nmd i ts) :: l)
  | cons0 {x : Str} {c : Value} {ts : Addr → Value → Option Addr → TS} {b₀ : Stmt} {suite : List Stmt} {np pos' : Pos} {hds : List ExceptHandler} {l : List (Value × (Addr → Value → Option Addr → TS))} (hc : Names X x c)
      (hsu : ∀ (a : Addr) (oe : Obj) (cls : Value) (d : Option Addr) (pn : List (Addr × Obj)), Zc cls d oe → (∃ vs, oe.data = .fields vs) → PSs (X.suite a ((a, oe) :: pn)) (b₀ :: suite) (ts a cls d)) (r : HdsB X n i hds l) :
      HdsB X n i (.ExceptHandler (some (.Name x np)) none (b₀ :: suite) pos' :: hds) ((c, ts) :: l)
section
variable {X : Cx} {n : Str} {i : Nat} {body : List Stmt} {h₀ : ExceptHandler} {hds : List ExceptHandler} {l : List (Value × (Addr → Value → Option Addr → TS))} {pos : Pos} {tb : WX → TS} {Wout : WX}
theorem ps_try_manyB (hs : X.stack = X.env :: X.outer) (hf : X.env.frame = some X.env.locals) (hN : X.N.Nodup) (hi : X.N[i]? = some n) (hln : X.env.kindOf n = some .local) (tk : Takes X Wout)
    (hb : ∀ (W : WX) (pn : List (Addr × Obj)) (xe : Value → Shared → Prop), Takes (X.tr pn xe) W → PassesOwn (model X.prog X.w) X.A X.env xe → PSs (X.tr pn xe) body (tb W))
    (hh : HdsB X n i (h₀ :: hds) l) : PS X (.Try body (h₀ :: hds) [] [] pos) (fun D σ H => tb (wManyB X.K Wout D l) D σ H) := by
  refine ⟨fun pins s σ H D I h => ?_⟩
  have ok := I.ok
  have hfr : X.A.frames = some (X.env :: X.outer) := by rw [ok.frames, hs]
  have hloc : Loc X.env.scope n := .inl hln
  refine wpAny_Try_except ?_
  refine wpAny_mono ((hb (wManyB X.K Wout D l) (X.pn ++ pins) (fun e s₁ => wpAny (model X.prog X.w) X.A (noteFrame e X.env) (fun _ s₂ => wpAny (model X.prog X.w) X.A (setFlight e none) (fun _ s₃ =>
    wpAny (model X.prog X.w) X.A (handleBy e X.env (h₀ :: hds)) (SP X pins D) X.xe s₃) X.xe s₂) X.xe s₁) (fun u s' xx => ?_) PassesOwn.looking).run [] s σ H D (I.toTry _) h) (fun f s1 hsp => ?_) (fun e s1 he => he)
  · obtain ⟨a, B, sI, pins', σ', H', cls, d, rfl, J', nb, up, sky, na, os, ag, w⟩ := xx
    have J : Inv X pins σ' H' sI := J'.ofTry ok
    have sky' : Sky B (X.env :: X.outer) a (Zc cls d) X.env.locals s'.heap := by rw [← hs]; exact sky
    show wpAny (model X.prog X.w) X.A (noteFrame (.ref a) X.env) _ _ _
    refine Sky.land Zc.steady hfr hf sky' fun h3 fl3 up3 => ?_
    have J3 : Inv X pins σ' H' { s' with heap := h3 } := J.landed nb fl3.1 (up.trans up3) os ag
    obtain ⟨oe3, vs3, he3, hz3, hd3⟩ := fl3.there
    have notFr : ∀ {h : Heap} {o : Obj} {vs : Array Value}, h.FunFrames B (X.env :: X.outer) → h.get? a = some o → o.data = .fields vs → a ∉ frs (X.env :: X.outer) := fun {h o vs} ff e dd hm => by
      obtain ⟨_, o', e', hnf⟩ := ff.mem hm
      rw [e] at e'; cases e'
      exact hnf _ dd
    have nfr := notFr fl3.2.2.1 he3 hd3
    have nL : a ≠ X.env.locals := fun z => nfr (List.mem_filterMap.mpr ⟨X.env, List.mem_cons_self, by rw [hf, z]⟩)
    have nF : a ∉ X.fs := fun hm => by
      obtain ⟨e, he, q⟩ := List.mem_filterMap.mp hm
      exact nfr (List.mem_filterMap.mpr ⟨e, List.mem_cons_of_mem _ he, q⟩)
    have S3 := J3.suite he3 hd3 na nL nF
    have go : ∀ {hds' : List ExceptHandler} {l' : List (Value × (Addr → Value → Option Addr → TS))}, HdsB X n i hds' l' → wManyB X.K Wout D l' cls d σ' H' →
        wpAny (model X.prog X.w) X.A (handleBy (.ref a) X.env hds') (SP X pins D) X.xe { s' with heap := h3 } := by
      intro hds' l' hk
      induction hk with
      | nil =>
        intro w
        refine wpAny_handleBy_nil ?_
        obtain ⟨k1, k2, k3, oe, vs, T, oT, ts', he, hz, hd, h1, hr⟩ := id fl3
        unfold PySem.passOn
        refine wpAny_bind (wpAny_field he hd h1 ?_)
        rw [if_neg (show ¬ ((Value.ref T == Value.none) = true) from by simp)]
        have fin : wpAny (model X.prog X.w) X.A (setFlight (.ref a) X.env.frame) (fun _ s4 => wpAny (model X.prog X.w) X.A (throw (.ref a) : Sem Flow) (SP X pins D) X.xe s4) X.xe { s' with heap := h3 } := by
          rw [hf]
          refine HandSPX.setFlight_upZ fl3 fun h4 hh4 up4 => wpAny_throw (tk _ _ ?_)
          exact ⟨a, B, sI, pins, σ', H', cls, d, rfl, J, nb, (up.trans up3).trans up4, .inr (.inr (by rw [hs]; exact hh4)), na, os, ag, w⟩
        first
          | exact wpAny_bind (wpAny_pure (wpAny_bind fin))
          | exact wpAny_bind fin
      | @cons x c ts b₀ suite np pos' hds2 l2 hc hsu r ih =>
        intro w
        obtain ⟨b, hb1, hyes, hno⟩ := w
        refine wpAny_handleBy_cons (codeAny_handlers_test ?_) (by intro q; cases q)
        have LT : PySem.W.Looks (model X.prog X.w) h3 (typeOf (.ref a)) cls := fun A Q E s k q => wpAny_typeOf_ref (k _ _ he3) (by rw [hz3.1]; exact q)
        have LM := PySem.W.exm_one (M := model X.prog X.w) (J3.kIn) LT hb1
        have test : ∀ {Q : Value → Shared → Prop} {E : Value → Shared → Prop}, Q c { s' with heap := h3 } → wpAny (model X.prog X.w) (X.A.mark (some (.ref a))) (eval (.Name x np) X.env) Q E { s' with heap := h3 } := fun {Q E} q => by
          obtain ⟨hg, hdbg, hm | ⟨hm, hv, hnn⟩⟩ := hc
          · exact ld_glob (X := X.suite a ((a, oe3) :: (X.pn ++ pins))) S3 hg hm q hdbg
          · exact ld_blt (X := X.suite a ((a, oe3) :: (X.pn ++ pins))) S3 hg hm hv q hnn hdbg
        refine test (LM.here ?_)
        cases b with
        | true =>
          refine codeAny_handlers_suite_as ?_
          refine HandSPX.lands_againZ fl3 fun h4 fl4 up4 => ?_
          have J4 : Inv X pins σ' H' { s' with heap := h4 } := J.landed nb fl4.1 ((up.trans up3).trans up4) os ag
          obtain ⟨oe4, vs4, he4, hz4, hd4⟩ := fl4.there
          have S4 := J4.suite he4 hd4 na nL nF
          refine store_ok (X := X.suite a ((a, oe4) :: (X.pn ++ pins))) (v := .ref a) S4 hN hi hloc rfl (fun s5 S5 => ?_) (.inr hln)
          refine wpAny_mono ((hsu a oe4 cls d (X.pn ++ pins) hz4 ⟨_, hd4⟩).run [] s5 _ H' _ S5 (hyes rfl a na)) (fun f s6 hsp => ?_) (fun _ _ z => False.elim z)
          have end_ : ∀ {σ6 : L2.St} {H6 : Hp} {Q : Shared → Prop}, Inv (X.suite a ((a, oe4) :: (X.pn ++ pins))) [] σ6 H6 s6 → (∀ s7, Inv X pins (σ6.set i none) H6 s7 → Q s7) →
              wpAny (model X.prog X.w) X.A (do bindName X.env n .none; unbindBehindTheSuite X.env n pos') (fun _ s7 => Q s7) X.xe s6 := fun {σ6 H6 Q} S6 hq => gone_ok (S6.unsuite ok) hN hi hln hq
          cases f with
          | next =>
            obtain ⟨σ6, H6, S6, q6⟩ := hsp
            exact end_ S6 fun s7 J7 => ⟨_, _, J7, q6⟩
          | brk =>
            obtain ⟨σ6, H6, S6, q6⟩ := hsp
            exact end_ S6 fun s7 J7 => ⟨_, _, J7, q6⟩
          | cont =>
            obtain ⟨σ6, H6, S6, q6⟩ := hsp
            exact end_ S6 fun s7 J7 => ⟨_, _, J7, q6⟩
          | ret u =>
            obtain ⟨v6, σ6, H6, S6, r6, q6⟩ := hsp
            exact end_ S6 fun s7 J7 => ⟨_, _, _, J7, r6, q6⟩
        | false =>
          show wpAny _ X.A (handleBy (.ref a) X.env hds2) _ _ _
          exact ih (hno rfl)
      | @cons0 x c ts b₀ suite np pos' hds2 l2 hc hsu r ih =>
        intro w
        obtain ⟨b, hb1, hyes, hno⟩ := w
        refine wpAny_handleBy_cons (codeAny_handlers_test ?_) (by intro q; cases q)
        have LT : PySem.W.Looks (model X.prog X.w) h3 (typeOf (.ref a)) cls := fun A Q E s k q => wpAny_typeOf_ref (k _ _ he3) (by rw [hz3.1]; exact q)
        have LM := PySem.W.exm_one (M := model X.prog X.w) (J3.kIn) LT hb1
        have test : ∀ {Q : Value → Shared → Prop} {E : Value → Shared → Prop}, Q c { s' with heap := h3 } → wpAny (model X.prog X.w) (X.A.mark (some (.ref a))) (eval (.Name x np) X.env) Q E { s' with heap := h3 } := fun {Q E} q => by
          obtain ⟨hg, hdbg, hm | ⟨hm, hv, hnn⟩⟩ := hc
          · exact ld_glob (X := X.suite a ((a, oe3) :: (X.pn ++ pins))) S3 hg hm q hdbg
          · exact ld_blt (X := X.suite a ((a, oe3) :: (X.pn ++ pins))) S3 hg hm hv q hnn hdbg
        refine test (LM.here ?_)
        cases b with
        | true =>
          refine codeAny_handlers_suite ?_
          refine HandSPX.lands_againZ fl3 fun h4 fl4 up4 => ?_
          have J4 : Inv X pins σ' H' { s' with heap := h4 } := J.landed nb fl4.1 ((up.trans up3).trans up4) os ag
          obtain ⟨oe4, vs4, he4, hz4, hd4⟩ := fl4.there
          have S4 := J4.suite he4 hd4 na nL nF
          refine wpAny_mono ((hsu a oe4 cls d (X.pn ++ pins) hz4 ⟨_, hd4⟩).run [] _ _ H' _ S4 (hyes rfl a na)) (fun f s6 hsp => ?_) (fun _ _ z => False.elim z)
          cases f with
          | next => let ⟨σ6, H6, S6, q6⟩ := hsp; exact ⟨_, _, S6.unsuite ok, q6⟩
          | brk => let ⟨σ6, H6, S6, q6⟩ := hsp; exact ⟨_, _, S6.unsuite ok, q6⟩
          | cont => let ⟨σ6, H6, S6, q6⟩ := hsp; exact ⟨_, _, S6.unsuite ok, q6⟩
          | ret u => let ⟨v6, σ6, H6, S6, r6, q6⟩ := hsp; exact ⟨_, _, _, S6.unsuite ok, r6, q6⟩
        | false =>
          show wpAny _ X.A (handleBy (.ref a) X.env hds2) _ _ _
          exact ih (hno rfl)
    exact go hh w
  · cases f with
    | next =>
      obtain ⟨σ', H', J', q⟩ := hsp
      exact wpAny_execs_nil ⟨σ', H', J'.ofTry ok, q⟩
    | brk =>
      obtain ⟨σ', H', J', q⟩ := hsp
      exact ⟨σ', H', J'.ofTry ok, q⟩
    | cont =>
      obtain ⟨σ', H', J', q⟩ := hsp
      exact ⟨σ', H', J'.ofTry ok, q⟩
    | ret u =>
      obtain ⟨v, σ', H', J', r, q⟩ := hsp
      exact ⟨v, σ', H', J'.ofTry ok, r, q⟩
end
end FF
/-! Fivefault, part 25: walks over what is a list or a tuple; over the signs of a text. -/
namespace FF
open PySem PySem.Spec PyProof.Rows L2
section
variable {K : PySem.W.Frag} {a : Addr} {xs : List V} {H : Hp}
theorem walkL_same (h : SqL K H a xs) : Walk (Itl K a) xs.length (Same H) (YAt xs) :=
  ⟨fun i H' hi e => ⟨xs, xs[i], up_l e h, by simp [hi]⟩, fun H' e => ⟨xs, up_l e h, Nat.le_refl _⟩, fun i H' x H2 _ e y => ⟨y.1, y.2 xs (up_l e h)⟩⟩
theorem walkT_same (h : SqT K H a xs) : Walk (Itt K a) xs.length (Same H) (YAt xs) :=
  ⟨fun i H' hi e => ⟨xs, xs[i], up_t e h, by simp [hi]⟩, fun H' e => ⟨xs, up_t e h, Nat.le_refl _⟩, fun i H' x H2 _ e y => ⟨y.1, y.2 xs (up_t e h)⟩⟩
abbrev YEn (xs : List V) : Nat → Hp → V → Hp → Prop := YPair (fun i => some (.int (i : Nat))) fun i => xs[i]?
theorem walkE_same (h : SqL K H a xs) : Walk (Ite K a) xs.length (Same H) (YEn xs) :=
  ⟨fun i H' hi e => ⟨xs, xs[i], up_l e h, by simp [hi]⟩, fun H' e => ⟨xs, up_l e h, Nat.le_refl _⟩, fun i H' v H2 _ e ⟨t, x, e1, n, e2, y⟩ => ⟨t, _, x, e1, n, e2, rfl, y xs (up_l e h)⟩⟩
theorem walkET_same (h : SqT K H a xs) : Walk (Itet K a) xs.length (Same H) (YEn xs) :=
  ⟨fun i H' hi e => ⟨xs, xs[i], up_t e h, by simp [hi]⟩, fun H' e => ⟨xs, up_t e h, Nat.le_refl _⟩, fun i H' v H2 _ e ⟨t, x, e1, n, e2, y⟩ => ⟨t, _, x, e1, n, e2, rfl, y xs (up_t e h)⟩⟩
theorem seq_of {R : It → Hp → Prop} (h : SqL K H a xs ∨ SqT K H a xs) (hw : ∀ J, Walk J xs.length (Same H) (YAt xs) → R J H) : ∃ a' xs', V.ref a = .ref a' ∧ ((SqL K H a' xs' ∧ R (Itl K a') H) ∨ (SqT K H a' xs' ∧ R (Itt K a') H)) :=
  ⟨a, xs, rfl, h.imp (fun h => ⟨h, hw _ (walkL_same h)⟩) fun h => ⟨h, hw _ (walkT_same h)⟩⟩
theorem enum_of {R : It → Hp → Prop} (h : SqL K H a xs ∨ SqT K H a xs) (hw : ∀ J, Walk J xs.length (Same H) (YEn xs) → R J H) : ∃ a' xs', [V.ref a] = [.ref a'] ∧ ((SqL K H a' xs' ∧ R (Ite K a') H) ∨ (SqT K H a' xs' ∧ R (Itet K a') H)) :=
  ⟨a, xs, rfl, h.imp (fun h => ⟨h, hw _ (walkE_same h)⟩) fun h => ⟨h, hw _ (walkET_same h)⟩⟩
theorem up_s {H' : Hp} (e : Same H H') (h : SqL K H a xs ∨ SqT K H a xs) : SqL K H' a xs ∨ SqT K H' a xs := h.imp (up_l e) (up_t e)
theorem len_s {n : Nat} (h : SqL K H a xs ∨ SqT K H a xs) (e : n = xs.length) : LenV K (.ref a) H n := h.imp (fun h => ⟨xs, h, e⟩) fun h => ⟨xs, h, e⟩
end
/-- [e for x in z]: the i-th item told by the i-th sign -/
theorem lc_strI {te : TE} {vs : List Nat} {j D : Nat} {σ : L2.St} {H1 : Hp} {Qd : Hp → Prop} {z : Str} (f : Nat → V) (hD : H1 D = none) (hz : z.length ≤ sizeLine) (hw : ∀ v, wipe ((wipe σ vs).set j (some v)) vs = wipe σ vs)
    (step : ∀ c H2, c ∈ z.cps.toList → ∀ Q' : VK, (∀ H3, Same H2 H3 → Q' (f c) H3) → te ((wipe σ vs).set j (some (.str ⟨#[c]⟩))) H2 Q')
    (done : ∀ H2, Same H1 H2 → H2 D = some (.lst (z.cps.toList.map f)) → Qd H2) :
    ∃ W : Nat → Nat → Hp → Prop, (∃ m, W 0 m (upd H1 D (.lst []))) ∧ ∀ i m H, W i m H →
      ((Its z).stop i H ∧ Qd H) ∨ ((Its z).go i H ∧ ∃ Nx : Hp → Prop, (∀ H', Nx H' → ∃ m', m' < m ∧ W (i + 1) m' H') ∧ ∀ v H', (Its z).yld i H v H' → gName j v (wipe σ vs) H' fun σ2 H2 => wipe σ2 vs = wipe σ vs ∧ tYes σ2 H2 fun b H3 =>
        if b = true then te σ2 H3 fun y H4 => ∃ acc, H4 D = some (.lst acc) ∧ acc.length < sizeLine ∧ Nx (upd H4 D (.lst (acc ++ [y]))) else Nx H3) := by
  refine ⟨fun i m H => m = z.cps.size - i ∧ i ≤ z.cps.size ∧ Same H1 H ∧ H D = some (.lst ((z.cps.toList.take i).map f)), ⟨_, rfl, Nat.zero_le _, same_new hD _, upd_same⟩, ?_⟩
  rintro i m H ⟨rfl, hi, e, h1⟩
  by_cases hlt : i < z.cps.size
  · refine .inr ⟨hlt, fun H' => i + 1 ≤ z.cps.size ∧ Same H1 H' ∧ H' D = some (.lst ((z.cps.toList.take (i + 1)).map f)), fun H' p' => ⟨z.cps.size - (i + 1), by omega, rfl, p'⟩, fun v H' y => ?_⟩
    obtain ⟨rfl, c, hc, rfl⟩ := y
    refine ⟨hw _, ?_⟩
    show te _ _ _
    have hc2 : z.cps.toList[i]? = some c := by rw [Array.getElem?_toList]; exact hc
    refine step c _ (List.mem_of_getElem? hc2) _ fun H3 e3 => ⟨_, e3 _ _ h1, ?_, hlt, same_at hD (e.trans e3), ?_⟩
    · rw [List.length_map, List.length_take, Array.length_toList]
      exact Nat.lt_of_lt_of_le (by omega) (show z.cps.size ≤ sizeLine from hz)
    · have : z.cps.toList.take (i + 1) = z.cps.toList.take i ++ [c] := by
        rw [List.take_add_one, hc2] <;> rfl
      rw [this, List.map_append, upd_same] <;> rfl
  · have : i = z.cps.size := by omega
    subst this
    rw [show z.cps.size = z.cps.toList.length from rfl, List.take_length] at h1
    exact .inl ⟨Nat.le_refl _, done H e h1⟩
/-- an if by what its test is -/
theorem if_bb {p b : Bool} {A B : Prop} (e : p = b) (h1 : b = true → A) (h2 : b = false → B) : if p = true then A else B := by
  subst e
  exact if_b h1 h2
theorem if_t {A B : Prop} (h : A) : if true = true then A else B := h
end FF
/-! Fivefault, part 26: fors and comprehensions over what is a list or a tuple. -/
namespace FF
open PySem PySem.Spec PyProof.Rows L2
section
variable {K : PySem.W.Frag} {a : Addr} {xs : List V} {g : TG} {tb : TS} {D : Ends} {σ : L2.St} {H : Hp}
abbrev ForR (J : It) (g : TG) (tb : TS) (D : Ends) (σ : L2.St) (H : Hp) : Prop := ∃ W : Nat → Nat → L2.St → Hp → Prop, (∃ m, W 0 m σ H) ∧ ∀ i m σ H, W i m σ H →
      (J.stop i H ∧ D.nx σ H) ∨ (J.go i H ∧ ∃ N : L2.St → Hp → Prop, (∀ σ' H', N σ' H' → ∃ m', m' < m ∧ W (i + 1) m' σ' H') ∧ ∀ x H', J.yld i H x H' → g x σ H' fun σ2 H2 => tb { D with nx := N, ct := N, bk := D.nx } σ2 H2)
theorem for_enumS {H0 : Hp} (h : SqL K H0 a xs ∨ SqT K H0 a xs) (e0 : Same H0 H) (Pv : Nat → L2.St → Hp → Prop) (h0 : Pv 0 σ H) (hG : ∀ i σ H', i ≤ xs.length → Pv i σ H' → Same H0 H')
    (hs : ∀ i x σ H1 t, xs[i]? = some x → Pv i σ H1 → H1 t = none → g (.ref t) σ (upd H1 t (.tup [.int (i : Nat), x])) fun σ2 H2 => tb { D with nx := Pv (i + 1), ct := Pv (i + 1), bk := D.nx } σ2 H2) (hd : ∀ σ H, Pv xs.length σ H → D.nx σ H) :
    ∃ a' xs', [V.ref a] = [.ref a'] ∧ ((SqL K H a' xs' ∧ ForR (Ite K a') g tb D σ H) ∨ (SqT K H a' xs' ∧ ForR (Itet K a') g tb D σ H)) := by
  have key : ∀ J, Walk J xs.length (Same H0) (YEn xs) → ForR J g tb D σ H := fun J wk => for_it wk Pv h0 hG (fun i x σ H1 H2 hi hp ⟨t, x1, y1, e1, n, e2, e3, e4⟩ => by
    cases e3
    subst e1 e2
    exact hs i y1 σ H1 t e4 hp n) hd
  exact ⟨a, xs, rfl, h.imp (fun h => ⟨up_l e0 h, key _ (walkE_same h)⟩) fun h => ⟨up_t e0 h, key _ (walkET_same h)⟩⟩
theorem for_seqS {H0 : Hp} (h : SqL K H0 a xs ∨ SqT K H0 a xs) (e0 : Same H0 H) (Pv : Nat → L2.St → Hp → Prop) (h0 : Pv 0 σ H) (hG : ∀ i σ H', i ≤ xs.length → Pv i σ H' → Same H0 H')
    (hs : ∀ i x σ H1, xs[i]? = some x → Pv i σ H1 → g x σ H1 fun σ2 H2 => tb { D with nx := Pv (i + 1), ct := Pv (i + 1), bk := D.nx } σ2 H2) (hd : ∀ σ H, Pv xs.length σ H → D.nx σ H) :
    ∃ a' xs', V.ref a = .ref a' ∧ ((SqL K H a' xs' ∧ ForR (Itl K a') g tb D σ H) ∨ (SqT K H a' xs' ∧ ForR (Itt K a') g tb D σ H)) := by
  have key : ∀ J, Walk J xs.length (Same H0) (YAt xs) → ForR J g tb D σ H := fun J wk => for_it wk Pv h0 hG (fun i x σ H1 H2 hi hp ⟨e1, e2⟩ => by
    subst e1
    exact hs i x σ _ e2 hp) hd
  exact ⟨a, xs, rfl, h.imp (fun h => ⟨up_l e0 h, key _ (walkL_same h)⟩) fun h => ⟨up_t e0 h, key _ (walkT_same h)⟩⟩
end
section
variable {K : PySem.W.Frag} {a : Addr} {xs : List V} {g : TG} {te : TE} {vs : List Nat} {σ : L2.St} {H1 : Hp} {Q : Addr → Hp → Prop}
abbrev LcR (J : It) (g : TG) (tt : TT) (te : TE) (vs : List Nat) (σ : L2.St) (H1 : Hp) (D : Addr) (Qd : Hp → Prop) : Prop := ∃ W : Nat → Nat → Hp → Prop, (∃ m, W 0 m (upd H1 D (.lst []))) ∧ ∀ i m H, W i m H →
      (J.stop i H ∧ Qd H) ∨ (J.go i H ∧ ∃ Nx : Hp → Prop, (∀ H', Nx H' → ∃ m', m' < m ∧ W (i + 1) m' H') ∧ ∀ x H', J.yld i H x H' → g x (wipe σ vs) H' fun σ2 H2 => wipe σ2 vs = wipe σ vs ∧ tt σ2 H2 fun b H3 =>
        if b = true then te σ2 H3 fun y H4 => ∃ acc, H4 D = some (.lst acc) ∧ acc.length < sizeLine ∧ Nx (upd H4 D (.lst (acc ++ [y]))) else Nx H3)
/-- [e for target in xs], any target, xs a list or a tuple -/
theorem lc_mapS (R : Nat → V → Hp → Prop) (mono : ∀ i y H H', SameT H H' → R i y H → R i y H') (h : SqL K H1 a xs ∨ SqT K H1 a xs) (hz : xs.length ≤ sizeLine)
    (step : ∀ i x H2, xs[i]? = some x → Same H1 H2 → ∀ Q' : VK, (∀ y H3, Same H2 H3 → R i y H3 → Q' y H3) → g x (wipe σ vs) H2 fun σ2 H3 => wipe σ2 vs = wipe σ vs ∧ te σ2 H3 Q')
    (gm : ∀ x H2 (A B : L2.St → Hp → Prop), (∀ σ H, A σ H → B σ H) → g x (wipe σ vs) H2 A → g x (wipe σ vs) H2 B)
    (done : ∀ H2 D ys, Same H1 H2 → H1 D = none → H2 D = some (.lst ys) → ys.length = xs.length → (∀ (i : Nat) (y : V), ys[i]? = some y → R i y H2) → Q D H2) :
    ∃ a' xs', V.ref a = .ref a' ∧ ((SqL K H1 a' xs' ∧ ∀ D, H1 D = none → LcR (Itl K a') g tYes te vs σ H1 D (Q D)) ∨ (SqT K H1 a' xs' ∧ ∀ D, H1 D = none → LcR (Itt K a') g tYes te vs σ H1 D (Q D))) := by
  have key : ∀ J, Walk J xs.length (Same H1) (YAt xs) → ∀ D, H1 D = none → LcR J g tYes te vs σ H1 D (Q D) := fun J wk D hD =>
    lc_it wk (fun i H => Same H1 H ∧ ∃ ys, H D = some (.lst ys) ∧ ys.length = i ∧ ∀ m y, ys[m]? = some y → R m y H) ⟨same_new hD _, [], upd_same, rfl, fun m y q => by simp at q⟩ (fun i H _ p => p.1)
      (fun i x H H' hi ⟨e, ys, h2, h3, h4⟩ ⟨e1, e2⟩ => by
        subst e1
        refine gm _ _ _ _ (fun σ2 H3 q => ⟨q.1, by unfold tYes; dsimp only; rw [if_pos rfl]; exact q.2⟩) (step i x _ e2 e _ fun y H3 e3 r => ?_)
        have hd := e3 _ _ h2
        have eT : SameT H3 (upd H3 D (.lst (ys ++ [y]))) := (SameT.refl H3).updL hd
        refine ⟨ys, hd, by omega, fun b o q => ?_, ys ++ [y], upd_same, by simp [h3], fun m y' q => ?_⟩
        · rw [upd_ne (ne_of_none q hD)]
          exact e3 _ _ (e _ _ q)
        · by_cases hm : m < ys.length
          · rw [List.getElem?_append_left hm] at q
            exact mono _ _ _ _ ((Same.T e3).trans eT) (h4 m y' q)
          · have : m = ys.length := by
              have := (List.getElem?_eq_some_iff.mp q).1
              simp at this
              omega
            subst this
            rw [List.getElem?_append_right (Nat.le_refl _), Nat.sub_self] at q
            cases q
            rw [h3]
            exact mono _ _ _ _ eT r)
      fun H ⟨e, ys, h1, h2, h3⟩ => done H D ys e hD h1 h2 h3
  exact ⟨a, xs, rfl, h.imp (fun h => ⟨h, key _ (walkL_same h)⟩) fun h => ⟨h, key _ (walkT_same h)⟩⟩
end
end FF
/-! Fivefault, part 27: [x for x in xs if test], the test told by x. -/
namespace FF
open PySem PySem.Spec PyProof.Rows L2
theorem lc_filtV {K : PySem.W.Frag} {a D : Addr} {xs : List V} {tt : TT} {te : TE} {vs : List Nat} {j : Nat} {σ : L2.St} {H1 : Hp} {Qd : Hp → Prop} (f : V → Bool) (hD : H1 D = none) (hs : SqL K H1 a xs) (hz : xs.length ≤ sizeLine)
    (hw : ∀ x, wipe ((wipe σ vs).set j (some x)) vs = wipe σ vs)
    (test : ∀ (x : V) (H2 : Hp), x ∈ xs → ∀ Qb : Bool → Hp → Prop, (∀ H3, Same H2 H3 → Qb (f x) H3) → tt ((wipe σ vs).set j (some x)) H2 Qb)
    (elt : ∀ x H2 (Q' : VK), Q' x H2 → te ((wipe σ vs).set j (some x)) H2 Q')
    (done : ∀ H2, Same H1 H2 → H2 D = some (.lst (xs.filter f)) → Qd H2) :
    ∃ W : Nat → Nat → Hp → Prop, (∃ m, W 0 m (upd H1 D (.lst []))) ∧ ∀ i m H, W i m H →
      ((Itl K a).stop i H ∧ Qd H) ∨ ((Itl K a).go i H ∧ ∃ Nx : Hp → Prop, (∀ H', Nx H' → ∃ m', m' < m ∧ W (i + 1) m' H') ∧ ∀ x H', (Itl K a).yld i H x H' → gName j x (wipe σ vs) H' fun σ2 H2 => wipe σ2 vs = wipe σ vs ∧ tt σ2 H2 fun b H3 =>
        if b = true then te σ2 H3 fun y H4 => ∃ acc, H4 D = some (.lst acc) ∧ acc.length < sizeLine ∧ Nx (upd H4 D (.lst (acc ++ [y]))) else Nx H3) :=
  lc_list (fun i H => Same H1 H ∧ H D = some (.lst ((xs.take i).filter f)))
    ⟨same_new hD _, upd_same⟩ (fun i H _ p => up_l p.1 hs)
    (fun i x H hx ⟨e, h1⟩ => ⟨hw x, test x H (List.mem_of_getElem? hx) _ fun H3 e3 => by
      have take1 : xs.take (i + 1) = xs.take i ++ [x] := by
        rw [List.take_add_one, hx] <;> rfl
      cases hb : f x with
      | false =>
        refine iteF ⟨e.trans e3, ?_⟩
        rw [take1, List.filter_append, List.filter_cons_of_neg (by rw [hb]; decide), List.filter_nil, List.append_nil]
        exact e3 _ _ h1
      | true =>
        refine iteT (elt x H3 _ ⟨_, e3 _ _ h1, ?_, same_at hD (e.trans e3), ?_⟩)
        · refine Nat.lt_of_le_of_lt (List.length_filter_le _ _) ?_
          rw [List.length_take]
          have := (List.getElem?_eq_some_iff.mp hx).1
          omega
        · rw [take1, List.filter_append, List.filter_cons_of_pos hb, List.filter_nil, upd_same]⟩)
    fun H ⟨e, h1⟩ => done H e (by rw [List.take_length] at h1; exact h1)
end FF
/-! Fivefault, part 28: [x for l in ls for x in l] over a tuple of lists or tuples; defs with *v called where no exception comes. -/
namespace FF
open PySem PySem.Spec PyProof.Rows L2 StX
section
variable {X : Cx} {x : Str} {k j : Nat} {sp : Sp} {e : Expr} {es : List Expr} {p pos : Pos} {t : TA}
theorem pe_defsN (D : DefS X.prog X.w X.K X.mg X.base x k sp) (hr : Room j X.A) (hkj : k ≤ j) (ha : PA X (e :: es) t)
    (hg : Gl X x := by rfl) (hd : (x == ("__debug__" : Str)) = false := by decide) (he : starEach (e :: es) X.env = (false, eval e X.env) :: starEach es X.env := by rfl) (hpl : (backTo pos (starEach es X.env)).any (·.1) = false := by rfl) :
    PE X (.Call (.Name x p) (e :: es) [] pos) (tCall sp [] (fun _ _ _ => False) t) := by
  obtain ⟨f, F, hm, hk⟩ := D.ex
  refine ⟨fun pins s σ H Q I h => ?_⟩
  refine wpAny_Call_Name_kw (ld_glob I hg hm ?_ hd)
  refine PySem.W.callWith_K (h₀ := X.base) I.ok.mod.kin hk (thn (ha.run pos pins s σ H _ I h) fun us s1 ⟨vs, H1, I1, r, q⟩ => ⟨I1.kIn, ?_⟩) he hpl
  have q2 : sp (vs ++ []) H1 Q (fun _ _ _ => False) := q
  rw [List.append_nil] at q2
  exact wpAny_call (run_fnR F (hr.mono hkj) passN I1 r q2)
theorem pe_defsN0 (D : DefS X.prog X.w X.K X.mg X.base x k sp) (hr : Room j X.A) (hkj : k ≤ j)
    (hg : Gl X x := by rfl) (hd : (x == ("__debug__" : Str)) = false := by decide) :
    PE X (.Call (.Name x p) [] [] pos) (fun _ H Q => sp [] H Q (fun _ _ _ => False)) := by
  obtain ⟨f, F, hm, hk⟩ := D.ex
  refine ⟨fun pins s σ H Q I h => ?_⟩
  refine wpAny_Call_Name_kw (ld_glob I hg hm ?_ hd)
  refine PySem.W.callWith_K0 I.kIn hk ?_
  exact wpAny_call (run_fnR F (hr.mono hkj) passN I .nil h)
end
theorem take_flat {α : Type} {l : List (List α)} {i : Nat} {x : List α} (h : l[i]? = some x) : (l.take (i + 1)).flatten = (l.take i).flatten ++ x := by
  rw [List.take_add_one, h]
  simp
theorem flat_at {α : Type} {l : List (List α)} {i : Nat} {x : List α} (h : l[i]? = some x) : (l.take i).flatten.length + x.length ≤ l.flatten.length := by
  have e : l = l.take i ++ (x :: l.drop (i + 1)) := by
    obtain ⟨hi, rfl⟩ := List.getElem?_eq_some_iff.mp h
    rw [← List.drop_eq_getElem_cons hi, List.take_append_drop]
  conv => rhs; rw [e]
  simp
section
variable {K : PySem.W.Frag} {a : Addr} {xs : List V} {uss : List (List V)} {vs vs1 : List Nat} {jo ji : Nat} {σ : L2.St} {H1 : Hp} {Q : Addr → Hp → Prop}
theorem lc2_flat (hs : SqT K H1 a xs) (hl : xs.length = uss.length) (hz : uss.flatten.length ≤ sizeLine)
    (hx : ∀ (i : Nat) (v : V) (us : List V), xs[i]? = some v → uss[i]? = some us → ∃ b, v = .ref b ∧ (SqL K H1 b us ∨ SqT K H1 b us))
    (hw : ∀ x, wipe ((wipe σ vs).set jo (some x)) vs = wipe σ vs) (ho : ∀ x, ((wipe σ vs).set jo (some x))[jo]? = some (some x))
    (hw1 : ∀ x y, wipe ((wipe ((wipe σ vs).set jo (some x)) vs1).set ji (some y)) vs1 = wipe ((wipe σ vs).set jo (some x)) vs1) (hi1 : ∀ x y, ((wipe ((wipe σ vs).set jo (some x)) vs1).set ji (some y))[ji]? = some (some y))
    (done : ∀ H2 D, Same H1 H2 → H1 D = none → H2 D = some (.lst uss.flatten) → Q D H2) :
    ∀ D, H1 D = none → ∃ W : Nat → Nat → Hp → Prop, (∃ m, W 0 m (upd H1 D (.lst []))) ∧ ∀ i m H, W i m H →
      ((Itt K a).stop i H ∧ Q D H) ∨ ((Itt K a).go i H ∧ ∃ Nx : Hp → Prop, (∀ H', Nx H' → ∃ m', m' < m ∧ W (i + 1) m' H') ∧ ∀ x H', (Itt K a).yld i H x H' → gName jo x (wipe σ vs) H' fun σ2 H2 => wipe σ2 vs = wipe σ vs ∧ tYes σ2 H2 fun b H3 =>
        if b = true then iSeq K (tVar jo) σ2 H3 fun J1 H4 => ∃ W1 : Nat → Nat → Hp → Prop, (∃ m, W1 0 m H4) ∧ ∀ j k H, W1 j k H →
          (J1.stop j H ∧ Nx H) ∨ (J1.go j H ∧ ∃ Nx1 : Hp → Prop, (∀ H', Nx1 H' → ∃ k', k' < k ∧ W1 (j + 1) k' H') ∧ ∀ x H', J1.yld j H x H' → gName ji x (wipe σ2 vs1) H' fun σ3 H5 => wipe σ3 vs1 = wipe σ2 vs1 ∧ tYes σ3 H5 fun b H6 =>
            if b = true then tVar ji σ3 H6 fun y H7 => ∃ acc, H7 D = some (.lst acc) ∧ acc.length < sizeLine ∧ Nx1 (upd H7 D (.lst (acc ++ [y]))) else Nx1 H6)
        else Nx H3) := by
  intro D hD
  have wo := walkT_same hs
  refine ⟨fun i m H => m = xs.length - i ∧ i ≤ xs.length ∧ Same H1 H ∧ H D = some (.lst (uss.take i).flatten), ⟨_, rfl, Nat.zero_le _, same_new hD _, upd_same⟩, ?_⟩
  rintro i m H ⟨rfl, hi, e, h1⟩
  by_cases hlt : i < xs.length
  · refine .inr ⟨wo.goes i H hlt e, fun H' => i + 1 ≤ xs.length ∧ Same H1 H' ∧ H' D = some (.lst (uss.take (i + 1)).flatten), fun H' p => ⟨xs.length - (i + 1), by omega, rfl, p⟩, fun v H' y => ?_⟩
    obtain ⟨rfl, hv⟩ := wo.yields i H v H' hlt e y
    obtain ⟨us, hus⟩ : ∃ us, uss[i]? = some us := ⟨uss[i]'(by omega), by simp [hl ▸ hlt]⟩
    obtain ⟨b, rfl, hb⟩ := hx i v us hv hus
    refine ⟨hw _, ?_⟩
    unfold tYes
    dsimp only
    rw [if_pos rfl]
    have inner : ∀ J1 : It, Walk J1 us.length (Same H1) (YAt us) → ∃ W1 : Nat → Nat → Hp → Prop, (∃ m, W1 0 m H') ∧ ∀ j k H, W1 j k H →
          (J1.stop j H ∧ (i + 1 ≤ xs.length ∧ Same H1 H ∧ H D = some (.lst (uss.take (i + 1)).flatten))) ∨ (J1.go j H ∧ ∃ Nx1 : Hp → Prop, (∀ H', Nx1 H' → ∃ k', k' < k ∧ W1 (j + 1) k' H') ∧ ∀ x H', J1.yld j H x H' → gName ji x (wipe ((wipe σ vs).set jo (some (.ref b))) vs1) H' fun σ3 H5 => wipe σ3 vs1 = wipe ((wipe σ vs).set jo (some (.ref b))) vs1 ∧ tYes σ3 H5 fun b H6 =>
            if b = true then tVar ji σ3 H6 fun y H7 => ∃ acc, H7 D = some (.lst acc) ∧ acc.length < sizeLine ∧ Nx1 (upd H7 D (.lst (acc ++ [y]))) else Nx1 H6) := by
      intro J1 wi
      refine ⟨fun j k H => k = us.length - j ∧ j ≤ us.length ∧ Same H1 H ∧ H D = some (.lst ((uss.take i).flatten ++ us.take j)), ⟨_, rfl, Nat.zero_le _, e, by rw [h1, List.take_zero, List.append_nil]⟩, ?_⟩
      rintro j k H ⟨rfl, hj, e2, h2⟩
      by_cases hjt : j < us.length
      · refine .inr ⟨wi.goes j H hjt e2, fun H' => j + 1 ≤ us.length ∧ Same H1 H' ∧ H' D = some (.lst ((uss.take i).flatten ++ us.take (j + 1))), fun H' p => ⟨us.length - (j + 1), by omega, rfl, p⟩, fun w H' y => ?_⟩
        obtain ⟨rfl, hw2⟩ := wi.yields j H w H' hjt e2 y
        refine ⟨hw1 _ _, ?_⟩
        unfold tYes
        dsimp only
        rw [if_pos rfl]
        refine ⟨_, hi1 _ _, _, h2, ?_, hjt, same_at hD e2, ?_⟩
        · have := flat_at hus
          rw [List.length_append, List.length_take]
          omega
        · rw [upd_same, List.append_assoc, List.take_add_one, hw2]
          rfl
      · have : j = us.length := by omega
        subst this
        refine .inl ⟨wi.stops H e2, by omega, e2, ?_⟩
        rw [h2, List.take_length, take_flat hus]
    exact ⟨_, ho _, b, us, rfl, hb.imp (fun z => ⟨up_l e z, inner _ (walkL_same z)⟩) fun z => ⟨up_t e z, inner _ (walkT_same z)⟩⟩
  · have : i = xs.length := by omega
    subst this
    rw [hl, List.take_length] at h1
    exact .inl ⟨wo.stops H e, done H D e hD h1⟩
end
end FF
/-! Fivefault, part 29: is, where the left side is None or a bool. -/
namespace FF
open PySem PySem.Spec PyProof.Rows L2
def rIsOb : R2 := fun x y H Q => ∃ b : Bool, y = .bl b ∧ (x = .non ∨ ∃ a : Bool, x = .bl a) ∧ Q (.bl (decide (x = .bl b))) H
theorem op_isOb {X : Cx} : OpR X (compareOp .Is) rIsOb := by
  intro pins s σ H x y v u Q I rx ry h
  obtain ⟨b, rfl, hx, q⟩ := h
  cases (show u = Value.bool b from ry)
  rcases hx with rfl | ⟨a, rfl⟩
  · cases (show v = Value.none from rx)
    exact wpAny_is_other rfl (fun z => by cases z) ⟨.bl false, H, I, rfl, by simpa using q⟩
  · cases (show v = Value.bool a from rx)
    by_cases e : a = b
    · subst e
      exact wpAny_is_self rfl ⟨.bl true, H, I, rfl, by simpa using q⟩
    · exact wpAny_is_other rfl (fun z => e (Value.bool.inj z)) ⟨.bl false, H, I, rfl, by simpa [e] using q⟩
end FF
/-! Fivefault, part 30: a, *b = xs (a list at the right); {**d, k: v}. -/
namespace FF
open PySem PySem.Spec PyProof.Rows L2
theorem lst_tail {prog : Program} {w : World} {A : Around} (hh : A.handled = none) (I ax : Addr) (hne : ax ≠ I) (x : Value) (items : List Value) :
    Walks prog w A I [I, ax] [I] items.length (fun i v => items[i]? = some v) (fun i h => h.IsListIter I ax (i + 1) ∧ h.IsList ax (x :: items).toArray) :=
  let W := Walks.list (prog := prog) (w := w) hh I ax hne (x :: items).toArray
  { sub := W.sub
    frame := fun i h h' st hk => W.frame (i + 1) h h' st hk
    item := fun i s Q E hi st hQ => W.item (i + 1) s Q E (by simpa using hi) st fun v h' tk hP st' hk => hQ v h' tk (by simpa using hP) st' hk
    done := fun s Q E st hQ => W.done s Q E (by simpa using st) hQ
    self := fun i s Q E st hQ => W.self (i + 1) s Q E st hQ }
theorem unpack_starL {prog : Program} {w : World} {A : Around} {E : Value → Shared → Prop} {s : Shared} {t : Addr} {x : Value} {items : List Value} {Q : List Value → Shared → Prop} (hh : A.handled = none) (ht : s.heap.IsList t (x :: items).toArray) (hz : items.length ≤ sizeLine)
    (hQ : ∀ (h' : Heap) (tk : Nat), (∀ b o, s.heap.get? b = some o → h'.get? b = some o) → Q [x, .ref h'.objs.size] { s with heap := h'.push { cls := .type "list", data := .seq items.toArray }, toks := tk }) :
    wpAny (model prog w) A (unpackItems (.ref t) 2 (some 1)) Q E s := by
  have hlt : t ≠ s.heap.objs.size := by obtain ⟨o, ho, _⟩ := ht; exact Nat.ne_of_lt (Heap.lt_size ho)
  unfold unpackItems
  refine wpAny_bind ?_
  unfold notIterableAtAll
  refine wpAny_bind (wpAny_specialOf ht.typeIs slot_list_iter.lookup ?_)
  refine wpAny_pure ?_
  simp only [Bool.false_eq_true, if_false]
  refine wpAny_bind (wpAny_holding (wpAny_pyIter_list ht ?_))
  refine wpAny_bind (wpAny_holding (PySem.W.kun_draw hlt 1 0 _ _ ⟨_, Heap.get?_push_size _ rfl, rfl, rfl⟩ (ht.push _) (by simp) fun h₁ hit₁ hs₁ => ?_))
  have e1 : List.take 1 (List.drop 0 (x :: items).toArray.toList) = [x] := by simp
  rw [e1, if_neg (by simp)]
  have ht₁ : h₁.IsList t (x :: items).toArray := (ht.push _).extBut hs₁.extBut hlt
  have k1 : ∀ b o, s.heap.get? b = some o → h₁.get? b = some o := fun b o e => hs₁.extBut b o (Nat.ne_of_lt (Heap.lt_size e)) (Heap.get?_push_of_some _ e)
  have hin : s.heap.objs.size < h₁.objs.size := by
    obtain ⟨o, ho, _⟩ := hit₁
    exact Heap.lt_size ho
  have htn : t < h₁.objs.size := by
    obtain ⟨o, ho, _⟩ := ht₁
    exact Heap.lt_size ho
  refine wpAny_bind (wpAny_holding (wpAny_collect_iter (T := "list_iterator") (.inr (.inr (.inl rfl))) (Walks.toS (lst_tail (A := A.in1) hh s.heap.objs.size t hlt x items)) (fun i s st => st.1.typeIs) ⟨hit₁, ht₁⟩ (fun b hb => ?_) (by simp) (fun s' acc mv it => ?_) hz))
  · simp only [List.mem_cons, List.not_mem_nil, or_false] at hb
    rcases hb with rfl | rfl
    · exact hin
    · exact htn
  have ea : acc.toList = items := by
    apply List.ext_getElem?
    intro j
    rw [Array.getElem?_toList]
    cases h : acc[j]? with
    | some v => exact (it.2 j v h).symm
    | none =>
      have := Array.getElem?_eq_none_iff.mp h
      rw [it.1] at this
      exact (List.getElem?_eq_none this).symm
  rw [ea, if_neg (by omega)]
  have em : List.take (items.length - (2 - 1 - 1)) items = items := by simp
  have ed : List.drop (items.length - (2 - 1 - 1)) items = [] := by simp
  rw [em, ed]
  obtain ⟨h2, g2, d2, t2, o2⟩ := s'
  obtain ⟨mh, mg, md, mo, mt⟩ := mv
  have mg : g2 = s.gens := mg
  have md : d2 = s.drawn := md
  have mo : o2 = s.os := mo
  subst mg md mo
  refine wpAny_bind (wpAny_newList (wpAny_pure (hQ h2 t2 fun b o e => mh b o (fun hm => ?_) (k1 b o e))) hz)
  rw [List.mem_singleton.mp hm] at e
  exact Nat.lt_irrefl _ (Heap.lt_size e)
/-- a, *b = xs, xs a list -/
theorem pg_star2L {X : Cx} {e1 e2 : Expr} {p3 pos : Pos} {k : Nat} {t : TGs} (hc : X.calm = true) (h : PGs X [e1, e2] t) (hm : (assignEach [e1, .Starred e2 p3] X.env).map (·.2) = (assignEach [e1, e2] X.env).map (·.2) := by rfl)
    (hn : (assignEach [e1, .Starred e2 p3] X.env).length = 2 := by rfl) (hst : (assignEach [e1, .Starred e2 p3] X.env).findIdx? (·.1) = some 1 := by rfl) :
    PG X (.Tuple [e1, .Starred e2 p3] k pos) (fun v σ H Q => ∃ a x0 xs, v = .ref a ∧ SqL X.K H a (x0 :: xs) ∧ ∀ p, H p = none → t [x0, .ref p] σ (upd H p (.lst xs)) Q) := by
  refine ⟨fun pins s σ H v u Q I r hw => ?_⟩
  obtain ⟨a, x0, xs, rfl, hq, hw⟩ := hw
  cases r
  obtain ⟨its, rv, pl, hz⟩ := I.list hq
  cases rv with
  | @cons _ u0 _ us r0 rs =>
  have hl : us.length ≤ sizeLine := by
    have := rs.length
    rw [List.length_cons] at hz
    omega
  rw [PyProof.Rows.assign_Tuple]
  refine wpAny_bind (wpAny_standAt ?_)
  unfold unpack
  rw [hn, hst, hm]
  refine wpAny_bind (wpAny_holding (unpack_starL (I.ok.hd hc) pl.isList hl fun h' tk kp => ?_))
  have I1 : Inv X pins σ H { s with heap := h', toks := tk } := I.kept kp
  have hf : H h'.objs.size = none := I1.hok.fresh (Nat.le_refl _)
  have I2 : Inv X pins σ (upd H h'.objs.size (.lst xs)) { s with heap := h'.push { cls := .type "list", data := .seq us.toArray }, toks := tk } :=
    I1.laid (t' := tk) (fun b u e => Heap.get?_push_of_some _ e) (Nat.le_refl _) ⟨by rw [rs.length]; exact hl, us, 0, rs, Heap.get?_push_size _ rfl⟩
  exact h.run pins _ σ _ [x0, .ref h'.objs.size] [u0, .ref h'.objs.size] Q I2 (.cons r0 (.cons rfl .nil)) (hw _ hf)
section
variable {prog : Program} {w : World} {K : Type} [DecidableEq K] {knd : KeyKind prog w K} {A : Around} {E : Value → Shared → Prop} {s : Shared}
theorem dictPut_pairs {d : Addr} {kvs : List (K × Value)} {k : K} {key v : Value} {Q : Unit → Shared → Prop} (hkey : knd.is k key = true) (hm : s.heap.DictOf knd d kvs)
    (hQ : ∀ h', h'.DictOf knd d (stored kvs k v) → Heap.SameBut d s.heap h' → Q () { s with heap := h' })
    (hsz : kvs.length ≤ sizeLine := by size_fits) :
    wpAny (model prog w) A (dictPut d (knd.hash k) key v) Q E s := by
  obtain ⟨o, es, ep, ho, hc, hd, hk, hp, hn⟩ := hm
  have hes : es.size ≤ sizeLine := by have e1 := hp.length; have e2 : es.toList.length = es.size := by simp
                                      omega
  unfold dictPut
  refine wpAny_bind (wpAny_dictFind_of hkey ho hd hk ?_)
  have hidx : (es.findIdx? fun e => knd.is k e.key) = kvs.findIdx? fun kv => decide (kv.1 = k) := by
    rw [← hp.findIdx k]; obtain ⟨l⟩ := es; simp
  cases hi : es.findIdx? fun e => knd.is k e.key with
  | some i =>
    refine wpAny_updateDict ho hd (hQ _ ⟨_, _, ep, Heap.get?_update_self _ ho (Obj.isFreed_of_dict (Obj.data_mapDict hd _)),
      hc.mapDict _, Obj.data_mapDict hd _, hk.modify _ _, ?_, ?_⟩ (Heap.SameBut.update ..))
    · rw [stored, if_pos (any_of_findIdx_some (hidx ▸ hi))]
      have hl : (es.toList.findIdx? fun e => knd.is k e.key) = some i := by rw [← hi]; obtain ⟨l⟩ := es; simp
      have := hp.modify hn hl v
      obtain ⟨l⟩ := es
      simpa using this
    · rw [stored, if_pos (any_of_findIdx_some (hidx ▸ hi)), keys_map_store]; exact hn
  | none =>
    have hnot : k ∉ kvs.map (·.1) := not_mem_of_findIdx_none (hidx ▸ hi)
    have hany : ¬ (kvs.any fun kv => decide (kv.1 = k)) = true := by
      rw [List.any_eq_true]; rintro ⟨kv, hkv, he⟩
      exact hnot (List.mem_map.mpr ⟨kv, hkv, of_decide_eq_true he⟩)
    refine wpAny_updateDictKeys (hz := hes) ho hd (hQ _ ⟨_, _, ep + 1, Heap.get?_update_self _ ho (Obj.isFreed_of_dict (Obj.data_mapDictKeys hd _)),
      hc.mapDictKeys _, Obj.data_mapDictKeys hd _, hk.push hkey _, ?_, ?_⟩ (Heap.SameBut.update ..))
    · rw [stored, if_neg hany]
      have := hp.append hkey (knd.hash k) v
      obtain ⟨l⟩ := es
      simpa using this
    · rw [stored, if_neg hany, List.map_append, List.nodup_append]
      refine ⟨hn, by simp, ?_⟩
      intro a ha b hb
      simp only [List.map_cons, List.map_nil, List.mem_singleton] at hb
      subst hb
      exact fun e => hnot (e ▸ ha)
theorem mergeMapping_pairs {d o : Addr} {kvs more : List (K × Value)} {Q : Unit → Shared → Prop} (hnr : ∀ k a, knd.is k (.ref a) = false) (hdo : d ≠ o) (hoS : (o == sysModules) = false)
    (hd : s.heap.DictOf knd d kvs) (ho : s.heap.DictOf knd o more)
    (hQ : ∀ h', h'.DictOf knd d (merged kvs more) → h'.DictOf knd o more → Heap.SameBut d s.heap h' → Q () { s with heap := h' })
    (hsz : kvs.length + more.length ≤ sizeLine := by size_fits) :
    wpAny (model prog w) A (mergeMapping d (.ref o) false) Q E s := by
  obtain ⟨od, esd, epd, hod, hcd, hdd, hkd, hpd, hnd⟩ := id hd
  obtain ⟨oo, eso, epo, hoo, hco, hdo', hko, hpo, hno⟩ := id ho
  have hlen : more.length = eso.size := by rw [← hpo.length]; simp
  unfold mergeMapping
  refine wpAny_bind (wpAny_isInstance ho.typeIs isSubtype_dict_dict ?_)
  rw [if_pos rfl]
  refine wpAny_bind (wpAny_specialOf ho.typeIs F.slot_dict_iter.lookup (wpAny_bind (wpAny_pure ?_)))
  rw [beq_self_eq_true]
  dsimp only
  rw [if_neg (by rw [hoS]; exact Bool.false_ne_true)]
  refine wpAny_bind (wpAny_dictEntries hod hdd ?_)
  have loop : wpAny (model prog w) A (do
      let l ← dictEntries o
      let epoch ← dictEpoch o
      forIn (List.range l.size) PUnit.unit fun i (_ : PUnit) => (do
          let l' ← dictEntries o
          match l'[i]? with
            | some e => do
              holding [e.key, e.val] (dictPut d e.hash e.key e.val)
              let ep' ← dictEpoch o
              if (ep' != epoch) = true then do
                  (unsupported "dict.changed-during-merge" : Sem PUnit)
                  pure (ForInStep.yield PUnit.unit)
                else pure (ForInStep.yield PUnit.unit)
            | _ => do
              (unsupported "dict.changed-during-merge" : Sem PUnit)
              pure (ForInStep.yield PUnit.unit) : Sem (ForInStep PUnit))
      pure ()) Q E s := by
    refine wpAny_bind (wpAny_dictEntries hoo hdo' ?_)
    refine wpAny_bind (wpAny_dictEpoch hoo hdo' ?_)
    refine wpAny_bind ?_
    refine wpAny_forIn_list _
      (fun rest _ s' => ∃ h' i, s' = { s with heap := h' } ∧ rest = List.range' i (eso.size - i) ∧ i ≤ eso.size ∧ h'.DictOf knd d (merged kvs (more.take i)) ∧ h'.get? o = some oo ∧ Heap.SameBut d s.heap h')
      _ ?_ ?_ _ _ ⟨s.heap, 0, rfl, by simp [List.range_eq_range'], Nat.zero_le _, by simpa [merged] using hd, hoo, Heap.SameBut.refl _ _⟩
    · rintro x rest b s' ⟨h', i, rfl, hr, hi, hd', hoo', hs'⟩
      have hlt : i < eso.size := by
        rcases Nat.lt_or_ge i eso.size with h | h
        · exact h
        · rw [Nat.sub_eq_zero_of_le h] at hr; simp at hr
      obtain ⟨rfl, hrest⟩ : x = i ∧ rest = List.range' (i + 1) (eso.size - (i + 1)) := by
        have e : eso.size - i = (eso.size - (i + 1)) + 1 := by omega
        rw [e, List.range'_succ] at hr
        injection hr with h1 h2
        exact ⟨h1, h2⟩
      refine wpAny_bind (wpAny_dictEntries hoo' hdo' ?_)
      rw [Array.getElem?_eq_getElem hlt]
      obtain ⟨kv, hkv⟩ : ∃ kv, more[x]? = some kv := ⟨more[x]'(by rw [hlen]; exact hlt), List.getElem?_eq_getElem _⟩
      obtain ⟨k, v⟩ := kv
      obtain ⟨hkey, hval⟩ := hpo.get? (e := eso[x]) (by simp [hlt]) hkv
      obtain ⟨k', hkey', hhash⟩ := hko eso[x] (Array.getElem_mem hlt)
      obtain rfl : k' = k := knd.inj _ _ _ hkey' hkey
      show wpAny _ _ (holding [eso[x].key, eso[x].val] (dictPut d eso[x].hash eso[x].key eso[x].val) >>= _) _ _ _
      rw [hhash, hval]
      have hmx : (merged kvs (more.take x)).length ≤ sizeLine := by
        have e1 := merged_length_le kvs (more.take x)
        have e2 : (more.take x).length ≤ more.length := by rw [List.length_take]; omega
        omega
      refine wpAny_bind (wpAny_holding (dictPut_pairs (hsz := hmx) hkey hd' fun h'' hd'' hs'' => ?_))
      have hoo'' : h''.get? o = some oo := (hs''.2 o (Ne.symm hdo)).trans hoo'
      refine wpAny_bind (wpAny_dictEpoch hoo'' hdo' ?_)
      rw [if_neg (by simp)]
      exact wpAny_pure ⟨h'', x + 1, rfl, hrest, hlt, by rw [merged_take_succ kvs more x (k', v) hkv]; exact hd'', hoo'', hs'.trans hs''⟩
    · rintro b s' ⟨h', i, rfl, hr, hi, hd', hoo', hs'⟩
      have hin : i = eso.size := by
        rcases Nat.lt_or_ge i eso.size with h | h
        · have e : eso.size - i = (eso.size - (i + 1)) + 1 := by omega
          rw [e, List.range'_succ] at hr; exact nomatch hr
        · exact Nat.le_antisymm hi h
      refine wpAny_pure (hQ h' ?_ ⟨oo, eso, epo, hoo', hco, hdo', hko, hpo, hno⟩ hs')
      rw [hin, ← hlen, List.take_length] at hd'; exact hd'
  split
  · refine wpAny_bind (wpAny_dictEntries hoo hdo' ?_)
    refine wpAny_bind (PySem.MeetsSeq2.wpAny_forIn_array _ (fun rest _ s' => s' = s ∧ ∀ e ∈ rest, e ∈ eso) _ ?_ ?_ _ _ ⟨rfl, fun e he => Array.mem_toList_iff.mp he⟩)
    · rintro x rest b s' ⟨rfl, hm⟩
      obtain ⟨k, hk, _⟩ := hko x (hm x List.mem_cons_self)
      have nr : ∀ a, x.key ≠ .ref a := fun a e => by
        rw [e, hnr] at hk
        cases hk
      split
      · rename_i a e
        exact absurd e (nr a)
      · exact wpAny_pure ⟨rfl, fun e he => hm e (List.mem_cons_of_mem _ he)⟩
    · rintro b s' ⟨rfl, _⟩
      exact loop
  · exact loop
end
/-- {**d, k: v} -/
def tDStar (td tk tv : TE) : TE := fun σ H Q => ∀ p, H p = none → td σ (upd H p (.dK [])) fun x H1 => ∃ a kvs, x = .ref a ∧ a ≠ p ∧ H1 p = some (.dK []) ∧ H1 a = some (.dK kvs) ∧ kvs.length < sizeLine ∧
  ∀ q, upd H1 p (.dK kvs) q = none → tk σ (upd (upd H1 p (.dK kvs)) q (.dK [])) fun y H2 => tv σ H2 fun z H3 => ∃ k : Key, y = kV k ∧ H3 p = some (.dK kvs) ∧ H3 q = some (.dK []) ∧ Q (.ref p) (upd (upd H3 q (.dK [(k, z)])) p (.dK (putK kvs k z)))
theorem mix_ref {P : Program} {w : World} (k : Key) (a : Addr) : (mixKind P w).is k (.ref a) = false := by
  cases k <;> rfl
theorem pe_dstar {X : Cx} {pos : Pos} {de ke ve : Expr} {td tk tv : TE} (hd : PE X de td) (hk : PE X ke tk) (hv : PE X ve tv) : PE X (.Dict [none, some ke] [de, ve] pos) (tDStar td tk tv) := by
  refine ⟨fun pins s σ H Q I h => ?_⟩
  have hn := I.hok.fresh (Nat.le_refl s.heap.objs.size)
  have I1 := I.laid (a := s.heap.objs.size) (o := .dK []) (h' := s.heap.push { cls := .type "dict", data := .dict #[] }) (t' := s.toks) (fun _ _ q => Heap.get?_push_of_some _ q) (Nat.le_refl _) (dk_empty s.heap I.big)
  rw [arm_eval_Dict]
  refine wpAny_bind (wpAny_standAt ?_)
  show wpAny _ _ (dictDisplay [(none, do let x ← eval de X.env; standAt pos; pure x), (some (eval ke X.env), do let x ← eval ve X.env; standAt pos; pure x)]) _ _ _
  unfold dictDisplay
  dsimp only
  rw [List.forIn_cons]
  dsimp only
  refine wpAny_bind (wpAny_bind (wpAny_bind ?_))
  rw [List.isEmpty_nil, if_pos rfl]
  refine wpAny_pure ?_
  dsimp only
  refine wpAny_bind (wpAny_alloc ?_)
  refine wpAny_bind (wpAny_holding (wpAny_bind (thn (hd.run pins _ σ _ _ I1 (h _ hn)) fun u s1 ⟨x, H1, I2, rx, a, kvs, ex, ap, hp, ha, hl, q1⟩ => wpAny_bind (wpAny_standAt (wpAny_pure ?_)))))
  subst ex
  obtain rfl : u = Value.ref a := rx
  obtain ⟨z0, hd0, vs0, r0, dd0⟩ := dk_of I2.hok hp
  cases r0
  obtain ⟨z1, hd1, vs1, r1, dd1⟩ := dk_of I2.hok ha
  have n1 : (vs1.map (·.1)).Nodup := by
    obtain ⟨_, _, _, _, _, _, _, _, hnd⟩ := dd1
    exact hnd
  have l1 : kvs.length = vs1.length := r1.length
  refine wpAny_bind (wpAny_onRaise (wpAny_tryCatch (wpAny_onRaise (wpAny_holding (mergeMapping_pairs (knd := mixKind X.prog X.w) mix_ref (Ne.symm ap) hd1 dd0 dd1 (fun h' d1 d2 sb => ?_) (by rw [List.length_nil]; omega))))))
  rw [merged_nil_of_nodup vs1 n1] at d1
  have he1 : ∃ q, h'.get? s.heap.objs.size = some q := let ⟨q, _, _, hq, _⟩ := d1; ⟨q, hq⟩
  have I3 : Inv X pins σ (upd H1 s.heap.objs.size (.dK kvs)) { s1 with heap := h' } := d_write (t' := s1.toks) I2 (by rw [hp]; exact True.intro) sb he1 (dk_new z1 hd0 r1 d1)
  refine wpAny_pure (wpAny_pure ?_)
  dsimp only
  rw [if_neg (by simp)]
  have hq0 := I3.hok.fresh (Nat.le_refl h'.objs.size)
  have I4 := I3.laid (a := h'.objs.size) (o := .dK []) (h' := h'.push { cls := .type "dict", data := .dict #[] }) (t' := s1.toks) (fun _ _ q => Heap.get?_push_of_some _ q) (Nat.le_refl _) (dk_empty h' I3.big)
  have hPP : PPs X pos [some ke] [ve] [(tk, tv)] := pps_cons hk hv pps_nil
  let Qp : List (V × V) → Hp → Prop := fun ps H3 => match ps with
    | [(y, z)] => ∃ k : Key, y = kV k ∧ H3 s.heap.objs.size = some (.dK kvs) ∧ H3 h'.objs.size = some (.dK []) ∧ Q (.ref s.heap.objs.size) (upd (upd H3 h'.objs.size (.dK [(k, z)])) s.heap.objs.size (.dK (putK kvs k z)))
    | _ => False
  have hT : tPairs [(tk, tv)] σ (upd (upd H1 s.heap.objs.size (.dK kvs)) h'.objs.size (.dK [])) Qp := q1 _ hq0
  have hpq : h'.objs.size ≠ s.heap.objs.size := fun e => by
    rw [e, upd_same] at hq0
    cases hq0
  refine wpAny_bind (wpAny_bind (wpAny_holding (wpAny_subDict (knd := mixKind X.prog X.w) (by simp) (thn (hPP.run pins _ σ _ Qp I4 hT) fun ws s2 ⟨ps, H2, I5, rel, hps⟩ => ?_))))
  obtain ⟨y, z, rfl, k, rfl, hp2, hq2, q2⟩ : ∃ y z, ps = [(y, z)] ∧ ∃ k : Key, y = kV k ∧ H2 s.heap.objs.size = some (.dK kvs) ∧ H2 h'.objs.size = some (.dK []) ∧ Q (.ref s.heap.objs.size) (upd (upd H2 h'.objs.size (.dK [(k, z)])) s.heap.objs.size (.dK (putK kvs k z))) := by
    match ps, hps with
    | [(y, z)], h => exact ⟨y, z, rfl, h⟩
  obtain ⟨rs, c, rk⟩ := carries_of (P := X.prog) (w := X.w) (kvs := [(k, z)]) rel
  obtain ⟨z2, hd2, vs2, r2, dd2⟩ := dk_of I5.hok hq2
  cases r2
  refine ⟨rs, c, dd2, fun h2 dq sq => ?_⟩
  have rl : rs.length = 1 := rk.length.symm
  have heq : ∃ o, h2.get? h'.objs.size = some o := let ⟨o, _, _, ho, _⟩ := dq; ⟨o, ho⟩
  have I6 : Inv X pins σ (upd H2 h'.objs.size (.dK [(k, z)])) { s2 with heap := h2, toks := s2.toks + ws.length } :=
    d_write (t' := s2.toks + ws.length) I5 (by rw [hq2]; exact True.intro) sq heq (dk_new (by rw [sizeLine_eq]; simp) hd2 (rk.merge .nil) dq)
  have hp3 : (upd H2 h'.objs.size (.dK [(k, z)])) s.heap.objs.size = some (.dK kvs) := by rw [upd_ne (Ne.symm hpq)]; exact hp2
  have hq3 : (upd H2 h'.objs.size (.dK [(k, z)])) h'.objs.size = some (.dK [(k, z)]) := upd_same
  obtain ⟨z3, hd3, vs3, r3, dd3⟩ := dk_of I6.hok hp3
  obtain ⟨z4, hd4, vs4, r4, dd4⟩ := dk_of I6.hok hq3
  have l3 : kvs.length = vs3.length := r3.length
  have l4 : 1 = vs4.length := r4.length
  refine wpAny_bind (wpAny_onRaise (wpAny_holding (mergeMapping_pairs (knd := mixKind X.prog X.w) mix_ref (Ne.symm hpq) hd4 dd3 dd4 (fun h3 d3 d4 sb3 => ?_) (by omega))))
  have he3 : ∃ o, h3.get? s.heap.objs.size = some o := let ⟨o, _, _, ho, _⟩ := d3; ⟨o, ho⟩
  have hz : (putK kvs k z).length ≤ sizeLine := by
    have := length_putK kvs k z
    omega
  have I7 := d_write (t' := s2.toks + ws.length) (ob := .dK (putK kvs k z)) I6 (by rw [hp3]; exact True.intro) sb3 he3 (dk_new hz hd3 (r4.merge r3) d3)
  refine wpAny_pure (wpAny_pure ?_)
  exact ⟨.ref s.heap.objs.size, _, I7, rfl, q2⟩
end FF
/-! Fivefault, part 31: more comprehensions: a test told with the heap; a choice of any target; items that are new objects. -/
namespace FF
open PySem PySem.Spec PyProof.Rows L2
theorem lc_filtW {K : PySem.W.Frag} {a D : Addr} {xs : List V} {tt : TT} {te : TE} {vs : List Nat} {j : Nat} {σ : L2.St} {H1 : Hp} {Qd : Hp → Prop} (f : V → Bool) (hD : H1 D = none) (hs : SqL K H1 a xs) (hz : xs.length ≤ sizeLine)
    (hw : ∀ x, wipe ((wipe σ vs).set j (some x)) vs = wipe σ vs)
    (test : ∀ (i : Nat) (x : V) (H2 : Hp), xs[i]? = some x → Same H1 H2 → ∀ Qb : Bool → Hp → Prop, (∀ H3, Same H2 H3 → Qb (f x) H3) → tt ((wipe σ vs).set j (some x)) H2 Qb)
    (elt : ∀ x H2 (Q' : VK), Q' x H2 → te ((wipe σ vs).set j (some x)) H2 Q')
    (done : ∀ H2, Same H1 H2 → H2 D = some (.lst (xs.filter f)) → Qd H2) :
    ∃ W : Nat → Nat → Hp → Prop, (∃ m, W 0 m (upd H1 D (.lst []))) ∧ ∀ i m H, W i m H →
      ((Itl K a).stop i H ∧ Qd H) ∨ ((Itl K a).go i H ∧ ∃ Nx : Hp → Prop, (∀ H', Nx H' → ∃ m', m' < m ∧ W (i + 1) m' H') ∧ ∀ x H', (Itl K a).yld i H x H' → gName j x (wipe σ vs) H' fun σ2 H2 => wipe σ2 vs = wipe σ vs ∧ tt σ2 H2 fun b H3 =>
        if b = true then te σ2 H3 fun y H4 => ∃ acc, H4 D = some (.lst acc) ∧ acc.length < sizeLine ∧ Nx (upd H4 D (.lst (acc ++ [y]))) else Nx H3) :=
  lc_list (fun i H => Same H1 H ∧ H D = some (.lst ((xs.take i).filter f)))
    ⟨same_new hD _, upd_same⟩ (fun i H _ p => up_l p.1 hs)
    (fun i x H hx ⟨e, h1⟩ => ⟨hw x, test i x H hx e _ fun H3 e3 => by
      have take1 : xs.take (i + 1) = xs.take i ++ [x] := by
        rw [List.take_add_one, hx] <;> rfl
      cases hb : f x with
      | false =>
        refine iteF ⟨e.trans e3, ?_⟩
        rw [take1, List.filter_append, List.filter_cons_of_neg (by rw [hb]; decide), List.filter_nil, List.append_nil]
        exact e3 _ _ h1
      | true =>
        refine iteT (elt x H3 _ ⟨_, e3 _ _ h1, ?_, same_at hD (e.trans e3), ?_⟩)
        · refine Nat.lt_of_le_of_lt (List.length_filter_le _ _) ?_
          rw [List.length_take]
          have := (List.getElem?_eq_some_iff.mp hx).1
          omega
        · rw [take1, List.filter_append, List.filter_cons_of_pos hb, List.filter_nil, upd_same]⟩)
    fun H ⟨e, h1⟩ => done H e (by rw [List.take_length] at h1; exact h1)
section
variable {K : PySem.W.Frag} {a : Addr} {xs : List V} {g : TG} {tt : TT} {te : TE} {vs : List Nat} {σ : L2.St} {H1 : Hp} {Q : Addr → Hp → Prop}
/-- [e for target in xs if test], xs a list or a tuple: which items, told by the place -/
theorem lc_selS (F : Nat → Option V) (h : SqL K H1 a xs ∨ SqT K H1 a xs) (hz : xs.length ≤ sizeLine)
    (step : ∀ i x H2, xs[i]? = some x → Same H1 H2 → ∀ (Qy : VK) (Qn : Hp → Prop), (∀ y H3, Same H2 H3 → F i = some y → Qy y H3) → (∀ H3, Same H2 H3 → F i = none → Qn H3) →
      g x (wipe σ vs) H2 fun σ2 H3 => wipe σ2 vs = wipe σ vs ∧ tt σ2 H3 fun b H4 => if b = true then te σ2 H4 Qy else Qn H4)
    (done : ∀ H2 D, Same H1 H2 → H1 D = none → H2 D = some (.lst ((List.range xs.length).filterMap F)) → Q D H2) :
    ∃ a' xs', V.ref a = .ref a' ∧ ((SqL K H1 a' xs' ∧ ∀ D, H1 D = none → LcR (Itl K a') g tt te vs σ H1 D (Q D)) ∨ (SqT K H1 a' xs' ∧ ∀ D, H1 D = none → LcR (Itt K a') g tt te vs σ H1 D (Q D))) := by
  have key : ∀ J, Walk J xs.length (Same H1) (YAt xs) → ∀ D, H1 D = none → LcR J g tt te vs σ H1 D (Q D) := fun J wk D hD =>
    lc_it wk (fun i H => Same H1 H ∧ H D = some (.lst ((List.range i).filterMap F))) ⟨same_new hD _, upd_same⟩ (fun i H _ p => p.1)
      (fun i x H H' hi ⟨e, h2⟩ ⟨e1, e2⟩ => by
        subst e1
        refine step i x _ e2 e _ _ (fun y H3 e3 hF => ?_) (fun H3 e3 hF => ?_)
        · refine ⟨_, e3 _ _ h2, ?_, same_at hD (e.trans e3), ?_⟩
          · refine Nat.lt_of_le_of_lt (List.length_filterMap_le _ _) ?_
            rw [List.length_range]
            omega
          · rw [upd_same, List.range_succ, List.filterMap_append, List.filterMap_cons_some hF, List.filterMap_nil]
        · refine ⟨e.trans e3, ?_⟩
          rw [List.range_succ, List.filterMap_append, List.filterMap_cons_none hF, List.filterMap_nil, List.append_nil]
          exact e3 _ _ h2)
      fun H ⟨e, h1⟩ => done H D e hD h1
  exact ⟨a, xs, rfl, h.imp (fun h => ⟨h, key _ (walkL_same h)⟩) fun h => ⟨h, key _ (walkT_same h)⟩⟩
end
section
variable {K : PySem.W.Frag} {a : Addr} {xs : List V} {te : TE} {vs : List Nat} {σ : L2.St} {H1 : Hp} {D : Addr} {Qd : Hp → Prop} {j : Nat}
/-- [e for x in t], t a tuple, the items told by objects other than the new list -/
theorem lc_mapTB (R : Nat → V → Hp → Prop) (mono : ∀ i y H H', SameB D H H' → R i y H → R i y H') (hD : H1 D = none) (hs : SqT K H1 a xs) (hz : xs.length ≤ sizeLine)
    (hw : ∀ x, wipe ((wipe σ vs).set j (some x)) vs = wipe σ vs)
    (step : ∀ i x H2, xs[i]? = some x → Same H1 H2 → (∃ o, H2 D = some o) → ∀ Q' : VK, (∀ y H3, Same H2 H3 → R i y H3 → Q' y H3) → te ((wipe σ vs).set j (some x)) H2 Q')
    (done : ∀ H2 ys, Same H1 H2 → H2 D = some (.lst ys) → ys.length = xs.length → (∀ (i : Nat) (y : V), ys[i]? = some y → R i y H2) → Qd H2) :
    ∃ W : Nat → Nat → Hp → Prop, (∃ m, W 0 m (upd H1 D (.lst []))) ∧ ∀ i m H, W i m H →
      ((Itt K a).stop i H ∧ Qd H) ∨ ((Itt K a).go i H ∧ ∃ Nx : Hp → Prop, (∀ H', Nx H' → ∃ m', m' < m ∧ W (i + 1) m' H') ∧ ∀ x H', (Itt K a).yld i H x H' → gName j x (wipe σ vs) H' fun σ2 H2 => wipe σ2 vs = wipe σ vs ∧ tYes σ2 H2 fun b H3 =>
        if b = true then te σ2 H3 fun y H4 => ∃ acc, H4 D = some (.lst acc) ∧ acc.length < sizeLine ∧ Nx (upd H4 D (.lst (acc ++ [y]))) else Nx H3) :=
  lc_tup (fun i H => Same H1 H ∧ ∃ ys, H D = some (.lst ys) ∧ ys.length = i ∧ ∀ (m : Nat) (y : V), ys[m]? = some y → R m y H)
    ⟨same_new hD _, [], upd_same, rfl, fun m y h => by simp at h⟩ (fun i H _ p => up_t p.1 hs)
    (fun i x H hx ⟨e, ys, h1, h2, h3⟩ => ⟨hw x, by
      unfold tYes
      dsimp only
      rw [if_pos rfl]
      have hi := (List.getElem?_eq_some_iff.mp hx).1
      refine step i x H hx e ⟨_, h1⟩ _ fun y H3 e3 r => ?_
      refine ⟨_, e3 _ _ h1, by omega, same_at hD (e.trans e3), ys ++ [y], upd_same, by simp [h2], fun m y' q => ?_⟩
      have eU : SameB D H3 (upd H3 D (.lst (ys ++ [y]))) := sb_upd
      by_cases hm : m < ys.length
      · rw [List.getElem?_append_left hm] at q
        exact mono _ _ _ _ ((sb_of e3).tr eU) (h3 m y' q)
      · have : m = ys.length := by
          have := (List.getElem?_eq_some_iff.mp q).1
          simp at this
          omega
        subst this
        rw [List.getElem?_append_right (Nat.le_refl _), Nat.sub_self] at q
        cases q
        rw [h2]
        exact mono _ _ _ _ eU r⟩)
    fun H ⟨e, ys, h1, h2, h3⟩ => done H ys e h1 h2 h3
end
end FF
/-! Fivefault, part 32: x[i] of a text or a tuple; C() of an own class. -/
namespace FF
open PySem PySem.Spec PyProof.Rows L2
def rIxW (K : PySem.W.Frag) : R2 := fun x y H Q => rIxT K x y H Q ∨ rIxS x y H Q
theorem ix_wordK {X : Cx} (K : PySem.W.Frag) (h : X.K = K := by rfl) : IxR X (rIxW K) := by
  subst h
  intro value slice pins s σ H x y v u Q I rx ry q hs
  rcases q with q | q
  · exact ix_tup value slice pins s σ H x y v u Q I rx ry q hs
  · exact ix_str value slice pins s σ H x y v u Q I rx ry q hs
theorem pe_mkd0 {X : Cx} {C : Str} {k j : Nat} {ps : List Str} {sp : Sp} {p pos : Pos} (D : MakeD X.prog X.w X.K X.mg X.base C k ps sp) (hr : Room j X.A) (hkj : k + 1 ≤ j)
    (hg : Gl X C := by rfl) (hdb : (C == ("__debug__" : Str)) = false := by decide) :
    PE X (.Call (.Name C p) [] [] pos) (tMake (He.ga X.K C) sp [] E0 tNil) := by
  obtain ⟨fd, F, hb⟩ := D.ex
  exact pe_make0 D.mkr F (hr.mono hkj) hg D.hm hb .nil pass0 hdb
/-- o.m(e, ..), within a comprehension too -/
theorem pe_methdK {X : Cx} (K : PySem.W.Frag) {C m : Str} {k j : Nat} {ps : List Str} {sp : Sp} {o e : Expr} {es : List Expr} {apos pos : Pos} {to : TE} {t : TA} {pl : Sem Bool} (D : MethD X.prog X.w X.K X.mg X.base C m k ps sp) (hr : Room j X.A) (hkj : k ≤ j) (ho : PE X o to) (ha : PA X (e :: es) t) (hK : X.K = K := by rfl)
    (hst : starEach (e :: es) X.env = (false, eval e X.env) :: starEach es X.env := by rfl) (hpl : (backTo pos (starEach es X.env)).any (·.1) = false := by rfl)
    (ht : eval (.Call (.Attribute o m apos) (e :: es) [] pos) X.env = (do
      let ov ← eval o X.env
      standAt apos.atName
      let (f, first) ← holding [ov] (getMethod ov m pl)
      callWith pos f first (backTo pos (starEach (e :: es) X.env)) (backToKw pos (keywordEach [] X.env))) := by rfl) :
    PE X (.Call (.Attribute o m apos) (e :: es) [] pos) (tMeth (He.ga K C) m sp [] E0 to t) := by
  subst hK
  exact pe_methd D hr hkj ho ha hst hpl ht
end FF
/-! Fivefault, part 33: a text times an int. -/
namespace FF
open PySem PySem.Spec PyProof.Rows L2
theorem fold_rep {α : Type} (a : Array α) : ∀ (n : Nat) (b : Array α), ((List.replicate n a).foldl (· ++ ·) b).size = b.size + a.size * n
  | 0, b => by simp
  | n + 1, b => by
    rw [List.replicate_succ, List.foldl_cons, fold_rep a n, Array.size_append, Nat.mul_succ]
    omega
theorem op_rep_str {X : Cx} : OpR X (binaryOp .Mult) (fun x y H Q => ∃ z k, x = .str z ∧ y = .int k ∧ 2 ≤ k ∧ k < 2147483648 ∧ 1 ≤ z.length ∧ z.length * k.toNat ≤ 100000 ∧ ∀ w : Str, w.length = z.length * k.toNat → Q (.str w) H) := by
  intro pins s σ H x y v u Q I rx ry h
  obtain ⟨z, k, rfl, rfl, h2, hk, h1, hl, q⟩ := h
  obtain ⟨t, rfl⟩ := rx
  obtain ⟨t', rfl⟩ := ry
  have e1 : ¬ k < 1 := by omega
  have e2 : ¬ ((k == 1 || z.length == 0) = true) := by
    rw [beq_eq_false_iff_ne.mpr (show k ≠ 1 by omega), beq_eq_false_iff_ne.mpr (show z.length ≠ 0 by omega)]
    decide
  refine PySem.P.mul_str (by rw [decide_eq_false (by omega), decide_eq_false (by omega)] <;> rfl) (fun _ _ => ?_) (fun _ _ => ?_) ?_
  · have hm : (z.length : Int) * k ≤ 2 ^ 63 - 1 := by
      have e : ((z.length * k.toNat : Nat) : Int) = (z.length : Int) * k := by
        rw [Int.natCast_mul, Int.toNat_of_nonneg (by omega)]
      rw [← e]
      have : (z.length * k.toNat : Nat) ≤ 100000 := hl
      omega
    have := (Int.le_ediv_iff_mul_le (show 0 < k by omega)).mpr hm
    omega
  · show decide (z.length * k.toNat > sizeLine) = false
    exact decide_eq_false (Nat.not_lt.mpr (Nat.le_trans hl (by decide)))
  · rw [if_neg e1, if_neg e2]
    have len : (⟨(List.replicate k.toNat z.cps).foldl (· ++ ·) #[]⟩ : Str).length = z.length * k.toNat := by
      show ((List.replicate k.toNat z.cps).foldl (· ++ ·) #[]).size = _
      rw [fold_rep]
      show 0 + z.cps.size * k.toNat = z.length * k.toNat
      rw [Nat.zero_add] <;> rfl
    have qq := q _ len
    refine ⟨?_, ?_⟩
    · rw [len]
      exact Nat.le_trans hl (by decide)
    · exact ⟨.str _, H, I.tok _, ⟨_, rfl⟩, qq⟩
end FF
/-! Fivefault, part 34: int(t, 2). -/
namespace FF
open PySem PySem.Spec PyProof.Rows L2
namespace Bn
open PySem.NumText PySem.Calls L2.Hx
def IsBin (c : Nat) : Prop := c = 48 ∨ c = 49
def binNum (l : List Nat) : Nat := l.foldl (fun a c => a * 2 + hv c) 0
theorem bin_hex {c : Nat} (h : IsBin c) : IsHex c := by
  unfold IsBin at h
  unfold IsHex
  omega
theorem bv_lt {c : Nat} (h : IsBin c) : hv c < 2 := by
  rcases h with rfl | rfl
  · decide
  · decide
theorem step_bin {ds : Array Nat} {b : Bool} {c : Nat} (h : IsBin c) : PySem.NumText.step 2 (ds, b) c = some (ds.push (hv c), true) := by
  have hr := hex_rng (bin_hex h)
  unfold PySem.NumText.step
  rw [if_neg (by rw [beq_iff_eq]; exact hr.2.2), digit_hex (bin_hex h)]
  exact if_pos (bv_lt h)
theorem foldl_bin : ∀ (cs : List Nat) (ds : Array Nat), (∀ c ∈ cs, IsBin c) → cs.foldlM (PySem.NumText.step 2) (ds, true) = some (cs.foldl (fun acc c => acc.push (hv c)) ds, true)
  | [], _, _ => rfl
  | c :: cs, ds, h => by
    rw [List.foldlM_cons, step_bin (h c (List.mem_cons_self ..))]
    show cs.foldlM (PySem.NumText.step 2) (ds.push (hv c), true) = _
    exact foldl_bin cs (ds.push (hv c)) fun d hd => h d (List.mem_cons_of_mem _ hd)
theorem digits_bin {cs : List Nat} (h : ∀ c ∈ cs, IsBin c) (hne : cs ≠ []) : digits? 2 cs = some (cs.foldl (fun acc c => acc.push (hv c)) #[]) := by
  cases cs with
  | nil => exact absurd rfl hne
  | cons c cs =>
    unfold digits?
    rw [List.foldlM_cons, step_bin (h c (List.mem_cons_self ..))]
    show (cs.foldlM (PySem.NumText.step 2) ((#[] : Array Nat).push (hv c), true)).bind _ = _
    rw [foldl_bin cs _ fun d hd => h d (List.mem_cons_of_mem _ hd)]
    rfl
theorem push_bin : ∀ (cs : List Nat) (ds : Array Nat), (cs.foldl (fun acc c => acc.push (hv c)) ds).foldl (fun acc d => acc * 2 + d) 0 = cs.foldl (fun a c => a * 2 + hv c) (ds.foldl (fun acc d => acc * 2 + d) 0)
  | [], _ => rfl
  | c :: cs, ds => by
    rw [List.foldl_cons, push_bin cs (ds.push (hv c)), List.foldl_cons]
    congr 1
    simp
theorem based_bin {cs : List Nat} (h : ∀ c ∈ cs, IsBin c) : based 2 cs = (2, false, cs) := by
  match cs, h with
  | [], _ => rfl
  | [a], h => rcases h a (List.mem_singleton.mpr rfl) with rfl | rfl <;> rfl
  | a :: c :: r, h =>
    have hc := h c (List.mem_cons_of_mem _ (List.mem_cons_self ..))
    rcases h a (List.mem_cons_self ..) with rfl | rfl <;> rcases hc with rfl | rfl <;> rfl
theorem read_bin {cs : List Nat} (h : ∀ c ∈ cs, IsBin c) (hne : cs ≠ []) : (int_private% "readNumeral") 0 2 cs = (int_private% "Numeral.value") ((binNum cs : Nat) : Int) := by
  have hx : ∀ c ∈ cs, IsHex c := fun c hc => bin_hex (h c hc)
  have hr : ∀ c ∈ cs.reverse, IsHex c := fun c hc => hx c (List.mem_reverse.mp hc)
  refine (readNumeral_eq 0 2 cs).trans ?_
  rw [dropB hx, signH hx]
  show judge 0 false (based 2 cs).1 (based 2 cs).2.1 (digits? (based 2 cs).1 (((based 2 cs).2.2.reverse.dropWhile blank).reverse)) = _
  rw [based_bin h]
  show judge 0 false 2 false (digits? 2 ((cs.reverse.dropWhile blank).reverse)) = _
  rw [dropB hr, List.reverse_reverse, digits_bin h hne]
  show (int_private% "Numeral.value") (((cs.foldl (fun acc c => acc.push (hv c)) (#[] : Array Nat)).foldl (fun acc d => acc * 2 + d) 0 : Nat) : Int) = _
  have z : (#[] : Array Nat).foldl (fun acc d => acc * 2 + d) 0 = 0 := by first | rfl | simp
  rw [push_bin, z] <;> rfl
set_option maxHeartbeats 4000000 in
theorem gives_bin {x : PySem.Str} {u t : Tok} (hl : x.length ≤ 640) (h : ∀ c ∈ x.cps.toList, IsBin c) (hne : x.cps.toList ≠ []) :
    Gives (Builtin.«int.__new__» ⟨[.type "int", .str x u, .int 2 t], []⟩) (.int ((binNum x.cps.toList : Nat) : Int)) :=
  .of_wp fun M A E s Q hQ => by
    obtain ⟨hp, g, d, tk, os⟩ := s
    have f1 := F.conv_sub_int
    have f2 := F.madeHere_int
    have f6 : typeOf (.str x u) = pure (.type "str") := rfl
    obtain ⟨e1, e2⟩ := seen_hex fun c hc => bin_hex (h c hc)
    have hs : (numSeenOf x).length ≤ 640 := by
      rw [e2, Array.length_toList]
      exact hl
    have hr : (int_private% "readNumeral") 0 2 (numSeenOf x) = (int_private% "Numeral.value") ((binNum x.cps.toList : Nat) : Int) := by
      rw [e2]
      exact read_bin h hne
    have ha : ((numSeenOf x).length == (numTextOf x).length) = true := by
      rw [e1, e2]
      exact beq_self_eq_true _
    have hk := Hid.mk (And.intro hs (And.intro hr ha))
    clear hs hr ha e1 e2 hl hne h
    repeat (any_goals (first
      | assumption
      | ((with_reducible show wpAny _ _ ((int_private% "intFromText") _ _ _) _ _ _); refine wp_textB hk.out.1 hk.out.2.1 hk.out.2.2 ?_)
      | wp_step))
    all_goals first | exact ⟨_, rfl, hQ⟩ | skip
theorem call_bin {prog : Program} {w : World} {A : Around} {E : Value → Shared → Prop} {s : Shared} {Q : Value → Shared → Prop} {x : PySem.Str} {u t : Tok} (hl : x.length ≤ 640) (h : ∀ c ∈ x.cps.toList, IsBin c) (hne : x.cps.toList ≠ [])
    (hQ : Q (.int ((binNum x.cps.toList : Nat) : Int) s.toks) { s with toks := s.toks + 1 }) : wpAny (model prog w) A (call (.type "int") [.str x u, .int 2 t]) Q E s :=
  callType_new F.called_int F.newNe_int (typeCall_int_2 _ _) (newCall_int_2 _ _) (fun obj => F.initArgs_range_2 obj _ _) F.entry_int_new (gives_bin hl h hne).meets (show (Made.int ((binNum x.cps.toList : Nat) : Int)).post _ s from ⟨rfl, hQ⟩)
end Bn
/-- int(t, 2) -/
def rIntBin : List V → Hp → VK → Prop := fun xs H Q => ∃ z : Str, xs = [.str z, .int 2] ∧ z.cps.toList ≠ [] ∧ z.length ≤ 640 ∧ (∀ c ∈ z.cps.toList, Bn.IsBin c) ∧ Q (.int ((Bn.binNum z.cps.toList : Nat) : Int)) H
theorem call_int_bin {X : Cx} : CallR X (.type "int") rIntBin := by
  intro pins s σ H xs us Q I r h
  obtain ⟨z, rfl, hne, hl, hx, q⟩ := h
  obtain ⟨u, w', rfl, r1, r2⟩ := vals2 r
  obtain ⟨t1, rfl⟩ := r1
  obtain ⟨t2, rfl⟩ := r2
  exact Bn.call_bin hl hx hne ⟨.int ((Bn.binNum z.cps.toList : Nat) : Int), H, I.tok _, ⟨_, rfl⟩, q⟩
end FF
/-! Fivefault, part 35: t[::-1]. -/
namespace FF
open PySem PySem.Spec PyProof.Rows L2
theorem rev_range (n : Nat) : Builtin.Str.strSliceIndices none none (-1) n = (List.range n).reverse := by
  show sliceRange ((n : Int) - 1) (-1) (-1) = _
  unfold sliceRange
  have e : (if (-1 : Int) > 0 then (if (n : Int) - 1 < -1 then (-1 - ((n : Int) - 1) + (-1) - 1) / (-1) else 0) else (if (n : Int) - 1 > -1 then ((n : Int) - 1 - (-1) - (-1) - 1) / (-(-1)) else 0)) = (n : Int) := by
    rw [if_neg (by decide)]
    by_cases h : (n : Int) - 1 > -1
    · rw [if_pos h, show (-(-1) : Int) = 1 from rfl, Int.ediv_one]
      omega
    · rw [if_neg h]
      omega
  show (List.range (if (-1 : Int) > 0 then _ else _ : Int).toNat).map _ = _
  rw [e, Int.toNat_natCast]
  refine List.ext_getElem (by simp) fun i h1 h2 => ?_
  simp only [List.length_map, List.length_range] at h1
  rw [List.getElem_map, List.getElem_range, List.getElem_reverse, List.getElem_range, List.length_range]
  omega
theorem rev_pick (l : List Nat) : ((List.range l.length).reverse).filterMap (fun i => l[i]?) = l.reverse := by
  rw [List.filterMap_reverse]
  congr 1
  induction l with
  | nil => rfl
  | cons c r ih =>
    rw [List.length_cons, List.range_succ_eq_map, List.filterMap_cons_some (by rfl), List.filterMap_map]
    congr 1
def tRevS (te : TE) (ts : TO) : TE := fun σ H Q => te σ H fun x H1 => ts σ H1 fun o H2 => ∃ z : Str, x = .str z ∧ o = some (-1) ∧ z.length ≤ sizeLine ∧ Q (.str ⟨z.cps.toList.reverse.toArray⟩) H2
theorem pe_revS {X : Cx} {e st : Expr} {te : TE} {ts : TO} {p2 pos : Pos} (he : PE X e te) (hs : PO X (some st) ts) : PE X (.Subscript e (.Slice none none (some st) p2) pos) (tRevS te ts) := by
  refine ⟨fun pins s σ H Q I h => ?_⟩
  refine Subscript_ (thn (he.run pins s σ H _ I h) fun v s1 ⟨x, H1, I1, r1, q1⟩ => ?_)
  refine wpAny_Slice ?_
  rw [evalPart_none]
  refine wpAny_pure ?_
  refine wpAny_pure ?_
  refine thn (hs.run pins s1 σ H1 _ I1 q1) fun vs s2 ⟨o, H2, I2, po, z, hz, ho, hl, q2⟩ => ?_
  subst hz ho
  obtain ⟨t, rfl⟩ := r1
  cases po with
  | int i u =>
  have I4 : Inv X pins σ H2 { s2 with heap := s2.heap.push { cls := .type "slice", data := .fields #[.none, .none, .int (-1) u] } } := I2.kept (t' := s2.toks) fun b ob q => Heap.get?_push_of_some _ q
  have hn : Heap.IsSlice (s2.heap.push { cls := .type "slice", data := .fields #[.none, .none, .int (-1) u] }) s2.heap.objs.size none none (some (-1, u)) := Heap.IsSliceOf.new ..
  have hg : wpAny (model X.prog X.w) X.A (getItem (.str z t) (.ref s2.heap.objs.size)) (EP X pins σ Q) X.xe { s2 with heap := s2.heap.push { cls := .type "slice", data := .fields #[.none, .none, .int (-1) u] } } := by
    refine wpAny_getItem_str_slice (l := none) (u := none) (st := some (-1, u)) hn rfl ?_
    show Made.post (if ((-1 : Int) == 1 && (Builtin.Str.strSliceIndices none none (-1) z.length).length == z.length) = true then Made.val (.str z t)
      else Made.str ⟨((Builtin.Str.strSliceIndices none none (-1) z.length).filterMap (z.cps[·]?)).toArray⟩) _ _
    rw [show ((-1 : Int) == 1) = false from rfl, Bool.false_and, if_neg Bool.false_ne_true, rev_range]
    have e : ((List.range z.length).reverse).filterMap (z.cps[·]?) = z.cps.toList.reverse := by
      have := rev_pick z.cps.toList
      rw [show z.cps.toList.length = z.length from rfl] at this
      rw [← this]
      congr 1
      funext i
      exact (Array.getElem?_toList).symm
    rw [e]
    refine ⟨?_, .str _, H2, I4.tok _, ⟨_, rfl⟩, q2⟩
    show z.cps.toList.reverse.toArray.size ≤ _
    rw [List.size_toArray, List.length_reverse]
    exact hl
  show wpAny (model X.prog X.w) X.A (subscriptTail e (.Slice none none (some st) p2) (.str z t) (.ref s2.heap.objs.size)) (EP X pins σ Q) X.xe _
  exact tail_any (ops := [.ref s2.heap.objs.size, .str z t]) (typeIs_str _ _ _) F.slot_str_getitem.lookup hg (by with_unfolding_all rfl)
end FF
/-! Fivefault, part 36: C(..) where __init__ may raise; {k: v for .. in enumerate(xs)}. -/
namespace FF
open PySem PySem.Spec PyProof.Rows L2
/-- C(..): the class C with an own __init__ that may raise -/
structure MakeX (P : Program) (w : World) (K : PySem.W.Frag) (mg : Str → Option Value) (base : Heap) (C : Str) (k : Nat) (ps : List Str) (sp : Sp) : Prop where
  ex : ∃ fd, FnOk P w K mg base (L2.CX P w) k (He.ma K (He.ga K C) "__init__") fd ps sp ∧ Binds K fd ps []
  mkr : Mk K (He.ga K C) (He.ma K (He.ga K C) "__init__")
  hm : mg C = some (.ref (He.ga K C))
theorem pe_mkx {X : Cx} {W : WX} {E : XK} {C : Str} {k j : Nat} {ps : List Str} {sp : Sp} {e : Expr} {es : List Expr} {p pos : Pos} {t : TA} (D : MakeX X.prog X.w X.K X.mg X.base C k ps sp) (tk : Takes X W) (hW : ∀ cls d σ' H', E cls d H' → W cls d σ' H') (hr : Room j X.A) (hkj : k + 1 ≤ j) (ha : PA X (e :: es) t)
    (hg : Gl X C := by rfl) (hdb : (C == ("__debug__" : Str)) = false := by decide) (he : starEach (e :: es) X.env = (false, eval e X.env) :: starEach es X.env := by rfl) (hpl : (backTo pos (starEach es X.env)).any (·.1) = false := by rfl) :
    PE X (.Call (.Name C p) (e :: es) [] pos) (tMake (He.ga X.K C) sp [] E t) := by
  obtain ⟨fd, F, hb⟩ := D.ex
  exact pe_make D.mkr F (hr.mono hkj) hg D.hm hb .nil (passes_call tk hW) ha hdb he hpl
/-- where none comes -/
theorem pe_mkxN {X : Cx} {C : Str} {k j : Nat} {ps : List Str} {sp : Sp} {e : Expr} {es : List Expr} {p pos : Pos} {t : TA} (D : MakeX X.prog X.w X.K X.mg X.base C k ps sp) (hr : Room j X.A) (hkj : k + 1 ≤ j) (ha : PA X (e :: es) t)
    (hg : Gl X C := by rfl) (hdb : (C == ("__debug__" : Str)) = false := by decide) (he : starEach (e :: es) X.env = (false, eval e X.env) :: starEach es X.env := by rfl) (hpl : (backTo pos (starEach es X.env)).any (·.1) = false := by rfl) :
    PE X (.Call (.Name C p) (e :: es) [] pos) (tMake (He.ga X.K C) sp [] (fun _ _ _ => False) t) := by
  obtain ⟨fd, F, hb⟩ := D.ex
  exact pe_make D.mkr F (hr.mono hkj) hg D.hm hb .nil passN ha hdb he hpl
section
variable {J : It} {n : Nat} {G : Hp → Prop} {Y : Nat → Hp → V → Hp → Prop}
theorem dc_it (w : Walk J n G Y) {g : TG} {tt : TT} {tk tv : TE} {vs : List Nat} {σ : L2.St} {H1 : Hp} {D : Addr} {Qd : Hp → Prop} (Pv : Nat → Hp → Prop) (h0 : Pv 0 (upd H1 D (.dK []))) (hG : ∀ i H, i ≤ n → Pv i H → G H)
    (hs : ∀ i x H H', i < n → Pv i H → Y i H x H' → g x (wipe σ vs) H' fun σ2 H2 => wipe σ2 vs = wipe σ vs ∧ tt σ2 H2 fun b H3 =>
      if b = true then tk σ2 H3 fun y H4 => tv σ2 H4 fun z H5 => ∃ kvs k, y = kV k ∧ H5 D = some (.dK kvs) ∧ kvs.length < sizeLine ∧ Pv (i + 1) (upd H5 D (.dK (putK kvs k z))) else Pv (i + 1) H3) (hd : ∀ H, Pv n H → Qd H) :
    ∃ W : Nat → Nat → Hp → Prop, (∃ m, W 0 m (upd H1 D (.dK []))) ∧ ∀ i m H, W i m H →
      (J.stop i H ∧ Qd H) ∨ (J.go i H ∧ ∃ Nx : Hp → Prop, (∀ H', Nx H' → ∃ m', m' < m ∧ W (i + 1) m' H') ∧ ∀ x H', J.yld i H x H' → g x (wipe σ vs) H' fun σ2 H2 => wipe σ2 vs = wipe σ vs ∧ tt σ2 H2 fun b H3 =>
        if b = true then tk σ2 H3 fun y H4 => tv σ2 H4 fun z H5 => ∃ kvs k, y = kV k ∧ H5 D = some (.dK kvs) ∧ kvs.length < sizeLine ∧ Nx (upd H5 D (.dK (putK kvs k z))) else Nx H3) := by
  refine ⟨fun i m H => m = n - i ∧ i ≤ n ∧ Pv i H, ⟨n, by simp, Nat.zero_le _, h0⟩, ?_⟩
  rintro i m H ⟨rfl, hi, p⟩
  have q := hG i H hi p
  by_cases hlt : i < n
  · exact .inr ⟨w.goes i H hlt q, Pv (i + 1), fun H' p' => ⟨n - (i + 1), by omega, rfl, hlt, p'⟩, fun x H' y => hs i x H H' hlt p (w.yields i H x H' hlt q y)⟩
  · have e : i = n := by omega
    subst e
    exact .inl ⟨w.stops H q, hd H p⟩
end
end FF
/-! Fivefault, part 37: len(x), x of an own class with __len__. -/
namespace FF
open PySem PySem.Spec PyProof.Rows L2
theorem special_own {prog : Program} {w : World} {K : PySem.W.Frag} {A : Around} {E : Value → Shared → Prop} {s : Shared} {a C f : Addr} {ox : Obj} {od : Option Obj} {name : Str} {Q : Option Value → Shared → Prop} (X : K.In s.heap) (I : PySem.W.InstAt s.heap a ox C od) (hf : PySem.W.findIn K (.ref C) name = some (some (.ref f)))
    (hb : PySem.W.isFn K (.ref f) = true) (hc : wpAny (model prog w) A (call (.ref f) [.ref a]) (fun v s' => Q (some v) s') E s) : wpAny (model prog w) A (callSpecial? (.ref a) name []) Q E s := by
  unfold callSpecial? specialOf
  refine wpAny_bind (wpAny_bind (I.type.here ((PySem.W.looks_findIn X hf).here ?_)))
  refine wpAny_holding ?_
  refine wpAny_bind ((PySem.W.bind_fn X _ (beq_iff_eq.mp hb)).here ?_)
  exact wpAny_bind (wpAny_mono hc (fun v s' h => wpAny_pure h) fun _ _ z => z)
/-- len(x) by an own __len__ -/
def rLenO (C : Addr) (sp : Sp) (E : XK) : List V → Hp → VK → Prop := fun xs H Q => ∃ a dx fs, xs = [.ref a] ∧ H a = some (.ins C dx fs) ∧ sp [.ref a] H (fun v H' => ∃ k : Nat, v = .int k ∧ k < 1000000000 ∧ Q (.int k) H') E
theorem call_lenO {X : Cx} {CX : CXT} {n : Nat} {C f : Addr} {fd : FuncData} {ps : List Str} {sp : Sp} {E : XK} (me : Meth X.K C "__len__" f) (F : FnOk X.prog X.w X.K X.mg X.base CX n f fd ps sp) (hb : Binds X.K fd ps []) (hx : Passes CX X E) (hr : Room (n + 1) X.A) : CallR X (.builtin "len") (rLenO C sp E) := by
  intro pins s σ H xs us Q I rv h
  obtain ⟨a, dx, fs, rfl, ha, hsp⟩ := h
  obtain ⟨u, rfl, ru⟩ := rv.one
  cases ru
  have sb : Sub X n X.A.in1 := Sub.in1 (⟨hr, rfl⟩ : Sub X (n + 1) X.A)
  obtain ⟨mA, J, _⟩ := ins_get I.hok ha
  obtain ⟨od, J, _⟩ := J.look
  refine PySem.Calls.call_function_entry PySem.kind_len PySem.plain_len PySem.entry_len (PySem.args_len1 _) ?_
  unfold Builtin.«len»
  refine wpAny_bind (m := oneArg "len" _) (wpAny_pure ?_)
  refine wpAny_bind (m := callSpecial? (.ref a) (Str.ofString "__len__")) (special_own I.kIn J me.at_ me.fn ?_)
  have e0 : Env0 X.prog X.w X.K X.mg X.base X.A.in1 X.stack s H := by
    have e := I.env0
    exact ⟨by rw [sb.fr]; exact e.frames, e.mod, e.bs, e.bsz, e.funs, e.frf, e.hok, e.bare⟩
  have hl := F.len _ _ _ _ hsp
  have r2 : Vals [V.ref a] [Value.ref a] := .cons rfl .nil
  refine wpAny_call (codeAny_mono (F.run X.A.in1 X.stack s H ⟨[.ref a], []⟩ [.ref a] [.ref a] _ E sb.room e0 (by
    have := hb s [.ref a] I.kIn (by simpa using hl)
    simpa using this) r2 hsp) fun r s' hq => ?_)
  cases r with
  | error e => exact hx pins σ H s e s' I hq
  | ok fl =>
    cases fl with
    | ret u =>
      obtain ⟨v, H', I', rv', k, rfl, hk, q⟩ := I.after hq
      obtain ⟨t, rfl⟩ := rv'
      refine wpAny_bind (wpAny_holding (wpAny_pure ?_))
      refine wpAny_bind (wpAny_letGo ?_)
      show wpAny _ _ (if ((k : Nat) : Int) < 0 then _ else _) _ _ _
      rw [if_neg (by omega)]
      show wpAny _ _ (if ((k : Nat) : Int) ≥ 2 ^ 63 then _ else _) _ _ _
      rw [if_neg (by omega)]
      exact wpAny_bind (wpAny_mkInt (wpAny_pure ⟨_, rfl, .int k, H', I'.tok _, ⟨_, rfl⟩, q⟩))
    | next => exact False.elim hq
    | brk => exact False.elim hq
    | cont => exact False.elim hq
theorem call_lenD {X : Cx} {C : Str} {k j : Nat} {sp : Sp} (D : MethD X.prog X.w X.K X.mg X.base C "__len__" k ["self"] sp) (hr : Room j X.A) (hkj : k + 1 ≤ j) : CallR X (.builtin "len") (rLenO (He.ga X.K C) sp E0) := by
  obtain ⟨fd, F, hb⟩ := D.ex
  exact call_lenO D.me F hb pass0 (hr.mono hkj)
end FF
/-! Fivefault, part 38: a text times any int, told exactly. -/
namespace FF
open PySem PySem.Spec PyProof.Rows L2
def repS (z : Str) (n : Nat) : Str := ⟨(List.replicate n z.cps.toList).flatten.toArray⟩
theorem fold_list {α : Type} (a : Array α) : ∀ (n : Nat) (b : Array α), ((List.replicate n a).foldl (· ++ ·) b).toList = b.toList ++ (List.replicate n a.toList).flatten
  | 0, b => by simp
  | n + 1, b => by
    rw [List.replicate_succ, List.foldl_cons, fold_list a n, Array.toList_append, List.replicate_succ, List.flatten_cons, List.append_assoc]
theorem repS_len (z : Str) (n : Nat) : (repS z n).length = n * z.length := by
  show (List.replicate n z.cps.toList).flatten.toArray.size = _
  rw [List.size_toArray, List.length_flatten, List.map_replicate, List.sum_replicate_nat]
  rfl
theorem op_rep_strX {X : Cx} : OpR X (binaryOp .Mult) (fun x y H Q => ∃ z k, x = .str z ∧ y = .int k ∧ -2147483648 ≤ k ∧ k < 2147483648 ∧ z.length * k.toNat ≤ 100000 ∧ Q (.str (repS z k.toNat)) H) := by
  intro pins s σ H x y v u Q I rx ry h
  obtain ⟨z, k, rfl, rfl, h2, hk, hl, q⟩ := h
  obtain ⟨t, rfl⟩ := rx
  obtain ⟨t', rfl⟩ := ry
  refine PySem.P.mul_str (by rw [decide_eq_false (by omega), decide_eq_false (by omega)] <;> rfl) (fun e1 _ => ?_) (fun _ _ => ?_) ?_
  · have hm : (z.length : Int) * k ≤ 2 ^ 63 - 1 := by
      have e : ((z.length * k.toNat : Nat) : Int) = (z.length : Int) * k := by
        rw [Int.natCast_mul, Int.toNat_of_nonneg (by omega)]
      rw [← e]
      have : (z.length * k.toNat : Nat) ≤ 100000 := hl
      omega
    have := (Int.le_ediv_iff_mul_le (show 0 < k by omega)).mpr hm
    omega
  · show decide (z.length * k.toNat > sizeLine) = false
    exact decide_eq_false (Nat.not_lt.mpr (Nat.le_trans hl (by decide)))
  · by_cases e1 : k < 1
    · rw [if_pos e1]
      have e0 : repS z k.toNat = Str.empty := by
        rw [show k.toNat = 0 by omega]
        rfl
      rw [e0] at q
      exact ⟨by decide, .str _, H, I.tok _, ⟨_, rfl⟩, q⟩
    · rw [if_neg e1]
      by_cases e2 : (k == 1 || z.length == 0) = true
      · rw [if_pos e2]
        have e0 : repS z k.toNat = z := by
          have e3 : (List.replicate k.toNat z.cps.toList).flatten = z.cps.toList := by
            rcases (Bool.or_eq_true _ _).mp e2 with h | h
            · rw [eq_of_beq h]
              show z.cps.toList ++ [] = _
              rw [List.append_nil]
            · have hz : z.cps.toList = [] := List.eq_nil_of_length_eq_zero (eq_of_beq h)
              rw [hz]
              simp
          show (⟨(List.replicate k.toNat z.cps.toList).flatten.toArray⟩ : Str) = z
          rw [e3]
        rw [e0] at q
        exact ⟨.str z, H, I, ⟨t, rfl⟩, q⟩
      · rw [if_neg e2]
        have e0 : (⟨(List.replicate k.toNat z.cps).foldl (· ++ ·) #[]⟩ : Str) = repS z k.toNat := by
          have := fold_list z.cps k.toNat #[]
          have e4 : (List.replicate k.toNat z.cps).foldl (· ++ ·) #[] = (List.replicate k.toNat z.cps.toList).flatten.toArray := by
            rw [← this.trans (List.nil_append _)]
          rw [e4] <;> rfl
        rw [e0]
        refine ⟨?_, .str _, H, I.tok _, ⟨_, rfl⟩, q⟩
        rw [repS_len, Nat.mul_comm]
        exact Nat.le_trans hl (by decide)
end FF
/-! Fivefault, part 39: t.join(..) within a comprehension. -/
namespace FF
open PySem PySem.Spec PyProof.Rows L2
theorem pe_joinK {X : Cx} {o e : Expr} {to te : TE} {apos pos : Pos} (K : PySem.W.Frag) (ho : PE X o to) (he : PE X e te) (hs : starEach [e] X.env = [(false, eval e X.env)] := by rfl) (hbase : attributeBase o "join" X.env (eval o X.env) = eval o X.env := by rfl) (hline : (apos.endLine == pos.line) = true := by rfl) (hK : X.K = K := by rfl) :
    PE X (.Call (.Attribute o "join" apos) [e] [] pos) (tM1 (fun x xs H Q => ∃ a p, ∃ ys : List Str, x = .str a ∧ xs = [.ref p] ∧ (SqL K H p (ys.map V.str) ∨ SqT K H p (ys.map V.str)) ∧
      (ys.map (·.length)).sum + ys.length * a.length ≤ 16777216 ∧ Q (.str (Txt.join a ys)) H) to te) := by
  subst hK
  exact pe_join ho he hs hbase hline
end FF
/-! Fivefault, part 40: C(..) where __init__ may raise, within a lambda. -/
namespace FF
open PySem PySem.Spec PyProof.Rows L2
theorem pe_mkxK {X : Cx} (K : PySem.W.Frag) {W : WX} {E : XK} {C : Str} {k j : Nat} {ps : List Str} {sp : Sp} {e : Expr} {es : List Expr} {p pos : Pos} {t : TA} (D : MakeX X.prog X.w X.K X.mg X.base C k ps sp) (tk : Takes X W) (hW : ∀ cls d σ' H', E cls d H' → W cls d σ' H') (hr : Room j X.A) (hkj : k + 1 ≤ j) (ha : PA X (e :: es) t)
    (hK : X.K = K := by rfl) (hg : Gl X C := by rfl) (hdb : (C == ("__debug__" : Str)) = false := by decide) (he : starEach (e :: es) X.env = (false, eval e X.env) :: starEach es X.env := by rfl) (hpl : (backTo pos (starEach es X.env)).any (·.1) = false := by rfl) :
    PE X (.Call (.Name C p) (e :: es) [] pos) (tMake (He.ga K C) sp [] E t) := by
  subst hK
  exact pe_mkx D tk hW hr hkj ha hg hdb he hpl
end FF
/-! Fivefault, part 41: methods of own classes with *v; methods that raise, within a lambda. -/
namespace FF
open PySem PySem.Spec PyProof.Rows L2 StX
/-- C.m(self, *v) -/
structure MethS (P : Program) (w : World) (K : PySem.W.Frag) (mg : Str → Option Value) (base : Heap) (C m : Str) (k : Nat) (sp : Sp) : Prop where
  ex : FnR P w K mg base (L2.CX P w) k (He.ma K (He.ga K C) m) sp
  cl : Cls K (He.ga K C)
  me : Meth K (He.ga K C) m (He.ma K (He.ga K C) m)
section
variable {X : Cx} {W : WX} {E : XK} {C m : Str} {k j : Nat} {ps : List Str} {sp : Sp} {o e : Expr} {es : List Expr} {apos pos : Pos} {to : TE} {t : TA} {pl : Sem Bool}
theorem pe_methxK (K : PySem.W.Frag) (D : MethX X.prog X.w X.K X.mg X.base C m k ps sp) (tk : Takes X W) (hW : ∀ cls d σ' H', E cls d H' → W cls d σ' H') (hr : Room j X.A) (hkj : k ≤ j) (ho : PE X o to) (ha : PA X (e :: es) t) (hK : X.K = K := by rfl)
    (hst : starEach (e :: es) X.env = (false, eval e X.env) :: starEach es X.env := by rfl) (hpl : (backTo pos (starEach es X.env)).any (·.1) = false := by rfl)
    (ht : eval (.Call (.Attribute o m apos) (e :: es) [] pos) X.env = (do
      let ov ← eval o X.env
      standAt apos.atName
      let (f, first) ← holding [ov] (getMethod ov m pl)
      callWith pos f first (backTo pos (starEach (e :: es) X.env)) (backToKw pos (keywordEach [] X.env))) := by rfl) :
    PE X (.Call (.Attribute o m apos) (e :: es) [] pos) (tMeth (He.ga K C) m sp [] E to t) := by
  subst hK
  exact pe_methx D tk hW hr hkj ho ha hst hpl ht
/-- where none comes -/
theorem pe_methxN (D : MethX X.prog X.w X.K X.mg X.base C m k ps sp) (hr : Room j X.A) (hkj : k ≤ j) (ho : PE X o to) (ha : PA X (e :: es) t)
    (hst : starEach (e :: es) X.env = (false, eval e X.env) :: starEach es X.env := by rfl) (hpl : (backTo pos (starEach es X.env)).any (·.1) = false := by rfl)
    (ht : eval (.Call (.Attribute o m apos) (e :: es) [] pos) X.env = (do
      let ov ← eval o X.env
      standAt apos.atName
      let (f, first) ← holding [ov] (getMethod ov m pl)
      callWith pos f first (backTo pos (starEach (e :: es) X.env)) (backToKw pos (keywordEach [] X.env))) := by rfl) :
    PE X (.Call (.Attribute o m apos) (e :: es) [] pos) (tMeth (He.ga X.K C) m sp [] (fun _ _ _ => False) to t) := by
  obtain ⟨fd, F, hb⟩ := D.ex
  exact pe_meth ho D.cl D.me F (hr.mono hkj) hb .nil passN ha hst hpl ht
/-- the same without arguments -/
theorem pe_methx0 (D : MethX X.prog X.w X.K X.mg X.base C m k ps sp) (tk : Takes X W) (hW : ∀ cls d σ' H', E cls d H' → W cls d σ' H') (hr : Room j X.A) (hkj : k ≤ j) (ho : PE X o to)
    (ht : eval (.Call (.Attribute o m apos) [] [] pos) X.env = (do
      let ov ← eval o X.env
      standAt apos.atName
      let (f, first) ← holding [ov] (getMethod ov m pl)
      callWith pos f first (backTo pos (starEach [] X.env)) (backToKw pos (keywordEach [] X.env))) := by rfl) :
    PE X (.Call (.Attribute o m apos) [] [] pos) (tMeth (He.ga X.K C) m sp [] E to tNil) := by
  obtain ⟨fd, F, hb⟩ := D.ex
  exact pe_meth0 ho D.cl D.me F (hr.mono hkj) hb .nil (passes_call tk hW) ht
theorem pe_methx0N (D : MethX X.prog X.w X.K X.mg X.base C m k ps sp) (hr : Room j X.A) (hkj : k ≤ j) (ho : PE X o to)
    (ht : eval (.Call (.Attribute o m apos) [] [] pos) X.env = (do
      let ov ← eval o X.env
      standAt apos.atName
      let (f, first) ← holding [ov] (getMethod ov m pl)
      callWith pos f first (backTo pos (starEach [] X.env)) (backToKw pos (keywordEach [] X.env))) := by rfl) :
    PE X (.Call (.Attribute o m apos) [] [] pos) (tMeth (He.ga X.K C) m sp [] (fun _ _ _ => False) to tNil) := by
  obtain ⟨fd, F, hb⟩ := D.ex
  exact pe_meth0 ho D.cl D.me F (hr.mono hkj) hb .nil passN ht
/-- o.m(e, ..), m with *v -/
def tMethS (C : Addr) (m : Str) (sp : Sp) (E : XK) (ta : TE) (t : TA) : TE := fun σ H Q => ta σ H fun x H1 => ∃ a dx fs, x = .ref a ∧ H1 a = some (.ins C dx fs) ∧ fs.lookup m = none ∧
  t σ H1 fun vs H2 => sp (x :: vs) H2 Q E
theorem pe_meths (D : MethS X.prog X.w X.K X.mg X.base C m k sp) (hx : Passes (L2.CX X.prog X.w) X E) (hr : Room j X.A) (hkj : k ≤ j) (ho : PE X o to) (ha : PA X (e :: es) t)
    (hst : starEach (e :: es) X.env = (false, eval e X.env) :: starEach es X.env := by rfl) (hpl : (backTo pos (starEach es X.env)).any (·.1) = false := by rfl)
    (ht : eval (.Call (.Attribute o m apos) (e :: es) [] pos) X.env = (do
      let ov ← eval o X.env
      standAt apos.atName
      let (f, first) ← holding [ov] (getMethod ov m pl)
      callWith pos f first (backTo pos (starEach (e :: es) X.env)) (backToKw pos (keywordEach [] X.env))) := by rfl) :
    PE X (.Call (.Attribute o m apos) (e :: es) [] pos) (tMethS (He.ga X.K C) m sp E to t) := by
  refine ⟨fun pins s σ H Q I h => ?_⟩
  refine PySem.W.methodCall_KW (pl := pl) (thn (ho.run pins s σ H _ I h) fun u s1 ⟨x, H1, I1, rx, a, dx, fs, ex, ea, l, q⟩ => ?_) ht
  subst ex
  obtain rfl : u = Value.ref a := rx
  refine getmeth_ok I1 ea D.cl D.me l ?_
  refine PySem.W.callWith_K (first := [.ref a]) (h₀ := X.base) I.ok.mod.kin D.me.kp (thn (ha.run pos pins s1 σ H1 _ I1 q) fun us s2 ⟨vs, H2, I2, r, q2⟩ => ⟨I2.kIn, ?_⟩) hst hpl
  exact wpAny_call (run_fnR (us := .ref a :: us) (vs := .ref a :: vs) D.ex (hr.mono hkj) hx I2 (.cons rfl r) q2)
theorem pe_meths0 (D : MethS X.prog X.w X.K X.mg X.base C m k sp) (hx : Passes (L2.CX X.prog X.w) X E) (hr : Room j X.A) (hkj : k ≤ j) (ho : PE X o to)
    (ht : eval (.Call (.Attribute o m apos) [] [] pos) X.env = (do
      let ov ← eval o X.env
      standAt apos.atName
      let (f, first) ← holding [ov] (getMethod ov m pl)
      callWith pos f first (backTo pos (starEach [] X.env)) (backToKw pos (keywordEach [] X.env))) := by rfl) :
    PE X (.Call (.Attribute o m apos) [] [] pos) (tMethS (He.ga X.K C) m sp E to tNil) := by
  refine ⟨fun pins s σ H Q I h => ?_⟩
  refine PySem.W.methodCall_KW (pl := pl) (thn (ho.run pins s σ H _ I h) fun u s1 ⟨x, H1, I1, rx, a, dx, fs, ex, ea, l, q⟩ => ?_) ht
  subst ex
  obtain rfl : u = Value.ref a := rx
  refine getmeth_ok I1 ea D.cl D.me l ?_
  exact PySem.W.callWith_K0 (first := [.ref a]) I1.kIn D.me.kp (wpAny_call (run_fnR (us := [.ref a]) (vs := [.ref a]) D.ex (hr.mono hkj) hx I1 (.cons rfl .nil) q))
theorem pe_methsK (K : PySem.W.Frag) (D : MethS X.prog X.w X.K X.mg X.base C m k sp) (tk : Takes X W) (hW : ∀ cls d σ' H', E cls d H' → W cls d σ' H') (hr : Room j X.A) (hkj : k ≤ j) (ho : PE X o to) (ha : PA X (e :: es) t) (hK : X.K = K := by rfl)
    (hst : starEach (e :: es) X.env = (false, eval e X.env) :: starEach es X.env := by rfl) (hpl : (backTo pos (starEach es X.env)).any (·.1) = false := by rfl)
    (ht : eval (.Call (.Attribute o m apos) (e :: es) [] pos) X.env = (do
      let ov ← eval o X.env
      standAt apos.atName
      let (f, first) ← holding [ov] (getMethod ov m pl)
      callWith pos f first (backTo pos (starEach (e :: es) X.env)) (backToKw pos (keywordEach [] X.env))) := by rfl) :
    PE X (.Call (.Attribute o m apos) (e :: es) [] pos) (tMethS (He.ga K C) m sp E to t) := by
  subst hK
  exact pe_meths D (passes_call tk hW) hr hkj ho ha hst hpl ht
end
theorem bind_star1 {B : List Value → Sem (List (Str × Value))} {ps pv : Str} (h0 : ∀ x, B [x] = (newTuple [] >>= fun t => pure [(ps, x), (pv, t)])) (h1 : ∀ x r rs, B (x :: r :: rs) = (newTuple (r :: rs) >>= fun t => pure [(ps, x), (pv, t)])) :
    ∀ us rest : List Value, us.length = [ps].length → B (us ++ rest) = (newTuple rest >>= fun t => pure ([ps].zip us ++ [(pv, t)]))
  | [x], [], _ => h0 x
  | [x], r :: rs, _ => h1 x r rs
theorem meths_mk {P : Program} {w : World} {K : PySem.W.Frag} {mg : Str → Option Value} {base : Heap} {C m qual p0 pv : Str} {st : Stmt} {fd : FuncData} {N : List Str} {k : Nat} {sp : Sp} (F : FunD K m qual (defArgs st) (defBody st) (defScope st) [] [] (He.ma K (He.ga K C) m) fd)
    (cl : Cls K (He.ga K C)) (me : Meth K (He.ga K C) m (He.ma K (He.ga K C) m)) (S : FnScope N [p0, pv] (defScope st))
    (h0 : ∀ (kV doc pm : Value) (an : Option Addr) (cdv ct x : Value), bindArgs (PySem.W.fnOf m qual (defArgs st) (defBody st) (defScope st) .none kV doc pm an cdv ct) ⟨[x], []⟩ = (newTuple [] >>= fun t => pure [(p0, x), (pv, t)]))
    (h1 : ∀ (kV doc pm : Value) (an : Option Addr) (cdv ct x : Value) (r : Value) (rs : List Value), bindArgs (PySem.W.fnOf m qual (defArgs st) (defBody st) (defScope st) .none kV doc pm an cdv ct) ⟨x :: r :: rs, []⟩ = (newTuple (r :: rs) >>= fun t => pure [(p0, x), (pv, t)]))
    (body : ∀ (cdv : Value) (A : Around) (outer : List Env) (s : Shared) (H : Hp) (vs : List V) (Q : VK) (E : XK), Room k (A.deeper (envOfC qual (defScope st) s.heap.objs.size (He.ma K (He.ga K C) m) cdv)) → sp vs H Q E →
      (Takes (cxOf (L2.CX P w) P w K mg base N qual (defScope st) (He.ma K (He.ga K C) m) cdv A outer s H E) fun cls d _ H => E cls d H) →
      ∃ t, PSs (cxOf (L2.CX P w) P w K mg base N qual (defScope st) (He.ma K (He.ga K C) m) cdv A outer s H E) (defBody st) t ∧ t { nx := fun _ H' => Q .non H', rt := Q } (start N vs) H) :
    MethS P w K mg base C m (k + 1) (fun vs H Q E => ∃ x rest, vs = x :: rest ∧ rest.length ≤ sizeLine ∧ ∀ p, H p = none → sp [x, V.ref p] (upd H p (.tup rest)) Q E) := by
  obtain ⟨oc, od, dV, kV, doc, pm, an, cdv, ct, osl, rfl, lk, hcd, hD, _⟩ := F.ex
  obtain rfl : dV = .none := by
    rcases hD with ⟨_, e⟩ | ⟨e, _⟩
    · exact e
    · exact absurd rfl e
  refine ⟨FnR.imp (fn_star (ps := [p0]) (sp := sp) lk hcd S cxUp (bind_star1 (B := fun us => bindArgs (PySem.W.fnOf m qual (defArgs st) (defBody st) (defScope st) .none kV doc pm an cdv ct) ⟨us, []⟩) (h0 _ _ _ _ _ _) (h1 _ _ _ _ _ _))
    fun A outer s H vs Q E hr h => body cdv A outer s H vs Q E hr h (takes_of rfl rfl rfl rfl)) fun vs H Q E ⟨x, rest, e, hz, h⟩ => ⟨[x], rest, e, rfl, hz, h⟩, cl, me⟩
end FF
/-! Fivefault, part 42: the Hook with the defs that stand in records (properties, classmethods, staticmethods). -/
namespace FF
open PySem PySem.Spec PyProof.Rows L2
/-- the def in the record of the class's attribute -/
def gAd (K : PySem.W.Frag) (kind : String) (C m : Str) : Addr := match PySem.W.recIn K (He.ma K (He.ga K C) m) kind with
  | some (.ref g :: _) => g
  | _ => 0
/-- .. its setter -/
def sAd (K : PySem.W.Frag) (C m : Str) : Addr := match PySem.W.recIn K (He.ma K (He.ga K C) m) "property" with
  | some (_ :: .ref g :: _) => g
  | _ => 0
structure GetD where
  kind : String
  cls : Str
  attr : Str
  d : He.DefD
def GetD.ad (K : PySem.W.Frag) (g : GetD) : Addr := if g.kind = "setter" then sAd K g.cls g.attr else gAd K g.kind g.cls g.attr
def fnWa (K : PySem.W.Frag) (a : Addr) : He.FnW := match K.lookup a with
  | some ⟨_, _, .func fd, _⟩ => some (fd.name, fd.qualname, fd.params, fd.body, fd.scope, fd.globals, fd.closure, fd.builtins)
  | _ => none
def GetD.ok (K : PySem.W.Frag) (g : GetD) : Bool := PySem.W.keepIn K (.ref (g.ad K)) && (match K.lookup (g.ad K) with
  | some ⟨_, _, .func fd, _⟩ => PySem.W.codeIn K fd.code g.d.qual && (He.dflB K fd.defaults (g.d.dvs K) && He.kwdB K fd.kwdefaults (g.d.kws K))
  | _ => false)
theorem GetD.funD {K : PySem.W.Frag} {g : GetD} (e : fnWa K (g.ad K) = g.d.val) (c : g.ok K = true) : ∃ fd, FunD K g.d.name g.d.qual g.d.params g.d.body g.d.scope (g.d.dvs K) (g.d.kws K) (g.ad K) fd := by
  obtain ⟨kp, c2⟩ := He.ba c
  unfold fnWa at e
  cases q : K.lookup (g.ad K) with
  | none =>
    rw [q] at c2
    cases c2
  | some o =>
    obtain ⟨oc, od, dt, osl⟩ := o
    rw [q] at c2 e
    cases dt with
    | func fd =>
      obtain ⟨n1, n2, n3, n4, n5, n6, n7, n8, n9, n10, n11, n12, n13, n14, n15⟩ := fd
      have e2 : (some (n1, n2, n3, n4, n5, n6, n7, n15) : He.FnW) = some (g.d.name, g.d.qual, g.d.params, .stmts g.d.body, g.d.scope, mainGlobals, [], builtinsNs) := e
      simp only [Option.some.injEq, Prod.mk.injEq] at e2
      obtain ⟨h1, h2, h3, h4, h5, h6, h7, h8⟩ := e2
      subst h1 h2 h3 h4 h5 h6 h7 h8
      have c3 : (PySem.W.codeIn K n13 g.d.qual && (He.dflB K n8 (g.d.dvs K) && He.kwdB K n9 (g.d.kws K))) = true := c2
      obtain ⟨k1, k2⟩ := He.ba c3
      obtain ⟨k3, k4⟩ := He.ba k2
      exact ⟨_, ⟨oc, od, n8, n9, n10, n11, n12, n13, n14, osl, rfl, q, k1, He.dflB_ok k3, He.kwdB_ok k4⟩, kp⟩
    | _ => cases c2
/-! ### the Hook -/
abbrev AlZ : Type := He.AlX × (Bool × List He.FnW)
structure SaysZ (fa : List He.Fa) (fn : List He.DefD) (fp : List GetD) (tf : List He.Defn) (ex : PySem.W.Frag → Bool) (w : World) (h : Heap) (K : PySem.W.Frag) : Prop where
  x : He.SaysX fa fn [] tf ex w h K
  b : (fp.all fun g => g.ok K) = true
  v : fp.map (fun g => fnWa K (g.ad K)) = fp.map fun g => g.d.val
theorem SaysZ.get {fa : List He.Fa} {fn : List He.DefD} {fp : List GetD} {tf : List He.Defn} {ex : PySem.W.Frag → Bool} {w : World} {h : Heap} {K : PySem.W.Frag} (c : SaysZ fa fn fp tf ex w h K) (i : Nat) {g : GetD} (hg : fp[i]? = some g := by rfl) :
    ∃ fd, FunD K g.d.name g.d.qual g.d.params g.d.body g.d.scope (g.d.dvs K) (g.d.kws K) (g.ad K) fd := by
  have e2 : (fp.map fun g => fnWa K (g.ad K))[i]? = (fp.map fun g => g.d.val)[i]? := by rw [c.v]
  rw [List.getElem?_map, List.getElem?_map, hg] at e2
  exact GetD.funD (Option.some.inj e2) (List.all_eq_true.mp c.b g (List.mem_of_getElem? hg))
def obsZ (n : Nat) (fa : List He.Fa) (fn : List He.DefD) (fp : List GetD) (tf : List He.Defn) (ex : PySem.W.Frag → Bool) (g : Addr → Option Obj) : AlZ :=
  (obsY n fa fn tf ex g, (fp.all fun q => q.ok (He.frT g (He.asD g n ++ [PySem.cStatics])), fp.map fun q => fnWa (He.frT g (He.asD g n ++ [PySem.cStatics])) (q.ad (He.frT g (He.asD g n ++ [PySem.cStatics])))))
def valZ (fn : List He.DefD) (fp : List GetD) (w : World) : AlZ := (He.valX fn [] w, (true, fp.map fun g => g.d.val))
theorem saysZ_of {n : Nat} {fa : List He.Fa} {fn : List He.DefD} {fp : List GetD} {tf : List He.Defn} {ex : PySem.W.Frag → Bool} {w : World} {h : Heap} (e : obsZ n fa fn fp tf ex h.get? = valZ fn fp w) : SaysZ fa fn fp tf ex w h (He.frT h.get? (He.asD h.get? n ++ [PySem.cStatics])) := by
  have e1 : obsY n fa fn tf ex h.get? = He.valX fn [] w := congrArg (fun z : AlZ => z.1) e
  exact ⟨saysY_of e1, congrArg (fun z : AlZ => z.2.1) e, congrArg (fun z : AlZ => z.2.2) e⟩
def hookZ (n : Nat) (fa : List He.Fa) (fn : List He.DefD) (fp : List GetD) (tf : List He.Defn) (ex : PySem.W.Frag → Bool) : PySem.W.Hook where
  α := AlZ
  obs := fun s => obsZ n fa fn fp tf ex s.heap.get?
  val := fun w => valZ fn fp w
  says := fun w h => ∃ K : PySem.W.Frag, K.In h ∧ SaysZ fa fn fp tf ex w h K
  of := fun _ _ e => ⟨_, He.frT_in, saysZ_of e⟩
  keeps := fun _ _ _ ⟨K, hK, c⟩ k => ⟨K, PySem.W.Frag.In.keeps hK k, ⟨⟨c.x.t, c.x.more, c.x.hd, c.x.out, fun p hp => k _ _ (c.x.empty p hp)⟩, c.b, c.v⟩⟩
theorem obsZ_eq {n : Nat} {fa : List He.Fa} {fn : List He.DefD} {fp : List GetD} {tf : List He.Defn} {ex : PySem.W.Frag → Bool} {g : Addr → Option Obj} {s : Shared} (h : ∀ a, g a = s.heap.get? a) : obsZ n fa fn fp tf ex g = (hookZ n fa fn fp tf ex).obs s := by
  have e : g = s.heap.get? := funext h
  rw [e] <;> rfl
/-! ### a property -/
def isBlt (o : Option (Option Value)) (id : String) : Bool := match o with
  | some (some (.builtin x)) => decide (x = id)
  | _ => false
theorem isBlt_ok {o : Option (Option Value)} {id : String} (h : isBlt o id = true) : o = some (some (.builtin id)) := by
  unfold isBlt at h
  split at h
  · rw [of_decide_eq_true h]
  · cases h
def propB (K : PySem.W.Frag) (C f : Str) : Bool := (match PySem.W.findIn K (.ref (He.ga K C)) f with
  | some (some (.ref _)) => true
  | _ => false) && (isBlt (PySem.W.specialIn K (.ref (He.ma K (He.ga K C) f)) "__get__") "property.__get__" && (decide (PySem.W.takesIn K (.ref (He.ma K (He.ga K C) f)) = some true) && (match PySem.W.recIn K (He.ma K (He.ga K C) f) "property" with
  | some (.ref _ :: _) => true
  | _ => false)))
theorem propB_ok {K : PySem.W.Frag} {C f : Str} (h : propB K C f = true) : PropOf K (He.ga K C) f (He.ma K (He.ga K C) f) (gAd K "property" C f) := by
  obtain ⟨h1, h⟩ := He.ba h
  obtain ⟨h2, h⟩ := He.ba h
  obtain ⟨h3, h4⟩ := He.ba h
  refine ⟨?_, isBlt_ok h2, of_decide_eq_true h3, ?_⟩
  · unfold He.ma
    split at h1
    · rename_i a e
      rw [e]
    · cases h1
  · unfold gAd
    split at h4
    · rename_i g rest e
      rw [e]
      exact ⟨rest, rfl⟩
    · cases h4
/-- e.f, a property of the class C, whose getter is the def at level k -/
structure PropD (P : Program) (w : World) (K : PySem.W.Frag) (mg : Str → Option Value) (base : Heap) (C f : Str) (k : Nat) (sp : Sp) : Prop where
  ex : ∃ fd, FnOk P w K mg base CX0 k (gAd K "property" C f) fd ["self"] sp ∧ Binds K fd ["self"] []
  cl : Cls K (He.ga K C)
  pr : PropOf K (He.ga K C) f (He.ma K (He.ga K C) f) (gAd K "property" C f)
theorem pe_propd {X : Cx} {C f : Str} {k j : Nat} {sp : Sp} {e : Expr} {pos : Pos} {te : TE} (D : PropD X.prog X.w X.K X.mg X.base C f k sp) (hr : Room j X.A) (hkj : k + 1 ≤ j) (he : PE X e te)
    (hab : attributeBase e f X.env (eval e X.env) = eval e X.env := by rfl) : PE X (.Attribute e f pos) (tProp (He.ga X.K C) sp [] E0 te) := by
  obtain ⟨fd, F, hb⟩ := D.ex
  exact pe_prop he D.cl D.pr F (hr.mono hkj) hb .nil pass0 hab
theorem propd_mk {P : Program} {w : World} {K : PySem.W.Frag} {mg : Str → Option Value} {base : Heap} {C f qual : Str} {st : Stmt} {fd : FuncData} {dvs : List V} {kws : List (Str × V)} {N : List Str} {k : Nat} {sp : Sp} (F : FunD K f qual (defArgs st) (defBody st) (defScope st) dvs kws (gAd K "property" C f) fd) (hb : Binds K fd ["self"] [])
    (cl : Cls K (He.ga K C)) (pr : PropOf K (He.ga K C) f (He.ma K (He.ga K C) f) (gAd K "property" C f)) (S : FnScope N ["self"] (defScope st)) (len : ∀ vs H Q E, sp vs H Q E → vs.length = 1)
    (body : ∀ (cdv : Value) (A : Around) (outer : List Env) (s : Shared) (H : Hp) (vs : List V) (Q : VK) (E : XK), Room k (A.deeper (envOfC qual (defScope st) s.heap.objs.size (gAd K "property" C f) cdv)) → sp vs H Q E →
      ∃ t, PSs (cxOf CX0 P w K mg base N qual (defScope st) (gAd K "property" C f) cdv A outer s H E).nox (defBody st) t ∧ t { nx := fun _ H' => Q .non H', rt := Q } (start N vs) H) : PropD P w K mg base C f (k + 1) sp :=
  ⟨⟨fd, FunD.ok F S len fun cdv A outer s H vs Q E hr h => let ⟨t, a, b⟩ := body cdv A outer s H vs Q E hr h; ⟨t, PSs.nox a, b⟩, hb⟩, cl, pr⟩
end FF
/-! Fivefault, part 43: o.m(k = v, ..). -/
namespace FF
open PySem PySem.Spec PyProof.Rows L2
def tMethKw (C : Addr) (m : Str) (n : Nat) (sp : Sp) (gV : List V → List V → List V) (E : XK) (ta : TE) (tk : TA) : TE := fun σ H Q => ta σ H fun x H1 => ∃ a dx fs, x = .ref a ∧ H1 a = some (.ins C dx fs) ∧ fs.lookup m = none ∧
  tk σ H1 fun zs H2 => zs.length = n ∧ sp (gV [.ref a] zs) H2 Q E
theorem pe_methkw0 {X : Cx} {CX : CXT} {k j : Nat} {C f : Addr} {m : Str} {fd : FuncData} {ps ks : List Str} {sp : Sp} {E : XK} {o : Expr} {apos pos : Pos} {kws : List Keyword} {to : TE} {tk : TA} {g : List Value → List Value → List Value} {gV : List V → List V → List V} {pl : Sem Bool}
    (ho : PE X o to) (c : Cls X.K C) (hm : Meth X.K C m f) (F : FnOk X.prog X.w X.K X.mg X.base CX k f fd ps sp) (hr : Room j X.A) (hkj : k ≤ j) (hb : KBn X.K fd ps 1 ks g gV) (hx : Passes CX X E) (hkw : PK X kws tk)
    (hall : (backToKw pos (keywordEach kws X.env)).all (·.1.isSome) = true := by rfl) (hks : (backToKw pos (keywordEach kws X.env)).filterMap (·.1) = ks := by rfl)
    (hpl : ((backTo pos (starEach [] X.env)).any (·.1) || (backToKw pos (keywordEach kws X.env)).any (·.1.isNone)) = false := by rfl)
    (ht : eval (.Call (.Attribute o m apos) [] kws pos) X.env = (do
      let ov ← eval o X.env
      standAt apos.atName
      let (f, first) ← holding [ov] (getMethod ov m pl)
      callWith pos f first (backTo pos (starEach [] X.env)) (backToKw pos (keywordEach kws X.env))) := by rfl) :
    PE X (.Call (.Attribute o m apos) [] kws pos) (tMethKw C m ks.length sp gV E to tk) := by
  refine ⟨fun pins s σ H Q I h => ?_⟩
  refine PySem.W.methodCall_KW (pl := pl) (thn (ho.run pins s σ H _ I h) fun u s1 ⟨x, H1, I1, rx, a, dx, fs, ex, ea, l, q⟩ => ?_) ht
  subst ex
  obtain rfl : u = Value.ref a := rx
  refine getmeth_ok I1 ea c hm l ?_
  refine PySem.W.callWith_KW0 (first := [.ref a]) (h₀ := X.base) I.ok.mod.kin hm.kp hall ?_ hpl
  refine thn (hkw.run pos pins s1 σ H1 _ I1 q) fun ws s2 ⟨zs, H2, I2, rz, l2, q2⟩ => ⟨I2.kIn, ?_⟩
  rw [hks]
  exact run_fnN (us := [.ref a]) (vs := [.ref a]) F (hr.mono hkj) hb hx I2 (.cons rfl .nil) rz rfl l2 q2
end FF
/-! Fivefault, part 44: more comprehensions over a list and a range: items that are new objects; those told exactly. -/
namespace FF
open PySem PySem.Spec PyProof.Rows L2
section
variable {K : PySem.W.Frag} {a : Addr} {xs : List V} {tt : TT} {te : TE} {vs : List Nat} {σ : L2.St} {H1 : Hp} {D : Addr} {Qd : Hp → Prop} {j : Nat}
/-- [e for x in xs], xs a list, the items told by objects other than the new list -/
theorem lc_mapLB (R : Nat → V → Hp → Prop) (mono : ∀ i y H H', SameB D H H' → R i y H → R i y H') (hD : H1 D = none) (hs : SqL K H1 a xs) (hz : xs.length ≤ sizeLine)
    (hw : ∀ x, wipe ((wipe σ vs).set j (some x)) vs = wipe σ vs)
    (step : ∀ i x H2, xs[i]? = some x → Same H1 H2 → (∃ o, H2 D = some o) → ∀ Q' : VK, (∀ y H3, Same H2 H3 → R i y H3 → Q' y H3) → te ((wipe σ vs).set j (some x)) H2 Q')
    (done : ∀ H2 ys, Same H1 H2 → H2 D = some (.lst ys) → ys.length = xs.length → (∀ (i : Nat) (y : V), ys[i]? = some y → R i y H2) → Qd H2) :
    ∃ W : Nat → Nat → Hp → Prop, (∃ m, W 0 m (upd H1 D (.lst []))) ∧ ∀ i m H, W i m H →
      ((Itl K a).stop i H ∧ Qd H) ∨ ((Itl K a).go i H ∧ ∃ Nx : Hp → Prop, (∀ H', Nx H' → ∃ m', m' < m ∧ W (i + 1) m' H') ∧ ∀ x H', (Itl K a).yld i H x H' → gName j x (wipe σ vs) H' fun σ2 H2 => wipe σ2 vs = wipe σ vs ∧ tYes σ2 H2 fun b H3 =>
        if b = true then te σ2 H3 fun y H4 => ∃ acc, H4 D = some (.lst acc) ∧ acc.length < sizeLine ∧ Nx (upd H4 D (.lst (acc ++ [y]))) else Nx H3) :=
  lc_list (fun i H => Same H1 H ∧ ∃ ys, H D = some (.lst ys) ∧ ys.length = i ∧ ∀ (m : Nat) (y : V), ys[m]? = some y → R m y H)
    ⟨same_new hD _, [], upd_same, rfl, fun m y h => by simp at h⟩ (fun i H _ p => up_l p.1 hs)
    (fun i x H hx ⟨e, ys, h1, h2, h3⟩ => ⟨hw x, by
      unfold tYes
      dsimp only
      rw [if_pos rfl]
      have hi := (List.getElem?_eq_some_iff.mp hx).1
      refine step i x H hx e ⟨_, h1⟩ _ fun y H3 e3 r => ?_
      refine ⟨_, e3 _ _ h1, by omega, same_at hD (e.trans e3), ys ++ [y], upd_same, by simp [h2], fun m y' q => ?_⟩
      have eU : SameB D H3 (upd H3 D (.lst (ys ++ [y]))) := sb_upd
      by_cases hm : m < ys.length
      · rw [List.getElem?_append_left hm] at q
        exact mono _ _ _ _ ((sb_of e3).tr eU) (h3 m y' q)
      · have : m = ys.length := by
          have := (List.getElem?_eq_some_iff.mp q).1
          simp at this
          omega
        subst this
        rw [List.getElem?_append_right (Nat.le_refl _), Nat.sub_self] at q
        cases q
        rw [h2]
        exact mono _ _ _ _ eU r⟩)
    fun H ⟨e, ys, h1, h2, h3⟩ => done H ys e h1 h2 h3
/-- [e for x in xs], xs a list of what f tells of α: the answers by g -/
theorem lc_mapX {α : Type} {f : α → V} {l : List α} (g : α → V) (hD : H1 D = none) (hs : SqL K H1 a (l.map f)) (hz : l.length ≤ 20000)
    (hw : ∀ x, wipe ((wipe σ vs).set j (some x)) vs = wipe σ vs)
    (step : ∀ x H2, x ∈ l → Same H1 H2 → ∀ Q' : VK, (∀ H3, Same H2 H3 → Q' (g x) H3) → te ((wipe σ vs).set j (some (f x))) H2 Q')
    (done : ∀ H2, Same H1 H2 → H2 D = some (.lst (l.map g)) → Qd H2) :
    ∃ W : Nat → Nat → Hp → Prop, (∃ m, W 0 m (upd H1 D (.lst []))) ∧ ∀ i m H, W i m H →
      ((Itl K a).stop i H ∧ Qd H) ∨ ((Itl K a).go i H ∧ ∃ Nx : Hp → Prop, (∀ H', Nx H' → ∃ m', m' < m ∧ W (i + 1) m' H') ∧ ∀ x H', (Itl K a).yld i H x H' → gName j x (wipe σ vs) H' fun σ2 H2 => wipe σ2 vs = wipe σ vs ∧ tYes σ2 H2 fun b H3 =>
        if b = true then te σ2 H3 fun y H4 => ∃ acc, H4 D = some (.lst acc) ∧ acc.length < sizeLine ∧ Nx (upd H4 D (.lst (acc ++ [y]))) else Nx H3) := by
  refine lc_mapL (R := fun i y _ => ∃ x, l[i]? = some x ∧ y = g x) (fun _ _ _ _ _ h => h) hD hs (le_line (by rw [List.length_map]; exact hz)) hw (fun i x H2 hx e Q' k => ?_) (fun H2 ys e h1 h2 h3 => ?_)
  · rw [List.getElem?_map] at hx
    obtain ⟨y, hy, rfl⟩ := Option.map_eq_some_iff.mp hx
    exact step y H2 (List.mem_of_getElem? hy) e Q' fun H3 e3 => k _ H3 e3 ⟨y, hy, rfl⟩
  · refine done H2 e ?_
    rw [h1]
    congr 2
    exact eq_map_of (by rw [h2, List.length_map]) h3
/-- [e for k in range(n)]: the answers by g -/
theorem lc_mapN {n : Nat} {lo : Int} (g : Nat → V) (hD : H1 D = none) (hz : n ≤ 20000)
    (hw : ∀ x, wipe ((wipe σ vs).set j (some x)) vs = wipe σ vs)
    (step : ∀ i H2, i < n → Same H1 H2 → ∀ Q' : VK, (∀ H3, Same H2 H3 → Q' (g i) H3) → te ((wipe σ vs).set j (some (.int (lo + i)))) H2 Q')
    (done : ∀ H2, Same H1 H2 → H2 D = some (.lst ((List.range n).map g)) → Qd H2) :
    ∃ W : Nat → Nat → Hp → Prop, (∃ m, W 0 m (upd H1 D (.lst []))) ∧ ∀ i m H, W i m H →
      ((Itr lo n).stop i H ∧ Qd H) ∨ ((Itr lo n).go i H ∧ ∃ Nx : Hp → Prop, (∀ H', Nx H' → ∃ m', m' < m ∧ W (i + 1) m' H') ∧ ∀ x H', (Itr lo n).yld i H x H' → gName j x (wipe σ vs) H' fun σ2 H2 => wipe σ2 vs = wipe σ vs ∧ tYes σ2 H2 fun b H3 =>
        if b = true then te σ2 H3 fun y H4 => ∃ acc, H4 D = some (.lst acc) ∧ acc.length < sizeLine ∧ Nx (upd H4 D (.lst (acc ++ [y]))) else Nx H3) := by
  refine lc_mapR (R := fun i y _ => y = g i) (fun _ _ _ _ _ h => h) hD (le_line hz) hw (fun i H2 hi e Q' k => step i H2 hi e Q' fun H3 e3 => k _ H3 e3 rfl) (fun H2 ys e h1 h2 h3 => ?_)
  refine done H2 e ?_
  rw [h1]
  congr 2
  refine eq_map_of (by rw [h2, List.length_range]) fun i y h => ?_
  have hi := (List.getElem?_eq_some_iff.mp h).1
  exact ⟨i, List.getElem?_range (by omega), h3 i y h⟩
/-- [x for x in xs if test] over what f tells of α -/
theorem lc_filtX {α : Type} {f : α → V} {l : List α} (p : α → Bool) (inj : ∀ x y, f x = f y → x = y) (hD : H1 D = none) (hs : SqL K H1 a (l.map f)) (hz : l.length ≤ 20000)
    (hw : ∀ x, wipe ((wipe σ vs).set j (some x)) vs = wipe σ vs)
    (test : ∀ x H2, x ∈ l → Same H1 H2 → ∀ Qb : Bool → Hp → Prop, (∀ H3, Same H2 H3 → Qb (p x) H3) → tt ((wipe σ vs).set j (some (f x))) H2 Qb)
    (elt : ∀ x H2 (Q' : VK), Q' x H2 → te ((wipe σ vs).set j (some x)) H2 Q')
    (done : ∀ H2, Same H1 H2 → H2 D = some (.lst ((l.filter p).map f)) → Qd H2) :
    ∃ W : Nat → Nat → Hp → Prop, (∃ m, W 0 m (upd H1 D (.lst []))) ∧ ∀ i m H, W i m H →
      ((Itl K a).stop i H ∧ Qd H) ∨ ((Itl K a).go i H ∧ ∃ Nx : Hp → Prop, (∀ H', Nx H' → ∃ m', m' < m ∧ W (i + 1) m' H') ∧ ∀ x H', (Itl K a).yld i H x H' → gName j x (wipe σ vs) H' fun σ2 H2 => wipe σ2 vs = wipe σ vs ∧ tt σ2 H2 fun b H3 =>
        if b = true then te σ2 H3 fun y H4 => ∃ acc, H4 D = some (.lst acc) ∧ acc.length < sizeLine ∧ Nx (upd H4 D (.lst (acc ++ [y]))) else Nx H3) :=
  lc_list (fun i H => Same H1 H ∧ H D = some (.lst (((l.take i).filter p).map f)))
    ⟨same_new hD _, upd_same⟩ (fun i H _ p => up_l p.1 hs)
    (fun i x H hx ⟨e, h1⟩ => ⟨hw x, by
      rw [List.getElem?_map] at hx
      obtain ⟨y, hy, rfl⟩ := Option.map_eq_some_iff.mp hx
      have hi := (List.getElem?_eq_some_iff.mp hy).1
      refine test y H (List.mem_of_getElem? hy) e _ fun H3 e3 => ?_
      have take1 : l.take (i + 1) = l.take i ++ [y] := by
        rw [List.take_add_one, hy] <;> rfl
      cases hb : p y with
      | false =>
        refine iteF ⟨e.trans e3, ?_⟩
        rw [take1, List.filter_append, List.filter_cons_of_neg (by rw [hb]; decide), List.filter_nil, List.append_nil]
        exact e3 _ _ h1
      | true =>
        refine iteT (elt _ H3 _ ⟨_, e3 _ _ h1, ?_, same_at hD (e.trans e3), ?_⟩)
        · rw [List.length_map]
          refine Nat.lt_of_le_of_lt (List.length_filter_le _ _) ?_
          rw [List.length_take]
          exact Nat.lt_of_le_of_lt (Nat.min_le_right _ _) (lt_line hz)
        · rw [take1, List.filter_append, List.filter_cons_of_pos hb, List.filter_nil, List.map_append, upd_same]
          rfl⟩)
    fun H ⟨e, h1⟩ => done H e (by rw [List.length_map, List.take_length] at h1; exact h1)
end
end FF
/-! Fivefault, part 45: staticmethods called by their class. -/
namespace FF
open PySem PySem.Spec PyProof.Rows L2
def statB (K : PySem.W.Frag) (C m : Str) : Bool := (match PySem.W.findCls K (.ref (He.ga K C)) (.type "type") m with
    | some (.get (.builtin g) (.ref p) .none (.ref D)) => decide (g = "staticmethod.__get__") && (decide (p = He.ma K (He.ga K C) m) && decide (D = He.ga K C))
    | _ => false) && (match PySem.W.recIn K (He.ma K (He.ga K C) m) "staticmethod" with
    | some (.ref _ :: _) => true
    | _ => false)
def readB (K : PySem.W.Frag) (C : Str) : Bool := PySem.W.readsIn K (He.ga K C) (.type "type") && isBlt (PySem.W.specialIn K (.ref (He.ga K C)) "__getattribute__") "type.__getattribute__"
theorem readB_ok {K : PySem.W.Frag} {C : Str} (h : readB K C = true) : ClX.CRead K (He.ga K C) (.type "type") := by
  obtain ⟨h1, h2⟩ := He.ba h
  exact ⟨h1, isBlt_ok h2⟩
/-- what of the text a staticmethod has -/
structure StatOf (K : PySem.W.Frag) (C : Addr) (m : Str) (p g : Addr) : Prop where
  at_ : PySem.W.findCls K (.ref C) (.type "type") m = some (.get (.builtin "staticmethod.__get__") (.ref p) .none (.ref C))
  rc : ∃ rest, PySem.W.recIn K p "staticmethod" = some (.ref g :: rest)
theorem statB_ok {K : PySem.W.Frag} {C m : Str} (h : statB K C m = true) : StatOf K (He.ga K C) m (He.ma K (He.ga K C) m) (gAd K "staticmethod" C m) := by
  obtain ⟨h1, h2⟩ := He.ba h
  refine ⟨?_, ?_⟩
  · clear h2
    split at h1
    · rename_i g p D e
      obtain ⟨k1, k⟩ := He.ba h1
      obtain ⟨k2, k3⟩ := He.ba k
      rw [e, of_decide_eq_true k1, of_decide_eq_true k2, of_decide_eq_true k3]
    · cases h1
  · unfold gAd
    split at h2
    · rename_i g rest e
      rw [e]
      exact ⟨rest, rfl⟩
    · cases h2
/-- C.m(..), m a staticmethod of C -/
structure StatX (P : Program) (w : World) (K : PySem.W.Frag) (mg : Str → Option Value) (base : Heap) (C m : Str) (k : Nat) (ps : List Str) (sp : Sp) : Prop where
  ex : ∃ fd, FnOk P w K mg base (L2.CX P w) k (gAd K "staticmethod" C m) fd ps sp ∧ Binds K fd ps []
  kp : PySem.W.keepIn K (.ref (gAd K "staticmethod" C m)) = true
  rd : ClX.CRead K (He.ga K C) (.type "type")
  st : StatOf K (He.ga K C) m (He.ma K (He.ga K C) m) (gAd K "staticmethod" C m)
  hm : mg C = some (.ref (He.ga K C))
theorem getstat_ok {X : Cx} {C p g : Addr} {m : Str} {pins : List (Addr × Obj)} {σ : L2.St} {H : Hp} {s : Shared} {A : Around} {E : Value → Shared → Prop} {pl : Sem Bool} {Q : Value × List Value → Shared → Prop} (I : Inv X pins σ H s) (r : ClX.CRead X.K C (.type "type")) (k : StatOf X.K C m p g)
    (h : ∀ s', Inv X pins σ H s' → Q (.ref g, []) s') : wpAny (model X.prog X.w) A (getMethod (.ref C) m pl) Q E s := by
  obtain ⟨rest, hp⟩ := k.rc
  refine PySem.W.method_cls I.kIn r.ga (PySem.W.cls_bind I.kIn r.rd k.at_ (wpAny_call (PySem.W.sm_get (s := { s with toks := s.toks + 1 }) I.kIn hp (PySem.W.handed_on rfl ?_))))
  exact h _ (I.tok _)
section
variable {X : Cx} {W : WX} {E : XK} {C m : Str} {k j : Nat} {ps : List Str} {sp : Sp} {e : Expr} {es : List Expr} {p1 p2 pos : Pos} {t : TA} {pl : Sem Bool}
theorem pe_stat_ (D : StatX X.prog X.w X.K X.mg X.base C m k ps sp) (hx : Passes (L2.CX X.prog X.w) X E) (hr : Room j X.A) (hkj : k ≤ j) (ha : PA X (e :: es) t)
    (hg : Gl X C) (hd : (C == ("__debug__" : Str)) = false)
    (hc : eval (.Call (.Attribute (.Name C p1) m p2) (e :: es) [] pos) X.env = (do
      let ov ← eval (.Name C p1) X.env
      standAt p2.atName
      let (f, first) ← holding [ov] (getMethod ov m pl)
      callWith pos f first (backTo pos (starEach (e :: es) X.env)) (backToKw pos (keywordEach [] X.env))))
    (he : starEach (e :: es) X.env = (false, eval e X.env) :: starEach es X.env) (hpl : (backTo pos (starEach es X.env)).any (·.1) = false) :
    PE X (.Call (.Attribute (.Name C p1) m p2) (e :: es) [] pos) (tCall sp [] E t) := by
  obtain ⟨fd, F, hb⟩ := D.ex
  refine ⟨fun pins s σ H Q I h => ?_⟩
  refine PySem.W.methodCall_KW (pl := pl) (ld_glob I hg D.hm ?_ hd) hc
  refine getstat_ok I D.rd D.st fun s' I' => ?_
  refine PySem.W.callWith_K (h₀ := X.base) I.ok.mod.kin D.kp (thn (ha.run pos pins s' σ H _ I' h) fun us s1 ⟨vs, H1, I1, r1, q⟩ => ⟨I1.kIn, ?_⟩) he hpl
  exact run_fn F (hr.mono hkj) hb .nil hx I1 r1 q
theorem pe_statx (D : StatX X.prog X.w X.K X.mg X.base C m k ps sp) (tk : Takes X W) (hW : ∀ cls d σ' H', E cls d H' → W cls d σ' H') (hr : Room j X.A) (hkj : k ≤ j) (ha : PA X (e :: es) t)
    (hg : Gl X C := by rfl) (hd : (C == ("__debug__" : Str)) = false := by decide)
    (hc : eval (.Call (.Attribute (.Name C p1) m p2) (e :: es) [] pos) X.env = (do
      let ov ← eval (.Name C p1) X.env
      standAt p2.atName
      let (f, first) ← holding [ov] (getMethod ov m pl)
      callWith pos f first (backTo pos (starEach (e :: es) X.env)) (backToKw pos (keywordEach [] X.env))) := by rfl)
    (he : starEach (e :: es) X.env = (false, eval e X.env) :: starEach es X.env := by rfl) (hpl : (backTo pos (starEach es X.env)).any (·.1) = false := by rfl) :
    PE X (.Call (.Attribute (.Name C p1) m p2) (e :: es) [] pos) (tCall sp [] E t) := pe_stat_ D (passes_call tk hW) hr hkj ha hg hd hc he hpl
theorem pe_statN (D : StatX X.prog X.w X.K X.mg X.base C m k ps sp) (hr : Room j X.A) (hkj : k ≤ j) (ha : PA X (e :: es) t)
    (hg : Gl X C := by rfl) (hd : (C == ("__debug__" : Str)) = false := by decide)
    (hc : eval (.Call (.Attribute (.Name C p1) m p2) (e :: es) [] pos) X.env = (do
      let ov ← eval (.Name C p1) X.env
      standAt p2.atName
      let (f, first) ← holding [ov] (getMethod ov m pl)
      callWith pos f first (backTo pos (starEach (e :: es) X.env)) (backToKw pos (keywordEach [] X.env))) := by rfl)
    (he : starEach (e :: es) X.env = (false, eval e X.env) :: starEach es X.env := by rfl) (hpl : (backTo pos (starEach es X.env)).any (·.1) = false := by rfl) :
    PE X (.Call (.Attribute (.Name C p1) m p2) (e :: es) [] pos) (tCall sp [] (fun _ _ _ => False) t) := pe_stat_ D passN hr hkj ha hg hd hc he hpl
end
theorem statx_mk {P : Program} {w : World} {K : PySem.W.Frag} {mg : Str → Option Value} {base : Heap} {C m qual : Str} {st : Stmt} {fd : FuncData} {dvs : List V} {kws : List (Str × V)} {N ps : List Str} {k : Nat} {sp : Sp} (F : FunD K m qual (defArgs st) (defBody st) (defScope st) dvs kws (gAd K "staticmethod" C m) fd) (hb : Binds K fd ps [])
    (rd : ClX.CRead K (He.ga K C) (.type "type")) (so : StatOf K (He.ga K C) m (He.ma K (He.ga K C) m) (gAd K "staticmethod" C m)) (hm : mg C = some (.ref (He.ga K C))) (S : FnScope N ps (defScope st)) (len : ∀ vs H Q E, sp vs H Q E → vs.length = ps.length)
    (body : ∀ (cdv : Value) (A : Around) (outer : List Env) (s : Shared) (H : Hp) (vs : List V) (Q : VK) (E : XK), Room k (A.deeper (envOfC qual (defScope st) s.heap.objs.size (gAd K "staticmethod" C m) cdv)) → sp vs H Q E →
      (Takes (cxOf (L2.CX P w) P w K mg base N qual (defScope st) (gAd K "staticmethod" C m) cdv A outer s H E) fun cls d _ H => E cls d H) →
      ∃ t, PSs (cxOf (L2.CX P w) P w K mg base N qual (defScope st) (gAd K "staticmethod" C m) cdv A outer s H E) (defBody st) t ∧ t { nx := fun _ H' => Q .non H', rt := Q } (start N vs) H) : StatX P w K mg base C m (k + 1) ps sp :=
  ⟨⟨fd, FunD.ok F S len (fun cdv A outer s H vs Q E hr h => body cdv A outer s H vs Q E hr h (takes_of rfl rfl rfl rfl)), hb⟩, F.kp, rd, so, hm⟩
end FF
/-! Fivefault, part 46: {x for x in xs if ..} for any kind of keys; set(t), len of a set of ints. -/
namespace FF
open PySem PySem.Spec PyProof.Rows L2
abbrev emptySet (w : World) : Obj := { cls := .type "set", dict := none, data := .set #[] 0 (.fresh 0 0 (!w.params.followText "set-order")) }
/-- a kind of sets: how one stands in the heap, what is added -/
structure SFam (P : Program) (w : World) where
  κ : Type
  eq : κ → κ → Bool
  ob : Addr → (κ → Bool) → Nat → HO
  val : κ → V
  fresh : ∀ (H : Hp) (h : Heap), ObjOk P w H (h.push (emptySet w)) h.objs.size (ob h.objs.size (fun _ => false) 0)
  add : ∀ (X : Cx) (pins : List (Addr × Obj)) (σ : L2.St) (H : Hp) (s : Shared) (D : Addr) (S : κ → Bool) (n : Nat) (y : κ) (u : Value) (Q : Value → Shared → Prop) (E : Value → Shared → Prop), X.prog = P → X.w = w → Inv X pins σ H s → H D = some (ob D S n) → n + 1 < scanBound → RelV (val y) u →
    (∀ s', Inv X pins σ (upd H D (ob D (fun j => S j || eq j y) (if S y = true then n else n + 1))) s' → Q .none s') → wpAny (model X.prog X.w) X.A (call (.builtin "set.add") [.ref D, u]) Q E s
def SFam.put {P : Program} {w : World} (F : SFam P w) (S : F.κ → Bool) (y : F.κ) : F.κ → Bool := fun j => S j || F.eq j y
def tScF {P : Program} {w : World} (F : SFam P w) (wi : TI) (g : TG) (tt : TT) (te : TE) (vs : List Nat) : TE := fun σ H Q => wi σ H fun J H1 => ∀ D, H1 D = none → ∃ W : Nat → Nat → Hp → Prop, (∃ m, W 0 m (upd H1 D (F.ob D (fun _ => false) 0))) ∧ ∀ i m H, W i m H →
  (J.stop i H ∧ Q (.ref D) H) ∨ (J.go i H ∧ ∃ Nx : Hp → Prop, (∀ H', Nx H' → ∃ m', m' < m ∧ W (i + 1) m' H') ∧ ∀ x H', J.yld i H x H' → g x (wipe σ vs) H' fun σ2 H2 => wipe σ2 vs = wipe σ vs ∧ tt σ2 H2 fun b H3 =>
    if b = true then te σ2 H3 fun y H4 => ∃ (k : F.κ) (S : F.κ → Bool) (n : Nat), y = F.val k ∧ H4 D = some (F.ob D S n) ∧ n + 1 < scanBound ∧ Nx (upd H4 D (F.ob D (F.put S k) (if S k = true then n else n + 1))) else Nx H3)
theorem pe_scF {X : Cx} (F : SFam X.prog X.w) {el ga ia : Expr} {cs : List Expr} {scope : Scope} {own : List (Str × Nat)} {pos : Pos} {wi : TI} {g : TG} {tt : TT} {te : TE} (calm : X.calm = true) (nd : X.N.Nodup) (pia : PI X ga ia wi) (ok : BlkOk X.N X.env.scope scope own)
    (pga : InBlk X scope fun Y => PG Y ga g) (pta : InBlk X scope fun Y => PTs Y cs tt) (pel : InBlk X scope fun Y => PE Y el te) (fa : ∀ x, foldedSetIterable ia X.env x = pure x := by intro _; rfl) : PE X (.SetComp el [⟨ga, ia, cs, 0⟩] scope pos) (tScF F wi g tt te (own.map (·.2))) := by
  refine ⟨fun pins s σ H Q I h => ?_⟩
  rw [PpSet.eval_SetComp]
  have cells : ∀ y ∈ scope.names, y.2 = .free → ∃ c, X.env.cells.lookup y.1 = some c := fun y hy e => (ok.free y hy e).elim (fun k => I.ok.has _ (.inl k)) fun k => I.ok.has _ (.inr k)
  refine wpAny_comprehension_free rfl fa (closure_ok cells) ok.kind (fun y hy e => by rw [ok.uniq y hy, e]) (thn (pia.run pins s σ H _ I h) fun xv sa hx => thn hx fun itv sb hb => ?_)
  obtain ⟨it, fp, tn, J, H2, rfl, I2, T, t2, f2, q⟩ := hb
  refine PpSet.newSet_ok (newEnv_comp ?_)
  generalize hD : sb.heap.objs.size = D
  have freeD : H2 D = none := I2.hok.fresh (Nat.le_of_eq hD)
  obtain ⟨W, ⟨m0, w0⟩, turn⟩ := q D freeD
  generalize hs3 : ({ sb with heap := sb.heap.push (emptySet X.w) } : Shared) = s3
  have heap3 : s3.heap = sb.heap.push (emptySet X.w) := by rw [← hs3]
  generalize hO : F.ob D (fun _ => false) 0 = O at w0
  have I3 : Inv X pins σ (upd H2 D O) s3 := by
    rw [← hs3, ← hO]
    exact I2.laid (t' := sb.toks) (fun b o e => Heap.get?_push_of_some _ e) (Nat.le_of_eq hD) (by rw [← hD]; exact F.fresh _ _)
  have below : ∀ b ∈ fp, b < sb.heap.objs.size := fun b hb => let ⟨o, e, _⟩ := T.obj _ _ t2 b hb; Heap.lt_size e
  have f3 : ∀ b ∈ fp, FpOk X pins (upd H2 D O) b ∧ b < s3.heap.objs.size := fun b hb => by
    refine ⟨⟨?_, (f2 b hb).2⟩, by rw [heap3, Heap.size_push]; exact Nat.lt_succ_of_lt (below b hb)⟩
    rw [upd_ne (by rw [← hD]; exact Nat.ne_of_lt (below b hb))]
    exact (f2 b hb).1
  have t3 : tn 0 s3.heap := T.keep _ _ _ t2 fun b _ o e => by rw [heap3]; exact Heap.get?_push_of_some _ e
  have I4 := block_start I3 ok nd f3
  have off3 : ∀ b ∈ fp, (upd H2 D O) b = none := fun b hb => (f3 b hb).1.1
  show codeAny _ _ (.compStart (.SetComp el [⟨ga, ia, cs, 0⟩] scope pos) 0 (.ref it) (.ref D) (compEnvC scope (cellsFrom (s3.heap.objs.size + 1) scope.names (cloFrom X.env.cells scope.names [])) s3.heap.objs.size X.env)) (compPost (model X.prog X.w) X.A X.xe none (EP X pins σ Q) (.ref D) s3.heap.objs.size) { s3 with heap := pushCells (s3.heap.push { cls := .type "dict", data := .dict #[] }) scope.names }
  generalize hcl : cellsFrom (s3.heap.objs.size + 1) scope.names (cloFrom X.env.cells scope.names []) = cl at I4 ⊢
  have rga := pga s3 (upd H2 D O) s3.heap.objs.size cl fp
  have rta := pta s3 (upd H2 D O) s3.heap.objs.size cl fp
  have rel := pel s3 (upd H2 D O) s3.heap.objs.size cl fp
  generalize hce : compEnvC scope cl s3.heap.objs.size X.env = ce at I4 rga rta rel ⊢
  have loc : ce.locals = s3.heap.objs.size := by subst hce; rfl
  generalize hH3 : upd H2 D O = H3 at I3 I4 rga rta rel w0 off3 f3
  generalize hs4 : ({ s3 with heap := pushCells (s3.heap.push { cls := .type "dict", data := .dict #[] }) scope.names } : Shared) = s4 at I4 ⊢
  have t4 : tn 0 s4.heap := T.keep _ _ _ t3 fun b _ o e => by rw [← hs4]; exact pushCells_keeps _ _ _ _ (Heap.get?_push_of_some _ e)
  let B := X.blk s3 H3 scope ce fp
  have foot : ∀ {σ' : L2.St} {H' : Hp} {s' : Shared}, Inv B [] σ' H' s' → (∀ b ∈ fp, H' b = none) → ∀ b ∈ fp, FpOk B [] H' b := fun {σ' H' s'} I' hn b hb =>
    ⟨hn b hb, (I'.ok.exf b hb).1, I'.ok.exfs b hb, .inl hb, fun x c e => (I'.ok.exf b hb).2 x c e, fun p hp => absurd (show p ∈ ([] : List (Addr × Obj)) ++ [] from hp) (by simp)⟩
  let Sj : Nat → Shared → Prop := fun n s' => ∃ i H', Inv B [] (wipe σ (own.map (·.2))) H' s' ∧ tn i s'.heap ∧ (∀ b ∈ fp, H' b = none) ∧ W i n H'
  have loop := PpSet.compLoopS_any (prog := X.prog) (w := X.w) (A := X.A) (env := ce) (it := .ref it) (acc := .ref D) (elt := el) (target := ga) (iter := ia) (ifs := cs) (scope := scope) (pos := pos) (R := compPost (model X.prog X.w) X.A X.xe none (EP X pins σ Q) (.ref D) s3.heap.objs.size) Sj (fun n s5 hs5 => ?_) m0 (show Sj m0 s4 from ⟨0, H3, I4, t4, off3, w0⟩)
  · exact PpSet.codeAny_compStart_set loop (T.self X.A 0 _ _ _ t4 loop)
  obtain ⟨i, H5, I5, t5, n5, w5⟩ := hs5
  rcases turn i n H5 w5 with ⟨stop, qq⟩ | ⟨go, Nx, hNx, step⟩
  · refine thnF (T.done B rfl rfl rfl calm i [] s5 _ H5 (fun _ _ => False) I5 (foot I5 n5) t5 stop) fun r s6 ⟨hr, I6⟩ => ?_
    subst hr
    have I7 : Inv X pins σ H5 s6 := I3.call' (ch := fp) I6.os I6.base I6.hok I6.bare fun b hb => ⟨(f3 b hb).1.2.2.2.1, (f3 b hb).1.2.1, (f3 b hb).1.2.2.2.2.1, (f3 b hb).1.2.2.2.2.2⟩
    have freeC : H5 s3.heap.objs.size = none := loc ▸ (show H5 ce.locals = none from I6.free)
    obtain ⟨m, hn, _⟩ := I6.loc
    have hn : s6.heap.Ns s3.heap.objs.size m := loc ▸ (show s6.heap.Ns ce.locals m from hn)
    obtain ⟨k0, k1, k2, k3, k4, k5⟩ := I3.fpOk (Nat.le_refl _) freeC
    exact ⟨m, hn, fun h'' same => ⟨.ref D, H5, I7.turned (t' := s6.toks) (fun b o hb e => (same.2 b hb).trans e) k0 k1 k3 k4 k5, rfl, qq⟩⟩
  refine thnF (T.item B rfl rfl rfl calm i [] s5 _ H5 (fun _ _ => False) I5 (foot I5 n5) t5 go) fun r s6 ⟨u, hr, h6⟩ => ?_
  subst hr
  refine thnF h6 fun _ s7 ⟨x, H7, I7, r7, y7, t7, n7⟩ => ?_
  refine thnF (rga.run _ s7 _ H7 x u _ (I7.pinned (foot I7 n7) (T.obj _ _ t7)) r7 (step x H7 y7)) fun _ s8 ⟨σ8, H8, I8, hw8, q8⟩ => ?_
  refine thnF (rta.run _ s8 σ8 H8 _ I8 q8) fun b s9 ⟨H9, I9, q9⟩ => ?_
  have turnEnd : ∀ {s' : Shared} {H' : Hp}, Inv B ([] ++ pinsAt fp s7.heap) σ8 H' s' → Nx H' → ∃ m, m < n ∧ Sj m s' := fun {s' H'} I' nx => by
    obtain ⟨m', hm, w'⟩ := hNx H' nx
    have stays : ∀ b ∈ fp, ∀ o, s7.heap.get? b = some o → s'.heap.get? b = some o ∧ H' b = none := fun b hb o e =>
      let z := I'.pin (b, o) (List.mem_append_right _ (List.mem_append_right _ (mem_pinsAt hb e)))
      ⟨z.1, z.2.1⟩
    exact ⟨m', hm, i + 1, H', (I'.unpinned (pins := [])).weak (by rw [← hw8, wipe_length]) (fun j v e => by rw [← hw8] at e; exact (wipe_some e).1), T.keep _ _ _ t7 fun b hb o e => (stays b hb o e).1, fun b hb => let ⟨o, e, _⟩ := T.obj _ _ t7 b hb; (stays b hb o e).2, w'⟩
  cases b with
  | false => exact turnEnd I9 (by simpa using q9)
  | true =>
  simp only [if_true] at q9 ⊢
  refine thnF (rel.run _ s9 σ8 H9 _ I9 q9) fun z s10 ⟨yv, H10, I10, r10, k0, S0, n0, ey, hD10, hz10, nx⟩ => ?_
  subst ey
  exact F.add B _ σ8 H10 s10 D S0 n0 k0 z _ _ rfl rfl I10 hD10 hz10 r10 fun s11 I11 => turnEnd I11 nx
/-! ### sets of ints -/
def intF (P : Program) (w : World) : SFam P w where
  κ := Int
  eq := fun a b => decide (a = b)
  ob := SetO w
  val := V.int
  fresh := fun H h => setO_new (setR_fresh w)
  add := by
    intro X pins σ H s D S n y u Q E hp hw I hD room hu k
    subst hp hw
    obtain ⟨tk, rfl⟩ := hu
    have R := setO_get I hD
    refine setR_add R room fun h' sb new => ?_
    have he : ∃ u, h'.get? D = some u := by
      have ⟨o, _, _, _, ho, _⟩ := new
      exact ⟨o, ho⟩
    exact k _ (I.write (e := D) (t' := s.toks + 1) (by rw [hD]; trivial) (.inl rfl) (fun b u hb hu => (sb.2 b hb).trans hu) he (setO_new new))
/-- len(s), s a set of ints -/
def rLenSetO (w : World) : List V → Hp → VK → Prop := fun xs H Q => ∃ (a : Addr) (S : Int → Bool) (n : Nat), xs = [.ref a] ∧ H a = some (SetO w a S n) ∧ n < 1000 ∧ Q (.int (n : Nat)) H
theorem cr_lenSetO {X : Cx} : CallR X (.builtin "len") (rLenSetO X.w) := by
  intro pins s σ H xs us Q I r h
  obtain ⟨a, S, n, rfl, ha, hn, q⟩ := h
  obtain ⟨u, rfl, r1⟩ := r.one
  cases r1
  obtain ⟨o, es, ep, t, ho, hex, hd, g, nd, hm, hb, hf, he, hr, hl⟩ := setO_get I ha
  exact call_len_set ho hex hd hf (by rw [he]; omega) ⟨.int (n : Nat), H, I.tok _, ⟨_, by rw [he]⟩, q⟩
/-- set(t), t a tuple of ints -/
def distN (ns : List Int) : Nat := ns.eraseDups.length
def rSetI (K : PySem.W.Frag) (w : World) : List V → Hp → VK → Prop := fun xs H Q => ∃ (p : Addr) (ns : List Int), xs = [.ref p] ∧ SqT K H p (ns.map V.int) ∧ ns.length ≤ 1000 ∧ ∀ D S n, H D = none → (∀ k, S k = decide (k ∈ ns)) → (∃ ks : List Int, ks.Nodup ∧ (∀ k, k ∈ ks ↔ k ∈ ns) ∧ ks.length = n) → Q (.ref D) (upd H D (SetO w D S n))
theorem cr_setI {X : Cx} (hc : X.calm = true) : CallR X (.type "set") (rSetI X.K X.w) := by
  intro pins s σ H xs us Q I r h
  obtain ⟨p, ns, rfl, hq, hl, q⟩ := h
  obtain ⟨u, rfl, r1⟩ := r.one
  cases r1
  obtain ⟨its, rv, pt, hz⟩ := I.tuple hq
  refine call_set_tupI ns (I.ok.hd hc) (show s.heap.IsTuple p its.toArray from pt) (ints_of_vals rv) (by unfold scanBound; omega) fun h' tk c R1 hcn k => ?_
  have hn : H s.heap.objs.size = none := I.hok.fresh (Nat.le_refl _)
  refine ⟨.ref _, upd H s.heap.objs.size (SetO X.w s.heap.objs.size (fun j => decide (j ∈ ns)) c), I.laid (t' := tk) k (Nat.le_refl _) (setO_new R1), rfl, q _ _ _ hn (fun _ => rfl) ?_⟩
  obtain ⟨o, es, ep, t, ho, hex, hdt, g, nd, hm2, hb, hf, hs, hr, hl2⟩ := R1
  exact ⟨es.toList.map keyOf, nd, fun j => by rw [← hm2 j, decide_eq_true_eq], by rw [List.length_map, Array.length_toList, hs]⟩
end FF
/-! Fivefault, part 47: methods called in a comprehension's block, where no exception comes (K named). -/
namespace FF
open PySem PySem.Spec PyProof.Rows L2
section
variable {X : Cx} {C m : Str} {k j : Nat} {ps : List Str} {sp : Sp} {o e : Expr} {es : List Expr} {apos pos : Pos} {to : TE} {t : TA} {pl : Sem Bool}
theorem pe_methxNK (K : PySem.W.Frag) (D : MethX X.prog X.w X.K X.mg X.base C m k ps sp) (hr : Room j X.A) (hkj : k ≤ j) (ho : PE X o to) (ha : PA X (e :: es) t) (hK : X.K = K := by rfl)
    (hst : starEach (e :: es) X.env = (false, eval e X.env) :: starEach es X.env := by rfl) (hpl : (backTo pos (starEach es X.env)).any (·.1) = false := by rfl)
    (ht : eval (.Call (.Attribute o m apos) (e :: es) [] pos) X.env = (do
      let ov ← eval o X.env
      standAt apos.atName
      let (f, first) ← holding [ov] (getMethod ov m pl)
      callWith pos f first (backTo pos (starEach (e :: es) X.env)) (backToKw pos (keywordEach [] X.env))) := by rfl) :
    PE X (.Call (.Attribute o m apos) (e :: es) [] pos) (tMeth (He.ga K C) m sp [] (fun _ _ _ => False) to t) := by
  subst hK
  exact pe_methxN D hr hkj ho ha hst hpl ht
theorem pe_methsNK (K : PySem.W.Frag) (D : MethS X.prog X.w X.K X.mg X.base C m k sp) (hr : Room j X.A) (hkj : k ≤ j) (ho : PE X o to) (ha : PA X (e :: es) t) (hK : X.K = K := by rfl)
    (hst : starEach (e :: es) X.env = (false, eval e X.env) :: starEach es X.env := by rfl) (hpl : (backTo pos (starEach es X.env)).any (·.1) = false := by rfl)
    (ht : eval (.Call (.Attribute o m apos) (e :: es) [] pos) X.env = (do
      let ov ← eval o X.env
      standAt apos.atName
      let (f, first) ← holding [ov] (getMethod ov m pl)
      callWith pos f first (backTo pos (starEach (e :: es) X.env)) (backToKw pos (keywordEach [] X.env))) := by rfl) :
    PE X (.Call (.Attribute o m apos) (e :: es) [] pos) (tMethS (He.ga K C) m sp (fun _ _ _ => False) to t) := by
  subst hK
  exact pe_meths D passN hr hkj ho ha hst hpl ht
end
theorem g2_mono {K : PySem.W.Frag} {i j : Nat} {σ : L2.St} : ∀ (x : V) (H2 : Hp) (A B : L2.St → Hp → Prop), (∀ σ H, A σ H → B σ H) → gTup K 2 (gCons (gName i) (gCons (gName j) gNil)) x σ H2 A → gTup K 2 (gCons (gName i) (gCons (gName j) gNil)) x σ H2 B := by
  rintro x H2 A B f ⟨a, xs, e, h, l, v1, r1, e1, v2, r2, e2, e4, q⟩
  exact ⟨a, xs, e, h, l, v1, r1, e1, v2, r2, e2, e4, f _ _ q⟩
/-! a comprehension over a list, any target -/
theorem lc_mapG {K : PySem.W.Frag} {a : Addr} {xs : List V} {g : TG} {te : TE} {vs : List Nat} {σ : L2.St} {H1 : Hp} {Q : Addr → Hp → Prop} (R : Nat → V → Hp → Prop) (mono : ∀ i y H H', SameT H H' → R i y H → R i y H') (h : SqL K H1 a xs) (hz : xs.length ≤ sizeLine)
    (step : ∀ i x H2, xs[i]? = some x → Same H1 H2 → ∀ Q' : VK, (∀ y H3, Same H2 H3 → R i y H3 → Q' y H3) → g x (wipe σ vs) H2 fun σ2 H3 => wipe σ2 vs = wipe σ vs ∧ te σ2 H3 Q')
    (gm : ∀ x H2 (A B : L2.St → Hp → Prop), (∀ σ H, A σ H → B σ H) → g x (wipe σ vs) H2 A → g x (wipe σ vs) H2 B)
    (done : ∀ H2 D ys, Same H1 H2 → H1 D = none → H2 D = some (.lst ys) → ys.length = xs.length → (∀ (i : Nat) (y : V), ys[i]? = some y → R i y H2) → Q D H2) : ∀ D, H1 D = none → LcR (Itl K a) g tYes te vs σ H1 D (Q D) :=
  have wk : Walk (Itl K a) xs.length (Same H1) (YAt xs) := walkL_same h
  fun D hD =>
    lc_it wk (fun i H => Same H1 H ∧ ∃ ys, H D = some (.lst ys) ∧ ys.length = i ∧ ∀ m y, ys[m]? = some y → R m y H) ⟨same_new hD _, [], upd_same, rfl, fun m y q => by simp at q⟩ (fun i H _ p => p.1)
      (fun i x H H' hi ⟨e, ys, h2, h3, h4⟩ ⟨e1, e2⟩ => by
        subst e1
        refine gm _ _ _ _ (fun σ2 H3 q => ⟨q.1, by unfold tYes; dsimp only; rw [if_pos rfl]; exact q.2⟩) (step i x _ e2 e _ fun y H3 e3 r => ?_)
        have hd := e3 _ _ h2
        have eT : SameT H3 (upd H3 D (.lst (ys ++ [y]))) := (SameT.refl H3).updL hd
        refine ⟨ys, hd, by omega, fun b o q => ?_, ys ++ [y], upd_same, by simp [h3], fun m y' q => ?_⟩
        · rw [upd_ne (ne_of_none q hD)]
          exact e3 _ _ (e _ _ q)
        · by_cases hm : m < ys.length
          · rw [List.getElem?_append_left hm] at q
            exact mono _ _ _ _ ((Same.T e3).trans eT) (h4 m y' q)
          · have : m = ys.length := by
              have := (List.getElem?_eq_some_iff.mp q).1
              simp at this
              omega
            subst this
            rw [List.getElem?_append_right (Nat.le_refl _), Nat.sub_self] at q
            cases q
            rw [h3]
            exact mono _ _ _ _ eT r)
      fun H ⟨e, ys, h1, h2, h3⟩ => done H D ys e hD h1 h2 h3
end FF
/-! Fivefault, part 48: classmethods; cls(..) with cls a local name; a class's constants. -/
namespace FF
open PySem PySem.Spec PyProof.Rows L2
def clsB (K : PySem.W.Frag) (C m : Str) : Bool := (match PySem.W.findCls K (.ref (He.ga K C)) (.type "type") m with
    | some (.get (.builtin g) (.ref p) .none (.ref D)) => decide (g = "classmethod.__get__") && (decide (p = He.ma K (He.ga K C) m) && decide (D = He.ga K C))
    | _ => false) && ((match PySem.W.recIn K (He.ma K (He.ga K C) m) "classmethod" with
    | some (.ref _ :: _) => true
    | _ => false) && PySem.W.fnIn K (gAd K "classmethod" C m))
theorem clsB_ok {K : PySem.W.Frag} {C m : Str} (h : clsB K C m = true) : ClX.CMet K (He.ga K C) (.type "type") m (He.ma K (He.ga K C) m) (gAd K "classmethod" C m) := by
  obtain ⟨h1, h2⟩ := He.ba h
  obtain ⟨h2, h3⟩ := He.ba h2
  refine ⟨?_, ?_, h3⟩
  · clear h2 h3
    split at h1
    · rename_i g p D e
      obtain ⟨k1, k⟩ := He.ba h1
      obtain ⟨k2, k3⟩ := He.ba k
      rw [e, of_decide_eq_true k1, of_decide_eq_true k2, of_decide_eq_true k3]
    · cases h1
  · unfold gAd
    split at h2
    · rename_i g rest e
      rw [e]
      exact ⟨rest, rfl⟩
    · cases h2
def cvalB (K : PySem.W.Frag) (C f : Str) (n : Int) : Bool := match PySem.W.findCls K (.ref (He.ga K C)) (.type "type") f with
  | some (.val (.int m _)) => decide (m = n)
  | _ => false
theorem cvalB_ok {K : PySem.W.Frag} {C f : Str} {n : Int} (h : cvalB K C f n = true) : ∃ u, ClX.CVal K (He.ga K C) (.type "type") f (.int n) u := by
  unfold cvalB at h
  split at h
  · rename_i m t e
    exact ⟨_, e, t, by rw [of_decide_eq_true h]⟩
  · cases h
/-- C.m(..), m a classmethod of C -/
structure ClsX (P : Program) (w : World) (K : PySem.W.Frag) (mg : Str → Option Value) (base : Heap) (C m : Str) (k : Nat) (sp : Sp) : Prop where
  ex : FnR P w K mg base (L2.CX P w) k (gAd K "classmethod" C m) sp
  rd : ClX.CRead K (He.ga K C) (.type "type")
  cm : ClX.CMet K (He.ga K C) (.type "type") m (He.ma K (He.ga K C) m) (gAd K "classmethod" C m)
/-- reading of C.m(..) -/
def tClsX (C : Addr) (sp : Sp) (E : XK) (t : TA) : TE := fun σ H Q => t σ H fun vs H2 => sp (.ref C :: vs) H2 Q E
section
variable {X : Cx} {W : WX} {E : XK} {C m : Str} {k j : Nat} {ps : List Str} {sp : Sp} {e : Expr} {es : List Expr} {p1 p2 pos : Pos} {t : TA} {pl : Sem Bool}
theorem pe_cls_ (D : ClsX X.prog X.w X.K X.mg X.base C m k sp) (hm : X.mg C = some (.ref (He.ga X.K C))) (hx : Passes (L2.CX X.prog X.w) X E) (hr : Room j X.A) (hkj : k ≤ j) (ha : PA X (e :: es) t)
    (hg : Gl X C) (hd : (C == ("__debug__" : Str)) = false)
    (he : starEach (e :: es) X.env = (false, eval e X.env) :: starEach es X.env) (hpl : (backTo pos (starEach es X.env)).any (·.1) = false)
    (hc : eval (.Call (.Attribute (.Name C p1) m p2) (e :: es) [] pos) X.env = (do
      let ov ← eval (.Name C p1) X.env
      standAt p2.atName
      let (f, first) ← holding [ov] (getMethod ov m pl)
      callWith pos f first (backTo pos (starEach (e :: es) X.env)) (backToKw pos (keywordEach [] X.env)))) :
    PE X (.Call (.Attribute (.Name C p1) m p2) (e :: es) [] pos) (tClsX (He.ga X.K C) sp E t) := by
  have hn : PE X (.Name C p1) (tC (.ref (He.ga X.K C))) := pe_gT hm hg hd
  refine ⟨fun pins s σ H Q I h => ?_⟩
  exact (ClX.pe_cmeth hn D.rd D.cm D.ex (hr.mono hkj) hx ha he hpl hc).run pins s σ H Q I ⟨rfl, h⟩
theorem pe_clsx (D : ClsX X.prog X.w X.K X.mg X.base C m k sp) (hm : X.mg C = some (.ref (He.ga X.K C))) (tk : Takes X W) (hW : ∀ cls d σ' H', E cls d H' → W cls d σ' H') (hr : Room j X.A) (hkj : k ≤ j) (ha : PA X (e :: es) t)
    (hg : Gl X C := by rfl) (hd : (C == ("__debug__" : Str)) = false := by decide)
    (he : starEach (e :: es) X.env = (false, eval e X.env) :: starEach es X.env := by rfl) (hpl : (backTo pos (starEach es X.env)).any (·.1) = false := by rfl)
    (hc : eval (.Call (.Attribute (.Name C p1) m p2) (e :: es) [] pos) X.env = (do
      let ov ← eval (.Name C p1) X.env
      standAt p2.atName
      let (f, first) ← holding [ov] (getMethod ov m pl)
      callWith pos f first (backTo pos (starEach (e :: es) X.env)) (backToKw pos (keywordEach [] X.env))) := by rfl) :
    PE X (.Call (.Attribute (.Name C p1) m p2) (e :: es) [] pos) (tClsX (He.ga X.K C) sp E t) := pe_cls_ D hm (passes_call tk hW) hr hkj ha hg hd he hpl hc
theorem pe_clsN (D : ClsX X.prog X.w X.K X.mg X.base C m k sp) (hm : X.mg C = some (.ref (He.ga X.K C))) (hr : Room j X.A) (hkj : k ≤ j) (ha : PA X (e :: es) t)
    (hg : Gl X C := by rfl) (hd : (C == ("__debug__" : Str)) = false := by decide)
    (he : starEach (e :: es) X.env = (false, eval e X.env) :: starEach es X.env := by rfl) (hpl : (backTo pos (starEach es X.env)).any (·.1) = false := by rfl)
    (hc : eval (.Call (.Attribute (.Name C p1) m p2) (e :: es) [] pos) X.env = (do
      let ov ← eval (.Name C p1) X.env
      standAt p2.atName
      let (f, first) ← holding [ov] (getMethod ov m pl)
      callWith pos f first (backTo pos (starEach (e :: es) X.env)) (backToKw pos (keywordEach [] X.env))) := by rfl) :
    PE X (.Call (.Attribute (.Name C p1) m p2) (e :: es) [] pos) (tClsX (He.ga X.K C) sp (fun _ _ _ => False) t) := pe_cls_ D hm passN hr hkj ha hg hd he hpl hc
theorem pe_clsxK (K : PySem.W.Frag) (D : ClsX X.prog X.w X.K X.mg X.base C m k sp) (hm : X.mg C = some (.ref (He.ga X.K C))) (tk : Takes X W) (hW : ∀ cls d σ' H', E cls d H' → W cls d σ' H') (hr : Room j X.A) (hkj : k ≤ j) (ha : PA X (e :: es) t) (hK : X.K = K := by rfl)
    (hg : Gl X C := by rfl) (hd : (C == ("__debug__" : Str)) = false := by decide)
    (he : starEach (e :: es) X.env = (false, eval e X.env) :: starEach es X.env := by rfl) (hpl : (backTo pos (starEach es X.env)).any (·.1) = false := by rfl)
    (hc : eval (.Call (.Attribute (.Name C p1) m p2) (e :: es) [] pos) X.env = (do
      let ov ← eval (.Name C p1) X.env
      standAt p2.atName
      let (f, first) ← holding [ov] (getMethod ov m pl)
      callWith pos f first (backTo pos (starEach (e :: es) X.env)) (backToKw pos (keywordEach [] X.env))) := by rfl) :
    PE X (.Call (.Attribute (.Name C p1) m p2) (e :: es) [] pos) (tClsX (He.ga K C) sp E t) := by
  subst hK
  exact pe_cls_ D hm (passes_call tk hW) hr hkj ha hg hd he hpl hc
end
/-- cls(..), cls a local name that holds the class -/
def tMkL (C : Addr) (sp : Sp) (E : XK) (tv : TE) (t : TA) : TE := fun σ H Q => tv σ H fun v H1 => v = .ref C ∧ tMake C sp [] E t σ H1 Q
theorem pe_mkL {X : Cx} {W : WX} {E : XK} {C x : Str} {k j : Nat} {ps : List Str} {sp : Sp} {e : Expr} {es : List Expr} {p pos : Pos} {t : TA} {tv : TE} (D : MakeX X.prog X.w X.K X.mg X.base C k ps sp) (tk : Takes X W) (hW : ∀ cls d σ' H', E cls d H' → W cls d σ' H') (hr : Room j X.A) (hkj : k + 1 ≤ j) (hv : PE X (.Name x p) tv) (ha : PA X (e :: es) t)
    (he : starEach (e :: es) X.env = (false, eval e X.env) :: starEach es X.env := by rfl) (hpl : (backTo pos (starEach es X.env)).any (·.1) = false := by rfl) :
    PE X (.Call (.Name x p) (e :: es) [] pos) (tMkL (He.ga X.K C) sp E tv t) := by
  obtain ⟨fd, F, hb⟩ := D.ex
  refine ⟨fun pins s σ H Q I h => ?_⟩
  refine wpAny_Call_Name_kw (thn (hv.run pins s σ H _ I h) fun u s1 ⟨v, H1, I1, r1, ev, q1⟩ => ?_)
  subst ev
  obtain rfl : u = Value.ref (He.ga X.K C) := r1
  refine PySem.W.callWith_K (h₀ := X.base) I1.ok.mod.kin D.mkr.kp (thn (ha.run pos pins s1 σ H1 _ I1 q1) fun us s2 ⟨vs, H2, I2, r, q⟩ => ⟨I2.kIn, ?_⟩) he hpl
  exact run_make D.mkr F (hr.mono hkj) hb .nil (passes_call tk hW) I2 r q
theorem clsx_mk {P : Program} {w : World} {K : PySem.W.Frag} {mg : Str → Option Value} {base : Heap} {C m qual : Str} {st : Stmt} {fd : FuncData} {dvs : List V} {kws : List (Str × V)} {N ps : List Str} {k : Nat} {sp : Sp} (F : FunD K m qual (defArgs st) (defBody st) (defScope st) dvs kws (gAd K "classmethod" C m) fd) (hb : Binds K fd ps [])
    (rd : ClX.CRead K (He.ga K C) (.type "type")) (cm : ClX.CMet K (He.ga K C) (.type "type") m (He.ma K (He.ga K C) m) (gAd K "classmethod" C m)) (S : FnScope N ps (defScope st)) (len : ∀ vs H Q E, sp vs H Q E → vs.length = ps.length)
    (body : ∀ (cdv : Value) (A : Around) (outer : List Env) (s : Shared) (H : Hp) (vs : List V) (Q : VK) (E : XK), Room k (A.deeper (envOfC qual (defScope st) s.heap.objs.size (gAd K "classmethod" C m) cdv)) → sp vs H Q E →
      (Takes (cxOf (L2.CX P w) P w K mg base N qual (defScope st) (gAd K "classmethod" C m) cdv A outer s H E) fun cls d _ H => E cls d H) →
      ∃ t, PSs (cxOf (L2.CX P w) P w K mg base N qual (defScope st) (gAd K "classmethod" C m) cdv A outer s H E) (defBody st) t ∧ t { nx := fun _ H' => Q .non H', rt := Q } (start N vs) H) : ClsX P w K mg base C m (k + 1) sp := by
  have F1 : FnOk P w K mg base (L2.CX P w) (k + 1) (gAd K "classmethod" C m) fd ps sp := FunD.ok F S len (fun cdv A outer s H vs Q E hr h => body cdv A outer s H vs Q E hr h (takes_of rfl rfl rfl rfl))
  refine ⟨FnR.imp (F1.raw hb .nil) fun vs H Q E h => ?_, rd, cm⟩
  rw [List.append_nil]
  exact h
end FF
/-! Fivefault, part 49: repr(x) by an own __repr__; x == y by an own __eq__; isinstance(x, C). -/
namespace FF
open PySem PySem.Spec PyProof.Rows L2
/-- repr(x) by an own __repr__ -/
def rReprO (C : Addr) (sp : Sp) (E : XK) : List V → Hp → VK → Prop := fun xs H Q => ∃ a dx fs, xs = [.ref a] ∧ H a = some (.ins C dx fs) ∧ sp [.ref a] H (fun v H' => ∃ z : Str, v = .str z ∧ Q (.str z) H') E
theorem call_reprO {X : Cx} {CX : CXT} {n : Nat} {C f : Addr} {fd : FuncData} {ps : List Str} {sp : Sp} {E : XK} (me : Meth X.K C "__repr__" f) (F : FnOk X.prog X.w X.K X.mg X.base CX n f fd ps sp) (hb : Binds X.K fd ps []) (hx : Passes CX X E) (hr : Room (n + 1) X.A) : CallR X (.builtin "repr") (rReprO C sp E) := by
  intro pins s σ H xs us Q I rv h
  obtain ⟨a, dx, fs, rfl, ha, hsp⟩ := h
  obtain ⟨u, rfl, ru⟩ := rv.one
  cases ru
  have sb : Sub X n X.A.in1 := Sub.in1 (⟨hr, rfl⟩ : Sub X (n + 1) X.A)
  obtain ⟨mA, J, _⟩ := ins_get I.hok ha
  obtain ⟨od, J, _⟩ := J.look
  refine PySem.Calls.call_function_entry PySem.F.kind_repr PySem.F.plain_repr PySem.F.entry_repr (PySem.F.args_repr1 _) ?_
  unfold Builtin.«repr»
  refine wpAny_bind (m := oneArg "repr" _) (wpAny_pure ?_)
  refine wpAny_bind (m := cRoomFor _ _) (wpAny_cRoomFor sb.room.units0 ?_)
  refine wpAny_bind (m := specialOf (.ref a) (Str.ofString "__repr__")) (wpAny_bind (J.type.here ((PySem.W.looks_findIn I.kIn me.at_).here ?_)))
  refine wpAny_bind (m := callSpecialIfBound? (.ref a) (Str.ofString "__repr__")) (PySem.W.ifBound_K I.kIn J me.at_ me.fn ?_)
  have e0 : Env0 X.prog X.w X.K X.mg X.base X.A.in1 X.stack s H := by
    have e := I.env0
    exact ⟨by rw [sb.fr]; exact e.frames, e.mod, e.bs, e.bsz, e.funs, e.frf, e.hok, e.bare⟩
  have hl := F.len _ _ _ _ hsp
  have r2 : Vals [V.ref a] [Value.ref a] := .cons rfl .nil
  refine wpAny_call (codeAny_mono (F.run X.A.in1 X.stack s H ⟨[.ref a], []⟩ [.ref a] [.ref a] _ E sb.room e0 (by
    have := hb s [.ref a] I.kIn (by simpa using hl)
    simpa using this) r2 hsp) fun r s' hq => ?_)
  cases r with
  | error e => exact hx pins σ H s e s' I hq
  | ok fl =>
    cases fl with
    | ret u =>
      obtain ⟨v, H', I', rv', z, rfl, q⟩ := I.after hq
      obtain ⟨t, rfl⟩ := rv'
      refine wpAny_bind (wpAny_isInstance (T := "str") (b := true) (typeIs_str _ _ _) isSubtype_str_str ?_)
      exact wpAny_pure ⟨_, rfl, .str z, H', I', ⟨_, rfl⟩, q⟩
    | next => exact False.elim hq
    | brk => exact False.elim hq
    | cont => exact False.elim hq
theorem call_reprD {X : Cx} {C : Str} {k j : Nat} {sp : Sp} (D : MethD X.prog X.w X.K X.mg X.base C "__repr__" k ["self"] sp) (hr : Room j X.A) (hkj : k + 1 ≤ j) : CallR X (.builtin "repr") (rReprO (He.ga X.K C) sp E0) := by
  obtain ⟨fd, F, hb⟩ := D.ex
  exact call_reprO D.me F hb pass0 (hr.mono hkj)
/-! ### isinstance(x, C), C a class of the text -/
def insCB (K : PySem.W.Frag) (C : Str) : Bool := isBlt (PySem.W.findIn K (.ref (He.ga K C)) "__class__") "object.__class__" && (isBlt (PySem.W.specialIn K (.builtin "object.__class__") "__get__") "getset_descriptor.__get__" &&
  (decide (PySem.W.takesIn K (.builtin "object.__class__") = some true) && (decide (PySem.W.mroIn K (He.ga K C) (.type "object") = some true) && (decide (PySem.W.kitOne K (.ref (He.ga K C)) (.ref (He.ga K C)) = some true) &&
  (decide (PySem.W.kitOne K (.type "list") (.ref (He.ga K C)) = some false) && decide (PySem.W.subIn K (.type "list") (.ref (He.ga K C)) = some false))))))
structure InsX (K : PySem.W.Frag) (C : Addr) : Prop where
  cl : Cls K C
  ha : PySem.W.findIn K (.ref C) "__class__" = some (some (.builtin "object.__class__"))
  hn : PySem.W.specialIn K (.builtin "object.__class__") "__get__" = some (some (.builtin "getset_descriptor.__get__"))
  htk : PySem.W.takesIn K (.builtin "object.__class__") = some true
  hm : PySem.W.mroIn K C (.type "object") = some true
  me : PySem.W.kitOne K (.ref C) (.ref C) = some true
  nl : PySem.W.kitOne K (.type "list") (.ref C) = some false
  sl : PySem.W.subIn K (.type "list") (.ref C) = some false
theorem insCB_ok {K : PySem.W.Frag} {C : Str} (cl : Cls K (He.ga K C)) (h : insCB K C = true) : InsX K (He.ga K C) := by
  obtain ⟨h1, h⟩ := He.ba h
  obtain ⟨h2, h⟩ := He.ba h
  obtain ⟨h3, h⟩ := He.ba h
  obtain ⟨h4, h⟩ := He.ba h
  obtain ⟨h5, h⟩ := He.ba h
  obtain ⟨h6, h7⟩ := He.ba h
  exact ⟨cl, isBlt_ok h1, isBlt_ok h2, of_decide_eq_true h3, of_decide_eq_true h4, of_decide_eq_true h5, of_decide_eq_true h6, of_decide_eq_true h7⟩
theorem InsX.ty {K : PySem.W.Frag} {C a dx : Addr} {H : Hp} {fs : List (Str × V)} (c : InsX K C) (h : H a = some (.ins C dx fs)) : TyX K H (.ref a) (.ref C) := .base (TyOf.ins h c.cl c.ha c.hn c.htk c.hm)
/-! ### == by an own __eq__ -/
def rEqO (C : Addr) (sp : Sp) (E : XK) : R2 := fun x y H Q => ∃ a dx fs b, x = .ref a ∧ y = .ref b ∧ H a = some (.ins C dx fs) ∧ ((∃ dy gs, H b = some (.ins C dy gs)) ∨ ∃ ys, H b = some (.lst ys)) ∧ sp [.ref a, .ref b] H (fun v H' => ∃ t, v = .bl t ∧ Q (.bl t) H') E
theorem op_eqO_ {X : Cx} {CX : CXT} {n : Nat} {C f : Addr} {fd : FuncData} {ps : List Str} {sp : Sp} {E : XK} (me : Meth X.K C "__eq__" f) (F : FnOk X.prog X.w X.K X.mg X.base CX n f fd ps sp) (hb : Binds X.K fd ps []) (hx : Passes CX X E) (c : InsX X.K C) (hr : Room n X.A) : OpR X (compareOp .Eq) (rEqO C sp E) := by
  intro pins s σ H x y v u Q I rx ry hq
  obtain ⟨a, dx, fs, b, rfl, rfl, ha, hy, hsp⟩ := hq
  cases rx
  cases ry
  show wpAny (model X.prog X.w) X.A (richCompare .Eq (.ref a) (.ref b)) (EP X pins σ Q) X.xe s
  have sb : Sub X n X.A := ⟨hr, rfl⟩
  obtain ⟨mA, J, _⟩ := ins_get I.hok ha
  obtain ⟨od, J, _⟩ := J.look
  obtain ⟨m, hF⟩ := I.fr
  have e0 : Env0 X.prog X.w X.K X.mg X.base X.A X.stack s H := by
    have e := I.env0
    exact ⟨by rw [sb.fr]; exact e.frames, e.mod, e.bs, e.bsz, e.funs, e.frf, e.hok, e.bare⟩
  have hl := F.len _ _ _ _ hsp
  have r2 : Vals [V.ref a, V.ref b] [Value.ref a, Value.ref b] := .cons rfl (.cons rfl .nil)
  have fin : wpAny (model X.prog X.w) X.A (call (.ref f) [.ref a, .ref b]) (PySem.W.CmpBack (EP X pins σ Q)) X.xe s := by
    refine wpAny_call (codeAny_mono (F.run X.A X.stack s H ⟨[.ref a, .ref b], []⟩ [.ref a, .ref b] [.ref a, .ref b] _ E sb.room e0 (by
      have := hb s [.ref a, .ref b] I.kIn (by simpa using hl)
      simpa using this) r2 hsp) fun r s' hq => ?_)
    cases r with
    | error e => exact hx pins σ H s e s' I hq
    | ok fl =>
      cases fl with
      | ret w =>
        obtain ⟨z, H', I', rz, t, rfl, q⟩ := I.after hq
        cases rz
        exact ⟨.bl t, H', I', rfl, q⟩
      | next => exact False.elim hq
      | brk => exact False.elim hq
      | cont => exact False.elim hq
  rcases hy with ⟨dy, gs, hy⟩ | ⟨ys, hy⟩
  · obtain ⟨mB, J', _⟩ := ins_get I.hok hy
    obtain ⟨od', J', _⟩ := J'.look
    exact PySem.W.cmp_K (op := .Eq) (tb := .ref C) sb.room.units0 hF I.ok.mod.kin J J'.type (by simp [PySem.W.notFirst]) me.at_ me.fn fin
  · obtain ⟨_, _, n', _, h1⟩ := (show ObjOk X.prog X.w H s.heap b (.lst ys) from I.hok b _ hy)
    refine PySem.W.cmp_K (op := .Eq) (tb := .type "list") sb.room.units0 hF I.ok.mod.kin J ?_ (by unfold PySem.W.notFirst; rw [c.sl]; simp) me.at_ me.fn fin
    exact (PySem.W.Looks.ld h1).andThen .now
theorem op_eqO {X : Cx} {C : Str} {k j : Nat} {sp : Sp} (D : MethD X.prog X.w X.K X.mg X.base C "__eq__" k ["self", "other"] sp) (c : InsX X.K (He.ga X.K C)) (hr : Room j X.A) (hkj : k ≤ j) : OpR X (compareOp .Eq) (rEqO (He.ga X.K C) sp E0) := by
  obtain ⟨fd, F, hb⟩ := D.ex
  exact op_eqO_ D.me F hb pass0 c (hr.mono hkj)
/-! ### C.m(k = v, ..), m a classmethod -/
theorem callWith_KWM {prog : Program} {w : World} {A : Around} {E : Value → Shared → Prop} {s : Shared} {K : PySem.W.Frag} {h₀ : Heap} {env : Env} {pos : Pos} {q g : Addr} {self : Value} {first : List Value} {Q : Value → Shared → Prop} {kws : List Keyword} (_X : K.In h₀) (hf : PySem.W.fnIn K g = true) (hall : (backToKw pos (keywordEach kws env)).all (·.1.isSome) = true)
    (h : wpAny (model prog w) A (evalAll ((backToKw pos (keywordEach kws env)).map (·.2))) (fun ks s₂ => PySem.W.MethP K q g self s₂.heap ∧ wpAny (model prog w) A (call (.ref q) (first ++ []) (((backToKw pos (keywordEach kws env)).filterMap (·.1)).zip ks)) Q E s₂) E s)
    (hplain : ((backTo pos (starEach [] env)).any (·.1) || (backToKw pos (keywordEach kws env)).any (·.1.isNone)) = false := by rfl) :
    wpAny (model prog w) A (callWith pos (.ref q) first (backTo pos (starEach [] env)) (backToKw pos (keywordEach kws env))) Q E s :=
  PySem.W.callWith_of hplain (PySem.W.keeps_M hf) (evalArgs_kw2_nil hall h)
def tClsKw (C : Addr) (n : Nat) (sp : Sp) (gV : List V → List V → List V) (E : XK) (tk : TA) : TE := fun σ H Q => tk σ H fun zs H2 => zs.length = n ∧ sp (gV [.ref C] zs) H2 Q E
theorem pe_clskwK {X : Cx} {CX : CXT} {k j : Nat} {C m : Str} {fd : FuncData} {ps ks : List Str} {sp : Sp} {E : XK} {p1 p2 pos : Pos} {kws : List Keyword} {tk : TA} {g : List Value → List Value → List Value} {gV : List V → List V → List V} {pl : Sem Bool}
    (K : PySem.W.Frag) (F : FnOk X.prog X.w X.K X.mg X.base CX k (gAd X.K "classmethod" C m) fd ps sp) (rd : ClX.CRead X.K (He.ga X.K C) (.type "type")) (cm : ClX.CMet X.K (He.ga X.K C) (.type "type") m (He.ma X.K (He.ga X.K C) m) (gAd X.K "classmethod" C m))
    (hm : X.mg C = some (.ref (He.ga X.K C))) (hr : Room j X.A) (hkj : k ≤ j) (hb : KBn X.K fd ps 1 ks g gV) (hx : Passes CX X E) (hkw : PK X kws tk) (hK : X.K = K := by rfl)
    (hg : Gl X C := by rfl) (hd : (C == ("__debug__" : Str)) = false := by decide)
    (hall : (backToKw pos (keywordEach kws X.env)).all (·.1.isSome) = true := by rfl) (hks : (backToKw pos (keywordEach kws X.env)).filterMap (·.1) = ks := by rfl)
    (hpl : ((backTo pos (starEach [] X.env)).any (·.1) || (backToKw pos (keywordEach kws X.env)).any (·.1.isNone)) = false := by rfl)
    (ht : eval (.Call (.Attribute (.Name C p1) m p2) [] kws pos) X.env = (do
      let ov ← eval (.Name C p1) X.env
      standAt p2.atName
      let (f, first) ← holding [ov] (getMethod ov m pl)
      callWith pos f first (backTo pos (starEach [] X.env)) (backToKw pos (keywordEach kws X.env))) := by rfl) :
    PE X (.Call (.Attribute (.Name C p1) m p2) [] kws pos) (tClsKw (He.ga K C) ks.length sp gV E tk) := by
  subst hK
  have hn : PE X (.Name C p1) (tC (.ref (He.ga X.K C))) := pe_gT hm hg hd
  refine ⟨fun pins s σ H Q I h => ?_⟩
  refine PySem.W.methodCall_KW (pl := pl) (thn (hn.run pins s σ H (fun x H1 => x = .ref (He.ga X.K C) ∧ tClsKw (He.ga X.K C) ks.length sp gV E tk σ H1 Q) I ⟨rfl, h⟩) fun u s1 ⟨x, H1, I1, rx, ex, q⟩ => ?_) ht
  subst ex
  obtain rfl : u = Value.ref (He.ga X.K C) := rx
  refine ClX.getmethcm_ok I1 rd cm fun s2 I2 => ?_
  refine callWith_KWM (first := []) (self := .ref (He.ga X.K C)) I.ok.mod.kin cm.fi hall ?_ hpl
  refine thn (hkw.run pos _ s2 σ H1 _ I2 q) fun ws s3 ⟨zs, H2, I3, rz, l2, q2⟩ => ⟨⟨ClX.pin_at I3, I3.kIn⟩, ?_⟩
  rw [hks]
  have z : wpAny (model X.prog X.w) X.A (call (.ref s1.heap.objs.size) [] (ks.zip ws)) (EP X ((s1.heap.objs.size, PySem.W.methodObj (.ref (gAd X.K "classmethod" C m)) (.ref (He.ga X.K C))) :: pins) σ Q) X.xe s3 := by
    refine wpAny_call (PySem.W.method_call (ClX.pin_at I3) ?_)
    have r2 := hb.rel (vs := [.ref (He.ga X.K C)]) (us := [.ref (He.ga X.K C)]) (.cons rfl .nil) rz
    refine codeAny_mono (F.run X.A X.stack s3 H2 ⟨[.ref (He.ga X.K C)], ks.zip ws⟩ (g [.ref (He.ga X.K C)] ws) (gV [.ref (He.ga X.K C)] zs) Q E (hr.mono hkj) I3.env0 (hb.to s3 [.ref (He.ga X.K C)] ws I3.kIn rfl (rz.length.symm.trans l2)) r2 q2) fun r s' hq => ?_
    cases r with
    | error e => exact hx _ σ H2 s3 e s' I3 hq
    | ok fl =>
      cases fl with
      | ret u => exact I3.after hq
      | next => exact False.elim hq
      | brk => exact False.elim hq
      | cont => exact False.elim hq
  exact thn z fun _ _ y => ClX.unpinE y
theorem clsx_of {P : Program} {w : World} {K : PySem.W.Frag} {mg : Str → Option Value} {base : Heap} {C m : Str} {fd : FuncData} {ps : List Str} {k : Nat} {sp : Sp} (F : FnOk P w K mg base (L2.CX P w) k (gAd K "classmethod" C m) fd ps sp) (hb : Binds K fd ps [])
    (rd : ClX.CRead K (He.ga K C) (.type "type")) (cm : ClX.CMet K (He.ga K C) (.type "type") m (He.ma K (He.ga K C) m) (gAd K "classmethod" C m)) : ClsX P w K mg base C m k sp := by
  refine ⟨FnR.imp (F.raw hb .nil) fun vs H Q E h => ?_, rd, cm⟩
  rw [List.append_nil]
  exact h
end FF
/-! Fivefault, part 50: sets of texts: {x for x in xs if ..}, set(list of texts), sorted(set of texts). -/
namespace FF
open PySem PySem.Spec PyProof.Rows L2
def keyT (e : Int × Value) : Str := match e.2 with
  | .str z _ => z
  | _ => Str.empty
def GoodT (w : World) (e : Int × Value) : Prop := ∃ z tk, e.2 = Value.str z tk ∧ e.1 = hashStr w z
/-- a set of texts stands at a: its members S, n of them; its table can be walked -/
def SetT (w : World) (h : Heap) (a : Addr) (S : Str → Bool) (n : Nat) : Prop :=
  ∃ o es ep t, h.get? a = some o ∧ o.ExactSet ∧ o.data = .set es ep t ∧ ((∀ e ∈ es.toList, GoodT w e) ∧ (es.toList.map keyT).Nodup ∧ ∀ k, S k = true ↔ k ∈ es.toList.map keyT) ∧
    es.size < scanBound ∧ t.fits es.size = true ∧ es.size = n ∧ Ris t.place.toList ∧ (w.params.followText "set-order" = true ∨ t.led = true)
section
variable {P : Program} {w : World} {h h' : Heap} {a : Addr} {S : Str → Bool} {n : Nat}
theorem SetT.at (R : SetT w h a S n) (k : ∀ o, h.get? a = some o → h'.get? a = some o) : SetT w h' a S n := by
  obtain ⟨o, es, ep, t, ho, r⟩ := R
  exact ⟨o, es, ep, t, k o ho, r⟩
theorem SetT.congr {S' : Str → Bool} (R : SetT w h a S n) (e : ∀ k, S' k = S k) : SetT w h a S' n := (funext e : S' = S) ▸ R
theorem goodT_elems {l : List (Int × Value)} (g : ∀ e ∈ l, GoodT w e) : ElemsOf (strKind P w) l := fun e he => by
  obtain ⟨z, tk, h1, h2⟩ := g e he
  exact ⟨⟨z, by rw [h1]; exact strKind_is P w z tk, h2⟩, by rw [h1] <;> rfl⟩
theorem goodT_is {e : Int × Value} (g : GoodT w e) (k : Str) : (strKind P w).is k e.2 = true ↔ keyT e = k := by
  obtain ⟨z, tk, h1, _⟩ := g
  unfold keyT
  rw [h1]
  exact ⟨fun q => (strKind P w).inj (.str z tk) z k (strKind_is P w z tk) q, fun q => by rw [← show z = k from q]; exact strKind_is P w z tk⟩
theorem goodT_mem {l : List (Int × Value)} (g : ∀ e ∈ l, GoodT w e) (k : Str) : k ∈ l.map keyT ↔ ∃ e ∈ l, (strKind P w).is k e.2 = true :=
  List.mem_map.trans ⟨fun ⟨e, he, q⟩ => ⟨e, he, (goodT_is (g e he) k).2 q⟩, fun ⟨e, he, q⟩ => ⟨e, he, (goodT_is (g e he) k).1 q⟩⟩
theorem SetT.setOf (R : SetT w h a S n) : h.SetOf (strKind P w) a S n := by
  obtain ⟨o, es, ep, t, ho, hx, hd, ⟨g, nd, hm⟩, hb, hf, hn, _⟩ := R
  exact ⟨o, es, ep, t, ho, hx, hd, goodT_elems g, fun k => (hm k).trans (goodT_mem g k), hb, hf, hn⟩
theorem setT_at {ho : h.get? a = some (emptySet w)} : SetT w h a (fun _ => false) 0 :=
  ⟨_, #[], 0, _, ho, ⟨rfl, rfl, rfl⟩, rfl, ⟨fun e he => by simp at he, by simp, fun k => by simp⟩, by decide, by rfl, rfl, List.Pairwise.nil, by
    show _ ∨ (!w.params.followText "set-order") = true
    cases w.params.followText "set-order"
    · exact .inr rfl
    · exact .inl rfl⟩
end
section
variable {P : Program} {w : World} {A : Around} {E : Value → Shared → Prop} {s : Shared} {a : Addr} {S : Str → Bool} {n : Nat}
/-- a member more, where it is laid -/
theorem setT_tail {g : Bool → Sem Unit} (hg : ∀ (b : Bool) (s₁ : Shared) (Q' : Unit → Shared → Prop), Q' () s₁ → wpAny (model P w) A (g b) Q' E s₁)
    {o : Obj} {es es1 : Array (Int × Value)} {ep : Nat} {t t2 : SetTable} {S' : Str → Bool} (ho : s.heap.get? a = some o) (hex : o.ExactSet) (hd : o.data = .set es ep t)
    (gm : (∀ e ∈ es1.toList, GoodT w e) ∧ (es1.toList.map keyT).Nodup ∧ ∀ k, S' k = true ↔ k ∈ es1.toList.map keyT)
    (hb1 : es1.size < scanBound) (hf2 : t2.fits es1.size = true) (hr : Ris t2.place.toList) (hl : w.params.followText "set-order" = true ∨ t2.led = true) {dm : Bool} {R : Option Bool → Shared → Prop}
    (hR : ∀ h', Heap.SameBut a s.heap h' → SetT w h' a S' es1.size → R (some true) { s with heap := h' }) :
    wpAny (model P w) A (do
        storeSet a es1 t2
        if (!dm && t2.tooFull) = true then do
            g (relayAll t2 es1 (SetTable.grown es1.size)).2.2
            storeSet a (relayAll t2 es1 (SetTable.grown es1.size)).1 (relayAll t2 es1 (SetTable.grown es1.size)).2.1
            pure (some true)
          else pure (some true)) R E s := by
  have one := store_at (es' := es1) (t' := t2) ho hd
  have b1 := Heap.SameBut.update s.heap a (Obj.putSet es1 t2)
  refine wpAny_bind (wpAny_storeSet_of ho hd ?_ (fits_of_scanBound hb1))
  split
  case isFalse => exact wpAny_pure (hR _ b1 ⟨_, es1, _, t2, one, hex, rfl, gm, hb1, hf2, rfl, hr, hl⟩)
  have pm := relayAll_perm t2 es1 (SetTable.grown es1.size)
  have f3 := relayAll_fits t2 es1 (SetTable.grown es1.size)
  have r3 := relayAll_ris t2 es1 (SetTable.grown es1.size)
  have l3 := relayAll_led t2 es1 (SetTable.grown es1.size)
  generalize relayAll t2 es1 (SetTable.grown es1.size) = Z at pm f3 r3 l3 ⊢
  obtain ⟨es2, t3, gave⟩ := Z
  dsimp only at pm f3 r3 l3 ⊢
  have sz : es2.size = es1.size := by rw [← Array.length_toList, pm.length_eq, Array.length_toList]
  have b2 : es2.size < scanBound := sz.symm ▸ hb1
  refine wpAny_bind (hg _ _ _ (wpAny_bind (wpAny_storeSet_of one rfl ?_ (fits_of_scanBound b2))))
  refine wpAny_pure (hR _ (b1.trans (Heap.SameBut.update _ a _)) ⟨_, es2, _, t3, store_at (es' := es2) (t' := t3) one rfl, hex, rfl, ?_, b2, f3, sz, r3, hl.imp id fun z => l3.trans z⟩)
  exact ⟨fun e he => gm.1 e (pm.mem_iff.mp he), (pm.map keyT).nodup_iff.mpr gm.2.1, fun k => (gm.2.2 k).trans (pm.map keyT).mem_iff.symm⟩
theorem setT_hashed {k : Str} {tk : Tok} {Q : Bool → Shared → Prop} (R : SetT w s.heap a S n) (room : n + 1 < scanBound)
    (hQ : ∀ h', Heap.SameBut a s.heap h' → SetT w h' a (fun j => S j || decide (j = k)) (if S k = true then n else n + 1) → Q (!S k) { s with heap := h' }) :
    wpAny (model P w) A (setAddHashed a (.str k tk) (hashStr w k)) Q E s := by
  obtain ⟨o, es, ep, t, ho, hex, hd, ⟨g, nd, hm⟩, hb, hf, hn, hr, hl⟩ := R
  have hsc : (Value.str k tk).scannable = true := rfl
  have hel : ElemsOf (strKind P w) es.toList := goodT_elems g
  unfold setAddHashed setAddHashedIn
  refine wpAny_holding (wpAny_bind (wpAny_setState_of ho hd hf ?_))
  dsimp only
  rw [byScan_of hsc hb hel]
  simp only [↓reduceIte]
  unfold setAddByScan
  refine wpAny_bind (wpAny_bind (wpAny_rule (wpAny_bind (wpAny_setScan_of (strKind_is P w k tk) ho hd hf hel ?_))))
  cases hfi : List.findIdx? (fun e => (strKind P w).is k e.2) es.toList with
  | some j =>
    dsimp only
    obtain ⟨hj, pj, _⟩ := List.findIdx?_eq_some_iff_getElem.mp hfi
    have hSk : S k = true := (hm k).2 ((goodT_mem (P := P) g k).2 ⟨es.toList[j], List.getElem_mem hj, pj⟩)
    have q := hQ s.heap (Heap.SameBut.refl a s.heap) ⟨o, es, ep, t, ho, hex, hd, ⟨g, nd, fun i => by
      rw [Bool.or_eq_true, decide_eq_true_eq, ← hm i]
      exact ⟨fun z => z.elim id (fun e => e ▸ hSk), .inl⟩⟩, hb, hf, by rw [if_pos hSk]; exact hn, hr, hl⟩
    rw [hSk] at q
    exact wpAny_pure (wpAny_pure q)
  | none =>
    dsimp only
    have hnk : k ∉ es.toList.map keyT := fun z => by
      obtain ⟨e, he, q⟩ := (goodT_mem (P := P) g k).1 z
      have c := List.findIdx?_eq_none_iff.mp hfi e he
      rw [q] at c
      cases c
    have hSk : S k = false := Bool.eq_false_iff.mpr fun q => hnk ((hm k).1 q)
    have way : ∀ (b : Bool) {s₁ : Shared} {Q' : Unit → Shared → Prop}, Q' () s₁ → wpAny (model P w) A (match b with | true => rule "set.scan.the-table-gave-way" | false => pure ()) Q' E s₁ :=
      fun b s₁ Q' q => by cases b <;> first | exact wpAny_pure q | exact wpAny_rule q
    have pm := layNew_perm t es (hashStr w k) (.str k tk)
    have f1 := layNew_fits t es (hashStr w k) (.str k tk)
    have r1 := layNew_ris t es (hashStr w k) (.str k tk) hr
    have l1 := layNew_led t es (hashStr w k) (.str k tk)
    generalize layNew t es (hashStr w k) (.str k tk) = Z at pm f1 r1 l1 ⊢
    obtain ⟨es1, t1, dm, gave⟩ := Z
    dsimp only at pm f1 r1 l1 ⊢
    rw [Array.toList_push] at pm
    have pc : es1.toList.Perm ((hashStr w k, Value.str k tk) :: es.toList) := pm.trans (List.perm_append_singleton _ _)
    have pk : (es1.toList.map keyT).Perm (k :: es.toList.map keyT) := pc.map keyT
    have gm : (∀ e ∈ es1.toList, GoodT w e) ∧ (es1.toList.map keyT).Nodup ∧ ∀ i, (S i || decide (i = k)) = true ↔ i ∈ es1.toList.map keyT := by
      refine ⟨fun e he => (List.mem_cons.mp (pc.mem_iff.mp he)).elim (fun z => by rw [z]; exact ⟨k, tk, rfl, rfl⟩) (g e), pk.nodup_iff.mpr (List.nodup_cons.mpr ⟨hnk, nd⟩), fun i => ?_⟩
      rw [Bool.or_eq_true, decide_eq_true_eq, hm i, pk.mem_iff, List.mem_cons]
      exact Or.comm
    have sz : es1.size = n + 1 := by rw [← Array.length_toList, pc.length_eq, List.length_cons, Array.length_toList, hn]
    have b1 : es1.size < scanBound := sz.symm ▸ room
    have led : w.params.followText "set-order" = true ∨ t1.led = true := hl.imp id fun z => l1.trans z
    have fin : ∀ h', Heap.SameBut a s.heap h' → SetT w h' a (fun j => S j || decide (j = k)) es1.size → Q true { s with heap := h' } := fun h' sb r => by
      have q := hQ h' sb
      rw [hSk] at q
      rw [sz] at r
      exact q r
    refine wpAny_bind (way _ ?_)
    split
    · refine wpAny_bind ?_
      rw [hashByValue_scannable 8 hsc]
      refine wpAny_pure (setT_tail ?_ ho hex hd gm b1 ?_ ?_ ?_ ?_)
      · intro b s₁ Q' q; cases b <;> first | exact wpAny_pure q | exact wpAny_rule q
      · first | (split <;> first | exact f1 | exact SetTable.fits_plain_off f1) | exact f1
      · first | (split <;> exact r1) | exact r1
      · first | (split <;> exact led) | exact led
      · intro h' sb r; dsimp only; exact wpAny_pure (fin h' sb r)
    · refine wpAny_bind (wpAny_pure ?_)
      simp only [↓reduceIte]
      refine setT_tail ?_ ho hex hd gm b1 f1 r1 led ?_
      · intro b s₁ Q' q; cases b <;> first | exact wpAny_pure q | exact wpAny_rule q
      · intro h' sb r; dsimp only; exact wpAny_pure (fin h' sb r)
theorem setT_add {k : Str} {tk : Tok} {Q : Value → Shared → Prop} (R : SetT w s.heap a S n) (room : n + 1 < scanBound)
    (hQ : ∀ h', Heap.SameBut a s.heap h' → SetT w h' a (fun j => S j || decide (j = k)) (if S k = true then n else n + 1) → Q .none { s with heap := h', toks := s.toks + 1 }) :
    wpAny (model P w) A (call (.builtin "set.add") [.ref a, .str k tk]) Q E s := by
  have hS : s.heap.SetOf (strKind P w) a S n := R.setOf
  refine wpAny_call_entry F.slot_set_add hS.typeIs F.entry_set_add ?_ (F.args_set_add_2 _ _)
  unfold Builtin.«set.add» Builtin.Frozenset.oneOther
  simp only [List.isEmpty_nil, bind_assoc]
  unfold Builtin.Frozenset.addrOf setAdd
  refine wpAny_bind (wpAny_pure ?_)
  try dsimp only
  refine wpAny_bind (wpAny_pure ?_)
  try dsimp only
  refine wpAny_bind (wpAny_holding (wpAny_bind ((strKind P w).pyHash (strKind_is P w k tk) ?_)))
  refine setT_hashed (s := { s with toks := s.toks + 1 }) R room fun h' sb r => ?_
  show wpAny _ _ (ret Value.none) _ _ _
  exact wpAny_pure ⟨_, rfl, hQ h' sb r⟩
end
end FF
/-! Fivefault, part 51: sets of texts over the layer. -/
namespace FF
open PySem PySem.Spec PyProof.Rows L2
/-- the set of texts at a -/
def SetTO (w : World) (a : Addr) (S : Str → Bool) (n : Nat) : HO := .ext fun h => SetT w h a S n
theorem setTO_new {w : World} {P : Program} {H : Hp} {h : Heap} {a : Addr} {S : Str → Bool} {n : Nat} (R : SetT w h a S n) : ObjOk P w H h a (SetTO w a S n) := by
  have ⟨o, _, _, _, ho, _⟩ := R
  exact ⟨R, ⟨o, ho⟩, fun h1 h2 p k => SetT.at p k⟩
theorem setTO_get {X : Cx} {pins : List (Addr × Obj)} {σ : L2.St} {H : Hp} {s : Shared} {a : Addr} {S : Str → Bool} {n : Nat} (I : Inv X pins σ H s) (ha : H a = some (SetTO X.w a S n)) : SetT X.w s.heap a S n := (I.hok a _ ha).1
def txtF (P : Program) (w : World) : SFam P w where
  κ := Str
  eq := fun a b => decide (a = b)
  ob := SetTO w
  val := V.str
  fresh := fun H h => setTO_new (setT_at (ho := Heap.get?_push_size _ rfl))
  add := by
    intro X pins σ H s D S n y u Q E hp hw I hD room hu k
    subst hp hw
    obtain ⟨tk, rfl⟩ := hu
    have R := setTO_get I hD
    refine setT_add R room fun h' sb new => ?_
    have he : ∃ u, h'.get? D = some u := by
      have ⟨o, _, _, _, ho, _⟩ := new
      exact ⟨o, ho⟩
    exact k _ (I.write (e := D) (t' := s.toks + 1) (by rw [hD]; trivial) (.inl rfl) (fun b u hb hu => (sb.2 b hb).trans hu) he (setTO_new new))
/-- sorted(s), s a set of texts -/
def rSortedT (w : World) : List V → Hp → VK → Prop := fun xs H Q => ∃ (a : Addr) (S : Str → Bool) (n : Nat), xs = [.ref a] ∧ H a = some (SetTO w a S n) ∧ ∀ ys p, ys.Nodup → (∀ k, k ∈ ys ↔ S k = true) → ys.length = n → sortedS ys = true → H p = none → Q (.ref p) (upd H p (.lst (ys.map V.str)))
theorem cr_sortedT {X : Cx} (calm : X.calm = true) : CallR X (.builtin "sorted") (rSortedT X.w) := by
  intro pins s σ H xs us Q I r h
  obtain ⟨a, S, n, rfl, ha, q⟩ := h
  obtain ⟨u, rfl, rx⟩ := vals1 r
  cases rx
  obtain ⟨o, es, ep, t, ho, hex, hd, ⟨g, nd, hm⟩, hb, hf, hn, hr, hl⟩ := setTO_get I ha
  refine Calls.call_function_entry PyProof.Rows.kind_sorted PyProof.Rows.plain_sorted PyProof.Rows.entry_sorted (PyProof.Rows.args_sorted1 _) ?_
  unfold Builtin.«sorted»
  refine wpAny_bind (m := checkCount "sorted" 1 1 _) (wpAny_pure ?_)
  refine wpAny_bind (collect_set (A := X.A.in1) (I.ok.hd calm) ⟨o, ho, hex.1, hd⟩ hf hb hr hl fun s1 vs k1 hz g1 o1 pm => ?_)
  have len : vs.length = n := by rw [pm.length_eq, List.length_map, Array.length_toList]; exact hn
  have line : n ≤ sizeLine := by rw [← hn]; exact fits_of_scanBound hb
  have hS : StrsAre vs (vs.map fun v => keyT (0, v)) := strs_at (by rw [List.length_map]) fun j v e => by
    obtain ⟨e1, he, q⟩ := List.mem_map.mp (pm.mem_iff.mp (List.mem_of_getElem? e))
    obtain ⟨z, tk, h1, _⟩ := g e1 he
    have ev : v = .str z tk := by rw [← q]; exact h1
    exact ⟨z, tk, by rw [List.getElem?_map, e, ev] <;> rfl, ev⟩
  have pk : (vs.map fun v => keyT (0, v)).Perm (es.toList.map keyT) := by
    have := pm.map fun v => keyT (0, v)
    rw [List.map_map] at this
    exact this
  have I1 : Inv X pins σ H s1 := I.call' (ch := []) o1 (Un.kept k1) (I.hok.kept k1) (by rw [g1]; exact I.bare) (fun _ z => nomatch z)
  refine wpAny_bind (wpAny_newList ?_ (by rw [len]; exact line))
  have new : (s1.heap.push (seqObj "list" vs.toArray 0)).get? s1.heap.objs.size = some (seqObj "list" vs.toArray 0) := Heap.get?_push_size _ rfl
  refine wpAny_bind (wpAny_holding (wpAny_call_entry PyProof.Rows.slot_list_sort ⟨_, new, rfl⟩ PyProof.Rows.entry_list_sort
    (list_sort_treeKSt strKind_oneLt (s := { s1 with heap := s1.heap.push (seqObj "list" vs.toArray 0) }) new hS.keysOf (fun v1 v2 rest e => keyKind_strs (by rw [← e]; exact hS)) (by rw [len]; exact line) fun st' hp hs _ => ⟨_, rfl, ?_⟩)
    (PyProof.Rows.args_list_sort _)))
  obtain ⟨ys, y1, y2, y3⟩ := sorted_out_str hS hp hs
  obtain ⟨e', he'⟩ := PyProof.Rows.sortedHeap_at (vs := vs) (out := (arrOf st').map (·.2)) new
  have ylen : ys.length = n := by rw [y2.length_eq, List.length_map, len]
  have size : (ys.map V.str).length ≤ sizeLine := by rw [List.length_map, ylen]; exact line
  have old : ∀ b o, s1.heap.get? b = some o → (sortedHeap (s1.heap.push (seqObj "list" vs.toArray 0)) s1.heap.objs.size vs ((arrOf st').map (·.2))).get? b = some o := fun b o e => by
    have hb := Heap.lt_size e
    rw [PyProof.Rows.sortedHeap_old (Nat.ne_of_lt hb) (by rw [size_push']; exact Nat.lt_succ_of_lt hb)]
    exact Heap.get?_push_of_some _ e
  have yk := y2.trans pk
  exact wpAny_pure ⟨_, rfl, .ref s1.heap.objs.size, upd H s1.heap.objs.size (.lst (ys.map V.str)), I1.laid (t' := s1.toks) old (Nat.le_refl _) ⟨size, ((arrOf st').map (·.2)).toList, e', vals_of_strs y1, by rw [Array.toArray_toList]; exact he'⟩, rfl, q ys _ (yk.nodup_iff.mpr nd) (fun k => by rw [yk.mem_iff, ← hm k]) ylen y3 (I1.hok.fresh (Nat.le_refl _))⟩
end FF
/-! Fivefault, part 52: set(xs), xs a list of texts. -/
namespace FF
open PySem PySem.Spec PyProof.Rows L2
section
variable {P : Program} {w : World} {A : Around} {E : Value → Shared → Prop} {s : Shared}
theorem setT_update {I : Addr} {fp wr : List Addr} {G : Array GenState → Array GenState → Prop} {n : Nat} {Pv : Nat → Value → Prop} {St : Nat → Shared → Prop} {R : Result → Shared → Prop}
    (W : WalksS P w A.in1 I fp wr G n Pv St) (D : Addr) (hD : D ∉ fp) (zs : List Str) (hn : n = zs.length) (hb : zs.length + 1 < scanBound) (hval : ∀ i v, Pv i v → ∃ z t, zs[i]? = some z ∧ v = .str z t) :
    ∀ (k i : Nat) (s : Shared), n - i = k → i ≤ n → St i s → (∃ c, c ≤ i ∧ SetT w s.heap D (fun j => decide (j ∈ zs.take i)) c) →
      (∀ s' c, Moved (D :: wr) G s s' → c ≤ n → SetT w s'.heap D (fun j => decide (j ∈ zs)) c → R (.ok (.ret .none)) s') →
      codeAny (model P w) A (.builtin "set.update.loop" ⟨[.ref D, .ref I], []⟩) R s := by
  have hw : D ∉ wr := fun h => hD (W.sub _ h)
  have sub : ∀ b ∈ wr, b ∈ D :: wr := fun b hb => List.mem_cons_of_mem _ hb
  intro k
  induction k with
  | zero =>
    intro i s hk hi hst ⟨c, hc, hS⟩ hR
    obtain rfl : i = n := by omega
    refine codeAny_builtin PyProof.Rows.F.entry_set_update_loop ?_
    rw [Around.under_plainId PyProof.Rows.F.plain_set_update_loop _]
    show wpAny _ A.in1 (pyNext (.ref I) >>= _) _ _ s
    refine wpAny_bind (W.done s _ _ hst fun s' hm => ?_)
    show wpAny _ A.in1 (ret Value.none) _ _ s'
    rw [List.take_of_length_le (by omega)] at hS
    exact wpAny_pure (hR s' c (hm.mono sub) hc (hS.at fun o e => hm.heap D o hw e))
  | succ k ih =>
    intro i s hk hi hst ⟨c, hc, hS⟩ hR
    have hlt : i < n := by omega
    refine codeAny_builtin PyProof.Rows.F.entry_set_update_loop ?_
    rw [Around.under_plainId PyProof.Rows.F.plain_set_update_loop _]
    show wpAny _ A.in1 (pyNext (.ref I) >>= _) _ _ s
    refine wpAny_bind (W.item i s _ _ hlt hst fun v s' hP hst' hm => ?_)
    obtain ⟨z, t, hz, rfl⟩ := hval i v hP
    have h1 : SetT w s'.heap D (fun j => decide (j ∈ zs.take i)) c := hS.at fun o e => hm.heap D o hw e
    show wpAny _ A.in1 (holding [Value.str z t] (setAdd D (.str z t)) >>= _) _ _ s'
    refine wpAny_bind (wpAny_holding ?_)
    unfold setAdd
    refine wpAny_holding (wpAny_bind ((strKind P w).pyHash (k := z) (strKind_is _ _ _ _) ?_))
    refine setT_hashed (s := { s' with toks := s'.toks + 1 }) h1 (by omega) fun h' sb h2 => ?_
    have h3 : SetT w h' D (fun j => decide (j ∈ zs.take (i + 1))) (if decide (z ∈ zs.take i) = true then c else c + 1) := h2.congr fun j => by
      rw [List.take_add_one, hz]
      simp [List.mem_append]
    have c3 : (if decide (z ∈ zs.take i) = true then c else c + 1) ≤ i + 1 := by split <;> omega
    refine wpAny_pure ⟨plainId_quiet PyProof.Rows.F.plain_set_update_loop _, ih (i + 1) _ (by omega) hlt (W.frame _ s' _ _ hst' (Nat.le_succ _) fun b hb o e => ?_) ⟨_, c3, h3⟩ fun s'' c2 m2 hc2 h4 => ?_⟩
    · rw [sb.2 b (fun h : b = D => hD (by rw [← h]; exact hb))]
      exact e
    · refine hR s'' c2 (Moved.trans W.gtrans ((hm.mono sub).then_heap (Nat.le_succ _) fun b o hb e => ?_) m2) hc2 h4
      rw [sb.2 b (fun h : b = D => hb (by rw [h]; exact List.mem_cons_self))]
      exact e
set_option maxRecDepth 100000 in
set_option maxHeartbeats 3200000 in
theorem call_set_strs {l : Addr} {items : Array Value} (zs : List Str) {Q : Value → Shared → Prop} (hh : A.handled = none) (hl : s.heap.IsList l items) (hit : StrsAre items.toList zs) (hb : zs.length + 1 < scanBound)
    (h : ∀ (h' : Heap) (tk c : Nat), SetT w h' s.heap.objs.size (fun j => decide (j ∈ zs)) c → c ≤ zs.length → (∀ b o, s.heap.get? b = some o → h'.get? b = some o) → Q (.ref s.heap.objs.size) { s with heap := h', toks := tk }) :
    wpAny (model P w) A (call (.type "set") [.ref l]) Q E s := by
  have isz : items.size = zs.length := by
    have q := StrsAre.length hit
    rw [Array.length_toList] at q
    exact q
  obtain ⟨c, tl, hmro⟩ := PySem.F.called_set.mro
  have hmade := PySem.F.called_set.made
  have hsub := PySem.F.called_set.sub
  refine wpAny_call (codeAny_of_tree ?_)
  show wpAny _ _ (callAny (.type "set") _) _ _ _
  refine wpAny_pure ⟨Code.quiet_builtin _ (by decide +kernel), codeAny_builtin PySem.F.entry_type_call ?_⟩
  rw [Around.under_plain (weight_type_call_type "set" [.ref l] []) rfl]
  have h1 := PySem.F.called_set.notType
  have h2 := PySem.F.called_set.canCreate
  have hct := PySem.F.typeCall_set_1 (.ref l)
  repeat (any_goals (first | assumption | wp_step))
  refine codeAny_mono (code_set_led1 (.ref l) (E := E) (Q₁ := fun obj s₁ => obj = .ref s.heap.objs.size ∧ s₁ = { s with heap := s.heap.push (emptySet w) }) ⟨rfl, rfl⟩) fun r s₁ hr => ?_
  cases r with
  | error e => exact hr
  | ok fl =>
    cases fl with
    | ret obj =>
      obtain ⟨rfl, rfl⟩ := hr
      have hS : (s.heap.push (emptySet w)).get? s.heap.objs.size = some (emptySet w) := Heap.get?_push_size _ rfl
      have hT : Shared.TypeIs { s with heap := s.heap.push (emptySet w) } (.ref s.heap.objs.size) "set" := ⟨_, hS, rfl⟩
      have hli := PySem.F.called_set.init.lookup
      have hbi := PySem.F.called_set.init.bind (.ref s.heap.objs.size)
      repeat (any_goals (first | assumption | wp_step))
      refine codeAny_mono (codeAny_call_builtin (R := wants (fun r s₂ => r = .none ∧ ∃ h' tk c, s₂ = { s with heap := h', toks := tk } ∧ SetT w h' s.heap.objs.size (fun j => decide (j ∈ zs)) c ∧ c ≤ zs.length ∧
          (∀ b o, s.heap.get? b = some o → h'.get? b = some o)) E) PySem.F.called_set.init.plain PySem.F.entry_set_init (check_set_init_1 hT ?_)) fun r₂ s₂ hr₂ => ?_
      · obtain ⟨ol, hol, hcl, nl, hdl⟩ := hl
        obtain ⟨ocls, odict, odata, oslots⟩ := ol
        simp only at hcl hdl
        subst hcl; subst hdl
        have hol' : (s.heap.push (emptySet w)).get? l = some { cls := .type "list", dict := odict, data := .seq items nl, slots := oslots } := Heap.get?_push_of_some _ hol
        have hsls := PySem.F.sub_list_set
        have hslf := PySem.F.sub_list_frozenset
        have hne : (Value.type "list" == Value.type "dict") = false := by decide
        have hl1 : (s.heap.push (emptySet w)).IsList l items := ⟨_, hol', rfl, nl, rfl⟩
        unfold Builtin.«set.__init__» noKeywords Builtin.Frozenset.updateFrom
        generalize hPI : pyIter = PI
        wp_walk
        subst hPI
        refine wpAny_pyIter_list hl1 ?_
        refine wpAny_bind (wpAny_runValue ?_)
        have lS : l < s.heap.objs.size := Heap.lt_size hol
        have hh3 : A.in1.in1.in1.handled = none := by simp [hh]
        have neI : l ≠ (s.heap.push (emptySet w)).objs.size := by
          rw [Heap.size_push]; exact Nat.ne_of_lt (Nat.lt_succ_of_lt lS)
        have sf : s.heap.objs.size ∉ [(s.heap.push (emptySet w)).objs.size, l] := by
          rw [Heap.size_push]; simp only [List.mem_cons, List.mem_singleton, List.not_mem_nil, or_false, not_or]
          exact ⟨Nat.ne_of_lt (Nat.lt_succ_self _), Nat.ne_of_gt lS⟩
        have hval : ∀ (i : Nat) (v : Value), items[i]? = some v → ∃ z t, zs[i]? = some z ∧ v = .str z t := fun i v hv => by
          obtain ⟨z, t, e1, e2⟩ := StrsAre.item hit i v (by rw [Array.getElem?_toList]; exact hv)
          exact ⟨z, t, e2, e1⟩
        refine setT_update ((Walks.list hh3 _ l neI items).toS) s.heap.objs.size sf zs isz hb hval (items.size - 0) 0 _ (by omega) (Nat.zero_le _)
          ⟨⟨_, Heap.get?_push_size _ rfl, rfl, rfl⟩, (hl1.push _)⟩ ?hS0 ?hR
        case hS0 =>
          have g : ((s.heap.push (emptySet w)).push { cls := .type "list_iterator", data := .fields #[.ref l, .int 0 0] }).get? s.heap.objs.size = some (emptySet w) := Heap.get?_push_of_some _ hS
          exact ⟨0, Nat.le_refl 0, (setT_at (ho := g)).congr fun j => by simp⟩
        case hR =>
          intro s' c' hm hc' hS'
          obtain ⟨h', g2, d', tk', os'⟩ := s'
          have eg : g2 = s.gens := hm.gens
          have ed : d' = s.drawn := hm.drawn
          have eo : os' = s.os := hm.os
          subst eg; subst ed; subst eo
          show wpAny _ _ _ _ _ _
          refine wpAny_pure ?_
          show wpAny _ _ (ret Value.none) _ _ _
          rw [isz] at hc'
          refine wpAny_pure ⟨rfl, h', tk', c', rfl, hS', hc', fun b o e => ?_⟩
          have hb0 : b < s.heap.objs.size := Heap.lt_size e
          have hb1 : b ≠ s.heap.objs.size := Nat.ne_of_lt hb0
          have hb2 : b ≠ (s.heap.push (emptySet w)).objs.size := by
            rw [Heap.size_push]; exact Nat.ne_of_lt (Nat.lt_succ_of_lt hb0)
          exact hm.heap b o (by simp only [List.mem_cons, List.mem_singleton, List.not_mem_nil, or_false, not_or]; exact ⟨hb1, hb2⟩) (Heap.get?_push_of_some _ (Heap.get?_push_of_some _ e))
      · cases r₂ with
        | error e => exact hr₂
        | ok fl₂ =>
          cases fl₂ with
          | ret r =>
            obtain ⟨rfl, h', tk, c', rfl, hS', hc', hk'⟩ := hr₂
            repeat (any_goals (first | assumption | wp_step))
            exact h _ _ _ hS' hc' hk'
          | _ => exact hr₂.elim
    | _ => exact hr.elim
end
/-- set(xs), xs a list of texts -/
def rSetS (K : PySem.W.Frag) (w : World) : List V → Hp → VK → Prop := fun xs H Q => ∃ (p : Addr) (zs : List Str), xs = [.ref p] ∧ SqL K H p (zs.map V.str) ∧ zs.length ≤ 1000 ∧ ∀ D n, H D = none → n ≤ zs.length → Q (.ref D) (upd H D (SetTO w D (fun j => decide (j ∈ zs)) n))
theorem cr_setS {X : Cx} (hc : X.calm = true) : CallR X (.type "set") (rSetS X.K X.w) := by
  intro pins s σ H xs us Q I r h
  obtain ⟨p, zs, rfl, hq, hl, q⟩ := h
  obtain ⟨u, rfl, r1⟩ := r.one
  cases r1
  obtain ⟨its, rv, pt, hz⟩ := I.list hq
  refine call_set_strs zs (I.ok.hd hc) pt.isList (strs_of_vals rv) (by unfold scanBound; omega) fun h' tk c R1 hcn k => ?_
  have hn : H s.heap.objs.size = none := I.hok.fresh (Nat.le_refl _)
  exact ⟨.ref _, upd H s.heap.objs.size (SetTO X.w s.heap.objs.size (fun j => decide (j ∈ zs)) c), I.laid (t' := tk) k (Nat.le_refl _) (setTO_new R1), rfl, q _ _ hn hcn⟩
end FF
/-! Fivefault, part 53: yield from xs, xs a list; max(xs, default = n). -/
namespace FF
open PySem PySem.Spec PyProof.Rows L2
section
variable {prog : Program} {w : World} {A : Around} {E : Value → Shared → Prop} {s : Shared}
theorem special_lst_item {it l : Addr} {i : Nat} {items : Array Value} {x : Value} {Q : Option Value → Shared → Prop} (ho : s.heap.get? it = some (GNX.itObj l i)) (hl : s.heap.IsList l items) (hx : items[i]? = some x)
    (hQ : ∀ h', h'.get? it = some (GNX.itObj l (i + 1)) → Heap.SameBut it s.heap h' → Q (some x) { s with heap := h' }) : wpAny (model prog w) A (callSpecial? (.ref it) "__next__") Q E s := by
  have hT : s.TypeIs (.ref it) "list_iterator" := ⟨_, ho, rfl⟩
  refine wpAny_callSpecial?_slot (name := Str.ofString "__next__") hT slot_listiter_next (wpAny_call_entry slot_listiter_next hT entry_listiter_next ?_ (args_listiter_next _))
  exact GNX.next_item (A := A.in1) ho hl hx fun h' e1 e2 => hQ h' e1 e2
theorem special_lst_end {it l : Addr} {i : Nat} {items : Array Value} {Q : Option Value → Shared → Prop} (hh : A.handled = none) (hio : s.heap.get? it = some (GNX.itObj l i)) (hl : s.heap.IsList l items) (hx : items[i]? = none)
    (hE : ∀ e h', StopX e h' → Heap.ExtBut it s.heap h' → E e { s with heap := h' }) : wpAny (model prog w) A (callSpecial? (.ref it) "__next__") Q E s := by
  have hT : s.TypeIs (.ref it) "list_iterator" := ⟨_, hio, rfl⟩
  obtain ⟨ol, hol, _, nl, hdl⟩ := hl
  refine wpAny_callSpecial?_slot (name := Str.ofString "__next__") hT slot_listiter_next (wpAny_call_entry slot_listiter_next hT entry_listiter_next ?_ (args_listiter_next _))
  show wpAny _ _ (field (.ref it) 0 >>= _) _ _ s
  refine wpAny_bind (wpAny_field hio rfl (x := .ref l) rfl ?_)
  show wpAny _ _ (if (Value.ref l == Value.none) = true then _ else _) _ _ s
  rw [if_neg (show ¬ ((Value.ref l == Value.none) = true) from Bool.false_ne_true)]
  show wpAny _ _ (field (.ref it) 1 >>= _) _ _ s
  refine wpAny_bind (wpAny_field hio rfl (x := .int i 0) rfl ?_)
  show wpAny _ _ (seqItems? (.ref l) >>= _) _ _ s
  refine wpAny_bind (wpAny_seqItems hol hdl ?_)
  simp only [Int.toNat_natCast, hx]
  refine wpAny_bind (wpAny_rule (wpAny_bind (wpAny_setField hio rfl (by simp) ?_)))
  show wpAny _ _ (newExc (.type "StopIteration") [] >>= _) _ _ _
  refine wpAny_bind ?_
  simp only [newExc, newTuple]
  refine wpAny_bind (wpAny_newObj_type ?_ (by size_fits))
  refine wpAny_bind (m := firstArgMember _ _) (wpAny_of_eq (a := Value.none) (by first | rfl | (simp only [firstArgMember]; rfl)) ?_)
  refine wpAny_newObj_type ?_ (by size_fits)
  simp only [raiseNew]
  refine wpAny_bind (wpAny_handled ?_)
  first | rw [show A.in1.handled = none from hh] | rw [hh]
  refine wpAny_bind (wpAny_pure (wpAny_throw ?_))
  refine hE _ _ ⟨_, _, _, rfl, Heap.get?_push_size _ rfl, rfl, rfl, ?_⟩ (((Heap.SameBut.update ..).extBut.push _).push _)
  first
    | rfl
    | (rw [Array.getElem?_append_left (by decide)]; rfl)
    | kernel_rfl
end
def tYfLst (K : PySem.W.Frag) (te : TE) : TYf := fun σ H Q => te σ H fun x H1 => ∃ a xs, x = .ref a ∧ H1 a = some (.lst xs) ∧ Q xs H1
theorem close_lst : typeLookup (.type "list_iterator") "close" = pure none := by rw [typeLookup_type, builtinLookup_eq_fast]; kernel_rfl
theorem yf_lst {X : Cx} {e : Expr} {te : TE} (he : PE X e te) : YfE X e (tYfLst X.K te) := by
  refine ⟨fun pins s σ H Q I h => ?_⟩
  refine thn (he.run pins s σ H _ I h) fun v s1 ⟨x, H1, I1, r1, a, xs, ex, ha, hq⟩ => ?_
  subst ex
  obtain rfl : v = Value.ref a := r1
  obtain ⟨its, rits, pl, hz⟩ := I1.list (SqL.of ha)
  have ht := pl.isList
  have alt : a < s1.heap.objs.size := by
    obtain ⟨o, ho, _⟩ := id ht
    exact Heap.lt_size ho
  refine ⟨"list", ht.typeIs, by decide, wpAny_pyIter_list ht ?_⟩
  have ksz : ∀ b o, s1.heap.get? b = some o → b ≠ s1.heap.objs.size := fun b o e => Nat.ne_of_lt (Heap.lt_size e)
  have kp : ∀ b o, s1.heap.get? b = some o → (s1.heap.push { cls := .type "list_iterator", data := .fields #[.ref a, .int 0 0] }).get? b = some o := fun b o e => Heap.get?_push_of_some _ e
  refine ⟨s1.heap.objs.size, H1, xs, fun j h => h.get? s1.heap.objs.size = some (GNX.itObj a j) ∧ h.IsList a its.toArray, rfl, I1.kept (t' := s1.toks) kp, .inr I1.sz, Nat.ne_of_gt I1.lt, fun y c hy => ?_, I1.hok.fresh (Nat.le_refl _), fun p hp => ?_,
    ⟨Heap.get?_push_size _ rfl, ht.push _⟩, ⟨⟨"list_iterator", fun j h q => ?_, close_lst, by decide⟩, fun j h h' q hk => ?_, fun A' j x s2 Q' E' hA hx q hQ => ?_, fun A' s2 Q' E' hA q hE => ?_⟩, hq⟩
  · obtain ⟨v, o, ho, _⟩ := I1.cell y c hy
    exact ksz c o ho
  · exact ksz p.1 _ (I1.pin p hp).1
  · exact ⟨_, q.1, rfl⟩
  · obtain ⟨q1, o2, ho2, r2⟩ := q
    exact ⟨hk _ _ (.inl rfl) q1, o2, hk _ o2 (.inr (by rw [ha]; exact fun z => by cases z)) ho2, r2⟩
  · obtain ⟨q1, q2⟩ := q
    obtain ⟨u, hu, ru⟩ := rits.get hx
    have hne : a ≠ s1.heap.objs.size := Nat.ne_of_lt alt
    refine special_lst_item q1 q2 (x := u) (by simpa using hu) fun h' q1' hs => hQ u h' s2.toks ru ⟨q1', ?_⟩ fun b o hb eb => hs.extBut b o hb eb
    obtain ⟨o2, ho2, r2⟩ := q2
    exact ⟨o2, hs.extBut a o2 hne ho2, r2⟩
  · obtain ⟨q1, q2⟩ := q
    have hnone : its.toArray[xs.length]? = none := by
      have e := rits.length
      have e2 : its[xs.length]? = none := List.getElem?_eq_none_iff.mpr (by omega)
      simpa using e2
    exact special_lst_end hA q1 q2 hnone fun e h' hS hk => hE e h' s2.toks hS fun b o hb eb => hk b o hb eb
/-! ### max(xs, default = n), xs a list of ints -/
def maxI (d : Int) : List Int → Int
  | [] => d
  | x :: xs => xs.foldl (fun a y => if a < y then y else a) x
def rMaxDef (K : PySem.W.Frag) : List V → List V → Hp → VK → Prop := fun xs zs H Q => ∃ (a : Addr) (ns : List Int) (d : Int), xs = [.ref a] ∧ zs = [.int d] ∧ SqL K H a (ns.map V.int) ∧ Q (.int (maxI d ns)) H
theorem holdInts {h : Heap} : ∀ {ns : List Int} {us : List Value}, Vals (ns.map V.int) us → PySem.W.HoldAll h us ns
  | [], _, .nil => ⟨_, .nil⟩
  | n :: ns, _, .cons r t => by
    obtain ⟨tk, rfl⟩ := r
    exact PySem.W.HoldAll.cons (PySem.W.holds_int n tk) (holdInts t)
theorem cr_maxDef {X : Cx} (hc : X.calm = true) (hr : Room 3 X.A) : CallRK X (.builtin "max") [Str.ofString "default"] (rMaxDef X.K) := by
  intro pins s σ H xs zs us ws Q I r rz h
  obtain ⟨a, ns, d, rfl, rfl, hs, q⟩ := h
  obtain rfl := Vals.ref1 r
  obtain ⟨w1, rfl, tk, rfl⟩ := vals1 rz
  obtain ⟨its, rv, pl, hz⟩ := I.list hs
  refine PySem.W.max_list_datum_default (α := Int) (xs := ns) (I.ok.hd hc) pl.isList (by rw [List.toList_toArray]; exact holdInts rv) ?_ (fun e h' tk hk => ?_) (fun y ys i v h' tk e hi hv hk => ?_)
  · have := hr.units
    show X.A.units + 1 + 0 < cLine
    omega
  · subst e
    exact ⟨.int d, H, I.kept hk, ⟨_, rfl⟩, q⟩
  · subst e
    obtain ⟨t, rfl⟩ := PySem.W.int_of_holds hv
    refine ⟨.int _, H, I.kept hk, ⟨_, rfl⟩, ?_⟩
    have em : PySem.W.maxOf y ys = maxI d (y :: ys) := by
      unfold PySem.W.maxOf maxI
      refine congrArg (fun f => List.foldl f y ys) (funext fun a => funext fun b => ?_)
      show (if decide (a < b) = true then b else a) = _
      by_cases h : a < b <;> simp [h]
    rw [em]
    exact q
end FF
/-! Fivefault, part 54: {x for x in xs if ..} over a list, texts. -/
namespace FF
open PySem PySem.Spec PyProof.Rows L2
theorem sc_lst {P : Program} {w : World} {K : PySem.W.Frag} {a : Addr} {xs : List V} {j : Nat} {tt : TT} {te : TE} {vs : List Nat} {σ : L2.St} {H1 : Hp} {Qd : Hp → Prop} {D : Addr} (f : Nat → Option Str) (hD : H1 D = none) (h : SqL K H1 a xs) (hz : xs.length + 1 < scanBound)
    (hw : ∀ x, wipe ((wipe σ vs).set j (some x)) vs = wipe σ vs)
    (step : ∀ i x H2, xs[i]? = some x → Same H1 H2 → ∀ Qb : Bool → Hp → Prop, (∀ H3, Same H2 H3 → Qb (f i).isSome H3) → tt ((wipe σ vs).set j (some x)) H2 Qb)
    (elem : ∀ i x z H2, xs[i]? = some x → f i = some z → Same H1 H2 → ∀ Q' : VK, (∀ H3, Same H2 H3 → Q' (.str z) H3) → te ((wipe σ vs).set j (some x)) H2 Q')
    (done : ∀ H2 S n, Same H1 H2 → H2 D = some (SetTO w D S n) → n ≤ xs.length → (∀ k, S k = true ↔ ∃ i, i < xs.length ∧ f i = some k) → Qd H2) :
    ∃ W : Nat → Nat → Hp → Prop, (∃ m, W 0 m (upd H1 D ((txtF P w).ob D (fun _ => false) 0))) ∧ ∀ i m H, W i m H →
      ((Itl K a).stop i H ∧ Qd H) ∨ ((Itl K a).go i H ∧ ∃ Nx : Hp → Prop, (∀ H', Nx H' → ∃ m', m' < m ∧ W (i + 1) m' H') ∧ ∀ x H', (Itl K a).yld i H x H' → gName j x (wipe σ vs) H' fun σ2 H2 => wipe σ2 vs = wipe σ vs ∧ tt σ2 H2 fun b H3 =>
        if b = true then te σ2 H3 fun y H4 => ∃ (k : (txtF P w).κ) (S : (txtF P w).κ → Bool) (n : Nat), y = (txtF P w).val k ∧ H4 D = some ((txtF P w).ob D S n) ∧ n + 1 < scanBound ∧ Nx (upd H4 D ((txtF P w).ob D ((txtF P w).put S k) (if S k = true then n else n + 1))) else Nx H3) := by
  let Pv : Nat → Hp → Prop := fun i H => Same H1 H ∧ ∃ (S : Str → Bool) (n : Nat), H D = some (SetTO w D S n) ∧ n ≤ i ∧ ∀ k, S k = true ↔ ∃ m, m < i ∧ f m = some k
  have wk : Walk (Itl K a) xs.length (Same H1) (YAt xs) := walkL_same h
  refine ⟨fun i m H => m = xs.length - i ∧ i ≤ xs.length ∧ Pv i H, ⟨xs.length, by simp, Nat.zero_le _, same_new hD _, fun _ => false, 0, upd_same, Nat.le_refl _, fun k => ⟨fun z => (by cases z), fun ⟨m, hm, _⟩ => absurd hm (Nat.not_lt_zero _)⟩⟩, ?_⟩
  rintro i m H ⟨rfl, hi, e, S, n, h2, h3, h4⟩
  by_cases hlt : i < xs.length
  · refine .inr ⟨wk.goes i H hlt e, Pv (i + 1), fun H' p' => ⟨xs.length - (i + 1), by omega, rfl, hlt, p'⟩, ?_⟩
    intro x H' hy
    obtain ⟨rfl, hx⟩ := wk.yields i H x H' hlt e hy
    refine ⟨hw x, step i x _ hx e _ fun H3 e3 => ?_⟩
    cases hf : f i with
    | none =>
      show if false = true then _ else Pv (i + 1) H3
      rw [if_neg (by decide)]
      refine ⟨e.trans e3, S, n, e3 _ _ h2, by omega, fun k => (h4 k).trans ⟨fun ⟨m, hm, q⟩ => ⟨m, by omega, q⟩, fun ⟨m, hm, q⟩ => ?_⟩⟩
      by_cases he : m = i
      · rw [he, hf] at q
        cases q
      · exact ⟨m, by omega, q⟩
    | some z =>
      show if true = true then _ else _
      rw [if_pos rfl]
      refine elem i x z _ hx hf (e.trans e3) _ fun H4 e4 => ?_
      have hd := e4 _ _ (e3 _ _ h2)
      refine ⟨z, S, n, rfl, hd, by omega, fun b o q => ?_, _, _, upd_same, ?_, fun k => ?_⟩
      · rw [upd_ne (ne_of_none q hD)]
        exact e4 _ _ (e3 _ _ (e _ _ q))
      · show (if S z = true then n else n + 1) ≤ i + 1
        split <;> omega
      · show (S k || decide (k = z)) = true ↔ _
        rw [Bool.or_eq_true, decide_eq_true_eq, h4 k]
        constructor
        · rintro (⟨m, hm, q⟩ | rfl)
          · exact ⟨m, by omega, q⟩
          · exact ⟨i, by omega, hf⟩
        · rintro ⟨m, hm, q⟩
          by_cases he : m = i
          · rw [he, hf] at q
            exact .inr (Option.some.inj q).symm
          · exact .inl ⟨m, by omega, q⟩
  · have hi2 : i = xs.length := by omega
    subst hi2
    exact .inl ⟨wk.stops H e, done H S n e h2 h3 h4⟩
end FF
/-! Fivefault, part 55: {e for a in xs for b in ys}. -/
namespace FF
open PySem PySem.Spec PyProof.Rows L2
section
variable {prog : Program} {w : World} {A : Around} {R : Result → Shared → Prop} {s : Shared} {el ga ia gb ib : Expr} {cs ds : List Expr} {scope : Scope} {pos : Pos} {it : Value} {D : Addr} {env : Env}
abbrev scE (el ga ia gb ib : Expr) (cs ds : List Expr) (scope : Scope) (pos : Pos) : Expr := .SetComp el [⟨ga, ia, cs, 0⟩, ⟨gb, ib, ds, 0⟩] scope pos
abbrev okS (A : Around) (prog : Program) (w : World) (env : Env) (R : Result → Shared → Prop) : Value → Shared → Prop := notedBy (model prog w) A env fun e s' => R (.error e) s'
abbrev testsS (cs : List Expr) (env : Env) : Sem Bool := forIn cs true fun c r => if r = true then do let ok ← isTrue c env (eval c env); pure (ForInStep.yield ok) else pure (ForInStep.yield r)
theorem sturn_out : compTurn (scE el ga ia gb ib cs ds scope pos) 0 it (.ref D) env = (do
      standAt ia.pos
      match ← pyNext it with
      | none => pure (.done .next)
      | some v =>
        letOwnedTupleGo ga it v
        assign ga env v
        let mut ok := true
        for c in cs do
          if ok then ok ← isTrue c env (eval c env)
        if ok then
          let x ← eval ib env
          standAt ib.pos
          let x ← foldedSetIterable ib env x
          let _ ← runOwn (.compStart (scE el ga ia gb ib cs ds scope pos) 1 (← holding [x] (pyIter x)) (.ref D) env) env
        again (.compLoop (scE el ga ia gb ib cs ds scope pos) 0 it (.ref D) env)) := by rfl
theorem sturn_in : compTurn (scE el ga ia gb ib cs ds scope pos) 1 it (.ref D) env = (do
      standAt ib.pos
      match ← pyNext it with
      | none => pure (.done .next)
      | some v =>
        letOwnedTupleGo gb it v
        assign gb env v
        let mut ok := true
        for c in ds do
          if ok then ok ← isTrue c env (eval c env)
        if ok then
          (do let v ← eval el env; standAt el.pos; let _ ← call (.builtin "set.add") [.ref D, v])
        again (.compLoop (scE el ga ia gb ib cs ds scope pos) 1 it (.ref D) env)) := by rfl
/-- the loop over the first source -/
theorem sloop_out (hs : ∀ x, foldedSetIterable ib env x = pure x) (J : Nat → Shared → Prop)
    (turn : ∀ n s, J n s → wpAny (model prog w) A (pyNext it) (fun r s₁ => match r with
      | none => R (.ok .next) s₁
      | some v => wpAny (model prog w) A (letOwnedTupleGo ga it v) (fun _ sa => wpAny (model prog w) A (assign ga env v) (fun _ sb => wpAny (model prog w) A (testsS cs env) (fun ok sc =>
          if ok = true then wpAny (model prog w) A (eval ib env) (fun x sd => wpAny (model prog w) A (pyIter x) (fun i2 se => codeAny (model prog w) A (.compStart (scE el ga ia gb ib cs ds scope pos) 1 i2 (.ref D) env) (fun r s' => match r with
            | .ok _ => ∃ m, m < n ∧ J m s'
            | .error _ => False) se) (okS A prog w env R) sd) (okS A prog w env R) sc
          else ∃ m, m < n ∧ J m sc) (okS A prog w env R) sb) (okS A prog w env R) sa) (okS A prog w env R) s₁) (okS A prog w env R) s)
    (n : Nat) (h : J n s) : codeAny (model prog w) A (.compLoop (scE el ga ia gb ib cs ds scope pos) 0 it (.ref D) env) R s := by
  refine codeAny_loop rfl J (fun n s hJ => ?_) n h
  show wpAny _ A ((compTurn (scE el ga ia gb ib cs ds scope pos) 0 it (.ref D) env).onRaise (fun x => do noteFrame x env; theTreesLotGoes x)) _ _ s
  refine wpAny_noted ?_
  rw [sturn_out]
  refine wpAny_bind (wpAny_standAt (wpAny_bind (wpAny_mono (turn n s hJ) (fun r sa ha => ?_) fun _ _ z => z)))
  match r, ha with
  | none, ha => exact wpAny_pure ha
  | some v, ha =>
    refine wpAny_bind (wpAny_mono ha (fun _ sb hb => wpAny_bind (wpAny_mono hb (fun _ sc hc => wpAny_bind (wpAny_mono hc (fun ok sd hd => ?_) fun _ _ z => z)) fun _ _ z => z)) fun _ _ z => z)
    match ok, hd with
    | false, hd => exact wpAny_pure ⟨rfl, hd⟩
    | true, hd =>
      refine wpAny_bind (wpAny_mono hd (fun x se he => wpAny_bind (wpAny_standAt (wpAny_bind (wpAny_of_eq (hs x) (wpAny_bind (wpAny_holding (wpAny_mono he (fun i2 sf hf => ?_) fun _ _ z => z))))))) fun _ _ z => z)
      refine wpAny_bind (wpAny_runOwn ?_)
      rw [Around.mark_none]
      refine codeAny_mono hf fun r s' hr => ?_
      match r, hr with
      | .ok f, hr =>
        first
          | exact wpAny_pure ⟨rfl, hr⟩
          | exact wpAny_bind (wpAny_pure (wpAny_pure ⟨rfl, hr⟩))
      | .error e, hr => exact hr.elim
/-- the loop over the second -/
theorem sloop_in (J : Nat → Shared → Prop)
    (turn : ∀ n s, J n s → wpAny (model prog w) A (pyNext it) (fun r s₁ => match r with
      | none => R (.ok .next) s₁
      | some v => wpAny (model prog w) A (letOwnedTupleGo gb it v) (fun _ sa => wpAny (model prog w) A (assign gb env v) (fun _ sb => wpAny (model prog w) A (testsS ds env) (fun ok sc =>
          if ok = true then wpAny (model prog w) A (eval el env) (fun kv sd => wpAny (model prog w) A (call (.builtin "set.add") [.ref D, kv]) (fun _ sf => ∃ m, m < n ∧ J m sf) (okS A prog w env R) sd) (okS A prog w env R) sc
          else ∃ m, m < n ∧ J m sc) (okS A prog w env R) sb) (okS A prog w env R) sa) (okS A prog w env R) s₁) (okS A prog w env R) s)
    (n : Nat) (h : J n s) : codeAny (model prog w) A (.compLoop (scE el ga ia gb ib cs ds scope pos) 1 it (.ref D) env) R s := by
  refine codeAny_loop rfl J (fun n s hJ => ?_) n h
  show wpAny _ A ((compTurn (scE el ga ia gb ib cs ds scope pos) 1 it (.ref D) env).onRaise (fun x => do noteFrame x env; theTreesLotGoes x)) _ _ s
  refine wpAny_noted ?_
  rw [sturn_in]
  refine wpAny_bind (wpAny_standAt (wpAny_bind (wpAny_mono (turn n s hJ) (fun r sa ha => ?_) fun _ _ z => z)))
  match r, ha with
  | none, ha => exact wpAny_pure ha
  | some v, ha =>
    refine wpAny_bind (wpAny_mono ha (fun _ sb hb => wpAny_bind (wpAny_mono hb (fun _ sc hc => wpAny_bind (wpAny_mono hc (fun ok sd hd => ?_) fun _ _ z => z)) fun _ _ z => z)) fun _ _ z => z)
    match ok, hd with
    | false, hd => exact wpAny_pure ⟨rfl, hd⟩
    | true, hd =>
      exact wpAny_bind (wpAny_bind (wpAny_mono hd (fun kv se he => wpAny_bind (wpAny_standAt (wpAny_bind (wpAny_mono he (fun _ sg hg => wpAny_pure (wpAny_pure ⟨rfl, hg⟩)) fun _ _ z => z)))) fun _ _ z => z))
theorem sstart_in (h0 : codeAny (model prog w) A (.compLoop (scE el ga ia gb ib cs ds scope pos) 1 it (.ref D) env) R s)
    (h : wpAny (model prog w) A (pyIter it) (fun i2 s' => codeAny (model prog w) A (.compLoop (scE el ga ia gb ib cs ds scope pos) 1 i2 (.ref D) env) R s') (okS A prog w env R) s) :
    codeAny (model prog w) A (.compStart (scE el ga ia gb ib cs ds scope pos) 1 it (.ref D) env) R s := by
  refine codeAny_of_tree ?_
  show wpAny _ _ ((compStart (scE el ga ia gb ib cs ds scope pos) 1 it (.ref D) env).onRaise (fun x => do noteFrame x env; standAt theWindowsPlace)) _ _ s
  refine wpAny_notedAt ?_
  unfold compStart
  show wpAny _ _ (ask >>= _) _ _ s
  refine wpAny_bind (wpAny_askSetting (wpAny_ite ?_))
  split
  · first
      | exact wpAny_bind (wpAny_pure (wpAny_pure (And.intro rfl h0)))
      | exact wpAny_pure (And.intro rfl h0)
  · first
      | exact wpAny_bind (wpAny_rule (wpAny_bind (wpAny_standAt (wpAny_bind (wpAny_mono h (fun i2 s' z => wpAny_pure (And.intro rfl z)) fun _ _ x => x)))))
      | (refine wpAny_bind (wpAny_rule ?_); show wpAny _ _ (standAt ib.pos >>= _) _ _ s; exact wpAny_bind (wpAny_standAt (wpAny_bind (wpAny_mono h (fun i2 s' z => wpAny_pure (And.intro rfl z)) fun _ _ x => x))))
end
/-- the inner loop of {e for a in xs for b in ys} -/
def tScIn {P : Program} {w : World} (F : SFam P w) (J : It) (g : TG) (tt : TT) (te : TE) (D : Addr) (vs : List Nat) (σ : L2.St) (H : Hp) (Nx : Hp → Prop) : Prop := ∃ W : Nat → Nat → Hp → Prop, (∃ m, W 0 m H) ∧ ∀ j k H, W j k H →
  (J.stop j H ∧ Nx H) ∨ (J.go j H ∧ ∃ N : Hp → Prop, (∀ H', N H' → ∃ k', k' < k ∧ W (j + 1) k' H') ∧ ∀ x H', J.yld j H x H' → g x (wipe σ vs) H' fun σ3 H5 => wipe σ3 vs = wipe σ vs ∧ tt σ3 H5 fun b H6 =>
    if b = true then te σ3 H6 fun y H8 => ∃ (k : F.κ) (S : F.κ → Bool) (n : Nat), y = F.val k ∧ H8 D = some (F.ob D S n) ∧ n + 1 < scanBound ∧ N (upd H8 D (F.ob D (F.put S k) (if S k = true then n else n + 1))) else N H6)
def tSc2 {P : Program} {w : World} (F : SFam P w) (wi : TI) (g : TG) (tt : TT) (wi1 : TI) (g1 : TG) (tt1 : TT) (te : TE) (vs vs1 : List Nat) : TE := fun σ H Q => wi σ H fun J H1 => ∀ D, H1 D = none → ∃ W : Nat → Nat → Hp → Prop, (∃ m, W 0 m (upd H1 D (F.ob D (fun _ => false) 0))) ∧ ∀ i m H, W i m H →
  (J.stop i H ∧ Q (.ref D) H) ∨ (J.go i H ∧ ∃ Nx : Hp → Prop, (∀ H', Nx H' → ∃ m', m' < m ∧ W (i + 1) m' H') ∧ ∀ x H', J.yld i H x H' → g x (wipe σ vs) H' fun σ2 H2 => wipe σ2 vs = wipe σ vs ∧ tt σ2 H2 fun b H3 =>
    if b = true then wi1 σ2 H3 fun J1 H4 => tScIn F J1 g1 tt1 te D vs1 σ2 H4 Nx else Nx H3)
theorem pe_sc2F {X : Cx} (F : SFam X.prog X.w) {el ga ia gb ib : Expr} {cs ds : List Expr} {scope : Scope} {own : List (Str × Nat)} {vs1 : List Nat} {pos : Pos} {wi wi1 : TI} {g g1 : TG} {tt tt1 : TT} {te : TE} (calm : X.calm = true) (nd : X.N.Nodup) (pia : PI X ga ia wi) (ok : BlkOk X.N X.env.scope scope own) (sub : ∀ i ∈ vs1, i ∈ own.map (·.2))
    (pga : InBlk X scope fun Y => PG Y ga g) (pta : InBlk X scope fun Y => PTs Y cs tt) (pib : InBlk X scope fun Y => PI Y gb ib wi1) (pgb : InBlk X scope fun Y => PG Y gb g1) (ptb : InBlk X scope fun Y => PTs Y ds tt1) (pel : InBlk X scope fun Y => PE Y el te)
    (fa : ∀ x, foldedSetIterable ia X.env x = pure x := by intro _; rfl) (fb : ∀ env x, foldedSetIterable ib env x = pure x := by intro _ _; rfl) : PE X (scE el ga ia gb ib cs ds scope pos) (tSc2 F wi g tt wi1 g1 tt1 te (own.map (·.2)) vs1) := by
  refine ⟨fun pins s σ H Q I h => ?_⟩
  show wpAny _ X.A (eval (.SetComp el [⟨ga, ia, cs, 0⟩, ⟨gb, ib, ds, 0⟩] scope pos) X.env) _ _ _
  rw [PpSet.eval_SetComp]
  have cells : ∀ y ∈ scope.names, y.2 = .free → ∃ c, X.env.cells.lookup y.1 = some c := fun y hy e => (ok.free y hy e).elim (fun k => I.ok.has _ (.inl k)) fun k => I.ok.has _ (.inr k)
  refine wpAny_comprehension_free rfl fa (closure_ok cells) ok.kind (fun y hy e => by rw [ok.uniq y hy, e]) (thn (pia.run pins s σ H _ I h) fun xv sa hx => thn hx fun itv sb hb => ?_)
  obtain ⟨it, fp, tn, J, H2, rfl, I2, T, t2, f2, q⟩ := hb
  refine PpSet.newSet_ok (newEnv_comp ?_)
  generalize hD : sb.heap.objs.size = D
  have freeD : H2 D = none := I2.hok.fresh (Nat.le_of_eq hD)
  obtain ⟨W, ⟨m0, w0⟩, turn⟩ := q D freeD
  generalize hs3 : ({ sb with heap := sb.heap.push (emptySet X.w) } : Shared) = s3
  have heap3 : s3.heap = sb.heap.push (emptySet X.w) := by rw [← hs3]
  generalize hO : F.ob D (fun _ => false) 0 = O at w0
  have I3 : Inv X pins σ (upd H2 D O) s3 := by
    rw [← hs3, ← hO]
    exact I2.laid (t' := sb.toks) (fun b o e => Heap.get?_push_of_some _ e) (Nat.le_of_eq hD) (by rw [← hD]; exact F.fresh _ _)
  have below : ∀ b ∈ fp, b < sb.heap.objs.size := fun b hb => let ⟨o, e, _⟩ := T.obj _ _ t2 b hb; Heap.lt_size e
  have f3 : ∀ b ∈ fp, FpOk X pins (upd H2 D O) b ∧ b < s3.heap.objs.size := fun b hb => by
    refine ⟨⟨?_, (f2 b hb).2⟩, by rw [heap3, Heap.size_push]; exact Nat.lt_succ_of_lt (below b hb)⟩
    rw [upd_ne (by rw [← hD]; exact Nat.ne_of_lt (below b hb))]
    exact (f2 b hb).1
  have t3 : tn 0 s3.heap := T.keep _ _ _ t2 fun b _ o e => by rw [heap3]; exact Heap.get?_push_of_some _ e
  have I4 := block_start I3 ok nd f3
  have off3 : ∀ b ∈ fp, (upd H2 D O) b = none := fun b hb => (f3 b hb).1.1
  show codeAny _ _ (.compStart (scE el ga ia gb ib cs ds scope pos) 0 (.ref it) (.ref D) (compEnvC scope (cellsFrom (s3.heap.objs.size + 1) scope.names (cloFrom X.env.cells scope.names [])) s3.heap.objs.size X.env)) (compPost (model X.prog X.w) X.A X.xe none (EP X pins σ Q) (.ref D) s3.heap.objs.size) { s3 with heap := pushCells (s3.heap.push { cls := .type "dict", data := .dict #[] }) scope.names }
  generalize hcl : cellsFrom (s3.heap.objs.size + 1) scope.names (cloFrom X.env.cells scope.names []) = cl at I4 ⊢
  have rga := pga s3 (upd H2 D O) s3.heap.objs.size cl fp
  have rta := pta s3 (upd H2 D O) s3.heap.objs.size cl fp
  have rib := pib s3 (upd H2 D O) s3.heap.objs.size cl fp
  have rgb := pgb s3 (upd H2 D O) s3.heap.objs.size cl fp
  have rtb := ptb s3 (upd H2 D O) s3.heap.objs.size cl fp
  have rel := pel s3 (upd H2 D O) s3.heap.objs.size cl fp
  have fbe := fb (compEnvC scope cl s3.heap.objs.size X.env)
  generalize hce : compEnvC scope cl s3.heap.objs.size X.env = ce at I4 rga rta rib rgb rtb rel fbe ⊢
  have loc : ce.locals = s3.heap.objs.size := by subst hce; rfl
  generalize hH3 : upd H2 D O = H3 at I3 I4 rga rta rib rgb rtb rel w0 off3 f3
  generalize hs4 : ({ s3 with heap := pushCells (s3.heap.push { cls := .type "dict", data := .dict #[] }) scope.names } : Shared) = s4 at I4 ⊢
  have t4 : tn 0 s4.heap := T.keep _ _ _ t3 fun b _ o e => by rw [← hs4]; exact pushCells_keeps _ _ _ _ (Heap.get?_push_of_some _ e)
  let B := X.blk s3 H3 scope ce fp
  have foot : ∀ {σ' : L2.St} {H' : Hp} {s' : Shared}, Inv B [] σ' H' s' → (∀ b ∈ fp, H' b = none) → ∀ b ∈ fp, FpOk B [] H' b := fun {σ' H' s'} I' hn b hb =>
    ⟨hn b hb, (I'.ok.exf b hb).1, I'.ok.exfs b hb, .inl hb, fun x c e => (I'.ok.exf b hb).2 x c e, fun p hp => absurd (show p ∈ ([] : List (Addr × Obj)) ++ [] from hp) (by simp)⟩
  let Sj : Nat → Shared → Prop := fun n s' => ∃ i H', Inv B [] (wipe σ (own.map (·.2))) H' s' ∧ tn i s'.heap ∧ (∀ b ∈ fp, H' b = none) ∧ W i n H'
  have loop := sloop_out (prog := X.prog) (w := X.w) (A := X.A) (it := .ref it) (D := D) (el := el) (ga := ga) (ia := ia) (gb := gb) (cs := cs) (ds := ds) (scope := scope) (pos := pos) (R := compPost (model X.prog X.w) X.A X.xe none (EP X pins σ Q) (.ref D) s3.heap.objs.size) fbe Sj (fun n s5 hs5 => ?_) m0 (show Sj m0 s4 from ⟨0, H3, I4, t4, off3, w0⟩)
  · exact PpSet.codeAny_compStart_set loop (T.self X.A 0 _ _ _ t4 loop)
  obtain ⟨i, H5, I5, t5, n5, w5⟩ := hs5
  rcases turn i n H5 w5 with ⟨stop, qq⟩ | ⟨go, Nx, hNx, step⟩
  · refine thnF (T.done B rfl rfl rfl calm i [] s5 _ H5 (fun _ _ => False) I5 (foot I5 n5) t5 stop) fun r s6 ⟨hr, I6⟩ => ?_
    subst hr
    have I7 : Inv X pins σ H5 s6 := I3.call' (ch := fp) I6.os I6.base I6.hok I6.bare fun b hb => ⟨(f3 b hb).1.2.2.2.1, (f3 b hb).1.2.1, (f3 b hb).1.2.2.2.2.1, (f3 b hb).1.2.2.2.2.2⟩
    have freeC : H5 s3.heap.objs.size = none := loc ▸ (show H5 ce.locals = none from I6.free)
    obtain ⟨m, hn, _⟩ := I6.loc
    have hn : s6.heap.Ns s3.heap.objs.size m := loc ▸ (show s6.heap.Ns ce.locals m from hn)
    obtain ⟨k0, k1, k2, k3, k4, k5⟩ := I3.fpOk (Nat.le_refl _) freeC
    exact ⟨m, hn, fun h'' same => ⟨.ref D, H5, I7.turned (t' := s6.toks) (fun b o hb e => (same.2 b hb).trans e) k0 k1 k3 k4 k5, rfl, qq⟩⟩
  refine thnF (T.item B rfl rfl rfl calm i [] s5 _ H5 (fun _ _ => False) I5 (foot I5 n5) t5 go) fun r s6 ⟨u, hr, h6⟩ => ?_
  subst hr
  refine thnF h6 fun _ s7 ⟨x, H7, I7, r7, y7, t7, n7⟩ => ?_
  refine thnF (rga.run _ s7 _ H7 x u _ (I7.pinned (foot I7 n7) (T.obj _ _ t7)) r7 (step x H7 y7)) fun _ s8 ⟨σ8, H8, I8, hw8, q8⟩ => ?_
  refine thnF (rta.run _ s8 σ8 H8 _ I8 q8) fun b s9 ⟨H9, I9, q9⟩ => ?_
  have turnEnd : ∀ {σ9 : L2.St} {s' : Shared} {H' : Hp}, Inv B ([] ++ pinsAt fp s7.heap) σ9 H' s' → (wipe σ (own.map (·.2))).length = σ9.length → (∀ (j : Nat) v, (wipe σ (own.map (·.2)))[j]? = some (some v) → σ9[j]? = some (some v)) → Nx H' → ∃ m, m < n ∧ Sj m s' := fun {σ9 s' H'} I' hl hk nx => by
    obtain ⟨m', hm, w'⟩ := hNx H' nx
    have stays : ∀ b ∈ fp, ∀ o, s7.heap.get? b = some o → s'.heap.get? b = some o ∧ H' b = none := fun b hb o e =>
      let z := I'.pin (b, o) (List.mem_append_right _ (List.mem_append_right _ (mem_pinsAt hb e)))
      ⟨z.1, z.2.1⟩
    exact ⟨m', hm, i + 1, H', (I'.unpinned (pins := [])).weak hl hk, T.keep _ _ _ t7 fun b hb o e => (stays b hb o e).1, fun b hb => let ⟨o, e, _⟩ := T.obj _ _ t7 b hb; (stays b hb o e).2, w'⟩
  have len8 : (wipe σ (own.map (·.2))).length = σ8.length := by rw [← hw8, wipe_length]
  have keep8 : ∀ (j : Nat) v, (wipe σ (own.map (·.2)))[j]? = some (some v) → σ8[j]? = some (some v) ∧ j ∉ own.map (·.2) := fun j v e => by
    rw [← hw8] at e
    exact wipe_some e
  cases b with
  | false => exact turnEnd I9 len8 (fun j v e => (keep8 j v e).1) (by simpa using q9)
  | true =>
  simp only [if_true] at q9 ⊢
  refine thnF (rib.run _ s9 σ8 H9 _ I9 q9) fun yv s10 hy => thnF hy fun itv s11 h11 => ?_
  obtain ⟨i1, fp1, tn1, J1, H11, rfl, I11, T1, t11, f11, W1, ⟨m1, w1⟩, turn1⟩ := h11
  have foot1 : ∀ {H' : Hp}, (∀ b ∈ fp1, H' b = none) → ∀ b ∈ fp1, FpOk B ([] ++ pinsAt fp s7.heap) H' b := fun hn b hb => ⟨hn b hb, (f11 b hb).2⟩
  let Sk : Nat → Shared → Prop := fun k s' => ∃ j H', Inv B ([] ++ pinsAt fp s7.heap) (wipe σ8 vs1) H' s' ∧ tn1 j s'.heap ∧ (∀ b ∈ fp1, H' b = none) ∧ W1 j k H'
  have loop1 := sloop_in (prog := X.prog) (w := X.w) (A := X.A) (env := ce) (it := .ref i1) (D := D) (el := el) (ga := ga) (ia := ia) (gb := gb) (ib := ib) (cs := cs) (ds := ds) (scope := scope) (pos := pos) (R := fun r s' => match r with
    | .ok _ => ∃ m, m < n ∧ Sj m s'
    | .error _ => False) Sk (fun k s12 hs12 => ?_) m1 (show Sk m1 s11 from ⟨0, H11, I11.weak (wipe_length _ _) (fun j v e => (wipe_some e).1), t11, fun b hb => (f11 b hb).1, w1⟩)
  · exact sstart_in loop1 (T1.self X.A 0 _ _ _ t11 loop1)
  obtain ⟨j, H12, I12, t12, n12, w12⟩ := hs12
  rcases turn1 j k H12 w12 with ⟨stop1, nx1⟩ | ⟨go1, N1, hN1, step1⟩
  · refine thnF (T1.done B rfl rfl rfl calm j _ s12 (wipe σ8 vs1) H12 (fun _ _ => False) I12 (foot1 n12) t12 stop1) fun r s13 ⟨hr, I13⟩ => ?_
    subst hr
    refine turnEnd I13 (len8.trans (wipe_length σ8 vs1).symm) (fun j v e => ?_) nx1
    obtain ⟨e1, e2⟩ := keep8 j v e
    rw [wipe_out fun z => e2 (sub j z)]
    exact e1
  refine thnF (T1.item B rfl rfl rfl calm j _ s12 (wipe σ8 vs1) H12 (fun _ _ => False) I12 (foot1 n12) t12 go1) fun r s13 ⟨u1, hr, h13⟩ => ?_
  subst hr
  refine thnF h13 fun _ s14 ⟨x1, H14, I14, r14, y14, t14, n14⟩ => ?_
  refine thnF (rgb.run _ s14 (wipe σ8 vs1) H14 x1 u1 _ (I14.pinned (foot1 n14) (T1.obj _ _ t14)) r14 (step1 x1 H14 y14)) fun _ s15 ⟨σ15, H15, I15, hw15, q15⟩ => ?_
  refine thnF (rtb.run _ s15 σ15 H15 _ I15 q15) fun b1 s16 ⟨H16, I16, q16⟩ => ?_
  have innerEnd : ∀ {s' : Shared} {H' : Hp}, Inv B (([] ++ pinsAt fp s7.heap) ++ pinsAt fp1 s14.heap) σ15 H' s' → N1 H' → ∃ m, m < k ∧ Sk m s' := fun {s' H'} I' nx => by
    obtain ⟨m', hm, w'⟩ := hN1 H' nx
    have stays : ∀ b ∈ fp1, ∀ o, s14.heap.get? b = some o → s'.heap.get? b = some o ∧ H' b = none := fun b hb o e =>
      let z := I'.pin (b, o) (List.mem_append_right _ (List.mem_append_right _ (mem_pinsAt hb e)))
      ⟨z.1, z.2.1⟩
    exact ⟨m', hm, j + 1, H', I'.unpinned.weak (by rw [← hw15, wipe_length]) (fun j v e => by rw [← hw15] at e; exact (wipe_some e).1), T1.keep _ _ _ t14 fun b hb o e => (stays b hb o e).1, fun b hb => let ⟨o, e, _⟩ := T1.obj _ _ t14 b hb; (stays b hb o e).2, w'⟩
  cases b1 with
  | false => exact innerEnd I16 (by simpa using q16)
  | true =>
  simp only [if_true] at q16 ⊢
  refine thnF (rel.run _ s16 σ15 H16 _ I16 q16) fun z s18 ⟨yv2, H18, I18, r18, k0, S0, n0, ey, hD18, hz18, nx⟩ => ?_
  subst ey
  exact F.add B _ σ15 H18 s18 D S0 n0 k0 z _ _ rfl rfl I18 hD18 hz18 r18 fun s19 I19 => innerEnd I19 nx
end FF
/-! Fivefault, part 56: {z for x in xs for z in f(x)} over lists, texts. -/
namespace FF
open PySem PySem.Spec PyProof.Rows L2
theorem sql_set {w : World} {K : PySem.W.Frag} {H : Hp} {a D : Addr} {S : Str → Bool} {n : Nat} {xs : List V} {o : HO} (hD : H D = some (SetTO w D S n)) (h : SqL K H a xs) : SqL K (upd H D o) a xs := by
  rcases h with (h | ⟨ob, h⟩) | h
  · exact .inl (.inl ((upd_ne (fun z => by rw [z, hD] at h; cases h)).trans h))
  · exact .inl (.inr ⟨ob, (upd_ne (fun z => by rw [z, hD] at h; cases h)).trans h⟩)
  · exact .inr h
def totL (f : Nat → List Str) (i : Nat) : Nat := ((List.range i).map fun m => (f m).length).sum
theorem tot_succ (f : Nat → List Str) (i : Nat) : totL f (i + 1) = totL f i + (f i).length := by
  unfold totL
  rw [List.range_succ, List.map_append, List.sum_append, List.map_singleton, List.sum_singleton]
theorem tot_mono (f : Nat → List Str) {i j : Nat} (h : i ≤ j) : totL f i ≤ totL f j := by
  induction j with
  | zero => rw [Nat.le_zero.mp h]; exact Nat.le_refl _
  | succ j ih =>
    by_cases e : i = j + 1
    · rw [e]; exact Nat.le_refl _
    · rw [tot_succ]
      have := ih (by omega)
      omega
theorem sc2_lst {P : Program} {w : World} {K : PySem.W.Frag} {a : Addr} {xs : List V} {j j2 : Nat} {wi1 : TI} {vs vs1 : List Nat} {σ : L2.St} {H1 : Hp} {Qd : Hp → Prop} {D : Addr} (f : Nat → List Str) (hD : H1 D = none) (h : SqL K H1 a xs) (hz : totL f xs.length + 1 < scanBound)
    (hw : ∀ x, wipe ((wipe σ vs).set j (some x)) vs = wipe σ vs)
    (hw1 : ∀ x z, wipe ((wipe ((wipe σ vs).set j (some x)) vs1).set j2 (some z)) vs1 = wipe ((wipe σ vs).set j (some x)) vs1)
    (hv1 : ∀ x z, ((wipe ((wipe σ vs).set j (some x)) vs1).set j2 (some z))[j2]? = some (some z))
    (step : ∀ i x H2 (G : It → Hp → Prop), xs[i]? = some x → Same H1 H2 → (∀ b H4, Same H2 H4 → SqL K H4 b ((f i).map V.str) → G (Itl K b) H4) → wi1 ((wipe σ vs).set j (some x)) H2 G)
    (done : ∀ H2 S n, Same H1 H2 → H2 D = some (SetTO w D S n) → n ≤ totL f xs.length → (∀ k, S k = true ↔ ∃ i, i < xs.length ∧ k ∈ f i) → Qd H2) :
    ∃ W : Nat → Nat → Hp → Prop, (∃ m, W 0 m (upd H1 D ((txtF P w).ob D (fun _ => false) 0))) ∧ ∀ i m H, W i m H →
      ((Itl K a).stop i H ∧ Qd H) ∨ ((Itl K a).go i H ∧ ∃ Nx : Hp → Prop, (∀ H', Nx H' → ∃ m', m' < m ∧ W (i + 1) m' H') ∧ ∀ x H', (Itl K a).yld i H x H' → gName j x (wipe σ vs) H' fun σ2 H2 => wipe σ2 vs = wipe σ vs ∧ tYes σ2 H2 fun b H3 =>
        if b = true then wi1 σ2 H3 fun J1 H4 => tScIn (txtF P w) J1 (gName j2) tYes (tVar j2) D vs1 σ2 H4 Nx else Nx H3) := by
  let Pv : Nat → Hp → Prop := fun i H => Same H1 H ∧ ∃ (S : Str → Bool) (n : Nat), H D = some (SetTO w D S n) ∧ n ≤ totL f i ∧ ∀ k, S k = true ↔ ∃ m, m < i ∧ k ∈ f m
  have wk : Walk (Itl K a) xs.length (Same H1) (YAt xs) := walkL_same h
  refine ⟨fun i m H => m = xs.length - i ∧ i ≤ xs.length ∧ Pv i H, ⟨xs.length, by simp, Nat.zero_le _, same_new hD _, fun _ => false, 0, upd_same, Nat.zero_le _, fun k => ⟨fun z => (by cases z), fun ⟨m, hm, _⟩ => absurd hm (Nat.not_lt_zero _)⟩⟩, ?_⟩
  rintro i m H ⟨rfl, hi, e, S, n, h2, h3, h4⟩
  by_cases hlt : i < xs.length
  · refine .inr ⟨wk.goes i H hlt e, Pv (i + 1), fun H' p' => ⟨xs.length - (i + 1), by omega, rfl, hlt, p'⟩, ?_⟩
    intro x H' hy
    obtain ⟨rfl, hx⟩ := wk.yields i H x H' hlt e hy
    refine ⟨hw x, ?_⟩
    show wi1 _ _ _
    refine step i x _ _ hx e fun b H4 e4 hb => ?_
    have hd := e4 _ _ h2
    have tl : totL f (i + 1) ≤ totL f xs.length := tot_mono f (by omega)
    rw [tot_succ] at tl
    let Pw : Nat → Hp → Prop := fun l H => Same H1 H ∧ SqL K H b ((f i).map V.str) ∧ ∃ (S2 : Str → Bool) (n2 : Nat), H D = some (SetTO w D S2 n2) ∧ n2 ≤ totL f i + l ∧ ∀ k, S2 k = true ↔ ((∃ m, m < i ∧ k ∈ f m) ∨ k ∈ (f i).take l)
    refine ⟨fun l k H => k = (f i).length - l ∧ l ≤ (f i).length ∧ Pw l H, ⟨(f i).length, by simp, Nat.zero_le _, e.trans e4, hb, S, n, hd, by omega, fun k => (h4 k).trans ⟨.inl, fun q => q.elim id fun z => by simp at z⟩⟩, ?_⟩
    rintro l k H5 ⟨rfl, hl, e5, hb5, S2, n2, hd5, hn5, hS5⟩
    have wk2 := walk_list (K := K) (a := b) (xs := (f i).map V.str)
    rw [List.length_map] at wk2
    by_cases hlt2 : l < (f i).length
    · refine .inr ⟨wk2.goes l H5 hlt2 hb5, Pw (l + 1), fun H' p' => ⟨(f i).length - (l + 1), by omega, rfl, hlt2, p'⟩, ?_⟩
      intro y H6 hy6
      obtain ⟨rfl, hy7⟩ := wk2.yields l H5 y H6 hlt2 hb5 hy6
      obtain ⟨z, hz2, rfl⟩ : ∃ z, (f i)[l]? = some z ∧ V.str z = y := by
        rw [List.getElem?_map] at hy7
        cases hq : (f i)[l]? with
        | none => rw [hq] at hy7; cases hy7
        | some z => rw [hq] at hy7; cases hy7; exact ⟨z, rfl, rfl⟩
      refine ⟨hw1 x _, ?_⟩
      refine ⟨_, hv1 x _, z, S2, n2, rfl, hd5, by omega, same_at hD e5, sql_set hd5 hb5, (fun q => S2 q || decide (q = z)), (if S2 z = true then n2 else n2 + 1), upd_same, ?_, fun k => ?_⟩
      · show (if S2 z = true then n2 else n2 + 1) ≤ _
        split <;> omega
      · show (S2 k || decide (k = z)) = true ↔ _
        have ht : (f i).take (l + 1) = (f i).take l ++ [z] := by rw [List.take_add_one, hz2] <;> rfl
        rw [Bool.or_eq_true, decide_eq_true_eq, hS5 k, ht, List.mem_append, List.mem_singleton, or_assoc]
    · have hl2 : l = (f i).length := by omega
      subst hl2
      refine .inl ⟨wk2.stops H5 hb5, e5, S2, n2, hd5, by rw [tot_succ]; exact hn5, fun k => (hS5 k).trans ?_⟩
      rw [List.take_length]
      constructor
      · rintro (⟨m, hm, q⟩ | q)
        · exact ⟨m, by omega, q⟩
        · exact ⟨i, by omega, q⟩
      · rintro ⟨m, hm, q⟩
        by_cases he : m = i
        · exact .inr (he ▸ q)
        · exact .inl ⟨m, by omega, q⟩
  · have hi2 : i = xs.length := by omega
    subst hi2
    exact .inl ⟨wk.stops H e, done H S n e h2 h3 h4⟩
end FF
/-! Fivefault, part 57: x != y by an own __eq__ (no own __ne__). -/
namespace FF
open PySem PySem.Spec PyProof.Rows L2
section
variable {M : Model} {prog : Program} {w : World} {A : Around} {E : Value → Shared → Prop} {s : Shared} {K : PySem.W.Frag} {x y C f : Addr} {ox : Obj} {od : Option Obj}
theorem ifBound_objNe {args : List Value} {Q : Option Value → Shared → Prop} (X : K.In s.heap) (I : PySem.W.InstAt s.heap x ox C od) (hs : PySem.W.findIn K (.ref C) "__ne__" = some (some (.builtin "object.__ne__")))
    (h : wpAny M A (call (.builtin "object.__ne__") (.ref x :: args)) (fun v => Q (some v)) E s) : wpAny M A (callSpecialIfBound? (.ref x) "__ne__" args) Q E s := by
  simp only [callSpecialIfBound?, bindSpecialIfBound?]
  refine wpAny_holding (wpAny_bind (wpAny_bind (wpAny_bind (I.type.here ((PySem.W.looks_findIn X hs).here ?_)))))
  refine wpAny_bind (wpAny_askSetting (wpAny_ite ?_))
  have fin : wpAny M A (call (.builtin "object.__ne__") ([.ref x] ++ args) >>= fun v => pure (some v)) Q E s := wpAny_bind (wpAny_mono h (fun v s' h' => wpAny_pure h') fun _ _ h' => h')
  split
  · exact wpAny_bind (wpAny_of_eq (F.cmp_object.ne.bind _) (wpAny_pure (by exact fin)))
  · exact wpAny_tryCatch (wpAny_bind (wpAny_of_eq (F.cmp_object.ne.bind _) (wpAny_pure (by exact fin))))
theorem entry_neK (X : K.In s.heap) (I : PySem.W.InstAt s.heap x ox C od) (hs : PySem.W.findIn K (.ref C) "__eq__" = some (some (.ref f))) (hf : PySem.W.isFn K (.ref f) = true) (hu : A.units < cLine) {Q : Fin → Shared → Prop}
    (hcall : wpAny (model prog w) A (call (.ref f) [.ref x, .ref y]) (fun v s' => ∃ b, v = .bool b ∧ Q (.done (.ret (.bool (!b)))) s') E s) : wpAny (model prog w) A (Builtin.«object.__ne__» ⟨[.ref x, .ref y], []⟩) Q E s := by
  unfold Builtin.«object.__ne__»
  repeat (first
    | with_reducible refine wpAny_cRoomFor hu ?_
    | (refine wpAny_bind (m := callSpecialIfBound? (.ref x) (Str.ofString "__eq__") [.ref y])
        (PySem.W.ifBound_K X I hs hf (wpAny_mono hcall (fun r s' hr => by
          obtain ⟨b, rfl, hq⟩ := hr
          repeat (first | exact hq | exact wpAny_pure hq | exact wpAny_truthy_bool hq | (refine wpAny_bind (m := truthy (.bool _)) (wpAny_truthy_bool ?_)) | wp_step)) fun _ _ e => e)))
    | wp_step)
theorem call_objNe {Q : Value → Shared → Prop} (X : K.In s.heap) (I : PySem.W.InstAt s.heap x ox C od) (hm : PySem.W.mroIn K C (.type "object") = some true) (hs : PySem.W.findIn K (.ref C) "__eq__" = some (some (.ref f))) (hf : PySem.W.isFn K (.ref f) = true) (hu : A.in1.units < cLine)
    (hcall : wpAny (model prog w) A.in1 (call (.ref f) [.ref x, .ref y]) (fun v s' => ∃ b, v = .bool b ∧ Q (.bool (!b)) s') E s) :
    wpAny (model prog w) A (call (.builtin "object.__ne__") [.ref x, .ref y]) Q E s := by
  refine wpAny_call (codeAny_call_builtin F.cmp_object.ne.plain F.cmpEntry_ne (PySem.W.check_slot F.cmpKind_ne F.cmpSplit_ne (I.type.andThen (PySem.W.looks_mroIn X hm)) (F.cmpArgs_ne _ _) (entry_neK X I hs hf hu (wpAny_mono hcall (fun v s' h => ?_) fun _ _ e => e))))
  obtain ⟨b, rfl, hq⟩ := h
  first | exact ⟨b, rfl, hq⟩ | exact ⟨b, rfl, wpAny_pure hq⟩
end
def rNeO (C : Addr) (sp : Sp) (E : XK) : R2 := fun x y H Q => ∃ a dx fs b dy gs, x = .ref a ∧ y = .ref b ∧ H a = some (.ins C dx fs) ∧ H b = some (.ins C dy gs) ∧ sp [.ref a, .ref b] H (fun v H' => ∃ t, v = .bl t ∧ Q (.bl (!t)) H') E
theorem op_neO_ {X : Cx} {CX : CXT} {n : Nat} {C f : Addr} {fd : FuncData} {ps : List Str} {sp : Sp} {E : XK} (me : Meth X.K C "__eq__" f) (hne : PySem.W.findIn X.K (.ref C) "__ne__" = some (some (.builtin "object.__ne__"))) (F : FnOk X.prog X.w X.K X.mg X.base CX n f fd ps sp) (hb : Binds X.K fd ps []) (hx : Passes CX X E) (c : InsX X.K C) (hr : Room (n + 1) X.A) : OpR X (compareOp .NotEq) (rNeO C sp E) := by
  intro pins s σ H x y v u Q I rx ry hq
  obtain ⟨a, dx, fs, b, dy, gs, rfl, rfl, ha, hy, hsp⟩ := hq
  cases rx
  cases ry
  show wpAny (model X.prog X.w) X.A (richCompare .NotEq (.ref a) (.ref b)) (EP X pins σ Q) X.xe s
  have sb : Sub X n X.A.in1 := Sub.in1 (⟨hr, rfl⟩ : Sub X (n + 1) X.A)
  obtain ⟨mA, J, _⟩ := ins_get I.hok ha
  obtain ⟨od, J, _⟩ := J.look
  obtain ⟨mB, J', _⟩ := ins_get I.hok hy
  obtain ⟨od', J', _⟩ := J'.look
  have e0 : Env0 X.prog X.w X.K X.mg X.base X.A.in1 X.stack s H := by
    have e := I.env0
    exact ⟨by rw [sb.fr]; exact e.frames, e.mod, e.bs, e.bsz, e.funs, e.frf, e.hok, e.bare⟩
  have hl := F.len _ _ _ _ hsp
  have r2 : Vals [V.ref a, V.ref b] [Value.ref a, Value.ref b] := .cons rfl (.cons rfl .nil)
  have fin : wpAny (model X.prog X.w) X.A.in1 (call (.ref f) [.ref a, .ref b]) (fun v s' => ∃ t, v = .bool t ∧ EP X pins σ Q (.bool (!t)) s') X.xe s := by
    refine wpAny_call (codeAny_mono (F.run X.A.in1 X.stack s H ⟨[.ref a, .ref b], []⟩ [.ref a, .ref b] [.ref a, .ref b] _ E sb.room e0 (by
      have := hb s [.ref a, .ref b] I.kIn (by simpa using hl)
      simpa using this) r2 hsp) fun r s' hq => ?_)
    cases r with
    | error e => exact hx pins σ H s e s' I hq
    | ok fl =>
      cases fl with
      | ret w =>
        obtain ⟨z, H', I', rz, t, rfl, q⟩ := I.after hq
        cases rz
        exact ⟨t, rfl, .bl (!t), H', I', rfl, q⟩
      | next => exact False.elim hq
      | brk => exact False.elim hq
      | cont => exact False.elim hq
  have hu : X.A.units < cLine := Nat.lt_of_succ_lt (hu_of hr)
  have one : wpAny (model X.prog X.w) X.A (tryCompare (.ref a) "__ne__" (.ref b)) (fun r s' => ∃ v, r = some v ∧ EP X pins σ Q v s') X.xe s := by
    unfold tryCompare
    refine wpAny_bind (ifBound_objNe I.kIn J hne (call_objNe I.kIn J c.hm me.at_ me.fn sb.room.units0 (wpAny_mono fin (fun v s' hv => ?_) fun _ _ e => e)))
    obtain ⟨t, rfl, hq⟩ := hv
    exact ⟨t, rfl, wpAny_pure ⟨_, rfl, hq⟩⟩
  unfold richCompare
  simp only [oneThing_ref]
  refine wpAny_holding (wpAny_bind (wpAny_cRoomFor hu ?_))
  rw [cmpInfo_NotEq]
  dsimp only
  refine wpAny_bind (J.type.here (wpAny_bind (J'.type.here ?_)))
  rw [show (Value.ref C != Value.ref C) = false from by simp]
  simp only [Bool.false_eq_true, if_false]
  refine wpAny_bind (wpAny_pure ?_)
  simp only [Bool.false_eq_true, if_false]
  refine wpAny_bind (wpAny_mono one (fun r s' z => ?_) fun _ _ e => e)
  obtain ⟨v, rfl, hq⟩ := z
  exact wpAny_pure hq
theorem op_neO {X : Cx} {C : Str} {k j : Nat} {sp : Sp} (D : MethD X.prog X.w X.K X.mg X.base C "__eq__" k ["self", "other"] sp) (hne : PySem.W.findIn X.K (.ref (He.ga X.K C)) "__ne__" = some (some (.builtin "object.__ne__"))) (c : InsX X.K (He.ga X.K C)) (hr : Room j X.A) (hkj : k + 1 ≤ j) : OpR X (compareOp .NotEq) (rNeO (He.ga X.K C) sp E0) := by
  obtain ⟨fd, F, hb⟩ := D.ex
  exact op_neO_ D.me hne F hb pass0 c (hr.mono hkj)
theorem pe_methd0K {X : Cx} (K : PySem.W.Frag) {C m : Str} {k j : Nat} {ps : List Str} {sp : Sp} {o : Expr} {apos pos : Pos} {to : TE} {pl : Sem Bool} (D : MethD X.prog X.w X.K X.mg X.base C m k ps sp) (hr : Room j X.A) (hkj : k ≤ j) (ho : PE X o to) (hK : X.K = K := by rfl)
    (ht : eval (.Call (.Attribute o m apos) [] [] pos) X.env = (do
      let ov ← eval o X.env
      standAt apos.atName
      let (f, first) ← holding [ov] (getMethod ov m pl)
      callWith pos f first (backTo pos (starEach [] X.env)) (backToKw pos (keywordEach [] X.env))) := by rfl) :
    PE X (.Call (.Attribute o m apos) [] [] pos) (tMeth (He.ga K C) m sp [] E0 to tNil) := by
  subst hK
  exact pe_methd0 D hr hkj ho ht
end FF
/-! Fivefault, part 58: comprehensions over the keys of a dict, and with two fors, told by the place. -/
namespace FF
open PySem PySem.Spec PyProof.Rows L2
section
variable {K : PySem.W.Frag} {D d : Addr} {o : Obj} {kvs : List (Key × V)} {te : TE} {vs : List Nat} {j : Nat} {σ : L2.St} {H1 : Hp} {Qd : Hp → Prop}
theorem lc_mapK (R : Nat → V → Hp → Prop) (mono : ∀ i y H H', SameT H H' → R i y H → R i y H') (hD : H1 D = none) (hk : H1 d = some (.frz o (.dK kvs))) (hz : kvs.length ≤ sizeLine)
    (hw : ∀ x, wipe ((wipe σ vs).set j (some x)) vs = wipe σ vs)
    (step : ∀ i k v H2, kvs[i]? = some (k, v) → Same H1 H2 → ∀ Q' : VK, (∀ y H3, Same H2 H3 → R i y H3 → Q' y H3) → te ((wipe σ vs).set j (some (kV k))) H2 Q')
    (done : ∀ H2 ys, Same H1 H2 → H2 D = some (.lst ys) → ys.length = kvs.length → (∀ (i : Nat) (y : V), ys[i]? = some y → R i y H2) → Qd H2) :
    ∃ W : Nat → Nat → Hp → Prop, (∃ m, W 0 m (upd H1 D (.lst []))) ∧ ∀ i m H, W i m H →
      ((Itk d o kvs).stop i H ∧ Qd H) ∨ ((Itk d o kvs).go i H ∧ ∃ Nx : Hp → Prop, (∀ H', Nx H' → ∃ m', m' < m ∧ W (i + 1) m' H') ∧ ∀ x H', (Itk d o kvs).yld i H x H' → gName j x (wipe σ vs) H' fun σ2 H2 => wipe σ2 vs = wipe σ vs ∧ tYes σ2 H2 fun b H3 =>
        if b = true then te σ2 H3 fun y H4 => ∃ acc, H4 D = some (.lst acc) ∧ acc.length < sizeLine ∧ Nx (upd H4 D (.lst (acc ++ [y]))) else Nx H3) :=
  lc_it walk_keys (fun i H => Same H1 H ∧ ∃ ys, H D = some (.lst ys) ∧ ys.length = i ∧ ∀ m y, ys[m]? = some y → R m y H)
    ⟨same_new hD _, [], upd_same, rfl, fun m y q => by simp at q⟩ (fun i H _ p => p.1 _ _ hk)
    (fun i x H H' hi p y => by
      obtain ⟨rfl, k, v, hkv, rfl⟩ := y
      exact ⟨hw _, lc_turn mono hD p (Nat.lt_of_lt_of_le hi hz) (step i k v _ hkv p.1)⟩)
    fun H ⟨e, ys, h1, h2, h3⟩ => done H ys e h1 h2 h3
end
section
variable {K : PySem.W.Frag} {D : Addr} {J : It} {n n1 : Nat} {Po P1 : Nat → V → Prop} {wi1 : TI} {te : TE} {vs vs1 : List Nat} {jo ji : Nat} {σ : L2.St} {H1 : Hp} {Qd : Hp → Prop}
theorem lc2_map (R : Nat → V → Hp → Prop) (mono : ∀ i y H H', SameT H H' → R i y H → R i y H') (wo : Walk J n (Same H1) (fun i H x H' => H' = H ∧ Po i x)) (hD : H1 D = none) (hz : n * n1 ≤ sizeLine)
    (hw : ∀ x, wipe ((wipe σ vs).set jo (some x)) vs = wipe σ vs)
    (hw1 : ∀ x y, wipe ((wipe ((wipe σ vs).set jo (some x)) vs1).set ji (some y)) vs1 = wipe ((wipe σ vs).set jo (some x)) vs1)
    (inner : ∀ i x H2 (G : It → Hp → Prop), i < n → Po i x → Same H1 H2 → (∀ J1 H4, Same H2 H4 → Walk J1 n1 (Same H1) (fun j H y H' => H' = H ∧ P1 j y) → G J1 H4) → wi1 ((wipe σ vs).set jo (some x)) H2 G)
    (step : ∀ i x j y H2, i < n → Po i x → j < n1 → P1 j y → Same H1 H2 → ∀ Q' : VK, (∀ z H3, Same H2 H3 → R (i * n1 + j) z H3 → Q' z H3) → te ((wipe ((wipe σ vs).set jo (some x)) vs1).set ji (some y)) H2 Q')
    (done : ∀ H2 ys, Same H1 H2 → H2 D = some (.lst ys) → ys.length = n * n1 → (∀ (i : Nat) (y : V), ys[i]? = some y → R i y H2) → Qd H2) :
    ∃ W : Nat → Nat → Hp → Prop, (∃ m, W 0 m (upd H1 D (.lst []))) ∧ ∀ i m H, W i m H →
      (J.stop i H ∧ Qd H) ∨ (J.go i H ∧ ∃ Nx : Hp → Prop, (∀ H', Nx H' → ∃ m', m' < m ∧ W (i + 1) m' H') ∧ ∀ x H', J.yld i H x H' → gName jo x (wipe σ vs) H' fun σ2 H2 => wipe σ2 vs = wipe σ vs ∧ tYes σ2 H2 fun b H3 =>
        if b = true then wi1 σ2 H3 fun J1 H4 => ∃ W1 : Nat → Nat → Hp → Prop, (∃ m, W1 0 m H4) ∧ ∀ j k H, W1 j k H →
          (J1.stop j H ∧ Nx H) ∨ (J1.go j H ∧ ∃ Nx1 : Hp → Prop, (∀ H', Nx1 H' → ∃ k', k' < k ∧ W1 (j + 1) k' H') ∧ ∀ x H', J1.yld j H x H' → gName ji x (wipe σ2 vs1) H' fun σ3 H5 => wipe σ3 vs1 = wipe σ2 vs1 ∧ tYes σ3 H5 fun b H6 =>
            if b = true then te σ3 H6 fun y H7 => ∃ acc, H7 D = some (.lst acc) ∧ acc.length < sizeLine ∧ Nx1 (upd H7 D (.lst (acc ++ [y]))) else Nx1 H6)
        else Nx H3) := by
  let Pv : Nat → Hp → Prop := fun i H => Same H1 H ∧ ∃ ys, H D = some (.lst ys) ∧ ys.length = i ∧ ∀ m y, ys[m]? = some y → R m y H
  refine ⟨fun i m H => m = n - i ∧ i ≤ n ∧ Pv (i * n1) H, ⟨n, rfl, Nat.zero_le _, same_new hD _, [], upd_same, by simp, fun m y q => by simp at q⟩, ?_⟩
  rintro i m H ⟨rfl, hi, pv⟩
  by_cases hlt : i < n
  · refine .inr ⟨wo.goes i H hlt pv.1, fun H' => i + 1 ≤ n ∧ Pv ((i + 1) * n1) H', fun H' p => ⟨n - (i + 1), by omega, rfl, p⟩, fun x H' y => ?_⟩
    obtain ⟨rfl, hx⟩ := wo.yields i H x H' hlt pv.1 y
    refine ⟨hw _, ?_⟩
    unfold tYes
    dsimp only
    rw [if_pos rfl]
    refine inner i x _ _ hlt hx pv.1 fun J1 H4 e4 wi => ?_
    have pv4 : Pv (i * n1 + 0) H4 := by
      obtain ⟨e, ys, h1, h2, h3⟩ := pv
      exact ⟨e.trans e4, ys, e4 _ _ h1, h2, fun m y q => mono _ _ _ _ (Same.T e4) (h3 m y q)⟩
    refine ⟨fun j k H => k = n1 - j ∧ j ≤ n1 ∧ Pv (i * n1 + j) H, ⟨_, rfl, Nat.zero_le _, pv4⟩, ?_⟩
    rintro j k H ⟨rfl, hj, pj⟩
    by_cases hjt : j < n1
    · refine .inr ⟨wi.goes j H hjt pj.1, fun H' => j + 1 ≤ n1 ∧ Pv (i * n1 + (j + 1)) H', fun H' p => ⟨n1 - (j + 1), by omega, rfl, p⟩, fun w H' y => ?_⟩
      obtain ⟨rfl, hy⟩ := wi.yields j H w H' hjt pj.1 y
      refine ⟨hw1 _ _, ?_⟩
      try unfold tYes
      try dsimp only
      rw [if_pos rfl]
      obtain ⟨e, ys, h1, h2, h3⟩ := pj
      have hb : i * n1 + j < n * n1 := by
        have : (i + 1) * n1 ≤ n * n1 := Nat.mul_le_mul_right _ hlt
        rw [Nat.succ_mul] at this
        omega
      refine step i x j w _ hlt hx hjt hy e _ fun z H6 e6 r => ?_
      have hd := e6 _ _ h1
      refine ⟨ys, hd, Nat.lt_of_lt_of_le (by omega) hz, hjt, ?_⟩
      · refine ⟨same_at hD (e.trans e6), ys ++ [z], upd_same, by simp [h2]; omega, fun m y' q => ?_⟩
        have eT : SameT H6 (upd H6 D (.lst (ys ++ [z]))) := (SameT.refl H6).updL hd
        by_cases hm : m < ys.length
        · rw [List.getElem?_append_left hm] at q
          exact mono _ _ _ _ eT (mono _ _ _ _ (Same.T e6) (h3 m y' q))
        · rw [List.getElem?_append_right (by omega)] at q
          have hm0 : m - ys.length = 0 := by
            have := (List.getElem?_eq_some_iff.mp q).1
            simpa using this
          rw [hm0] at q
          cases q
          rw [show m = i * n1 + j by omega]
          exact mono _ _ _ _ eT r
    · obtain rfl : j = n1 := by omega
      refine .inl ⟨wi.stops H pj.1, hlt, ?_⟩
      rw [Nat.succ_mul]
      exact pj
  · obtain rfl : i = n := by omega
    obtain ⟨e, ys, h1, h2, h3⟩ := pv
    exact .inl ⟨wo.stops H e, done H ys e h1 h2 h3⟩
end
theorem pe_fldK {X : Cx} (K : PySem.W.Frag) {e : Expr} {f : Str} {pos : Pos} {ta : TE} (he : PE X e ta) (hb : attributeBase e f X.env (eval e X.env) = eval e X.env) (hK : X.K = K := by rfl) : PE X (.Attribute e f pos) (tFld K ta f) := by
  subst hK
  exact pe_fld he hb
end FF
namespace FF
open PySem PySem.Spec PyProof.Rows L2
def top (i : Nat) : Stmt := PySem.Challenge.pw_fivefault_k36_whole_boards_spread_or_hav.main.body.getD i (.Pass ⟨0, 0, 0, 0⟩)
def clsSt (s : Stmt) (i : Nat) : Stmt := match s with
  | .ClassDef _ _ _ b .. => b.getD i (.Pass ⟨0, 0, 0, 0⟩)
  | _ => .Pass ⟨0, 0, 0, 0⟩
abbrev s_wall : Stmt := top 0
theorem sc_wall : FnScope ["k"] ["k"] (defScope s_wall) := ⟨rfl, rfl, rfl, by decide +kernel, rfl, by decide +kernel, by decide +kernel⟩
abbrev s_ladder_at : Stmt := top 2
theorem sc_ladder_at : FnScope ["board", "one", "other", "last", "lows", "ups", "low", "high"] ["board", "one", "other", "last"] (defScope s_ladder_at) := ⟨rfl, rfl, rfl, by decide +kernel, rfl, by decide +kernel, by decide +kernel⟩
abbrev s_fan_at : Stmt := top 3
theorem sc_fan_at : FnScope ["board", "one", "other", "last", "lows", "ups", "least", "greatest", "sides", "place"] ["board", "one", "other", "last"] (defScope s_fan_at) := ⟨rfl, rfl, rfl, by decide +kernel, rfl, by decide +kernel, by decide +kernel⟩
abbrev s_find_fault : Stmt := top 4
theorem sc_find_fault : FnScope ["board", "every", "one", "last", "place", "other", "found"] ["board"] (defScope s_find_fault) := ⟨rfl, rfl, rfl, by decide +kernel, rfl, by decide +kernel, by decide +kernel⟩
abbrev s_is_letter : Stmt := top 19
theorem sc_is_letter : FnScope ["value"] ["value"] (defScope s_is_letter) := ⟨rfl, rfl, rfl, by decide +kernel, rfl, by decide +kernel, by decide +kernel⟩
abbrev s_measured : Stmt := top 20
theorem sc_measured : FnScope ["value", "max_depth", "sizes", "part"] ["value", "max_depth"] (defScope s_measured) := ⟨rfl, rfl, rfl, by decide +kernel, rfl, by decide +kernel, by decide +kernel⟩
abbrev s_is_term : Stmt := top 21
theorem sc_is_term : FnScope ["value", "max_depth", "max_size"] ["value", "max_depth", "max_size"] (defScope s_is_term) := ⟨rfl, rfl, rfl, by decide +kernel, rfl, by decide +kernel, by decide +kernel⟩
abbrev s_is_long_term : Stmt := top 22
theorem sc_is_long_term : FnScope ["value"] ["value"] (defScope s_is_long_term) := ⟨rfl, rfl, rfl, by decide +kernel, rfl, by decide +kernel, by decide +kernel⟩
abbrev s_need_long_term : Stmt := top 23
theorem sc_need_long_term : FnScope ["value"] ["value"] (defScope s_need_long_term) := ⟨rfl, rfl, rfl, by decide +kernel, rfl, by decide +kernel, by decide +kernel⟩
abbrev s_parts_of : Stmt := top 24
theorem sc_parts_of : FnScope ["term"] ["term"] (defScope s_parts_of) := ⟨rfl, rfl, rfl, by decide +kernel, rfl, by decide +kernel, by decide +kernel⟩
abbrev s_walked : Stmt := top 25
theorem sc_walked : FnScope ["term", "found", "part"] ["term"] (defScope s_walked) := ⟨rfl, rfl, rfl, by decide +kernel, rfl, by decide +kernel, by decide +kernel⟩
abbrev s_letters_in : Stmt := top 26
theorem sc_letters_in : FnScope ["term", "one"] ["term"] (defScope s_letters_in) := ⟨rfl, rfl, rfl, by decide +kernel, rfl, by decide +kernel, by decide +kernel⟩
abbrev s_turned_rows : Stmt := top 29
theorem sc_turned_rows : FnScope ["rows", "row", "at"] ["rows"] (defScope s_turned_rows) := ⟨rfl, rfl, rfl, by decide +kernel, rfl, by decide +kernel, by decide +kernel⟩
abbrev s_mask_of : Stmt := top 30
theorem sc_mask_of : FnScope ["text"] ["text"] (defScope s_mask_of) := ⟨rfl, rfl, rfl, by decide +kernel, rfl, by decide +kernel, by decide +kernel⟩
abbrev s_is_square : Stmt := top 31
theorem sc_is_square : FnScope ["rows", "limit", "sign", "row"] ["rows", "limit"] (defScope s_is_square) := ⟨rfl, rfl, rfl, by decide +kernel, rfl, by decide +kernel, by decide +kernel⟩
abbrev s_is_order : Stmt := top 32
theorem sc_is_order : FnScope ["masks", "place", "mask", "other", "smaller"] ["masks"] (defScope s_is_order) := ⟨rfl, rfl, rfl, by decide +kernel, rfl, by decide +kernel, by decide +kernel⟩
abbrev s_meeting_places : Stmt := top 33
theorem sc_meeting_places : FnScope ["masks", "place_of", "place", "mask", "found", "row", "other"] ["masks"] (defScope s_meeting_places) := ⟨rfl, rfl, rfl, by decide +kernel, rfl, by decide +kernel, by decide +kernel⟩
abbrev s_gathered : Stmt := top 34
theorem sc_gathered : FnScope ["table", "places", "first", "rest", "place"] ["table", "places"] (defScope s_gathered) := ⟨rfl, rfl, rfl, by decide +kernel, rfl, by decide +kernel, by decide +kernel⟩
abbrev s_law_source : Stmt := top 37
theorem sc_law_source : FnScope ["_law_script"] ["_law_script"] (defScope s_law_source) := ⟨rfl, rfl, rfl, by decide +kernel, rfl, by decide +kernel, by decide +kernel⟩
abbrev s_law_take : Stmt := top 38
theorem sc_law_take : FnScope ["_law_source_here", "_law_many", "_law_cell", "_law_digit", "_law_mixed_here"] ["_law_source_here", "_law_many"] (defScope s_law_take) := ⟨rfl, rfl, rfl, by decide +kernel, rfl, by decide +kernel, by decide +kernel⟩
abbrev s_law_pick : Stmt := top 39
theorem sc_law_pick : FnScope ["_law_source_here", "_law_row"] ["_law_source_here", "_law_row"] (defScope s_law_pick) := ⟨rfl, rfl, rfl, by decide +kernel, rfl, by decide +kernel, by decide +kernel⟩
abbrev s_law_mixed : Stmt := top 40
theorem sc_law_mixed : FnScope ["_law_source_here", "_law_row", "_law_found", "_law_one"] ["_law_source_here", "_law_row"] (defScope s_law_mixed) := ⟨rfl, rfl, rfl, by decide +kernel, rfl, by decide +kernel, by decide +kernel⟩
abbrev s_law_copied : Stmt := top 41
theorem sc_law_copied : FnScope ["_law_row", "_law_one"] ["_law_row"] (defScope s_law_copied) := ⟨rfl, rfl, rfl, by decide +kernel, rfl, by decide +kernel, by decide +kernel⟩
abbrev s_law_index : Stmt := top 42
theorem sc_law_index : FnScope ["_law_one", "_law_at"] ["_law_one", "_law_at"] (defScope s_law_index) := ⟨rfl, rfl, rfl, by decide +kernel, rfl, by decide +kernel, by decide +kernel⟩
abbrev s_law_family : Stmt := top 43
theorem sc_law_family : FnScope ["_law_source_here", "_law_wide", "_law_many", "_law_found", "_law_k", "_law_mask", "_law_other"] ["_law_source_here", "_law_wide", "_law_many"] (defScope s_law_family) := ⟨rfl, rfl, rfl, by decide +kernel, rfl, by decide +kernel, by decide +kernel⟩
abbrev s_law_rows : Stmt := top 44
theorem sc_law_rows : FnScope ["_law_masks", "_law_other", "_law_one"] ["_law_masks"] (defScope s_law_rows) := ⟨rfl, rfl, rfl, by decide +kernel, rfl, by decide +kernel, by decide +kernel⟩
abbrev s_law_some_rows : Stmt := top 45
theorem sc_law_some_rows : FnScope ["_law_source_here", "_law_way"] ["_law_source_here"] (defScope s_law_some_rows) := ⟨rfl, rfl, rfl, by decide +kernel, rfl, by decide +kernel, by decide +kernel⟩
abbrev s_law_low : Stmt := top 46
theorem sc_law_low : FnScope ["_law_rows_here", "_law_x", "_law_y", "_law_some", "_law_z", "_law_w"] ["_law_rows_here", "_law_x", "_law_y"] (defScope s_law_low) := ⟨rfl, rfl, rfl, by decide +kernel, rfl, by decide +kernel, by decide +kernel⟩
abbrev s_law_up : Stmt := top 47
theorem sc_law_up : FnScope ["_law_rows_here", "_law_x", "_law_y", "_law_some", "_law_z", "_law_w"] ["_law_rows_here", "_law_x", "_law_y"] (defScope s_law_up) := ⟨rfl, rfl, rfl, by decide +kernel, rfl, by decide +kernel, by decide +kernel⟩
abbrev s_law_tables : Stmt := top 48
theorem sc_law_tables : FnScope ["_law_rows_here", "_law_every", "_law_lows", "_law_y", "_law_x"] ["_law_rows_here"] (defScope s_law_tables) := ⟨rfl, rfl, rfl, by decide +kernel, rfl, by decide +kernel, by decide +kernel⟩
abbrev s_law_spreads : Stmt := top 49
theorem sc_law_spreads : FnScope ["_law_tables_here", "_law_lows", "_law_ups", "_law_every", "_law_x", "_law_y", "_law_z", "_law_whole"] ["_law_tables_here"] (defScope s_law_spreads) := ⟨rfl, rfl, rfl, by decide +kernel, rfl, by decide +kernel, by decide +kernel⟩
abbrev s_law_fault_right : Stmt := top 50
theorem sc_law_fault_right : FnScope ["_law_rows_here", "_law_tables_here", "_law_fault", "_law_five", "_law_x", "_law_least", "_law_y", "_law_z", "_law_greatest", "_law_pairs", "_law_p", "_law_q"] ["_law_rows_here", "_law_tables_here", "_law_fault"] (defScope s_law_fault_right) := ⟨rfl, rfl, rfl, by decide +kernel, rfl, by decide +kernel, by decide +kernel⟩
abbrev s_law_has_ladder : Stmt := top 51
theorem sc_law_has_ladder : FnScope ["_law_rows_here", "_law_tables_here", "_law_lows", "_law_ups", "_law_every", "_law_x", "_law_y", "_law_z"] ["_law_rows_here", "_law_tables_here"] (defScope s_law_has_ladder) := ⟨rfl, rfl, rfl, by decide +kernel, rfl, by decide +kernel, by decide +kernel⟩
abbrev s_law : Stmt := top 52
theorem sc_law : FnScope ["_law_script", "_law_source_here", "_law_turn", "_law_rows_here", "_law_found", "_law_tables_here", "_law_fault"] ["_law_script"] (defScope s_law) := ⟨rfl, rfl, rfl, by decide +kernel, rfl, by decide +kernel, by decide +kernel⟩
abbrev s_Board___init__ : Stmt := clsSt (top 35) 1
theorem sc_Board___init__ : FnScope ["self", "rows", "above", "row", "below"] ["self", "rows"] (defScope s_Board___init__) := ⟨rfl, rfl, rfl, by decide +kernel, rfl, by decide +kernel, by decide +kernel⟩
abbrev s_Board_chain : Stmt := clsSt (top 35) 2
theorem sc_Board_chain : FnScope ["cls", "size", "place"] ["cls", "size"] (defScope s_Board_chain) := ⟨rfl, rfl, rfl, by decide +kernel, rfl, by decide +kernel, by decide +kernel⟩
abbrev s_Board_cube : Stmt := clsSt (top 35) 3
theorem sc_Board_cube : FnScope ["cls", "size", "every", "other", "one"] ["cls", "size"] (defScope s_Board_cube) := ⟨rfl, rfl, rfl, by decide +kernel, rfl, by decide +kernel, by decide +kernel⟩
abbrev s_Board_fan : Stmt := clsSt (top 35) 4
theorem sc_Board_fan : FnScope ["size", "sides", "at"] ["size"] (defScope s_Board_fan) := ⟨rfl, rfl, rfl, by decide +kernel, rfl, by decide +kernel, by decide +kernel⟩
abbrev s_Board_rows : Stmt := clsSt (top 35) 7
theorem sc_Board_rows : FnScope ["self"] ["self"] (defScope s_Board_rows) := ⟨rfl, rfl, rfl, by decide +kernel, rfl, by decide +kernel, by decide +kernel⟩
abbrev s_Board_is_place : Stmt := clsSt (top 35) 8
theorem sc_Board_is_place : FnScope ["self", "value"] ["self", "value"] (defScope s_Board_is_place) := ⟨rfl, rfl, rfl, by decide +kernel, rfl, by decide +kernel, by decide +kernel⟩
abbrev s_Board_need_places : Stmt := clsSt (top 35) 9
theorem sc_Board_need_places : FnScope ["self", "places", "place"] ["self", "places"] (defScope s_Board_need_places) := ⟨rfl, rfl, rfl, by decide +kernel, rfl, by decide +kernel, by decide +kernel⟩
abbrev s_Board_is_below : Stmt := clsSt (top 35) 10
theorem sc_Board_is_below : FnScope ["self", "one", "other"] ["self", "one", "other"] (defScope s_Board_is_below) := ⟨rfl, rfl, rfl, by decide +kernel, rfl, by decide +kernel, by decide +kernel⟩
abbrev s_Board_spreads : Stmt := clsSt (top 35) 20
theorem sc_Board_spreads : FnScope ["self", "every", "one", "other", "last", "whole"] ["self"] (defScope s_Board_spreads) := ⟨rfl, rfl, rfl, by decide +kernel, rfl, by decide +kernel, by decide +kernel⟩
abbrev s_Board_product : Stmt := clsSt (top 35) 22
theorem sc_Board_product : FnScope ["self", "other", "pairs", "one", "two", "x", "y"] ["self", "other"] (defScope s_Board_product) := ⟨rfl, rfl, rfl, by decide +kernel, rfl, by decide +kernel, by decide +kernel⟩
abbrev s_Board___len__ : Stmt := clsSt (top 35) 24
theorem sc_Board___len__ : FnScope ["self"] ["self"] (defScope s_Board___len__) := ⟨rfl, rfl, rfl, by decide +kernel, rfl, by decide +kernel, by decide +kernel⟩
abbrev s_FaultError_init : Stmt := clsSt (top 6) 0
theorem sc_FaultError_init : FnScope ["self", "code"] ["self", "code"] (defScope s_FaultError_init) := ⟨rfl, rfl, rfl, by decide +kernel, rfl, by decide +kernel, by decide +kernel⟩
abbrev s_InvalidBoard_init : Stmt := clsSt (top 8) 0
theorem sc_InvalidBoard_init : FnScope ["self"] ["self"] (defScope s_InvalidBoard_init) := ⟨rfl, rfl, rfl, by decide +kernel, rfl, by decide +kernel, by decide +kernel⟩
abbrev s_InvalidPlace_init : Stmt := clsSt (top 9) 0
theorem sc_InvalidPlace_init : FnScope ["self", "place"] ["self", "place"] (defScope s_InvalidPlace_init) := ⟨rfl, rfl, rfl, by decide +kernel, rfl, by decide +kernel, by decide +kernel⟩
abbrev s_TooManyPlaces_init : Stmt := clsSt (top 11) 0
theorem sc_TooManyPlaces_init : FnScope ["self", "limit"] ["self", "limit"] (defScope s_TooManyPlaces_init) := ⟨rfl, rfl, rfl, by decide +kernel, rfl, by decide +kernel, by decide +kernel⟩
structure Top (K : PySem.W.Frag) (mg : Str → Option Value) : Prop where
  b_ValueError : mg "ValueError" = none
  b_all : mg "all" = none
  b_any : mg "any" = none
  b_bool : mg "bool" = none
  b_classmethod : mg "classmethod" = none
  b_enumerate : mg "enumerate" = none
  b_int : mg "int" = none
  b_isinstance : mg "isinstance" = none
  b_len : mg "len" = none
  b_list : mg "list" = none
  b_property : mg "property" = none
  b_range : mg "range" = none
  b_set : mg "set" = none
  b_sorted : mg "sorted" = none
  b_staticmethod : mg "staticmethod" = none
  b_str : mg "str" = none
  b_sum : mg "sum" = none
  b_tuple : mg "tuple" = none
  g_LETTERS : ∃ t, mg "LETTERS" = some (.str "abcdefgh" t)
  g_OPERATORS : mg "OPERATORS" = some (.ref (He.ga K "OPERATORS"))
  t_OPERATORS : ∀ H, SqT K H (He.ga K "OPERATORS") [.str "&", .str "|"]
  g_MAX_DEPTH : ∃ t, mg "MAX_DEPTH" = some (.int 5 t)
  g_MAX_SIZE : ∃ t, mg "MAX_SIZE" = some (.int 24 t)
  g_LONG_DEPTH : ∃ t, mg "LONG_DEPTH" = some (.int 9 t)
  g_LONG_SIZE : ∃ t, mg "LONG_SIZE" = some (.int 600 t)
  g_DIGITS : ∃ t, mg "DIGITS" = some (.str "01" t)
  c_FaultError : mg "FaultError" = some (.ref (He.ga K "FaultError"))
  c_InvalidTerm : mg "InvalidTerm" = some (.ref (He.ga K "InvalidTerm"))
  c_InvalidBoard : mg "InvalidBoard" = some (.ref (He.ga K "InvalidBoard"))
  c_InvalidPlace : mg "InvalidPlace" = some (.ref (He.ga K "InvalidPlace"))
  c_InvalidReading : mg "InvalidReading" = some (.ref (He.ga K "InvalidReading"))
  c_TooManyPlaces : mg "TooManyPlaces" = some (.ref (He.ga K "TooManyPlaces"))
  c_Board : mg "Board" = some (.ref (He.ga K "Board"))
  x_InvalidBoard : OwnX K "InvalidBoard" "FaultError"
  x_InvalidPlace : OwnX K "InvalidPlace" "FaultError"
  x_TooManyPlaces : OwnX K "TooManyPlaces" "FaultError"
  n_Board_lines : PySem.W.findIn K (.ref (He.ga K "Board")) "lines" = some none
  n_Board_lows : PySem.W.findIn K (.ref (He.ga K "Board")) "lows" = some none
  n_Board_ups : PySem.W.findIn K (.ref (He.ga K "Board")) "ups" = some none
  n_Board_least : PySem.W.findIn K (.ref (He.ga K "Board")) "least" = some none
  n_Board_greatest : PySem.W.findIn K (.ref (He.ga K "Board")) "greatest" = some none
  n_InvalidPlace_place : PySem.W.findIn K (.ref (He.ga K "InvalidPlace")) "place" = some none
  n_TooManyPlaces_limit : PySem.W.findIn K (.ref (He.ga K "TooManyPlaces")) "limit" = some none
  k_Board : Cls K (He.ga K "Board")
  mk_Board : Mk K (He.ga K "Board") (He.ma K (He.ga K "Board") "__init__")
  r_Board : ClX.CRead K (He.ga K "Board") (.type "type")
  m_Board_chain : ClX.CMet K (He.ga K "Board") (.type "type") "chain" (He.ma K (He.ga K "Board") "chain") (gAd K "classmethod" "Board" "chain")
  m_Board_cube : ClX.CMet K (He.ga K "Board") (.type "type") "cube" (He.ma K (He.ga K "Board") "cube") (gAd K "classmethod" "Board" "cube")
  s_Board_fan : StatOf K (He.ga K "Board") "fan" (He.ma K (He.ga K "Board") "fan") (gAd K "staticmethod" "Board" "fan")
  m_Board_rows : Meth K (He.ga K "Board") "rows" (He.ma K (He.ga K "Board") "rows")
  m_Board_is_place : Meth K (He.ga K "Board") "is_place" (He.ma K (He.ga K "Board") "is_place")
  m_Board_need_places : Meth K (He.ga K "Board") "need_places" (He.ma K (He.ga K "Board") "need_places")
  m_Board_is_below : Meth K (He.ga K "Board") "is_below" (He.ma K (He.ga K "Board") "is_below")
  m_Board_spreads : Meth K (He.ga K "Board") "spreads" (He.ma K (He.ga K "Board") "spreads")
  m_Board_product : Meth K (He.ga K "Board") "product" (He.ma K (He.ga K "Board") "product")
  m_Board___len__ : Meth K (He.ga K "Board") "__len__" (He.ma K (He.ga K "Board") "__len__")
  v_Board_MAX_PLACES : ∃ u, ClX.CVal K (He.ga K "Board") (.type "type") "MAX_PLACES" (.int 60) u
  fe : FeC K "FaultError"
end FF
namespace FF
open PySem PySem.Spec PyProof.Rows L2
/-! ### the draws' source -/
def srcGood (c : Addr) (xs : List V) : Prop := ∃ pos big seed cnt : Int, xs = [.ref c, .int pos, .int big, .int seed, .int cnt] ∧ 0 ≤ pos ∧ 0 ≤ seed ∧ seed < 2147483629
/-- at s stands a source of draws -/
def Src (H : Hp) (s : Addr) : Prop := ∃ (c : Addr) (ns : List Int), H s = some (hid (srcGood c) s) ∧ H c = some (.lst (ns.map V.int))
theorem Src.up {H H' : Hp} {s : Addr} (e : Same H H') (h : Src H s) : Src H' s := by
  obtain ⟨c, ns, h1, h2⟩ := h
  exact ⟨c, ns, e _ _ h1, e _ _ h2⟩
def spTakeL : Sp := fun vs H Q _ => ∃ (s c : Addr) (many : Int) (xs : List V) (ns : List Int), vs = [.ref s, .int many] ∧ 0 < many ∧ many < 1073741824 ∧ H s = some (.lst xs) ∧ srcGood c xs ∧ H c = some (.lst (ns.map V.int)) ∧ c ≠ s ∧
  ∀ n ys, 0 ≤ n → n < many → srcGood c ys → Q (.int n) (upd H s (.lst ys))
/-- a draw: some number below many; nothing is seen to change -/
def spTake : Sp := fun vs H Q _ => ∃ (s : Addr) (many : Int), vs = [.ref s, .int many] ∧ 0 < many ∧ many < 1073741824 ∧ Src H s ∧ ∀ n, 0 ≤ n → n < many → Q (.int n) H
section
variable {P : Program} {w : World} {K : PySem.W.Frag} {mg : Str → Option Value} {base : Heap}
theorem ok_take {f : Addr} {fd : FuncData} (F : FunD K "_law_take" "_law_take" (defArgs s_law_take) (defBody s_law_take) (defScope s_law_take) [] [] f fd) (hm : mg "_law_take" = some (.ref f)) (T : Top K mg) : Def P w K mg base "_law_take" 1 ["_law_source_here", "_law_many"] spTakeL := by
  refine def_mk F hm (F.bindsN fun _ _ _ _ _ _ us hl => match us, hl with | [_, _], _ => rfl) sc_law_take (fun vs H Q E h => ?_) (fun cdv A outer s H vs Q E hr h => ?_)
  · obtain ⟨s, c, many, xs, ns, rfl, _⟩ := h
    rfl
  obtain ⟨s, c, many, xs, ns, rfl, m0, m1, hs, ⟨pos, big, seed, cnt, rfl, p0, s0, s1⟩, hc, ncs, q⟩ := h
  refine ⟨_, (C8.pss_cut (ps_if (PW.pt (pw_and (pt_cmpR op_eq (pe_ix (ix_listK K) (pv 0) pe_int (fun _ _ => rfl)) pe_int (nomark _)) (pw_and1 (pt_cmpR op_lt (pe_ix (ix_listK K) (pv 0) pe_int (fun _ _ => rfl)) (pe_callB (call_lenK K) (by rfl) T.b_len (by decide +kernel) (pa_cons (pe_ix (ix_listK K) (pv 0) pe_int (fun _ _ => rfl)) pa_nil)) (nomark _)))))
  (pss_cons (ps_set (i := 2) sc_law_take.nd rfl (Or.inl rfl) (pe_ix (ix_listK K) (pe_ix (ix_listK K) (pv 0) pe_int (fun _ _ => rfl)) (pe_ix (ix_listK K) (pv 0) pe_int (fun _ _ => rfl)) (fun _ _ => rfl)))
  (pss_cons (ps_asg (pe_op op_add (pe_ix (ix_listK K) (pv 0) pe_int (fun _ _ => rfl)) pe_int) (pg_sub (pv 0) pe_int set_list))
  (pss_one (ps_if (pt_cmpR op_ge (pv 2) (pe_op op_pow pe_int pe_int) (nomark _))
  (pss_one (ps_asg (pv 2) (pg_sub (pv 0) pe_int set_list)))
  (pss_one (ps_asg (pe_op op_mod (pe_callTy call_int1 (by rfl) T.b_int (by decide +kernel) (pa_cons (pe_op op_add (pe_op op_add (pe_op op_mul (pe_ix (ix_listK K) (pv 0) pe_int (fun _ _ => rfl)) pe_int) (pe_op op_mul (pe_op op_mod (pe_callTy call_int1 (by rfl) T.b_int (by decide +kernel) (pa_cons (pv 2) pa_nil)) pe_int) pe_int)) pe_int) pa_nil)) pe_int) (pg_sub (pv 0) pe_int set_list)))))))
  pss_nil)
  (pss_cons (ps_if (pt_cmpR op_gt (pe_ix (ix_listK K) (pv 0) pe_int (fun _ _ => rfl)) pe_int (nomark _))
  (pss_cons (ps_set (i := 3) sc_law_take.nd rfl (Or.inl rfl) (pe_op op_mod (pe_callTy call_int1 (by rfl) T.b_int (by decide +kernel) (pa_cons (pe_ix (ix_listK K) (pv 0) pe_int (fun _ _ => rfl)) pa_nil)) (pv 1)))
  (pss_cons (ps_asg (pe_op op_fdiv (pe_ix (ix_listK K) (pv 0) pe_int (fun _ _ => rfl)) (pv 1)) (pg_sub (pv 0) pe_int set_list))
  (pss_one (ps_ret (pv 3)))))
  pss_nil)
  (pss_cons (ps_asg (pe_op op_add (pe_ix (ix_listK K) (pv 0) pe_int (fun _ _ => rfl)) pe_int) (pg_sub (pv 0) pe_int set_list))
  (pss_cons (ps_set (i := 4) sc_law_take.nd rfl (Or.inl rfl) (pe_op op_add (pe_op op_mod (pe_callTy call_int1 (by rfl) T.b_int (by decide +kernel) (pa_cons (pe_op op_mul (pe_ix (ix_listK K) (pv 0) pe_int (fun _ _ => rfl)) (pe_ix (ix_listK K) (pv 0) pe_int (fun _ _ => rfl))) pa_nil)) pe_int) (pe_op op_mul pe_int (pe_ix (ix_listK K) (pv 0) pe_int (fun _ _ => rfl)))))
  (pss_cons (ps_asg (pe_op op_mod (pe_callTy call_int1 (by rfl) T.b_int (by decide +kernel) (pa_cons (pe_op op_add (pe_op op_add (pe_op op_mul (pv 4) pe_int) (pe_ix (ix_listK K) (pv 0) pe_int (fun _ _ => rfl))) pe_int) pa_nil)) pe_int) (pg_sub (pv 0) pe_int set_list))
  (pss_one (ps_ret (pe_op op_mod (pe_callTy call_int1 (by rfl) T.b_int (by decide +kernel) (pa_cons (pe_op op_add (pe_op op_fdiv (pe_ix (ix_listK K) (pv 0) pe_int (fun _ _ => rfl)) pe_int) (pe_op op_mul (pe_op op_mod (pe_callTy call_int1 (by rfl) T.b_int (by decide +kernel) (pa_cons (pe_ix (ix_listK K) (pv 0) pe_int (fun _ _ => rfl)) pa_nil)) pe_int) pe_int)) pa_nil)) (pv 1))))))))), ?_⟩
  refine ⟨fun σ' H' => ∃ (ys : List V) (oc : Option V), σ' = [some (.ref s), some (.int many), oc, none, none] ∧ H' = upd H s (.lst ys) ∧ srcGood c ys, ?_, ?_⟩
  · have skip : ∃ (ys : List V) (oc : Option V), ([some (.ref s), some (.int many), none, none, none] : L2.St) = [some (.ref s), some (.int many), oc, none, none] ∧ H = upd H s (.lst ys) ∧ srcGood c ys :=
      ⟨_, none, rfl, by
        funext b
        unfold upd
        split
        · next e => rw [e, hs]
        · rfl, pos, big, seed, cnt, rfl, p0, s0, s1⟩
    refine ⟨_, rfl, s, _, _, _, rfl, rfl, SqL.of hs, rfl, rfl, _, rfl, ?_⟩
    refine if_int (fun h1 => ?_) (fun h1 => skip)
    refine ⟨_, rfl, s, _, _, _, rfl, rfl, SqL.of hs, rfl, _, rfl, s, _, _, _, rfl, rfl, SqL.of hs, rfl, _, ns.length, rfl, .inl ⟨_, SqL.of hc, (List.length_map _).symm⟩, _, _, rfl, rfl, _, rfl, ?_⟩
    refine if_dec (fun h2 => ?_) (fun h2 => skip)
    have hp : pos.toNat < ns.length := by omega
    have hat : atI (ns.map V.int) pos = some (.int ns[pos.toNat]) := by
      have e : ((pos.toNat : Nat) : Int) = pos := by omega
      have h : atI (ns.map V.int) ((pos.toNat : Nat) : Int) = some (.int ns[pos.toNat]) := atI_nat (by rw [List.getElem?_map, List.getElem?_eq_getElem hp] <;> rfl)
      rw [e] at h
      exact h
    refine ⟨_, rfl, s, _, _, _, rfl, rfl, SqL.of hs, rfl, _, rfl, s, _, _, _, rfl, rfl, SqL.of hs, rfl, c, _, _, _, rfl, rfl, SqL.of hc, hat, ?_⟩
    refine ⟨_, rfl, s, _, _, _, rfl, rfl, SqL.of hs, rfl, _, _, rfl, rfl, _, rfl, s, _, _, 1, rfl, rfl, hs, rfl, ?_⟩
    refine ⟨_, rfl, _, _, rfl, rfl, ⟨by decide, by decide, by decide⟩, _, _, rfl, rfl, _, rfl, ?_⟩
    refine if_dec (fun h3 => ?_) (fun h3 => ?_)
    · refine ⟨_, rfl, _, rfl, s, _, _, 2, rfl, rfl, upd_same, rfl, ?_⟩
      rw [upd_upd]
      exact ⟨_, _, rfl, rfl, pos + 1, _, seed, cnt, rfl, by omega, s0, s1⟩
    · refine ⟨_, rfl, s, _, _, _, rfl, rfl, SqL.of upd_same, rfl, _, _, rfl, rfl, .inr ⟨by decide, by decide⟩, ?_⟩
      refine ⟨_, rfl, .inl ⟨_, rfl, _, _, rfl, rfl, (by show (0 : Int) < _; decide), _, _, rfl, rfl, .inr ⟨by decide, by decide⟩, _, _, rfl, rfl, _, _, rfl, rfl, .inl ⟨_, rfl, _, _, rfl, rfl, (by show (0 : Int) < _; decide), _, rfl, s, _, _, 3, rfl, rfl, upd_same, rfl, ?_⟩⟩⟩
      rw [upd_upd]
      exact ⟨_, _, rfl, rfl, pos + 1, _, _, cnt, rfl, by omega, Int.emod_nonneg _ (by decide), Int.emod_lt_of_pos _ (by decide)⟩
  · rintro _ _ ⟨_, oc, rfl, rfl, pos, big, seed, cnt, rfl, p0, s0, s1⟩
    refine ⟨_, rfl, s, _, _, _, rfl, rfl, SqL.of upd_same, rfl, _, _, rfl, rfl, _, rfl, ?_⟩
    refine if_dec (fun h1 => ?_) (fun h1 => ?_)
    · refine ⟨_, rfl, s, _, _, _, rfl, rfl, SqL.of upd_same, rfl, .inl ⟨_, rfl, _, rfl, _, _, rfl, rfl, m0, ?_⟩⟩
      refine ⟨_, rfl, s, _, _, _, rfl, rfl, SqL.of upd_same, rfl, _, rfl, _, _, rfl, rfl, ⟨m0, m1⟩, _, rfl, s, _, _, 2, rfl, rfl, upd_same, rfl, _, rfl, ?_⟩
      rw [upd_upd]
      exact q _ _ (Int.emod_nonneg _ (by omega)) (Int.emod_lt_of_pos _ m0) ⟨pos, _, seed, cnt, rfl, p0, s0, s1⟩
    · refine ⟨_, rfl, s, _, _, _, rfl, rfl, SqL.of upd_same, rfl, _, _, rfl, rfl, _, rfl, s, _, _, 4, rfl, rfl, upd_same, rfl, ?_⟩
      rw [upd_upd]
      refine ⟨_, rfl, s, _, _, _, rfl, rfl, SqL.of upd_same, rfl, _, rfl, s, _, _, _, rfl, rfl, SqL.of upd_same, rfl, _, _, rfl, rfl, .inl ⟨by omega, by omega⟩, .inl ⟨_, rfl, _, _, rfl, rfl, (by show (0 : Int) < _; decide), _, rfl, s, _, _, _, rfl, rfl, SqL.of upd_same, rfl, _, _, rfl, rfl, .inl ⟨by decide, by decide⟩, _, _, rfl, rfl, ?_⟩⟩
      refine ⟨_, rfl, _, _, rfl, rfl, .inr ⟨by decide, by decide⟩, _, rfl, s, _, _, _, rfl, rfl, SqL.of upd_same, rfl, _, _, rfl, rfl, _, _, rfl, rfl, .inl ⟨_, rfl, _, _, rfl, rfl, (by show (0 : Int) < _; decide), _, rfl, s, _, _, 3, rfl, rfl, upd_same, rfl, ?_⟩⟩
      rw [upd_upd]
      refine ⟨_, rfl, s, _, _, _, rfl, rfl, SqL.of upd_same, rfl, _, _, rfl, rfl, ⟨by decide, by decide⟩, _, rfl, s, _, _, _, rfl, rfl, SqL.of upd_same, rfl, .inl ⟨_, rfl, _, _, rfl, rfl, (by show (0 : Int) < _; decide), _, _, rfl, rfl, .inr ⟨by decide, by decide⟩, _, _, rfl, rfl, .inl ⟨_, rfl, _, rfl, _, _, rfl, rfl, m0, ?_⟩⟩⟩
      exact q _ _ (Int.emod_nonneg _ (by omega)) (Int.emod_lt_of_pos _ m0) ⟨pos, _, _, _, rfl, p0, Int.emod_nonneg _ (by decide), Int.emod_lt_of_pos _ (by decide)⟩
theorem take_hid (D : Def P w K mg base "_law_take" 1 ["_law_source_here", "_law_many"] spTakeL) : Def P w K mg base "_law_take" 1 ["_law_source_here", "_law_many"] spTake := by
  refine D.open_ (fun vs H Q E h => ?_) (fun vs H Q E h => ?_)
  · obtain ⟨s, many, rfl, _⟩ := h
    rfl
  · obtain ⟨s, many, rfl, m0, m1, ⟨c, ns, hs, hc⟩, q⟩ := h
    have ncs : c ≠ s := by
      intro e
      rw [e, hs] at hc
      cases hc
    refine ⟨s, srcGood c, hs, fun xs hg => ⟨s, c, many, xs, ns, rfl, m0, m1, upd_same, hg, by rw [upd_ne ncs]; exact hc, ncs, fun n ys n0 n1 hy => ⟨ys, upd_same, hy, ?_⟩⟩⟩
    rw [upd_upd, upd_back hs]
    exact q n n0 n1
end
end FF
namespace FF
open PySem PySem.Spec PyProof.Rows L2
theorem cutV_map {α : Type} {f : α → V} {l : List α} {lo hi : Option Int} : ∃ m : List α, cutV (l.map f) lo hi = m.map f ∧ m.length ≤ l.length := by
  refine ⟨(l.drop (HT.sIx l.length 0 lo)).take (HT.sIx l.length l.length hi - HT.sIx l.length 0 lo), ?_, ?_⟩
  · unfold cutV
    rw [List.length_map, List.map_take, List.map_drop]
  · rw [List.length_take, List.length_drop]
    omega
theorem cut_front {xs : List V} {k : Int} (h0 : 0 ≤ k) : cutV xs none (some k) = xs.take k.toNat := by
  obtain ⟨n, rfl⟩ : ∃ n : Nat, k = (n : Int) := ⟨k.toNat, by omega⟩
  unfold cutV
  rw [HT.sIx_none, HT.sIx_nat, List.drop_zero, Nat.sub_zero, Int.toNat_natCast]
  rcases Nat.le_total n xs.length with h | h
  · rw [Nat.min_eq_left h]
  · rw [Nat.min_eq_right h, List.take_length, List.take_of_length_le h]
def spSourceL (K : PySem.W.Frag) : Sp := fun vs H Q _ => ∃ (a : Addr) (ns : List Int), vs = [.ref a] ∧ SqL K H a (ns.map V.int) ∧
  ∀ (r c : Addr) (ms : List Int) H', H r = none → Same H H' → H' r = some (.lst [.ref c, .int 0, .int 0, .int 3818, .int 0]) → H' c = some (.lst (ms.map V.int)) → r ≠ c → Q (.ref r) H'
def spSource (K : PySem.W.Frag) : Sp := fun vs H Q _ => ∃ (a : Addr) (ns : List Int), vs = [.ref a] ∧ SqL K H a (ns.map V.int) ∧ ∀ (r : Addr) H', Same H H' → Src H' r → Q (.ref r) H'
def spPick (K : PySem.W.Frag) : Sp := fun vs H Q _ => ∃ (s r : Addr) (xs : List V), vs = [.ref s, .ref r] ∧ Src H s ∧ SqL K H r xs ∧ xs ≠ [] ∧ xs.length ≤ 20000 ∧ ∀ v, v ∈ xs → Q v H
def spMixed (K : PySem.W.Frag) : Sp := fun vs H Q _ => ∃ (s r : Addr) (xs : List V), vs = [.ref s, .ref r] ∧ Src H s ∧ SqL K H r xs ∧ xs.length ≤ 20000 ∧
  ∀ (p : Addr) H' ys, H p = none → Same H H' → H' p = some (.lst ys) → ys.Perm xs → Q (.ref p) H'
section
variable {P : Program} {w : World} {K : PySem.W.Frag} {mg : Str → Option Value} {base : Heap}
theorem ok_source {f : Addr} {fd : FuncData} (F : FunD K "_law_source" "_law_source" (defArgs s_law_source) (defBody s_law_source) (defScope s_law_source) [] [] f fd) (hm : mg "_law_source" = some (.ref f)) (T : Top K mg) : Def P w K mg base "_law_source" 1 ["_law_script"] (spSource K) := by
  have D : Def P w K mg base "_law_source" 1 ["_law_script"] (spSourceL K) := by
    refine def_mk F hm (F.bindsN fun _ _ _ _ _ _ us hl => match us, hl with | [_], _ => rfl) sc_law_source (fun vs H Q E h => ?_) (fun cdv A outer s H vs Q E hr h => ?_)
    · obtain ⟨a, ns, rfl, _⟩ := h
      rfl
    obtain ⟨a, ns, rfl, hS, q⟩ := h
    refine ⟨_, (pss_one (ps_ret (pe_lst (pa_cons (pe_callTy (call_list_ofK K) (by rfl) T.b_list (by decide +kernel) (pa_cons (pe_slice (sl_listK K) (pv 0) po_none (po_some pe_int)) pa_nil)) (pa_cons pe_int (pa_cons pe_int (pa_cons pe_int (pa_cons pe_int pa_nil)))))))), ?_⟩
    refine ⟨_, rfl, 63, rfl, a, _, rfl, hS, fun p hp => ⟨p, _, rfl, .inl (SqL.of upd_same), fun l hl => ⟨(by show 5 ≤ sizeLine; decide), fun r hr0 => ?_⟩⟩⟩
    obtain ⟨ms, hms, _⟩ := cutV_map (f := V.int) (l := ns) (lo := none) (hi := some 63)
    rw [hms] at hl hr0 ⊢
    have e1 := same_new hp (.lst (ms.map V.int))
    have e2 := same_new hl (.lst (ms.map V.int))
    have e3 := same_new hr0 (.lst [.ref l, .int 0, .int 0, .int 3818, .int 0])
    have nrl : r ≠ l := fun z => by rw [z, upd_same] at hr0; cases hr0
    exact q r l ms _ ((e1.trans e2).free hr0) ((e1.trans e2).trans e3) upd_same (by rw [upd_ne nrl.symm]; exact upd_same) nrl
  refine D.shut_ (fun vs H Q E h => ?_) (fun vs H Q E h => ?_)
  · obtain ⟨a, ns, rfl, _⟩ := h
    rfl
  · obtain ⟨a, ns, rfl, hS, q⟩ := h
    refine ⟨a, ns, rfl, hS, fun r c ms H' hr0 e hr1 hc nrc => ⟨r, srcGood c, _, hr0, hr1, ⟨0, 0, 3818, 0, rfl, by omega, by omega, by omega⟩, ?_⟩⟩
    refine q r _ (fun b o h => ?_) ⟨c, ms, upd_same, by rw [upd_ne nrc.symm]; exact hc⟩
    rw [upd_ne (ne_of_none h hr0)]
    exact e _ _ h
theorem ok_pick {f : Addr} {fd : FuncData} (F : FunD K "_law_pick" "_law_pick" (defArgs s_law_pick) (defBody s_law_pick) (defScope s_law_pick) [] [] f fd) (hm : mg "_law_pick" = some (.ref f)) (T : Top K mg)
    (D_law_take : Def P w K mg base "_law_take" 1 ["_law_source_here", "_law_many"] spTake) : Def P w K mg base "_law_pick" 2 ["_law_source_here", "_law_row"] (spPick K) := by
  refine def_mk F hm (F.bindsN fun _ _ _ _ _ _ us hl => match us, hl with | [_, _], _ => rfl) sc_law_pick (fun vs H Q E h => ?_) (fun cdv A outer s H vs Q E hr h => ?_)
  · obtain ⟨s, r, xs, rfl, _⟩ := h
    rfl
  obtain ⟨s, r, xs, rfl, hs, hx, hn, hz, q⟩ := h
  have hl : 0 < xs.length := List.length_pos_iff.mpr hn
  refine ⟨_, (pss_one (ps_ret (pe_ix (ix_listK K) (pv 1) (pe_def D_law_take hr (by first | decide | omega) (pa_cons (pv 0) (pa_cons (pe_callB (call_lenK K) (by rfl) T.b_len (by decide +kernel) (pa_cons (pv 1) pa_nil)) pa_nil))) (fun _ _ => rfl)))), ?_⟩
  refine ⟨_, rfl, _, rfl, _, rfl, _, xs.length, rfl, .inl ⟨_, hx, rfl⟩, s, _, rfl, by omega, by omega, hs, fun k k0 k1 => ?_⟩
  have hk : k.toNat < xs.length := by omega
  have hat : atI xs k = some xs[k.toNat] := by
    have e : ((k.toNat : Nat) : Int) = k := by omega
    have h : atI xs ((k.toNat : Nat) : Int) = some xs[k.toNat] := atI_nat (List.getElem?_eq_getElem hk)
    rw [e] at h
    exact h
  exact ⟨r, xs, k, _, rfl, rfl, hx, hat, q _ (List.getElem_mem hk)⟩
theorem ok_mixed {f : Addr} {fd : FuncData} (F : FunD K "_law_mixed" "_law_mixed" (defArgs s_law_mixed) (defBody s_law_mixed) (defScope s_law_mixed) [] [] f fd) (hm : mg "_law_mixed" = some (.ref f)) (T : Top K mg)
    (D_law_take : Def P w K mg base "_law_take" 1 ["_law_source_here", "_law_many"] spTake) : Def P w K mg base "_law_mixed" 2 ["_law_source_here", "_law_row"] (spMixed K) := by
  refine def_mk F hm (F.bindsN fun _ _ _ _ _ _ us hl => match us, hl with | [_, _], _ => rfl) sc_law_mixed (fun vs H Q E h => ?_) (fun cdv A outer s H vs Q E hr h => ?_)
  · obtain ⟨s, r, xs, rfl, _⟩ := h
    rfl
  obtain ⟨s, r, xs, rfl, hs, hx, hz, q⟩ := h
  refine ⟨_, (pss_cons (ps_set (i := 2) sc_law_mixed.nd rfl (Or.inl rfl) (pe_lst pa_nil))
  (pss_cons (ps_for PassesOwn.never rfl (pi_listK K (pv 1)) (pg_name (i := 3) sc_law_mixed.nd rfl (Or.inl rfl) (.inl rfl))
  (pss_one (ps_expr (pe_bmK K PySem.F.plainAttrs_list PySem.F.slot_list_insert PySem.F.type_list_insert mt_insert (pv 2) (pa_cons (pe_def D_law_take hr (by first | decide | omega) (pa_cons (pv 0) (pa_cons (pe_op op_add (pe_callB (call_lenK K) (by rfl) T.b_len (by decide +kernel) (pa_cons (pv 2) pa_nil)) pe_int) pa_nil))) (pa_cons (pv 3) pa_nil))))))
  (pss_one (ps_ret (pv 2))))), ?_⟩
  refine ⟨by decide, fun p hp => ?_⟩
  have e1 := same_new hp (.lst [])
  refine ⟨_, rfl, r, rfl, ⟨_, up_l e1 hx⟩, for_list (K := K) (a := r) (xs := xs) (fun i σ H' => ∃ (ys : List V) (o : Option V), σ = [some (.ref s), some (.ref r), some (.ref p), o] ∧ Same H H' ∧ H' p = some (.lst ys) ∧ ys.Perm (xs.take i))
    ⟨[], none, rfl, e1, upd_same, by rw [List.take_zero]⟩ (fun i σ H' _ ⟨_, _, _, e, _⟩ => up_l e hx) ?_ ?_⟩
  · rintro i x σ H' hi ⟨ys, o, rfl, e, hp1, hperm⟩
    have hi2 := (List.getElem?_eq_some_iff.mp hi).1
    have hyl : ys.length = i := by
      rw [hperm.length_eq, List.length_take]
      omega
    refine ⟨_, rfl, .inl ⟨rfl, _, SqL.of hp1⟩, _, rfl, _, rfl, _, ys.length, rfl, .inl ⟨_, SqL.of hp1, rfl⟩, _, _, rfl, rfl, s, _, rfl, by omega, by omega, hs.up e, fun k k0 k1 => ?_⟩
    refine ⟨_, rfl, p, ys, k, x, rfl, rfl, hp1, lt_line (by omega), k0, by omega, ?_⟩
    refine ⟨_, _, rfl, fun b o2 h => ?_, upd_same, ?_⟩
    · rw [upd_ne (ne_of_none h hp)]
      exact e _ _ h
    · rw [List.take_succ, hi]
      have h1 : (ys.take k.toNat ++ [x] ++ ys.drop k.toNat).Perm (x :: ys) := by
        rw [List.append_assoc]
        refine List.perm_middle.trans ?_
        show (x :: (ys.take k.toNat ++ ys.drop k.toNat)).Perm _
        rw [List.take_append_drop]
      refine h1.trans ?_
      refine (List.Perm.cons x hperm).trans ?_
      exact (List.perm_append_singleton x (xs.take i)).symm
  · rintro σ H' ⟨ys, o, rfl, e, hp1, hperm⟩
    rw [List.take_length] at hperm
    exact ⟨_, rfl, q p H' ys hp e hp1 hperm⟩
end
end FF
namespace FF
open PySem PySem.Spec PyProof.Rows L2
section
variable {P : Program} {w : World} {K : PySem.W.Frag} {mg : Str → Option Value} {base : Heap}
theorem fn_fe {f : Addr} {fd : FuncData} (F : FunD K "__init__" "FaultError.__init__" (defArgs s_FaultError_init) (defBody s_FaultError_init) (defScope s_FaultError_init) [] [] f fd) (T : Top K mg) : FnOk P w K mg base CX0 1 f fd ["self", "code"] (spFE K) := by
  refine FunD.ok F sc_FaultError_init (fun vs H Q E h => ?_) (fun cdv A outer s0 H vs Q E hr h => ?_)
  · obtain ⟨a, C, z, rfl, _⟩ := h
    rfl
  obtain ⟨a, C, z, rfl, hC, hno, ha, q⟩ := h
  refine ⟨_, PSs.nox (pss_cons (ps_expr (pe_veinit (by rfl) T.b_ValueError T.fe.ve (pa_cons (pv 0) (pa_cons (pv 1) pa_nil)))) (pss_one (ps_ost (pv 0) (pv 1)))), ?_⟩
  refine ⟨_, rfl, _, rfl, a, C, [z], rfl, (show 1 ≤ 1000 by decide), hC, ha, ?_⟩
  exact ⟨_, rfl, _, rfl, a, C, rfl, hC, hno, .inl ⟨ha, fun dx hdx hne => q dx hdx hne⟩⟩
theorem fn_InvalidBoard {f : Addr} {fd fdg : FuncData} (F : FunD K "__init__" "InvalidBoard.__init__" (defArgs s_InvalidBoard_init) (defBody s_InvalidBoard_init) (defScope s_InvalidBoard_init) [] [] f fd) (T : Top K mg)
    (FE : FnOk P w K mg base CX0 1 (He.ma K (He.ga K "FaultError") "__init__") fdg ["self", "code"] (spFE K)) (hb : Binds K fdg ["self", "code"] []) : FnOk P w K mg base CX0 2 f fd ["self"] (spIni K "InvalidBoard") := by
  refine FunD.ok F sc_InvalidBoard_init (fun vs H Q E h => ?_) (fun cdv A outer s0 H vs Q E hr h => ?_)
  · obtain ⟨a, C, rfl, _⟩ := h
    rfl
  obtain ⟨a, C, rfl, hC, hno, ha, q⟩ := h
  refine ⟨_, PSs.nox (pss_one (ps_expr (pe_clsfn (by rfl) T.c_FaultError T.fe.rd ⟨T.fe.at_, rfl⟩ FE hr T.fe.kp hb pass0 (pa_cons (pv 0) (pa_cons pe_str pa_nil))))), ?_⟩
  exact ⟨_, rfl, a, C, _, rfl, hC, hno, ha, q⟩
theorem fn_InvalidPlace {f : Addr} {fd fdg : FuncData} (F : FunD K "__init__" "InvalidPlace.__init__" (defArgs s_InvalidPlace_init) (defBody s_InvalidPlace_init) (defScope s_InvalidPlace_init) [] [] f fd) (T : Top K mg)
    (FE : FnOk P w K mg base CX0 1 (He.ma K (He.ga K "FaultError") "__init__") fdg ["self", "code"] (spFE K)) (hb : Binds K fdg ["self", "code"] []) : FnOk P w K mg base CX0 2 f fd ["self", "place"] (spIni1 K "InvalidPlace" "place") := by
  refine FunD.ok F sc_InvalidPlace_init (fun vs H Q E h => ?_) (fun cdv A outer s0 H vs Q E hr h => ?_)
  · obtain ⟨a, C, y, rfl, _⟩ := h
    rfl
  obtain ⟨a, C, y, rfl, hC, hno, hnf, ha, q⟩ := h
  refine ⟨_, PSs.nox (pss_cons (ps_expr (pe_clsfn (by rfl) T.c_FaultError T.fe.rd ⟨T.fe.at_, rfl⟩ FE hr T.fe.kp hb pass0 (pa_cons (pv 0) (pa_cons pe_str pa_nil)))) (pss_one (ps_ost (pv 0) (pv 1)))), ?_⟩
  refine ⟨_, rfl, a, C, _, rfl, hC, hno, ha, fun dx hdx hne => ?_⟩
  exact ⟨_, rfl, _, rfl, a, C, rfl, hC, hnf, .inr ⟨dx, [("code", .str "InvalidPlace")], upd_same, by rw [upd_ne hne, upd_same], (show 1 ≤ 900 by decide), q dx hdx hne⟩⟩
theorem fn_TooManyPlaces {f : Addr} {fd fdg : FuncData} (F : FunD K "__init__" "TooManyPlaces.__init__" (defArgs s_TooManyPlaces_init) (defBody s_TooManyPlaces_init) (defScope s_TooManyPlaces_init) [] [] f fd) (T : Top K mg)
    (FE : FnOk P w K mg base CX0 1 (He.ma K (He.ga K "FaultError") "__init__") fdg ["self", "code"] (spFE K)) (hb : Binds K fdg ["self", "code"] []) : FnOk P w K mg base CX0 2 f fd ["self", "limit"] (spIni1 K "TooManyPlaces" "limit") := by
  refine FunD.ok F sc_TooManyPlaces_init (fun vs H Q E h => ?_) (fun cdv A outer s0 H vs Q E hr h => ?_)
  · obtain ⟨a, C, y, rfl, _⟩ := h
    rfl
  obtain ⟨a, C, y, rfl, hC, hno, hnf, ha, q⟩ := h
  refine ⟨_, PSs.nox (pss_cons (ps_expr (pe_clsfn (by rfl) T.c_FaultError T.fe.rd ⟨T.fe.at_, rfl⟩ FE hr T.fe.kp hb pass0 (pa_cons (pv 0) (pa_cons pe_str pa_nil)))) (pss_one (ps_ost (pv 0) (pv 1)))), ?_⟩
  refine ⟨_, rfl, a, C, _, rfl, hC, hno, ha, fun dx hdx hne => ?_⟩
  exact ⟨_, rfl, _, rfl, a, C, rfl, hC, hnf, .inr ⟨dx, [("code", .str "TooManyPlaces")], upd_same, by rw [upd_ne hne, upd_same], (show 1 ≤ 900 by decide), q dx hdx hne⟩⟩
end
end FF
/-! boards: what the program and the law compute of rows of digits -/
namespace FF
open PySem PySem.Spec PyProof.Rows L2
abbrev tl (z : Str) : List Nat := z.cps.toList
/-! ### masks -/
def ofBits : List Nat → Nat
  | [] => 0
  | c :: r => Hx.hv c + 2 * ofBits r
theorem binNum_app (a b : List Nat) : Bn.binNum (a ++ b) = b.foldl (fun a c => a * 2 + Hx.hv c) (Bn.binNum a) := List.foldl_append
theorem binNum_rev : ∀ l : List Nat, Bn.binNum l.reverse = ofBits l
  | [] => rfl
  | c :: r => by
    rw [List.reverse_cons, binNum_app]
    show Bn.binNum r.reverse * 2 + Hx.hv c = _
    rw [binNum_rev r]
    show _ = Hx.hv c + 2 * ofBits r
    omega
def maskN (t : Str) : Nat := ofBits (tl t)
def Bits (l : List Nat) : Prop := ∀ c ∈ l, c = 48 ∨ c = 49
theorem hv_bit {c : Nat} (h : c = 48 ∨ c = 49) : Hx.hv c = if c = 49 then 1 else 0 := by
  rcases h with rfl | rfl <;> decide
theorem bits_test : ∀ {l : List Nat} (_ : Bits l) (k : Nat), (ofBits l).testBit k = (l[k]? == some 49)
  | [], _, k => by
    show (0 : Nat).testBit k = _
    rw [Nat.zero_testBit]
    simp
  | c :: r, h, k => by
    have hc := h c List.mem_cons_self
    have hr : Bits r := fun d hd => h d (List.mem_cons_of_mem _ hd)
    show (Hx.hv c + 2 * ofBits r).testBit k = _
    cases k with
    | zero =>
      rw [Nat.testBit_zero]
      rcases hc with rfl | rfl
      · rw [show Hx.hv 48 = 0 by decide]
        have : (0 + 2 * ofBits r) % 2 = 0 := by omega
        rw [this] <;> rfl
      · rw [show Hx.hv 49 = 1 by decide]
        have : (1 + 2 * ofBits r) % 2 = 1 := by omega
        rw [this] <;> rfl
    | succ k =>
      rw [Nat.testBit_succ]
      have : (Hx.hv c + 2 * ofBits r) / 2 = ofBits r := by
        rcases hc with rfl | rfl
        · rw [show Hx.hv 48 = 0 by decide]
          omega
        · rw [show Hx.hv 49 = 1 by decide]
          omega
      rw [this, bits_test hr k]
      rfl
/-! ### rows -/
def digB (r : Str) : Bool := (tl r).all fun c => c == 48 || c == 49
def sqB (rs : List Str) : Bool := (decide (1 ≤ rs.length) && decide (rs.length ≤ 60)) && rs.all fun r => decide (r.length = rs.length) && digB r
/-- row x has a 1 at place y -/
def bit (rs : List Str) (x y : Nat) : Bool := match rs[x]? with
  | some r => (tl r)[y]? == some 49
  | none => false
def colS (rs : List Str) (j : Nat) : Str := ⟨(rs.map fun r => (tl r).getD j 0).toArray⟩
def cols (rs : List Str) : List Str := (List.range rs.length).map (colS rs)
def above (rs : List Str) : List Nat := rs.map maskN
def below (rs : List Str) : List Nat := (cols rs).map maskN
structure Sq (rs : List Str) : Prop where
  pos : 1 ≤ rs.length
  le : rs.length ≤ 60
  len : ∀ r ∈ rs, r.length = rs.length
  dig : ∀ r ∈ rs, Bits (tl r)
theorem digB_iff {r : Str} : digB r = true ↔ Bits (tl r) := by
  unfold digB Bits
  rw [List.all_eq_true]
  constructor
  · intro h c hc
    have := h c hc
    rw [Bool.or_eq_true, beq_iff_eq, beq_iff_eq] at this
    exact this
  · intro h c hc
    rw [Bool.or_eq_true, beq_iff_eq, beq_iff_eq]
    exact h c hc
theorem sq_iff {rs : List Str} : sqB rs = true ↔ Sq rs := by
  unfold sqB
  rw [Bool.and_eq_true, Bool.and_eq_true, decide_eq_true_eq, decide_eq_true_eq, List.all_eq_true]
  constructor
  · rintro ⟨⟨a, b⟩, c⟩
    refine ⟨a, b, fun r hr => ?_, fun r hr => ?_⟩
    · exact of_decide_eq_true ((Bool.and_eq_true _ _).mp (c r hr)).1
    · exact digB_iff.mp ((Bool.and_eq_true _ _).mp (c r hr)).2
  · rintro ⟨a, b, c, d⟩
    exact ⟨⟨a, b⟩, fun r hr => by rw [decide_eq_true (c r hr), digB_iff.mpr (d r hr)] <;> rfl⟩
theorem above_bit {rs : List Str} (h : Sq rs) {x m : Nat} (hm : (above rs)[x]? = some m) (y : Nat) : m.testBit y = bit rs x y := by
  unfold above at hm
  rw [List.getElem?_map] at hm
  obtain ⟨r, hr, rfl⟩ := Option.map_eq_some_iff.mp hm
  unfold bit maskN
  rw [hr]
  exact bits_test (h.dig r (List.mem_of_getElem? hr)) y
theorem col_get {rs : List Str} (h : Sq rs) {x y : Nat} (hx : x < rs.length) (hy : y < rs.length) : (tl (colS rs y))[x]? = (rs[x]?).bind fun r => (tl r)[y]? := by
  show (rs.map fun r => (tl r).getD y 0)[x]? = _
  rw [List.getElem?_map, List.getElem?_eq_getElem hx]
  show some ((tl rs[x]).getD y 0) = (tl rs[x])[y]?
  have hl : y < (tl rs[x]).length := by
    have := h.len rs[x] (List.getElem_mem hx)
    show y < rs[x].length
    omega
  rw [List.getElem?_eq_getElem hl, List.getD_eq_getElem?_getD, List.getElem?_eq_getElem hl] <;> rfl
theorem col_dig {rs : List Str} (h : Sq rs) {y : Nat} (hy : y < rs.length) : Bits (tl (colS rs y)) := by
  intro c hc
  obtain ⟨r, hr, rfl⟩ := List.mem_map.mp (show c ∈ rs.map fun r => (tl r).getD y 0 from hc)
  have hl : y < (tl r).length := by
    have := h.len r hr
    show y < r.length
    omega
  rw [List.getD_eq_getElem?_getD, List.getElem?_eq_getElem hl]
  exact h.dig r hr _ (List.getElem_mem hl)
theorem below_bit {rs : List Str} (h : Sq rs) {y m : Nat} (hm : (below rs)[y]? = some m) {x : Nat} (hx : x < rs.length) : m.testBit x = bit rs x y := by
  unfold below cols at hm
  rw [List.map_map, List.getElem?_map] at hm
  obtain ⟨j, hj, rfl⟩ := Option.map_eq_some_iff.mp hm
  have hy : y < rs.length := by
    have := (List.getElem?_eq_some_iff.mp hj).1
    rwa [List.length_range] at this
  rw [List.getElem?_range hy] at hj
  cases hj
  show (ofBits (tl (colS rs y))).testBit x = _
  rw [bits_test (col_dig h hy), col_get h hx hy]
  unfold bit
  rw [List.getElem?_eq_getElem hx] <;> rfl
theorem bit_lt {rs : List Str} (h : Sq rs) {x y : Nat} (hb : bit rs x y = true) : x < rs.length ∧ y < rs.length := by
  unfold bit at hb
  cases e : rs[x]? with
  | none =>
    rw [e] at hb
    cases hb
  | some r =>
    rw [e] at hb
    have hx := (List.getElem?_eq_some_iff.mp e).1
    have h2 : (tl r)[y]? = some 49 := eq_of_beq hb
    have hy := (List.getElem?_eq_some_iff.mp h2).1
    have := h.len r (List.mem_of_getElem? e)
    refine ⟨hx, ?_⟩
    have e2 : (tl r).length = r.length := rfl
    omega
/-! ### orders, as the program asks -/
def ordStep (p m o s : Nat) : Bool := !(m.testBit o && ((s ||| m) != m || (o != p && s == m)))
def ordIn (ms : List Nat) (p m : Nat) : Bool := m.testBit p && (List.range ms.length).all fun o => ordStep p m o (ms.getD o 0)
def ordB (ms : List Nat) : Bool := (List.range ms.length).all fun p => ordIn ms p (ms.getD p 0)
structure Ord (n : Nat) (le : Nat → Nat → Bool) : Prop where
  refl : ∀ x, x < n → le x x = true
  trans : ∀ x y z, x < n → y < n → z < n → le x y = true → le y z = true → le x z = true
  anti : ∀ x y, x < n → y < n → le x y = true → le y x = true → x = y
theorem or_sub {s m : Nat} : (s ||| m) = m ↔ ∀ k, s.testBit k = true → m.testBit k = true := by
  constructor
  · intro h k hk
    rw [← h, Nat.testBit_or, hk, Bool.true_or]
  · intro h
    refine Nat.eq_of_testBit_eq fun k => ?_
    rw [Nat.testBit_or]
    cases hs : s.testBit k with
    | false => rw [Bool.false_or]
    | true => rw [h k hs, Bool.or_true]
theorem above_get {rs : List Str} {x : Nat} (hx : x < rs.length) : (above rs)[x]? = some ((above rs).getD x 0) := by
  have hl : x < (above rs).length := by unfold above; rwa [List.length_map]
  rw [List.getD_eq_getElem?_getD, List.getElem?_eq_getElem hl] <;> rfl
theorem below_len {rs : List Str} : (below rs).length = rs.length := by
  unfold below cols
  rw [List.length_map, List.length_map, List.length_range]
theorem above_len {rs : List Str} : (above rs).length = rs.length := by
  unfold above
  rw [List.length_map]
theorem below_get {rs : List Str} {x : Nat} (hx : x < rs.length) : (below rs)[x]? = some ((below rs).getD x 0) := by
  have hl : x < (below rs).length := by rwa [below_len]
  rw [List.getD_eq_getElem?_getD, List.getElem?_eq_getElem hl] <;> rfl
theorem ord_iff {rs : List Str} (h : Sq rs) : ordB (above rs) = true ↔ Ord rs.length (bit rs) := by
  have bt : ∀ x y, x < rs.length → ((above rs).getD x 0).testBit y = bit rs x y := fun x y hx => above_bit h (above_get hx) y
  have sub : ∀ x y, x < rs.length → y < rs.length → ((((above rs).getD y 0) ||| ((above rs).getD x 0)) = (above rs).getD x 0 ↔ ∀ z, bit rs y z = true → bit rs x z = true) := fun x y hx hy => by
    rw [or_sub]
    exact ⟨fun q z hz => by rw [← bt x z hx]; exact q z (by rw [bt y z hy]; exact hz), fun q z hz => by rw [bt x z hx]; exact q z (by rw [← bt y z hy]; exact hz)⟩
  unfold ordB ordIn
  rw [above_len, List.all_eq_true]
  constructor
  · intro q
    have r1 : ∀ x, x < rs.length → bit rs x x = true := fun x hx => by
      have := ((Bool.and_eq_true _ _).mp (q x (List.mem_range.mpr hx))).1
      rwa [bt x x hx] at this
    have r2 : ∀ x y, x < rs.length → y < rs.length → bit rs x y = true → (∀ z, bit rs y z = true → bit rs x z = true) ∧ (y = x ∨ (above rs).getD y 0 ≠ (above rs).getD x 0) := fun x y hx hy hb => by
      have := ((Bool.and_eq_true _ _).mp (q x (List.mem_range.mpr hx))).2
      have := List.all_eq_true.mp this y (List.mem_range.mpr hy)
      unfold ordStep at this
      rw [bt x y hx, hb, Bool.true_and] at this
      have h1 : (((above rs).getD y 0 ||| (above rs).getD x 0) != (above rs).getD x 0 || (y != x && (above rs).getD y 0 == (above rs).getD x 0)) = false := by
        cases e : (((above rs).getD y 0 ||| (above rs).getD x 0) != (above rs).getD x 0 || (y != x && (above rs).getD y 0 == (above rs).getD x 0)) with
        | false => rfl
        | true =>
          rw [e] at this
          cases this
      obtain ⟨a, b⟩ := Bool.or_eq_false_iff.mp h1
      have a2 : ((above rs).getD y 0 ||| (above rs).getD x 0) = (above rs).getD x 0 := by
        have := bne_eq_false_iff_eq.mp a
        exact this
      refine ⟨(sub x y hx hy).mp a2, ?_⟩
      by_cases e : y = x
      · exact .inl e
      · refine .inr fun z => ?_
        rw [z, beq_self_eq_true, Bool.and_true] at b
        exact e (bne_eq_false_iff_eq.mp b)
    refine ⟨r1, fun x y z hx hy hz h1 h2 => (r2 x y hx hy h1).1 z h2, fun x y hx hy h1 h2 => ?_⟩
    rcases (r2 x y hx hy h1).2 with e | e
    · exact e.symm
    · exfalso
      refine e (Nat.eq_of_testBit_eq fun z => ?_)
      rw [bt y z hy, bt x z hx]
      cases hz : bit rs y z with
      | true => rw [(r2 x y hx hy h1).1 z hz]
      | false =>
        cases hz2 : bit rs x z with
        | false => rfl
        | true =>
          have := (r2 y x hy hx h2).1 z hz2
          rw [hz] at this
          cases this
  · intro o x hx
    have hx := List.mem_range.mp hx
    rw [bt x x hx, o.refl x hx, Bool.true_and, List.all_eq_true]
    intro y hy
    have hy := List.mem_range.mp hy
    unfold ordStep
    rw [bt x y hx]
    cases hb : bit rs x y with
    | false => rfl
    | true =>
      have a : (((above rs).getD y 0 ||| (above rs).getD x 0) != (above rs).getD x 0) = false := bne_eq_false_iff_eq.mpr ((sub x y hx hy).mpr fun z hz => o.trans x y z hx hy (bit_lt h hz).2 hb hz)
      have b : (y != x && (above rs).getD y 0 == (above rs).getD x 0) = false := by
        by_cases e : y = x
        · rw [bne_eq_false_iff_eq.mpr e, Bool.false_and]
        · have : ((above rs).getD y 0 == (above rs).getD x 0) = false := beq_eq_false_iff_ne.mpr fun z => e (o.anti y x hy hx (by
            rw [← bt y x hy, z, bt x x hx]
            exact o.refl x hx) hb)
          rw [this, Bool.and_false]
      rw [a, b] <;> rfl
end FF
/-! boards: the program's meeting places, the law's bounds: the same rows are boards -/
namespace FF
open PySem PySem.Spec PyProof.Rows L2
theorem below_all {rs : List Str} (h : Sq rs) {y m : Nat} (hm : (below rs)[y]? = some m) (x : Nat) : m.testBit x = bit rs x y := by
  by_cases hx : x < rs.length
  · exact below_bit h hm hx
  · have e1 : bit rs x y = false := by
      cases e : bit rs x y with
      | false => rfl
      | true => exact absurd (bit_lt h e).1 hx
    rw [e1]
    unfold below cols at hm
    rw [List.map_map, List.getElem?_map] at hm
    obtain ⟨j, hj, rfl⟩ := Option.map_eq_some_iff.mp hm
    have hy : j < rs.length := List.mem_range.mp (List.mem_of_getElem? hj)
    show (ofBits (tl (colS rs j))).testBit x = false
    rw [bits_test (col_dig h hy)]
    have e2 : (tl (colS rs j))[x]? = none := by
      refine List.getElem?_eq_none ?_
      show (rs.map fun r => (tl r).getD j 0).length ≤ x
      rw [List.length_map]
      omega
    rw [e2] <;> rfl
/-- the last of the first i places whose mask is k -/
def lastTo (ms : List Nat) : Nat → Nat → Option Nat
  | 0, _ => none
  | i + 1, k => if ms.getD i 0 = k then some i else lastTo ms i k
theorem lastTo_some {ms : List Nat} {k : Nat} : ∀ {i z : Nat}, lastTo ms i k = some z → z < i ∧ ms.getD z 0 = k
  | i + 1, z, h => by
    unfold lastTo at h
    split at h
    · cases h
      exact ⟨Nat.lt_succ_self _, by assumption⟩
    · have := lastTo_some h
      exact ⟨by omega, this.2⟩
theorem lastTo_none {ms : List Nat} {k : Nat} : ∀ {i : Nat}, (∃ z, z < i ∧ ms.getD z 0 = k) → (lastTo ms i k).isSome = true
  | 0, ⟨z, h, _⟩ => absurd h (Nat.not_lt_zero _)
  | i + 1, ⟨z, h, e⟩ => by
    unfold lastTo
    split
    · rfl
    · rename_i hne
      refine lastTo_none ⟨z, ?_, e⟩
      have : z ≠ i := fun q => hne (q ▸ e)
      omega
def meetAt (ms : List Nat) (m : Nat) (y : Nat) : Option Nat := lastTo ms ms.length (m &&& ms.getD y 0)
def rowOk (ms : List Nat) (m : Nat) : Bool := (List.range ms.length).all fun y => (meetAt ms m y).isSome
def meetB (ms : List Nat) : Bool := (List.range ms.length).all fun x => rowOk ms (ms.getD x 0)
def rowT (ms : List Nat) (m : Nat) : List Nat := (List.range ms.length).map fun y => (meetAt ms m y).getD 0
def tabT (ms : List Nat) : List (List Nat) := ms.map (rowT ms)
/-! ### the law -/
def someL (n : Nat) (le : Nat → Nat → Bool) (x y : Nat) : List Nat := (List.range n).filter fun z => le z x && le z y
def bestL (n : Nat) (le : Nat → Nat → Bool) (x y : Nat) : List Nat := (someL n le x y).filter fun z => (someL n le x y).all fun w => le w z
def boundB (n : Nat) (le : Nat → Nat → Bool) (x y : Nat) : Bool := (bestL n le x y).length == 1
def orderL (n : Nat) (le : Nat → Nat → Bool) : Bool := (List.range n).all fun x => le x x && (List.range n).all fun y => !(le x y && !(((List.range n).filter fun z => le y z).all fun z => le x z)) && !(x != y && (le x y && le y x))
def flip2 (le : Nat → Nat → Bool) : Nat → Nat → Bool := fun x y => le y x
def boundsL (rs : List Str) : Bool := (List.range rs.length).all fun x => (List.range x).all fun y => boundB rs.length (bit rs) x y && boundB rs.length (flip2 (bit rs)) x y
def lawBoard (rs : List Str) : Bool := sqB rs && (orderL rs.length (bit rs) && boundsL rs)
def progBoard (rs : List Str) : Bool := sqB rs && (ordB (above rs) && (meetB (below rs) && meetB (above rs)))
theorem orderL_iff {n : Nat} {le : Nat → Nat → Bool} : orderL n le = true ↔ Ord n le := by
  unfold orderL
  rw [List.all_eq_true]
  constructor
  · intro q
    have r : ∀ x, x < n → le x x = true ∧ ∀ y, y < n → (le x y = true → ∀ z, z < n → le y z = true → le x z = true) ∧ (x ≠ y → ¬ (le x y = true ∧ le y x = true)) := fun x hx => by
      obtain ⟨a, b⟩ := (Bool.and_eq_true _ _).mp (q x (List.mem_range.mpr hx))
      refine ⟨a, fun y hy => ?_⟩
      obtain ⟨c, d⟩ := (Bool.and_eq_true _ _).mp (List.all_eq_true.mp b y (List.mem_range.mpr hy))
      refine ⟨fun h1 z hz h2 => ?_, fun hne ⟨h1, h2⟩ => ?_⟩
      · rw [h1, Bool.true_and, Bool.not_not] at c
        exact List.all_eq_true.mp c z (List.mem_filter.mpr ⟨List.mem_range.mpr hz, h2⟩)
      · rw [h1, h2, bne_iff_ne.mpr hne] at d
        cases d
    exact ⟨fun x hx => (r x hx).1, fun x y z hx hy hz h1 h2 => ((r x hx).2 y hy).1 h1 z hz h2, fun x y hx hy h1 h2 => Decidable.byContradiction fun hne => ((r x hx).2 y hy).2 hne ⟨h1, h2⟩⟩
  · intro o x hx
    have hx := List.mem_range.mp hx
    rw [o.refl x hx, Bool.true_and, List.all_eq_true]
    intro y hy
    have hy := List.mem_range.mp hy
    have c : (le x y && !(((List.range n).filter fun z => le y z).all fun z => le x z)) = false := by
      cases h1 : le x y with
      | false => rfl
      | true =>
        rw [Bool.true_and, Bool.not_eq_false', List.all_eq_true]
        intro z hz
        obtain ⟨a, b⟩ := List.mem_filter.mp hz
        exact o.trans x y z hx hy (List.mem_range.mp a) h1 b
    have d : (x != y && (le x y && le y x)) = false := by
      by_cases e : x = y
      · rw [bne_eq_false_iff_eq.mpr e, Bool.false_and]
      · cases h1 : le x y with
        | false => rw [Bool.false_and, Bool.and_false]
        | true =>
          cases h2 : le y x with
          | false => rw [Bool.and_false, Bool.and_false]
          | true => exact absurd (o.anti x y hx hy h1 h2) e
    rw [c, d] <;> rfl
/-- a greatest one of those below x and y -/
def Glb (n : Nat) (le : Nat → Nat → Bool) (x y : Nat) : Prop := ∃ z, z < n ∧ ∀ w, w < n → (le w z = true ↔ le w x = true ∧ le w y = true)
theorem one_of {l : List Nat} {z : Nat} (hn : l.Nodup) (hz : z ∈ l) (hu : ∀ w ∈ l, w = z) : l.length = 1 := by
  match l, hn, hz, hu with
  | [a], _, _, _ => rfl
  | a :: b :: r, hn, _, hu =>
    have h1 := hu a List.mem_cons_self
    have h2 := hu b (List.mem_cons_of_mem _ List.mem_cons_self)
    rw [h1, h2] at hn
    exact absurd List.mem_cons_self (List.nodup_cons.mp hn).1
theorem bound_iff {n : Nat} {le : Nat → Nat → Bool} (o : Ord n le) {x y : Nat} (hx : x < n) (hy : y < n) : boundB n le x y = true ↔ Glb n le x y := by
  have ms : ∀ z, z ∈ someL n le x y ↔ z < n ∧ le z x = true ∧ le z y = true := fun z => by
    unfold someL
    rw [List.mem_filter, List.mem_range, Bool.and_eq_true]
  have mb : ∀ z, z ∈ bestL n le x y ↔ (z < n ∧ le z x = true ∧ le z y = true) ∧ ∀ w, w < n → le w x = true → le w y = true → le w z = true := fun z => by
    unfold bestL
    rw [List.mem_filter, ms, List.all_eq_true]
    exact and_congr_right fun _ => ⟨fun h w a b c => h w ((ms w).mpr ⟨a, b, c⟩), fun h w hw => h w ((ms w).mp hw).1 ((ms w).mp hw).2.1 ((ms w).mp hw).2.2⟩
  unfold boundB
  rw [beq_iff_eq]
  constructor
  · intro h
    obtain ⟨z, hz⟩ := List.length_eq_one_iff.mp h
    have hm : z ∈ bestL n le x y := by rw [hz]; exact List.mem_singleton.mpr rfl
    obtain ⟨⟨a, b, c⟩, d⟩ := (mb z).mp hm
    exact ⟨z, a, fun w hw => ⟨fun q => ⟨o.trans w z x hw a hx q b, o.trans w z y hw a hy q c⟩, fun ⟨q1, q2⟩ => d w hw q1 q2⟩⟩
  · rintro ⟨z, hz, hg⟩
    obtain ⟨b, c⟩ := (hg z hz).mp (o.refl z hz)
    refine one_of (z := z) ((List.filter_sublist.trans List.filter_sublist).nodup List.nodup_range) ((mb z).mpr ⟨⟨hz, b, c⟩, fun w hw q1 q2 => (hg w hw).mpr ⟨q1, q2⟩⟩) fun w hw => ?_
    obtain ⟨⟨a, b2, c2⟩, d⟩ := (mb w).mp hw
    exact o.anti w z a hz ((hg w a).mpr ⟨b2, c2⟩) (d z hz b c)
theorem meet_iff {n : Nat} {le : Nat → Nat → Bool} {ms : List Nat} (hl : ms.length = n) (hb : ∀ x z, x < n → (ms.getD x 0).testBit z = (decide (z < n) && le z x)) : meetB ms = true ↔ ∀ x y, x < n → y < n → Glb n le x y := by
  unfold meetB rowOk meetAt
  rw [hl, List.all_eq_true]
  constructor
  · intro q x y hx hy
    have := List.all_eq_true.mp (q x (List.mem_range.mpr hx)) y (List.mem_range.mpr hy)
    obtain ⟨z, hz⟩ := Option.isSome_iff_exists.mp this
    obtain ⟨a, b⟩ := lastTo_some hz
    refine ⟨z, a, fun w hw => ?_⟩
    have h1 := congrArg (fun k => k.testBit w) b
    have h1 : (ms.getD z 0).testBit w = (ms.getD x 0 &&& ms.getD y 0).testBit w := h1
    rw [Nat.testBit_and, hb z w a, hb x w hx, hb y w hy, decide_eq_true hw, Bool.true_and, Bool.true_and, Bool.true_and] at h1
    rw [h1, Bool.and_eq_true]
  · intro q x hx
    have hx := List.mem_range.mp hx
    rw [List.all_eq_true]
    intro y hy
    have hy := List.mem_range.mp hy
    obtain ⟨z, hz, hg⟩ := q x y hx hy
    refine lastTo_none ⟨z, hz, Nat.eq_of_testBit_eq fun w => ?_⟩
    rw [Nat.testBit_and, hb z w hz, hb x w hx, hb y w hy]
    by_cases hw : w < n
    · rw [decide_eq_true hw, Bool.true_and, Bool.true_and, Bool.true_and]
      have := hg w hw
      cases e1 : le w z with
      | true =>
        obtain ⟨a, b⟩ := this.mp e1
        rw [a, b] <;> rfl
      | false =>
        cases e2 : (le w x && le w y) with
        | false => rfl
        | true =>
          rw [this.mpr ((Bool.and_eq_true _ _).mp e2)] at e1
          cases e1
    · rw [decide_eq_false hw] <;> rfl
theorem glb_symm {n : Nat} {le : Nat → Nat → Bool} {x y : Nat} (h : Glb n le x y) : Glb n le y x := by
  obtain ⟨z, hz, hg⟩ := h
  exact ⟨z, hz, fun w hw => (hg w hw).trans ⟨fun q => ⟨q.2, q.1⟩, fun q => ⟨q.2, q.1⟩⟩⟩
theorem Ord.flip {n : Nat} {le : Nat → Nat → Bool} (o : Ord n le) : Ord n (flip2 le) := ⟨o.refl, fun x y z hx hy hz h1 h2 => o.trans z y x hz hy hx h2 h1, fun x y hx hy h1 h2 => o.anti x y hx hy h2 h1⟩
theorem bounds_iff {rs : List Str} (o : Ord rs.length (bit rs)) : boundsL rs = true ↔ (∀ x y, x < rs.length → y < rs.length → Glb rs.length (bit rs) x y) ∧ ∀ x y, x < rs.length → y < rs.length → Glb rs.length (flip2 (bit rs)) x y := by
  have self : ∀ {le : Nat → Nat → Bool} {x : Nat}, x < rs.length → Glb rs.length le x x := fun {le x} hx => ⟨x, hx, fun w _ => ⟨fun q => ⟨q, q⟩, fun q => q.1⟩⟩
  unfold boundsL
  rw [List.all_eq_true]
  constructor
  · intro q
    have r : ∀ x y, x < rs.length → y < x → Glb rs.length (bit rs) x y ∧ Glb rs.length (flip2 (bit rs)) x y := fun x y hx hy => by
      obtain ⟨a, b⟩ := (Bool.and_eq_true _ _).mp (List.all_eq_true.mp (q x (List.mem_range.mpr hx)) y (List.mem_range.mpr hy))
      exact ⟨(bound_iff o hx (by omega)).mp a, (bound_iff o.flip hx (by omega)).mp b⟩
    refine ⟨fun x y hx hy => ?_, fun x y hx hy => ?_⟩
    · rcases Nat.lt_trichotomy x y with h | h | h
      · exact glb_symm (r y x hy h).1
      · subst h
        exact self hx
      · exact (r x y hx h).1
    · rcases Nat.lt_trichotomy x y with h | h | h
      · exact glb_symm (r y x hy h).2
      · subst h
        exact self hx
      · exact (r x y hx h).2
  · rintro ⟨q1, q2⟩ x hx
    have hx := List.mem_range.mp hx
    rw [List.all_eq_true]
    intro y hy
    have hy := List.mem_range.mp hy
    rw [(bound_iff o hx (by omega)).mpr (q1 x y hx (by omega)), (bound_iff o.flip hx (by omega)).mpr (q2 x y hx (by omega))] <;> rfl
theorem board_alike (rs : List Str) : progBoard rs = lawBoard rs := by
  unfold progBoard lawBoard
  cases hs : sqB rs with
  | false => rfl
  | true =>
    have h := sq_iff.mp hs
    have hA : ∀ x z, x < rs.length → ((above rs).getD x 0).testBit z = (decide (z < rs.length) && flip2 (bit rs) z x) := fun x z hx => by
      rw [above_bit h (above_get hx)]
      show bit rs x z = (decide (z < rs.length) && bit rs x z)
      cases e : bit rs x z with
      | false => rw [Bool.and_false]
      | true => rw [decide_eq_true (bit_lt h e).2] <;> rfl
    have hB : ∀ x z, x < rs.length → ((below rs).getD x 0).testBit z = (decide (z < rs.length) && bit rs z x) := fun x z hx => by
      rw [below_all h (below_get hx)]
      cases e : bit rs z x with
      | false => rw [Bool.and_false]
      | true => rw [decide_eq_true (bit_lt h e).1] <;> rfl
    have e : (ordB (above rs) && (meetB (below rs) && meetB (above rs))) = true ↔ (orderL rs.length (bit rs) && boundsL rs) = true := by
      rw [Bool.and_eq_true, Bool.and_eq_true, Bool.and_eq_true, ord_iff h, orderL_iff, meet_iff below_len hB, meet_iff above_len hA]
      exact and_congr_right fun o => (bounds_iff o).symm
    cases q : (ordB (above rs) && (meetB (below rs) && meetB (above rs))) with
    | true => rw [e.mp q]
    | false =>
      cases q2 : (orderL rs.length (bit rs) && boundsL rs) with
      | false => rfl
      | true =>
        rw [e.mpr q2] at q
        cases q
end FF
/-! boards: turned_rows, mask_of, is_square -/
namespace FF
open PySem PySem.Spec PyProof.Rows L2
def spTurned (K : PySem.W.Frag) : Sp := fun vs H Q _ => ∃ (a : Addr) (rs : List Str), vs = [.ref a] ∧ SqL K H a (rs.map V.str) ∧ Sq rs ∧ ∀ p H', Same H H' → H p = none → H' p = some (.lst ((cols rs).map V.str)) → Q (.ref p) H'
def spMask : Sp := fun vs H Q _ => ∃ z : Str, vs = [.str z] ∧ Bits (tl z) ∧ 1 ≤ z.length ∧ z.length ≤ 60 ∧ Q (.int (maskN z : Nat)) H
def spSquare (K : PySem.W.Frag) : Sp := fun vs H Q _ => ∃ (a : Addr) (rs : List Str), vs = [.ref a, .int 60] ∧ SqL K H a (rs.map V.str) ∧ rs.length ≤ 1000 ∧ (∀ r ∈ rs, r.length ≤ 10000) ∧ ∀ H', Same H H' → Q (.bl (sqB rs)) H'
theorem joinL_nil : ∀ l : List (List Nat), TL.joinL [] l = l.flatten
  | [] => rfl
  | [p] => by
    show p = [p].flatten
    rw [List.flatten_cons, List.flatten_nil, List.append_nil]
  | p :: q :: r => by
    show p ++ ([] ++ TL.joinL [] (q :: r)) = _
    rw [joinL_nil (q :: r), List.nil_append, List.flatten_cons (l := p)]
theorem join_nil (ys : List Str) : Txt.join ("" : Str) ys = ⟨((ys.map tl).flatten).toArray⟩ := by
  refine TL.ext_tl ?_
  rw [TL.join_eq, TL.tl_join]
  show TL.joinL [] (ys.map tl) = _
  rw [joinL_nil]
theorem join_one {α : Type} (f : α → Nat) (l : List α) : Txt.join ("" : Str) (l.map fun r => (⟨#[f r]⟩ : Str)) = ⟨(l.map f).toArray⟩ := by
  rw [join_nil, List.map_map]
  have e : (l.map (tl ∘ fun r => (⟨#[f r]⟩ : Str))).flatten = l.map f := by
    induction l with
    | nil => rfl
    | cons a l ih =>
      show [f a] ++ (l.map _).flatten = f a :: l.map f
      rw [ih] <;> rfl
  rw [e]
theorem sum_one {α : Type} (f : α → Nat) (l : List α) : ((l.map fun r => (⟨#[f r]⟩ : Str)).map (·.length)).sum = l.length := by
  induction l with
  | nil => rfl
  | cons a l ih =>
    show 1 + ((l.map fun r => (⟨#[f r]⟩ : Str)).map (·.length)).sum = l.length + 1
    rw [ih, Nat.add_comm]
theorem map_get {α : Type} {f : α → V} {l : List α} {i : Nat} {x : V} (h : (l.map f)[i]? = some x) : ∃ r, l[i]? = some r ∧ x = f r := by
  rw [List.getElem?_map] at h
  obtain ⟨r, hr, e⟩ := Option.map_eq_some_iff.mp h
  exact ⟨r, hr, e.symm⟩
section
variable {P : Program} {w : World} {K : PySem.W.Frag} {mg : Str → Option Value} {base : Heap}
theorem ok_turned {f : Addr} {fd : FuncData} (F : FunD K "turned_rows" "turned_rows" (defArgs s_turned_rows) (defBody s_turned_rows) (defScope s_turned_rows) [] [] f fd) (hm : mg "turned_rows" = some (.ref f)) (T : Top K mg) : Def P w K mg base "turned_rows" 1 ["rows"] (spTurned K) := by
  refine def_mk F hm (F.bindsN fun _ _ _ _ _ _ us hl => match us, hl with | [_], _ => rfl) sc_turned_rows (fun vs H Q E h => ?_) (fun cdv A outer s H vs Q E hr h => ?_)
  · obtain ⟨a, rs, rfl, _⟩ := h
    rfl
  obtain ⟨a, rs, rfl, hS, sq, q⟩ := h
  have hn := sq.le
  refine ⟨_, (pss_one (ps_ret (pe_lc (own := [("at", 2)]) rfl sc_turned_rows.nd (pi_range1 (by rfl) T.b_range (pa_cons (pe_callB (call_lenK K) (by rfl) T.b_len (by decide +kernel) (pa_cons (pv 0) pa_nil)) pa_nil)) (blkOk_by (by kernel_rfl)) (fun _ _ _ _ _ => (pg_name (i := 2) sc_turned_rows.nd rfl (Or.inr rfl) (.inl rfl))) (fun _ _ _ _ _ => pts_nil) (fun _ _ _ _ _ => (pe_joinK K pe_str (pe_lc (own := [("row", 1)]) rfl sc_turned_rows.nd (pi_listK K (pv 0)) (blkOk_by (by kernel_rfl)) (fun _ _ _ _ _ => (pg_name (i := 1) sc_turned_rows.nd rfl (Or.inl rfl) (.inr rfl))) (fun _ _ _ _ _ => pts_nil) (fun _ _ _ _ _ => (pe_ix ix_str (pv 1) (pv 2) (fun _ _ => rfl))))))))), ?_⟩
  refine ⟨_, rfl, _, rs.length, rfl, .inl ⟨_, hS, (List.length_map _).symm⟩, _, rfl, by omega, by omega, fun p hp => ?_⟩
  rw [Int.toNat_natCast]
  refine lc_mapR (j := 2) (R := fun i y _ => y = .str (colS rs i)) (fun _ _ _ _ _ h => h) hp (le_line (by omega)) (fun _ => rfl) ?_ ?_
  · intro i H2 hi e2 Q' k'
    refine ⟨⟨_, rfl⟩, _, rfl, a, rfl, ⟨_, up_l e2 hS⟩, fun D hD => ?_⟩
    refine lc_mapL (j := 1) (R := fun m y _ => ∃ r, rs[m]? = some r ∧ y = .str ⟨#[(tl r).getD i 0]⟩) (fun _ _ _ _ _ h => h) hD (up_l e2 hS) (le_line (by rw [List.length_map]; omega)) (fun _ => rfl) ?_ ?_
    · intro m x H3 hx e3 Q'' kk
      obtain ⟨r, hr, rfl⟩ := map_get hx
      have hl := sq.len r (List.mem_of_getElem? hr)
      have hil : i < (tl r).length := by
        show i < r.length
        omega
      refine ⟨_, rfl, _, rfl, r, _, (tl r).getD i 0, rfl, rfl, le_line (by omega), ?_, kk _ _ (Same.refl _) ⟨r, hr, rfl⟩⟩
      rw [Int.zero_add]
      refine atI_nat ?_
      rw [List.getD_eq_getElem?_getD, List.getElem?_eq_getElem hil] <;> rfl
    · intro H3 ys e3 hD3 hl3 hy
      have hys : ys = (rs.map fun r => (⟨#[(tl r).getD i 0]⟩ : Str)).map V.str := by
        refine eq_map_of (by rw [hl3, List.length_map, List.length_map]) fun m y h => ?_
        obtain ⟨r, hr, rfl⟩ := hy m y h
        exact ⟨_, by rw [List.getElem?_map, hr] <;> rfl, rfl⟩
      subst hys
      refine ⟨_, D, _, rfl, rfl, .inl (SqL.of hD3), ?_, k' _ _ e3 (by rw [join_one] <;> rfl)⟩
      rw [sum_one, List.length_map, show ("" : Str).length = 0 from rfl]
      omega
  · intro H2 ys e2 hp2 hl2 hy
    refine q p H2 e2 hp ?_
    rw [hp2]
    congr 2
    refine eq_map_of (by rw [hl2]; unfold cols; rw [List.length_map, List.length_range]) fun i y h => ?_
    have hi : i < rs.length := by
      have := (List.getElem?_eq_some_iff.mp h).1
      omega
    exact ⟨_, by unfold cols; rw [List.getElem?_map, List.getElem?_range hi] <;> rfl, hy i y h⟩
theorem ok_mask {f : Addr} {fd : FuncData} (F : FunD K "mask_of" "mask_of" (defArgs s_mask_of) (defBody s_mask_of) (defScope s_mask_of) [] [] f fd) (hm : mg "mask_of" = some (.ref f)) (T : Top K mg) : Def P w K mg base "mask_of" 1 ["text"] spMask := by
  refine def_mk F hm (F.bindsN fun _ _ _ _ _ _ us hl => match us, hl with | [_], _ => rfl) sc_mask_of (fun vs H Q E h => ?_) (fun cdv A outer s H vs Q E hr h => ?_)
  · obtain ⟨z, rfl, _⟩ := h
    rfl
  obtain ⟨z, rfl, hb, l1, l2, q⟩ := h
  refine ⟨_, (pss_one (ps_ret (pe_callTy call_int_bin (by rfl) T.b_int (by decide +kernel) (pa_cons (pe_revS (pv 0) (po_some (pe_un un_neg pe_int))) (pa_cons pe_int pa_nil))))), ?_⟩
  have hlen : (⟨(tl z).reverse.toArray⟩ : Str).length = z.length := by
    show (tl z).reverse.toArray.size = z.cps.size
    rw [List.size_toArray, List.length_reverse]
    rfl
  refine ⟨_, rfl, _, rfl, _, rfl, z, rfl, rfl, le_line (by omega), ⟨(tl z).reverse.toArray⟩, rfl, ?_, by omega, ?_, ?_⟩
  · show (tl z).reverse ≠ []
    intro h
    have : (tl z).length = 0 := by rw [← List.length_reverse, h] <;> rfl
    have e : (tl z).length = z.length := rfl
    omega
  · intro c hc
    exact hb c (List.mem_reverse.mp hc)
  · show Q (.int ((Bn.binNum (tl z).reverse : Nat) : Int)) H
    rw [binNum_rev]
    exact q
theorem digs01 {c : Nat} : decide (c ∈ ("01" : Str).cps.toList) = (c == 48 || c == 49) := by
  have e : ("01" : Str).cps.toList = [48, 49] := by decide +kernel
  rw [e, Bool.eq_iff_iff, decide_eq_true_eq, Bool.or_eq_true, beq_iff_eq, beq_iff_eq, List.mem_cons, List.mem_singleton]
/-- all([sign in "01" for sign in row]) -/
theorem dig_all {r : Str} {i j : Nat} {σ : L2.St} {H1 : Hp} {Q : VK} (hσ : σ[i]? = some (some (.str r))) (hj : ∀ v, ((wipe σ [j]).set j (some v))[j]? = some (some v)) (hz : r.length ≤ sizeLine) (hw : ∀ v, wipe ((wipe σ [j]).set j (some v)) [j] = wipe σ [j]) (q : ∀ H2, Same H1 H2 → Q (.bl (digB r)) H2) :
    tCB (rAll K) (tCons (tLc (iStr (tVar i)) (gName j) tYes (tOp (fun x y H Q => ∃ c z, x = V.str ⟨#[c]⟩ ∧ y = V.str z ∧ Q (V.bl (decide (c ∈ z.cps.toList))) H) (tVar j) (tC (V.str "01"))) [j]) tNil) σ H1 Q := by
  refine ⟨_, hσ, r, rfl, fun D hD => ?_⟩
  refine lc_strI (fun c => V.bl (decide (c ∈ ("01" : Str).cps.toList))) hD hz hw ?_ ?_
  · intro c H2 hc Q' k'
    exact ⟨_, hj _, c, _, rfl, rfl, k' _ (Same.refl _)⟩
  · intro H2 e2 hD2
    refine ⟨D, (tl r).map fun c => decide (c ∈ ("01" : Str).cps.toList), rfl, SqL.of ?_, ?_⟩
    · rw [hD2, List.map_map] <;> rfl
    · have := q H2 e2
      rw [List.all_map]
      unfold digB at this
      have e : ((id : Bool → Bool) ∘ fun c => decide (c ∈ ("01" : Str).cps.toList)) = fun c : Nat => (c == 48 || c == 49) := by
        funext c
        exact digs01
      rw [e]
      exact this
theorem ok_square {f : Addr} {fd : FuncData} (F : FunD K "is_square" "is_square" (defArgs s_is_square) (defBody s_is_square) (defScope s_is_square) [] [] f fd) (hm : mg "is_square" = some (.ref f)) (T : Top K mg) : Def P w K mg base "is_square" 1 ["rows", "limit"] (spSquare K) := by
  refine def_mk F hm (F.bindsN fun _ _ _ _ _ _ us hl => match us, hl with | [_, _], _ => rfl) sc_is_square (fun vs H Q E h => ?_) (fun cdv A outer s H vs Q E hr h => ?_)
  · obtain ⟨a, rs, rfl, _⟩ := h
    rfl
  obtain ⟨a, rs, rfl, hS, hl, hlr, q⟩ := h
  refine ⟨_, (pss_cons (ps_if (pt_not (pt_chain op_le op_le pe_int (pe_callB (call_lenK K) (by rfl) T.b_len (by decide +kernel) (pa_cons (pv 0) pa_nil)) (pv 1)))
  (pss_one (ps_ret pe_bl))
  pss_nil)
  (pss_one (ps_ret (pe_callB (cr_allK K rfl) (by rfl) T.b_all (by decide +kernel) (pa_cons (pe_lc (own := [("row", 3)]) rfl sc_is_square.nd (pi_listK K (pv 0)) (blkOk_by (by kernel_rfl)) (fun _ _ _ _ _ => (pg_name (i := 3) sc_is_square.nd rfl (Or.inl rfl) (.inr rfl))) (fun _ _ _ _ _ => pts_nil) (fun _ _ _ _ _ => (pe_and (pe_cmpR op_eq (pe_callB (call_lenK K) (by rfl) T.b_len (by decide +kernel) (pa_cons (pv 3) pa_nil)) (pe_callB (call_lenK K) (by rfl) T.b_len (by decide +kernel) (pa_cons (pv 0) pa_nil)) (nomark _)) (pe_one (pe_callB (cr_allK K rfl) (by rfl) T.b_all (by decide +kernel) (pa_cons (pe_lc (own := [("sign", 2)]) rfl sc_is_square.nd (pi_str (pv 3)) (blkOk_by (by kernel_rfl)) (fun _ _ _ _ _ => (pg_name (i := 2) sc_is_square.nd rfl (Or.inl rfl) (.inr rfl))) (fun _ _ _ _ _ => pts_nil) (fun _ _ _ _ _ => (pe_cmpR op_in_sign (pv 2) (pe_gs T.g_DIGITS) rfl))) pa_nil)))))) pa_nil))))), ?_⟩
  have len : ∀ {H' : Hp}, Same H H' → LenV K (.ref a) H' rs.length := fun e => .inl ⟨_, up_l e hS, (List.length_map _).symm⟩
  refine ⟨_, rfl, _, rs.length, rfl, len (Same.refl H), _, _, rfl, rfl, _, rfl, ?_⟩
  have out : (decide (1 ≤ rs.length) && decide (rs.length ≤ 60)) = false → Q (.bl false) H := fun h => by
    have := q H (Same.refl H)
    unfold sqB at this
    rw [h] at this
    exact this
  refine if_dec (fun h1 => ?_) (fun h1 => ?_)
  · refine ⟨_, rfl, _, _, rfl, rfl, ?_⟩
    refine ⟨_, rfl, ?_⟩
    refine if_bb rfl (fun h2 => ?_) (fun h2 => ?_)
    · refine out ?_
      have h3 : decide (rs.length ≤ 60) = false := by
        have := of_decide_eq_false ((Bool.not_eq_true' _).mp h2)
        exact decide_eq_false (by omega)
      rw [h3, Bool.and_false]
    have h3 : rs.length ≤ 60 := by
      have := of_decide_eq_true ((Bool.not_eq_false' (b := decide ((rs.length : Int) ≤ 60))).mp h2)
      omega
    refine ⟨_, rfl, a, rfl, ⟨_, hS⟩, fun D hD => ?_⟩
    refine lc_mapL (j := 3) (R := fun i y _ => ∃ r, rs[i]? = some r ∧ y = .bl (decide (r.length = rs.length) && digB r)) (fun _ _ _ _ _ h => h) hD hS (le_line (by rw [List.length_map]; omega)) (fun _ => rfl) ?_ ?_
    · intro i x H2 hx e2 Q' k'
      obtain ⟨r, hr, rfl⟩ := map_get hx
      have hrl := hlr r (List.mem_of_getElem? hr)
      refine ⟨_, rfl, _, r.length, rfl, ⟨le_line (by omega), rfl⟩, _, rfl, _, rs.length, rfl, len e2, rfl, _, rfl, ?_⟩
      refine if_dec (fun h4 => ?_) (fun h4 => ?_)
      · have h4 : r.length = rs.length := by
          have := V.int.inj h4
          omega
        refine dig_all (i := 3) (j := 2) rfl (fun _ => rfl) (le_line (by omega)) (fun _ => rfl) (fun H3 e3 => k' _ _ e3 ⟨r, hr, ?_⟩)
        rw [decide_eq_true h4, Bool.true_and]
      · refine k' _ _ (Same.refl _) ⟨r, hr, ?_⟩
        rw [decide_eq_false (fun h => h4 (by rw [h])), Bool.false_and]
    · intro H2 ys e2 hD2 hl2 hy
      have hys : ys = (rs.map fun r => decide (r.length = rs.length) && digB r).map V.bl := by
        refine eq_map_of (by rw [hl2, List.length_map, List.length_map]) fun i y h => ?_
        obtain ⟨r, hr, rfl⟩ := hy i y h
        exact ⟨_, by rw [List.getElem?_map, hr] <;> rfl, rfl⟩
      subst hys
      refine ⟨D, _, rfl, SqL.of hD2, ?_⟩
      have h5 := q H2 e2
      unfold sqB at h5
      rw [decide_eq_true (show 1 ≤ rs.length by omega), decide_eq_true h3, Bool.true_and, Bool.true_and] at h5
      rw [List.all_map]
      exact h5
  · refine ⟨_, rfl, out ?_⟩
    rw [decide_eq_false (show ¬ 1 ≤ rs.length by omega), Bool.false_and]
end
end FF
/-! boards: is_order, meeting_places, gathered -/
namespace FF
open PySem PySem.Spec PyProof.Rows L2
abbrev nV (m : Nat) : V := V.int (m : Nat)
def spOrder (K : PySem.W.Frag) : Sp := fun vs H Q _ => ∃ (a : Addr) (ms : List Nat), vs = [.ref a] ∧ SqL K H a (ms.map nV) ∧ ms.length ≤ 60 ∧ ∀ H', Same H H' → Q (.bl (ordB ms)) H'
theorem band_nat (a b : Nat) : Builtin.bitAnd (a : Int) (b : Int) = ((a &&& b : Nat) : Int) := by
  rw [bitAnd_pp (Int.natCast_nonneg a) (Int.natCast_nonneg b), Int.toNat_natCast, Int.toNat_natCast]
theorem bor_nat (a b : Nat) : Builtin.bitOr (a : Int) (b : Int) = ((a ||| b : Nat) : Int) := by
  rw [_root_.Bits.bitOr_pp (Int.natCast_nonneg a) (Int.natCast_nonneg b), Int.toNat_natCast, Int.toNat_natCast]
theorem shr_bit (m p : Nat) : Builtin.bitAnd ((m : Int) / 2 ^ ((p : Nat) : Int).toNat) 1 = if m.testBit p = true then 1 else 0 := by
  have e : ((m : Int) / 2 ^ ((p : Nat) : Int).toNat) = ((m / 2 ^ p : Nat) : Int) := by
    rw [Int.toNat_natCast, Int.natCast_ediv, Int.natCast_pow] <;> rfl
  have e1 : Builtin.bitAnd ((m / 2 ^ p : Nat) : Int) 1 = ((m / 2 ^ p &&& 1 : Nat) : Int) := band_nat _ 1
  rw [e, e1, Nat.and_one_is_mod, Nat.testBit_eq_decide_div_mod_eq]
  by_cases h : m / 2 ^ p % 2 = 1
  · rw [h, decide_eq_true rfl] <;> rfl
  · have h0 : m / 2 ^ p % 2 = 0 := by omega
    rw [h0] <;> rfl
theorem bit_0 (m p : Nat) : decide (V.int (Builtin.bitAnd ((m : Int) / 2 ^ ((p : Nat) : Int).toNat) 1) = V.int 0) = !m.testBit p := by
  rw [shr_bit]
  cases m.testBit p <;> rfl
theorem bit_1 (m p : Nat) : decide (V.int (Builtin.bitAnd ((m : Int) / 2 ^ ((p : Nat) : Int).toNat) 1) = V.int 1) = m.testBit p := by
  rw [shr_bit]
  cases m.testBit p <;> rfl
theorem or_ne (s m : Nat) : (!decide (V.int (Builtin.bitOr (s : Int) (m : Int)) = nV m)) = ((s ||| m) != m) := by
  rw [bor_nat]
  have e : decide (V.int ((s ||| m : Nat) : Int) = nV m) = ((s ||| m) == m) := by
    rw [Bool.eq_iff_iff, decide_eq_true_eq, beq_iff_eq]
    exact ⟨fun h => Int.ofNat.inj (V.int.inj h), fun h => by rw [h]⟩
  rw [e] <;> rfl
theorem nat_eq (s m : Nat) : decide (V.int (s : Nat) = V.int (m : Nat)) = (s == m) := by
  rw [Bool.eq_iff_iff, decide_eq_true_eq, beq_iff_eq]
  exact ⟨fun h => Int.ofNat.inj (V.int.inj h), fun h => by rw [h]⟩
theorem getD_of {α : Type} {l : List α} {i : Nat} {x d : α} (h : l[i]? = some x) : l.getD i d = x := by
  rw [List.getD_eq_getElem?_getD, h] <;> rfl
section
variable {P : Program} {w : World} {K : PySem.W.Frag} {mg : Str → Option Value} {base : Heap}
theorem ok_order {f : Addr} {fd : FuncData} (F : FunD K "is_order" "is_order" (defArgs s_is_order) (defBody s_is_order) (defScope s_is_order) [] [] f fd) (hm : mg "is_order" = some (.ref f)) (T : Top K mg) : Def P w K mg base "is_order" 1 ["masks"] (spOrder K) := by
  refine def_mk F hm (F.bindsN fun _ _ _ _ _ _ us hl => match us, hl with | [_], _ => rfl) sc_is_order (fun vs H Q E h => ?_) (fun cdv A outer s H vs Q E hr h => ?_)
  · obtain ⟨a, ms, rfl, _⟩ := h
    rfl
  obtain ⟨a, ms, rfl, hS, hn, q⟩ := h
  refine ⟨_, (pss_cons (ps_for PassesOwn.never rfl (pi_enumK K (by rfl) T.b_enumerate (pa_cons (pv 0) pa_nil)) (pg_tupK K (n := 2) rfl (pgs_cons (pg_name (i := 1) sc_is_order.nd rfl (Or.inl rfl) (.inl rfl)) (pgs_cons (pg_name (i := 2) sc_is_order.nd rfl (Or.inl rfl) (.inl rfl)) pgs_nil)))
  (pss_cons (ps_if (pt_cmpR op_eq (pe_op op_and (pe_op op_shr (pv 2) (pv 1)) pe_int) pe_int (nomark _))
  (pss_one (ps_ret pe_bl))
  pss_nil)
  (pss_one (ps_for PassesOwn.never rfl (pi_enumK K (by rfl) T.b_enumerate (pa_cons (pv 0) pa_nil)) (pg_tupK K (n := 2) rfl (pgs_cons (pg_name (i := 3) sc_is_order.nd rfl (Or.inl rfl) (.inl rfl)) (pgs_cons (pg_name (i := 4) sc_is_order.nd rfl (Or.inl rfl) (.inl rfl)) pgs_nil)))
  (pss_one (ps_if (PW.pt (pw_and (pt_cmpR op_eq (pe_op op_and (pe_op op_shr (pv 2) (pv 3)) pe_int) pe_int (nomark _)) (pw_and1 (PW.pt (pw_or (pt_cmpR op_ne (pe_op op_or (pv 4) (pv 2)) (pv 2) (nomark _)) (pw_or1 (PW.pt (pw_and (pt_cmpR op_ne (pv 3) (pv 1) (nomark _)) (pw_and1 (pt_cmpR op_eq (pv 4) (pv 2) (nomark _)))))))))))
  (pss_one (ps_ret pe_bl))
  pss_nil))))))
  (pss_one (ps_ret pe_bl))), ?_⟩
  refine ⟨_, rfl, a, _, rfl, hS, ?_⟩
  have hml : (ms.map nV).length = ms.length := List.length_map _
  have bad : ∀ {i m}, ms[i]? = some m → ordIn ms i m = false → ordB ms = false := fun {i m} hm h => by
    have hi := (List.getElem?_eq_some_iff.mp hm).1
    refine List.all_eq_false.mpr ⟨i, List.mem_range.mpr hi, ?_⟩
    rw [getD_of hm, h]
    decide
  refine for_it (walkE_same (H := H) hS) (fun i σ H' => (∃ o1 o2 o3 o4, σ = [some (.ref a), o1, o2, o3, o4]) ∧ Same H H' ∧ ∀ p, p < i → ordIn ms p (ms.getD p 0) = true)
    ⟨⟨_, _, _, _, rfl⟩, Same.refl H, fun p hp => absurd hp (Nat.not_lt_zero p)⟩ (fun i σ H' _ p => p.2.1) ?_ ?_
  · rintro i x σ H1 H2 hi ⟨⟨o1, o2, o3, o4, rfl⟩, e1, hp⟩ ⟨t, u1, u2, rfl, ht, rfl, h1, h2⟩
    cases h1
    obtain ⟨m, hm1, rfl⟩ := map_get h2
    refine ⟨t, [.int (i : Nat), nV m], rfl, SqT.of upd_same, rfl, _, [nV m], rfl, _, [], rfl, rfl, ?_⟩
    have e2 := e1.trans (same_new ht (.tup [.int (i : Nat), nV m]))
    refine ⟨_, rfl, _, rfl, _, _, rfl, rfl, by omega, _, _, rfl, rfl, rfl, _, rfl, ?_⟩
    refine if_bb (bit_0 m i) (fun hb => ?_) (fun hb => ?_)
    · have h := q _ e2
      rw [bad hm1 (by unfold ordIn; rw [(Bool.not_eq_true' _).mp hb, Bool.false_and])] at h
      exact h
    have hb : m.testBit i = true := (Bool.not_eq_false' (b := m.testBit i)).mp hb
    refine ⟨_, rfl, a, _, rfl, up_l e2 hS, ?_⟩
    refine for_it (walkE_same (H := H) hS) (fun j σ H' => (∃ o3 o4, σ = [some (.ref a), some (.int (i : Nat)), some (nV m), o3, o4]) ∧ Same H H' ∧ ∀ o, o < j → ordStep i m o (ms.getD o 0) = true)
      ⟨⟨_, _, rfl⟩, e2, fun p hp => absurd hp (Nat.not_lt_zero p)⟩ (fun j σ H' _ p => p.2.1) ?_ ?_
    · rintro j x σ H3 H4 hj ⟨⟨o3, o4, rfl⟩, e3, hq⟩ ⟨t', u1, u2, rfl, ht', rfl, k1, k2⟩
      cases k1
      obtain ⟨sm, hs1, rfl⟩ := map_get k2
      refine ⟨t', [.int (j : Nat), nV sm], rfl, SqT.of upd_same, rfl, _, [nV sm], rfl, _, [], rfl, rfl, ?_⟩
      have e4 := e3.trans (same_new ht' (.tup [.int (j : Nat), nV sm]))
      have bad2 : ordStep i m j sm = false → Q (.bl false) (upd H3 t' (.tup [.int (j : Nat), nV sm])) := fun h => by
        have h5 := q _ e4
        rw [bad hm1 (by
          unfold ordIn
          refine Bool.and_eq_false_imp.mpr fun _ => List.all_eq_false.mpr ⟨j, List.mem_range.mpr (List.getElem?_eq_some_iff.mp hs1).1, ?_⟩
          rw [getD_of hs1, h]
          decide)] at h5
        exact h5
      have good : ordStep i m j sm = true → (∃ o3 o4, ([some (.ref a), some (.int (i : Nat)), some (nV m), some (.int (j : Nat)), some (nV sm)] : L2.St) = [some (.ref a), some (.int (i : Nat)), some (nV m), o3, o4]) ∧ Same H (upd H3 t' (.tup [.int (j : Nat), nV sm])) ∧ ∀ o, o < j + 1 → ordStep i m o (ms.getD o 0) = true := fun h => by
        refine ⟨⟨_, _, rfl⟩, e4, fun o ho => ?_⟩
        by_cases z : o = j
        · rw [z, getD_of hs1]
          exact h
        · exact hq o (by omega)
      refine ⟨_, rfl, _, rfl, _, _, rfl, rfl, by omega, _, _, rfl, rfl, rfl, _, rfl, ?_⟩
      refine if_bb (bit_1 m j) (fun b1 => ?_) (fun b1 => good (by unfold ordStep; rw [b1]; rfl))
      refine ⟨_, rfl, _, rfl, _, _, rfl, rfl, _, rfl, rfl, _, rfl, ?_⟩
      refine if_bb (or_ne sm m) (fun b2 => bad2 (by unfold ordStep; rw [b1, b2]; rfl)) (fun b2 => ?_)
      refine ⟨_, rfl, _, rfl, rfl, _, rfl, ?_⟩
      refine if_bb (congrArg Bool.not (nat_eq j i)) (fun b3 => ?_) (fun b3 => ?_)
      · refine ⟨_, rfl, _, rfl, rfl, _, rfl, ?_⟩
        refine if_bb (nat_eq sm m) (fun b4 => bad2 ?_) (fun b4 => good ?_)
        · unfold ordStep
          rw [b1, b2, show (j != i) = true from b3, b4] <;> rfl
        · unfold ordStep
          rw [b1, b2, b4, Bool.and_false] <;> rfl
      · refine good ?_
        unfold ordStep
        rw [b1, b2, show (j != i) = false from b3] <;> rfl
    · rintro σ H3 ⟨⟨o3, o4, rfl⟩, e3, hq⟩
      refine ⟨⟨_, _, _, _, rfl⟩, e3, fun p hpp => ?_⟩
      by_cases z : p = i
      · rw [z, getD_of hm1]
        unfold ordIn
        rw [hb, Bool.true_and]
        exact List.all_eq_true.mpr fun o ho => hq o (by rw [hml]; exact List.mem_range.mp ho)
      · exact hp p (by omega)
  · rintro σ H1 ⟨⟨o1, o2, o3, o4, rfl⟩, e1, hp⟩
    have : ordB ms = true := List.all_eq_true.mpr fun p hpp => hp p (by rw [hml]; exact List.mem_range.mp hpp)
    have h := q H1 e1
    rw [this] at h
    exact h
end
end FF
/-! boards: meeting_places, gathered -/
namespace FF
open PySem PySem.Spec PyProof.Rows L2
/-- at p stands a table -/
def TabAt (H : Hp) (p : Addr) (tab : List (List Nat)) : Prop := ∃ ts : List Addr, H p = some (.lst (ts.map V.ref)) ∧ ts.length = tab.length ∧ ∀ (i : Nat) (t : Addr) (r : List Nat), ts[i]? = some t → tab[i]? = some r → H t = some (.lst (r.map nV))
theorem TabAt.up {H H' : Hp} {p : Addr} {tab : List (List Nat)} (e : Same H H') (h : TabAt H p tab) : TabAt H' p tab := by
  obtain ⟨ts, h1, h2, h3⟩ := h
  exact ⟨ts, e _ _ h1, h2, fun i t r a b => e _ _ (h3 i t r a b)⟩
def spMeet (K : PySem.W.Frag) : Sp := fun vs H Q _ => ∃ (a : Addr) (ms : List Nat), vs = [.ref a] ∧ SqL K H a (ms.map nV) ∧ ms.length ≤ 60 ∧ (∀ p H', Same H H' → meetB ms = true → TabAt H' p (tabT ms) → Q (.ref p) H') ∧ ∀ H', Same H H' → meetB ms = false → Q .non H'
def spGathered (K : PySem.W.Frag) : Sp := fun vs H Q _ => ∃ (a b : Addr) (tab : List (List Nat)) (x : Nat) (xs : List Nat), vs = [.ref a, .ref b] ∧ TabAt H a tab ∧ SqL K H b ((x :: xs).map nV) ∧ xs.length ≤ 10000 ∧ x < tab.length ∧ (∀ y ∈ xs, y < tab.length) ∧ (∀ r ∈ tab, r.length = tab.length) ∧ (∀ r ∈ tab, ∀ z ∈ r, z < tab.length) ∧
  ∀ H', Same H H' → Q (nV (xs.foldl (fun f y => (tab.getD f []).getD y 0) x)) H'
def oV : Option Nat → V
  | none => .non
  | some n => nV n
def rowV (ms : List Nat) (m : Nat) : List V := (List.range ms.length).map fun y => oV (meetAt ms m y)
theorem inV_row (ms : List Nat) (m : Nat) : inV .non (rowV ms m) = !rowOk ms m := by
  unfold inV rowV rowOk
  rw [List.any_map, List.not_all_eq_any_not]
  congr 1
  funext y
  show eqV (oV (meetAt ms m y)) .non = _
  cases meetAt ms m y <;> rfl
theorem flat_row (ms : List Nat) (m : Nat) : (rowV ms m).all flatV = true := by
  unfold rowV
  rw [List.all_map, List.all_eq_true]
  intro y _
  show flatV (oV (meetAt ms m y)) = true
  cases meetAt ms m y <;> rfl
theorem row_ok {ms : List Nat} {m : Nat} (h : rowOk ms m = true) : rowV ms m = (rowT ms m).map nV := by
  unfold rowV rowT
  rw [List.map_map]
  refine List.map_congr_left fun y hy => ?_
  have := List.all_eq_true.mp h y hy
  obtain ⟨z, hz⟩ := Option.isSome_iff_exists.mp this
  show oV (meetAt ms m y) = nV ((meetAt ms m y).getD 0)
  rw [hz] <;> rfl
theorem inl_nat {k m : Nat} : ((Sum.inl (k : Int) : Key) = .inl (m : Int)) ↔ k = m := ⟨fun h => Int.ofNat.inj (Sum.inl.inj h), fun h => by rw [h]⟩
section
variable {P : Program} {w : World} {K : PySem.W.Frag} {mg : Str → Option Value} {base : Heap}
theorem ok_meet {f : Addr} {fd : FuncData} (F : FunD K "meeting_places" "meeting_places" (defArgs s_meeting_places) (defBody s_meeting_places) (defScope s_meeting_places) [] [] f fd) (hm : mg "meeting_places" = some (.ref f)) (T : Top K mg) : Def P w K mg base "meeting_places" 1 ["masks"] (spMeet K) := by
  refine def_mk F hm (F.bindsN fun _ _ _ _ _ _ us hl => match us, hl with | [_], _ => rfl) sc_meeting_places (fun vs H Q E h => ?_) (fun cdv A outer s H vs Q E hr h => ?_)
  · obtain ⟨a, ms, rfl, _⟩ := h
    rfl
  obtain ⟨a, ms, rfl, hS, hn, q, qn⟩ := h
  refine ⟨_, (pss_cons (ps_set (i := 1) sc_meeting_places.nd rfl (Or.inr rfl) (pe_dc (own := [("place", 2), ("mask", 3)]) rfl sc_meeting_places.nd (pi_enumK K (by rfl) T.b_enumerate (pa_cons (pv 0) pa_nil)) (blkOk_by (by kernel_rfl)) (fun _ _ _ _ _ => (pg_tupK K (n := 2) rfl (pgs_cons (pg_name (i := 2) sc_meeting_places.nd rfl (Or.inl rfl) (.inr rfl)) (pgs_cons (pg_name (i := 3) sc_meeting_places.nd rfl (Or.inl rfl) (.inr rfl)) pgs_nil)))) (fun _ _ _ _ _ => pts_nil) (fun _ _ _ _ _ => (pv 3)) (fun _ _ _ _ _ => (pv 2))))
  (pss_cons (ps_set (i := 4) sc_meeting_places.nd rfl (Or.inl rfl) (pe_lst pa_nil))
  (pss_cons (ps_for PassesOwn.never rfl (pi_listK K (pv 0)) (pg_name (i := 3) sc_meeting_places.nd rfl (Or.inr rfl) (.inl rfl))
  (pss_cons (ps_setLc (i := 5) (own := [("other", 6)]) rfl sc_meeting_places.nd rfl rfl (sw_true rfl rfl rfl (by kernel_rfl)) (pi_listK K (pv 0)) (blkOk_by (by kernel_rfl)) (fun _ _ _ _ _ => (pg_name (i := 6) sc_meeting_places.nd rfl (Or.inl rfl) (.inr rfl))) (fun _ _ _ _ _ => pts_nil) (fun _ _ _ _ _ => (pe_dget1 (hu_of hr) (pv 1) (pe_op op_and (pv 3) (pv 6)) ⟨rfl, rfl, rfl, rfl⟩)))
  (pss_cons (ps_if (pt_cmpR (op_in_seqK K) pe_non (pv 5) (by rfl))
  (pss_one (ps_ret pe_non))
  pss_nil)
  (pss_one (ps_expr (pe_bmK K PySem.F.plainAttrs_list PySem.F.slot_list_append PySem.F.type_list_append mt_append (pv 4) (pa_cons (pv 5) pa_nil)))))))
  (pss_one (ps_ret (pv 4)))))), ?_⟩
  refine ⟨_, rfl, a, _, rfl, hS, fun D hD => ?_⟩
  refine dc_it (walkE_same (H := H) hS) (fun i H' => Same H H' ∧ ∃ kvs, H' D = some (.dK kvs) ∧ kvs.length ≤ i ∧ ∀ k : Nat, valV kvs (.inl (k : Int)) = (lastTo ms i k).map nV)
    ⟨same_new hD _, [], upd_same, Nat.le_refl _, fun k => rfl⟩ (fun i H' _ p => p.1) ?_ ?_
  · rintro i x H2 H3 hi ⟨e, kvs, h1, h2, h3⟩ ⟨t, u1, u2, rfl, ht, rfl, k1, k2⟩
    cases k1
    obtain ⟨m, hm1, rfl⟩ := map_get k2
    have tD : D ≠ t := fun z => by rw [← z, h1] at ht; cases ht
    have hil := (List.getElem?_eq_some_iff.mp hm1).1
    refine ⟨t, [.int (i : Nat), nV m], rfl, SqT.of upd_same, rfl, _, [nV m], rfl, _, [], rfl, rfl, rfl, ?_⟩
    unfold tYes
    dsimp only
    rw [if_pos rfl]
    refine ⟨_, rfl, _, rfl, kvs, .inl (m : Int), rfl, by rw [upd_ne tD]; exact h1, lt_line (by omega), ?_⟩
    refine ⟨same_at hD (e.trans (same_new ht _)), _, upd_same, ?_, fun k => ?_⟩
    · have := length_putK kvs (.inl (m : Int)) (V.int (i : Nat))
      omega
    · rw [valV_put]
      show _ = ((if ms.getD i 0 = k then some i else lastTo ms i k) : Option Nat).map nV
      rw [getD_of hm1]
      by_cases z : k = m
      · rw [if_pos (inl_nat.mpr z), if_pos z.symm] <;> rfl
      · rw [if_neg (fun h => z (inl_nat.mp h)), if_neg (fun h => z h.symm)]
        exact h3 k
  rintro H1 ⟨e1, kvs, hD1, _, hk⟩
  have hml : (ms.map nV).length = ms.length := List.length_map _
  rw [hml] at hk
  refine ⟨(by show 0 ≤ sizeLine; decide), fun p hp => ?_⟩
  have hp0 : H p = none := e1.free hp
  have pD : D ≠ p := fun z => by rw [z, hp] at hD1; cases hD1
  have e2 := e1.trans (same_new hp (.lst []))
  refine ⟨_, rfl, a, rfl, ⟨_, up_l e2 hS⟩, ?_⟩
  refine for_list (K := K) (a := a) (xs := ms.map nV) (fun i σ H' => (∃ o2 o3 o5 o6, σ = [some (.ref a), some (.ref D), o2, o3, some (.ref p), o5, o6]) ∧ Same H H' ∧ H' D = some (.dK kvs) ∧ (∃ ts : List Addr, H' p = some (.lst (ts.map V.ref)) ∧ ts.length = i ∧ (∀ (j : Nat) (t : Addr) (m : Nat), ts[j]? = some t → ms[j]? = some m → t ≠ p ∧ H' t = some (.lst ((rowT ms m).map nV)))) ∧ ∀ j, j < i → rowOk ms (ms.getD j 0) = true)
    ⟨⟨_, _, _, _, rfl⟩, e2, by rw [upd_ne pD]; exact hD1, ⟨[], upd_same, rfl, fun j t m h _ => by simp at h⟩, fun j h => absurd h (Nat.not_lt_zero j)⟩ (fun i σ H' _ p => up_l p.2.1 hS) ?_ ?_
  · rintro i x σ H2 hx ⟨⟨o2, o3, o5, o6, rfl⟩, e3, hD2, ⟨ts, hp2, htl, hts⟩, hro⟩
    obtain ⟨m, hm1, rfl⟩ := map_get hx
    have hil := (List.getElem?_eq_some_iff.mp hm1).1
    refine ⟨_, rfl, a, rfl, ⟨_, up_l e3 hS⟩, fun R hR => ?_⟩
    have Rp : R ≠ p := fun z => by rw [z, hp2] at hR; cases hR
    refine lc_mapL (j := 6) (R := fun i y _ => ∃ o, ms[i]? = some o ∧ y = oV (lastTo ms ms.length (m &&& o))) (fun _ _ _ _ _ h => h) hR (up_l e3 hS) (le_line (by omega)) (fun _ => rfl) ?_ ?_
    · intro j y H3 hy e4 Q' k'
      obtain ⟨o, ho, rfl⟩ := map_get hy
      refine ⟨_, rfl, D, rfl, .inl ⟨kvs, .inl (e4 _ _ hD2)⟩, _, rfl, _, rfl, _, _, rfl, rfl, (lastTo ms ms.length (m &&& o)).map nV, .inl ⟨kvs, .inl ((m &&& o : Nat) : Int), .inl (e4 _ _ hD2), ?_, (hk _).symm⟩, k' _ _ (Same.refl _) ⟨o, ho, ?_⟩⟩
      · show V.int (Builtin.bitAnd m o) = V.int _
        rw [band_nat]
      · cases lastTo ms ms.length (m &&& o) <;> rfl
    · intro H3 ys e4 hR3 hyl hy
      have hys : ys = rowV ms m := by
        refine List.ext_getElem? fun j => ?_
        unfold rowV
        cases hj : ys[j]? with
        | none =>
          have : ms.length ≤ j := by
            have := List.getElem?_eq_none_iff.mp hj
            omega
          rw [List.getElem?_map, List.getElem?_eq_none_iff.mpr (by rw [List.length_range]; exact this)] <;> rfl
        | some y =>
          obtain ⟨o, ho, rfl⟩ := hy j y hj
          have := (List.getElem?_eq_some_iff.mp ho).1
          rw [List.getElem?_map, List.getElem?_range this]
          show _ = some (oV (lastTo ms ms.length (m &&& ms.getD j 0)))
          rw [getD_of ho]
      subst hys
      have e5 := e3.trans e4
      refine ⟨_, rfl, R, _, rfl, .inl (SqL.of hR3), rfl, flat_row ms m, _, rfl, ?_⟩
      rw [inV_row]
      refine if_bb rfl (fun hb => ?_) (fun hb => ?_)
      · have hb : rowOk ms m = false := (Bool.not_eq_true' _).mp hb
        refine qn _ e5 (List.all_eq_false.mpr ⟨i, List.mem_range.mpr hil, ?_⟩)
        rw [getD_of hm1, hb]
        decide
      · have hb : rowOk ms m = true := (Bool.not_eq_false' (b := rowOk ms m)).mp hb
        refine ⟨_, rfl, .inl ⟨rfl, _, SqL.of (e4 _ _ hp2)⟩, _, rfl, p, _, _, rfl, rfl, e4 _ _ hp2, lt_line (by rw [List.length_map]; omega), ?_⟩
        refine ⟨⟨_, _, _, _, rfl⟩, same_at hp0 e5, by rw [upd_ne pD]; exact e4 _ _ hD2, ⟨ts ++ [R], by rw [upd_same, List.map_append]; rfl, by rw [List.length_append, htl]; rfl, fun j t m' hj hm' => ?_⟩, fun j hj => ?_⟩
        · by_cases hjl : j < ts.length
          · rw [List.getElem?_append_left hjl] at hj
            obtain ⟨h1, h2⟩ := hts j t m' hj hm'
            exact ⟨h1, by rw [upd_ne h1]; exact e4 _ _ h2⟩
          · have hje : j = ts.length := by
              have := (List.getElem?_eq_some_iff.mp hj).1
              rw [List.length_append, List.length_singleton] at this
              omega
            subst hje
            rw [List.getElem?_append_right (Nat.le_refl _), Nat.sub_self] at hj
            cases hj
            rw [htl, hm1] at hm'
            cases hm'
            exact ⟨Rp, by rw [upd_ne Rp, hR3, row_ok hb]⟩
        · by_cases z : j = i
          · rw [z, getD_of hm1]
            exact hb
          · exact hro j (by omega)
  · rintro σ H2 ⟨⟨o2, o3, o5, o6, rfl⟩, e3, hD2, ⟨ts, hp2, htl, hts⟩, hro⟩
    refine ⟨_, rfl, q p H2 e3 (List.all_eq_true.mpr fun j hj => hro j (by rw [hml]; exact List.mem_range.mp hj)) ⟨ts, hp2, ?_, fun i t r h1 h2 => ?_⟩⟩
    · rw [htl, hml]
      unfold tabT
      rw [List.length_map]
    · unfold tabT at h2
      rw [List.getElem?_map] at h2
      obtain ⟨m, hm1, rfl⟩ := Option.map_eq_some_iff.mp h2
      exact (hts i t m h1 hm1).2
theorem ok_gathered {f : Addr} {fd : FuncData} (F : FunD K "gathered" "gathered" (defArgs s_gathered) (defBody s_gathered) (defScope s_gathered) [] [] f fd) (hm : mg "gathered" = some (.ref f)) (T : Top K mg) : Def P w K mg base "gathered" 1 ["table", "places"] (spGathered K) := by
  refine def_mk F hm (F.bindsN fun _ _ _ _ _ _ us hl => match us, hl with | [_, _], _ => rfl) sc_gathered (fun vs H Q E h => ?_) (fun cdv A outer s H vs Q E hr h => ?_)
  · obtain ⟨a, b, tab, x, xs, rfl, _⟩ := h
    rfl
  obtain ⟨a, b, tab, x, xs, rfl, hT, hS, hn, hx, hxs, hrl, hrz, q⟩ := h
  refine ⟨_, (pss_cons (ps_asg (pv 1) (pg_star2L rfl (pgs_cons (pg_name (i := 2) sc_gathered.nd rfl (Or.inl rfl) (.inl rfl)) (pgs_cons (pg_name (i := 3) sc_gathered.nd rfl (Or.inl rfl) (.inl rfl)) pgs_nil))))
  (pss_cons (ps_for PassesOwn.never rfl (pi_listK K (pv 3)) (pg_name (i := 4) sc_gathered.nd rfl (Or.inl rfl) (.inl rfl))
  (pss_one (ps_set (i := 2) sc_gathered.nd rfl (Or.inl rfl) (pe_ix (ix_listK K) (pe_ix (ix_listK K) (pv 0) (pv 2) (fun _ _ => rfl)) (pv 4) (fun _ _ => rfl)))))
  (pss_one (ps_ret (pv 2))))), ?_⟩
  refine ⟨_, rfl, b, _, _, rfl, hS, fun p hp => ⟨_, [.ref p], rfl, _, [], rfl, rfl, ?_⟩⟩
  obtain ⟨ts, hA, htl, hts⟩ := hT
  have e1 := same_new hp (.lst (xs.map nV))
  refine ⟨_, rfl, p, rfl, ⟨_, SqL.of upd_same⟩, ?_⟩
  refine for_list (K := K) (a := p) (xs := xs.map nV) (fun i σ H' => (∃ o4 z, σ = [some (.ref a), some (.ref b), some (nV z), some (.ref p), o4] ∧ z < tab.length ∧ (xs.drop i).foldl (fun f y => (tab.getD f []).getD y 0) z = xs.foldl (fun f y => (tab.getD f []).getD y 0) x) ∧ H' = upd H p (.lst (xs.map nV)))
    ⟨⟨_, x, rfl, hx, rfl⟩, rfl⟩ (fun i σ H' _ h => by rw [h.2]; exact SqL.of upd_same) ?_ ?_
  · rintro i v σ H2 hv ⟨⟨o4, z, rfl, hz, hf⟩, rfl⟩
    obtain ⟨y, hy, rfl⟩ := map_get hv
    have hyt := hxs y (List.mem_of_getElem? hy)
    have hzt : z < ts.length := by omega
    have hr : tab[z]? = some (tab.getD z []) := by rw [List.getD_eq_getElem?_getD, List.getElem?_eq_getElem hz] <;> rfl
    have hmem := List.mem_of_getElem? hr
    have hyl : y < (tab.getD z []).length := by rw [hrl _ hmem]; exact hyt
    have hy2 : (tab.getD z [])[y]? = some ((tab.getD z []).getD y 0) := by rw [List.getD_eq_getElem?_getD (l := tab.getD z []), List.getElem?_eq_getElem hyl] <;> rfl
    refine ⟨_, rfl, _, rfl, a, _, _, _, rfl, rfl, SqL.of (e1 _ _ hA), atI_nat (v := V.ref ts[z]) (by rw [List.getElem?_map, List.getElem?_eq_getElem hzt] <;> rfl), _, rfl, ts[z], _, _, _, rfl, rfl, SqL.of (e1 _ _ (hts z _ _ (List.getElem?_eq_getElem hzt) hr)), atI_nat (v := nV ((tab.getD z []).getD y 0)) (by rw [List.getElem?_map, hy2] <;> rfl), ?_⟩
    refine ⟨⟨_, _, rfl, hrz _ hmem _ (List.mem_of_getElem? hy2), ?_⟩, rfl⟩
    rw [← hf]
    have : xs.drop i = y :: xs.drop (i + 1) := by
      have hil := (List.getElem?_eq_some_iff.mp hy).1
      rw [List.drop_eq_getElem_cons hil]
      congr 1
      exact (List.getElem?_eq_some_iff.mp hy).2
    rw [this] <;> rfl
  · rintro σ H2 ⟨⟨o4, z, rfl, hz, hf⟩, rfl⟩
    rw [List.length_map, List.drop_length] at hf
    refine ⟨_, rfl, ?_⟩
    have h := q _ e1
    rw [← hf] at h
    exact h
end
end FF
/-! the class Board: made, its rows, its length -/
namespace FF
open PySem PySem.Spec PyProof.Rows L2
theorem sl_b {K : PySem.W.Frag} {H H' : Hp} {a b C dx : Addr} {fs : List (Str × V)} {xs : List V} (hb : H b = some (.ins C dx fs)) (e : SameB b H H') (h : SqL K H a xs) : SqL K H' a xs := by
  rcases h with (h | ⟨o, h⟩) | h
  · exact .inl (.inl (e _ _ (fun z => by rw [z, hb] at h; cases h) h))
  · exact .inl (.inr ⟨o, e _ _ (fun z => by rw [z, hb] at h; cases h) h⟩)
  · exact .inr h
theorem tab_b {H H' : Hp} {p b C dx : Addr} {fs : List (Str × V)} {tab : List (List Nat)} (hb : H b = some (.ins C dx fs)) (e : SameB b H H') (h : TabAt H p tab) : TabAt H' p tab := by
  obtain ⟨ts, h1, h2, h3⟩ := h
  have ne : ∀ {t : Addr} {xs : List V}, H t = some (.lst xs) → H' t = some (.lst xs) := fun {t xs} ht => e _ _ (fun z => by rw [z, hb] at ht; cases ht) ht
  exact ⟨ts, ne h1, h2, fun i t r a b => ne (h3 i t r a b)⟩
def gathL (tab : List (List Nat)) (x : Nat) (xs : List Nat) : Nat := xs.foldl (fun f y => (tab.getD f []).getD y 0) x
def gathA (tab : List (List Nat)) : Nat := gathL tab 0 ((List.range (tab.length - 1)).map (· + 1))
theorem rgV_nat (n : Nat) : rgV 0 (n : Int) = (List.range n).map nV := by
  unfold rgV
  rw [show ((n : Int) - 0).toNat = n by omega]
  refine List.map_congr_left fun i _ => ?_
  rw [Int.zero_add]
theorem range_cons {n : Nat} (h : 1 ≤ n) : List.range n = 0 :: (List.range (n - 1)).map (· + 1) := by
  obtain ⟨m, rfl⟩ : ∃ m, n = m + 1 := ⟨n - 1, by omega⟩
  rw [List.range_succ_eq_map]
  rfl
/-- a good table of n places -/
structure TabOk (n : Nat) (tab : List (List Nat)) : Prop where
  len : tab.length = n
  row : ∀ r ∈ tab, r.length = n
  ent : ∀ r ∈ tab, ∀ z ∈ r, z < n
theorem tabT_ok {ms : List Nat} (h : 1 ≤ ms.length) : TabOk ms.length (tabT ms) := by
  refine ⟨by unfold tabT; rw [List.length_map], fun r hr => ?_, fun r hr z hz => ?_⟩
  · obtain ⟨m, _, rfl⟩ := List.mem_map.mp hr
    unfold rowT
    rw [List.length_map, List.length_range]
  · obtain ⟨m, _, rfl⟩ := List.mem_map.mp hr
    obtain ⟨y, _, rfl⟩ := List.mem_map.mp hz
    show (meetAt ms m y).getD 0 < _
    cases e : meetAt ms m y with
    | none => exact h
    | some z => exact (lastTo_some e).1
theorem gath_lt {n : Nat} {tab : List (List Nat)} (h : TabOk n tab) : ∀ (xs : List Nat) (x : Nat), x < n → (∀ y ∈ xs, y < n) → gathL tab x xs < n
  | [], x, hx, _ => hx
  | y :: ys, x, hx, hy => by
    have h1 : x < tab.length := by rw [h.len]; exact hx
    have hm : tab.getD x [] ∈ tab := by rw [List.getD_eq_getElem?_getD, List.getElem?_eq_getElem h1]; exact List.getElem_mem h1
    have hl : y < (tab.getD x []).length := by rw [h.row _ hm]; exact hy y List.mem_cons_self
    refine gath_lt h ys _ (h.ent _ hm _ ?_) fun z hz => hy z (List.mem_cons_of_mem _ hz)
    show (tab.getD x []).getD y 0 ∈ tab.getD x []
    rw [List.getD_eq_getElem?_getD (l := tab.getD x []), List.getElem?_eq_getElem hl]
    exact List.getElem_mem hl
/-- what a board's object holds -/
def brdF (lo up li : Addr) (l g : Nat) : List (Str × V) := [(("lows" : Str), .ref lo), (("ups" : Str), .ref up), (("lines" : Str), .ref li), (("least" : Str), nV l), (("greatest" : Str), nV g)]
def BoardAt (K : PySem.W.Frag) (H : Hp) (b dx li : Addr) (rs : List Str) : Prop := progBoard rs = true ∧ ∃ lo up : Addr, H b = some (.ins (He.ga K "Board") dx (brdF lo up li (gathA (tabT (below rs))) (gathA (tabT (above rs))))) ∧ TabAt H lo (tabT (below rs)) ∧ TabAt H up (tabT (above rs)) ∧ H li = some (.lst (rs.map V.str))
theorem BoardAt.up {K : PySem.W.Frag} {H H' : Hp} {b dx li : Addr} {rs : List Str} (h : BoardAt K H b dx li rs) (e : Same H H') : BoardAt K H' b dx li rs := by
  obtain ⟨h0, lo, up, h1, h2, h3, h4⟩ := h
  exact ⟨h0, lo, up, e _ _ h1, h2.up e, h3.up e, e _ _ h4⟩
theorem TabAt.upN {H H' : Hp} {p : Addr} {tab : List (List Nat)} (e : LamX.ExtN H H') (h : TabAt H p tab) : TabAt H' p tab := by
  obtain ⟨ts, h1, h2, h3⟩ := h
  exact ⟨ts, e _ _ h1 (fun ps z => by cases z), h2, fun i t r a b => e _ _ (h3 i t r a b) (fun ps z => by cases z)⟩
theorem BoardAt.upN {K : PySem.W.Frag} {H H' : Hp} {b dx li : Addr} {rs : List Str} (h : BoardAt K H b dx li rs) (e : LamX.ExtN H H') : BoardAt K H' b dx li rs := by
  obtain ⟨h0, lo, up, h1, h2, h3, h4⟩ := h
  exact ⟨h0, lo, up, e _ _ h1 (fun ps z => by cases z), h2.upN e, h3.upN e, e _ _ h4 (fun ps z => by cases z)⟩
def spMeetV (K : PySem.W.Frag) : Sp := fun vs H Q _ => ∃ (a : Addr) (ms : List Nat), vs = [.ref a] ∧ SqL K H a (ms.map nV) ∧ ms.length ≤ 60 ∧ ∀ v H', Same H H' → ((∃ p, v = .ref p ∧ meetB ms = true ∧ TabAt H' p (tabT ms)) ∨ (v = .non ∧ meetB ms = false)) → Q v H'
theorem meet_v {K : PySem.W.Frag} (vs : List V) (H : Hp) (Q : VK) (E : XK) (h : spMeetV K vs H Q E) : spMeet K vs H Q E := by
  obtain ⟨a, ms, h1, h2, h3, q⟩ := h
  exact ⟨a, ms, h1, h2, h3, fun p H' e m t => q _ H' e (.inl ⟨p, rfl, m, t⟩), fun H' e m => q _ H' e (.inr ⟨rfl, m⟩)⟩
def ibE (K : PySem.W.Frag) (b : Addr) (H : Hp) (E : XK) : Prop := ∀ dd H', SameB b H H' → Thr ("InvalidBoard" : Str) dd H' → E (.ref (He.ga K "InvalidBoard")) dd H'
def spBoard (K : PySem.W.Frag) : Sp := fun vs H Q E => ∃ (b a dx : Addr) (rs : List Str), vs = [.ref b, .ref a] ∧ H b = some (.ins (He.ga K "Board") dx []) ∧ SqL K H a (rs.map V.str) ∧ rs.length ≤ 1000 ∧ (∀ r ∈ rs, r.length ≤ 10000) ∧
  (progBoard rs = true → ∀ li H', H li = none → SameB b H H' → BoardAt K H' b dx li rs → Q .non H') ∧ (progBoard rs = false → ibE K b H E)
section
variable {P : Program} {w : World} {K : PySem.W.Frag} {mg : Str → Option Value} {base : Heap}
theorem gathered_all {K : PySem.W.Frag} {H : Hp} {tab : List (List Nat)} {n : Nat} {a q : Addr} {Q : VK} {E : XK} (ht : TabAt H a tab) (ok : TabOk n tab) (hn : 1 ≤ n) (h60 : n ≤ 60) (hq : H q = some (.lst (rgV 0 (n : Int)))) (k : ∀ H', Same H H' → Q (nV (gathA tab)) H') :
    spGathered K [.ref a, .ref q] H Q E := by
  refine ⟨a, q, tab, 0, (List.range (n - 1)).map (· + 1), rfl, ht, SqL.of ?_, ?_, ?_, fun y hy => ?_, fun r hr => ?_, fun r hr z hz => ?_, ?_⟩
  · rw [hq, rgV_nat, range_cons hn] <;> rfl
  · rw [List.length_map, List.length_range]
    omega
  · rw [ok.len]
    omega
  · obtain ⟨z, hz, rfl⟩ := List.mem_map.mp hy
    have := List.mem_range.mp hz
    rw [ok.len]
    omega
  · rw [ok.len]
    exact ok.row r hr
  · rw [ok.len]
    exact ok.ent r hr z hz
  · have e : gathA tab = ((List.range (n - 1)).map (· + 1)).foldl (fun f y => (tab.getD f []).getD y 0) 0 := by
      unfold gathA gathL
      rw [ok.len]
    rw [← e]
    exact k
set_option maxHeartbeats 8000000 in
theorem ok_board_init {fd : FuncData} (F : FunD K "__init__" "Board.__init__" (defArgs s_Board___init__) (defBody s_Board___init__) (defScope s_Board___init__) [] [] (He.ma K (He.ga K "Board") "__init__") fd) (T : Top K mg)
    (D_is_square : Def P w K mg base "is_square" 1 ["rows", "limit"] (spSquare K)) (D_mask_of : Def P w K mg base "mask_of" 1 ["text"] spMask) (D_turned_rows : Def P w K mg base "turned_rows" 1 ["rows"] (spTurned K))
    (D_is_order : Def P w K mg base "is_order" 1 ["masks"] (spOrder K)) (D_meeting_places0 : Def P w K mg base "meeting_places" 1 ["masks"] (spMeet K)) (D_gathered : Def P w K mg base "gathered" 1 ["table", "places"] (spGathered K))
    (x_InvalidBoard : RaiseD P w K mg base "InvalidBoard" "FaultError" 2 "InvalidBoard") : FnOk P w K mg base (L2.CX P w) 4 (He.ma K (He.ga K "Board") "__init__") fd ["self", "rows"] (spBoard K) := by
  have D_meeting_places := D_meeting_places0.imp (sp' := spMeetV K) meet_v
  refine FunD.ok F sc_Board___init__ (fun vs H Q E h => ?_) (fun cdv A outer s0 H vs Q E hr h => ?_)
  · obtain ⟨b, a, dx, rs, rfl, _⟩ := h
    rfl
  obtain ⟨b, a, dx, rs, rfl, hb, hS, hl, hlr, q1, q2⟩ := h
  have tk : Takes (cxOf (L2.CX P w) P w K mg base ["self", "rows", "above", "row", "below"] "Board.__init__" (defScope s_Board___init__) (He.ma K (He.ga K "Board") "__init__") cdv A outer s0 H E) (fun cls d _ H => E cls d H) := takes_of rfl rfl rfl rfl
  refine ⟨_, (pss_cons (ps_if (pt_not (pt_val (pe_def D_is_square hr (by first | decide | omega) (pa_cons (pv 1) (pa_cons pe_int pa_nil)))))
  (pss_one (ps_raise rfl tk (pmk_raise x_InvalidBoard hr (by first | decide | omega))))
  pss_nil)
  (pss_cons (ps_setLc (i := 2) (own := [("row", 3)]) rfl sc_Board___init__.nd rfl rfl (sw_true rfl rfl rfl (by kernel_rfl)) (pi_listK K (pv 1)) (blkOk_by (by kernel_rfl)) (fun _ _ _ _ _ => (pg_name (i := 3) sc_Board___init__.nd rfl (Or.inl rfl) (.inr rfl))) (fun _ _ _ _ _ => pts_nil) (fun _ _ _ _ _ => (pe_def D_mask_of hr (by first | decide | omega) (pa_cons (pv 3) pa_nil))))
  (pss_cons (ps_setLc (i := 4) (own := [("row", 3)]) rfl sc_Board___init__.nd rfl rfl (sw_true rfl rfl rfl (by kernel_rfl)) (pi_listK K (pe_def D_turned_rows hr (by first | decide | omega) (pa_cons (pv 1) pa_nil))) (blkOk_by (by kernel_rfl)) (fun _ _ _ _ _ => (pg_name (i := 3) sc_Board___init__.nd rfl (Or.inl rfl) (.inr rfl))) (fun _ _ _ _ _ => pts_nil) (fun _ _ _ _ _ => (pe_def D_mask_of hr (by first | decide | omega) (pa_cons (pv 3) pa_nil))))
  (pss_cons (ps_if (pt_not (pt_val (pe_def D_is_order hr (by first | decide | omega) (pa_cons (pv 2) pa_nil))))
  (pss_one (ps_raise rfl tk (pmk_raise x_InvalidBoard hr (by first | decide | omega))))
  pss_nil)
  (pss_cons (ps_fld (pv 0) (pe_def D_meeting_places hr (by first | decide | omega) (pa_cons (pv 4) pa_nil)) rfl)
  (pss_cons (ps_fld (pv 0) (pe_def D_meeting_places hr (by first | decide | omega) (pa_cons (pv 2) pa_nil)) rfl)
  (pss_cons (ps_if (PW.pt (pw_or (pt_cmp (pc_isN (pe_fld (pv 0) rfl)) (by rfl)) (pw_or1 (pt_cmp (pc_isN (pe_fld (pv 0) rfl)) (by rfl)))))
  (pss_one (ps_raise rfl tk (pmk_raise x_InvalidBoard hr (by first | decide | omega))))
  pss_nil)
  (pss_cons (ps_fld (pv 0) (pe_callTy (call_list_ofK K) (by rfl) T.b_list (by decide +kernel) (pa_cons (pv 1) pa_nil)) rfl)
  (pss_cons (ps_fld (pv 0) (pe_def D_gathered hr (by first | decide | omega) (pa_cons (pe_fld (pv 0) rfl) (pa_cons (pe_listRg rfl (by rfl) T.b_list (prg_1 (by rfl) T.b_range (pe_callB (call_lenK K) (by rfl) T.b_len (by decide +kernel) (pa_cons (pv 1) pa_nil)))) pa_nil))) rfl)
  (pss_one (ps_fld (pv 0) (pe_def D_gathered hr (by first | decide | omega) (pa_cons (pe_fld (pv 0) rfl) (pa_cons (pe_listRg rfl (by rfl) T.b_list (prg_1 (by rfl) T.b_range (pe_callB (call_lenK K) (by rfl) T.b_len (by decide +kernel) (pa_cons (pv 1) pa_nil)))) pa_nil))) rfl))))))))))), ?_⟩
  refine ⟨_, rfl, a, rs, rfl, hS, hl, hlr, fun H1 e1 => ⟨_, rfl, ?_⟩⟩
  refine if_nb (fun h1 => ?_) (fun h1 => ?_)
  · refine fun dd H2 e2 ht => q2 ?_ dd H2 (sb_of (e1.trans e2)) ht
    unfold progBoard
    rw [h1, Bool.false_and]
  have sq := sq_iff.mp h1
  have hn := sq.le
  have hp := sq.pos
  have mlen : ∀ r ∈ rs, Bits (tl r) ∧ 1 ≤ r.length ∧ r.length ≤ 60 := fun r hr => ⟨sq.dig r hr, by rw [sq.len r hr]; exact hp, by rw [sq.len r hr]; exact hn⟩
  refine ⟨_, rfl, a, rfl, ⟨_, up_l e1 hS⟩, fun D hD => ?_⟩
  refine lc_mapL (j := 3) (R := fun i y _ => ∃ r, rs[i]? = some r ∧ y = nV (maskN r)) (fun _ _ _ _ _ h => h) hD (up_l e1 hS) (le_line (by rw [List.length_map]; omega)) (fun _ => rfl) ?_ ?_
  · intro i x H2 hx e2 Q' k'
    obtain ⟨r, hr, rfl⟩ := map_get hx
    obtain ⟨m1, m2, m3⟩ := mlen r (List.mem_of_getElem? hr)
    exact ⟨_, rfl, r, rfl, m1, m2, m3, k' _ _ (Same.refl _) ⟨r, hr, rfl⟩⟩
  intro H2 ys e2 hD2 hyl hy
  have hys : ys = (above rs).map nV := by
    unfold above
    rw [List.map_map]
    exact eq_map_of (by rw [hyl, List.length_map]) fun i y h => hy i y h
  subst hys
  clear hy hyl
  refine ⟨_, rfl, a, rs, rfl, up_l (e1.trans e2) hS, sq, fun t H3 e3 ht ht3 => ⟨t, rfl, ⟨_, SqL.of ht3⟩, fun D2 hD2' => ?_⟩⟩
  refine lc_mapL (j := 3) (R := fun i y _ => ∃ r, (cols rs)[i]? = some r ∧ y = nV (maskN r)) (fun _ _ _ _ _ h => h) hD2' (SqL.of ht3) (le_line (by rw [List.length_map]; unfold cols; rw [List.length_map, List.length_range]; omega)) (fun _ => rfl) ?_ ?_
  · intro i x H4 hx e4 Q' k'
    obtain ⟨r, hr, rfl⟩ := map_get hx
    have hc : (cols rs)[i]? = some r := hr
    unfold cols at hr
    rw [List.getElem?_map] at hr
    obtain ⟨j, hj, rfl⟩ := Option.map_eq_some_iff.mp hr
    have hj2 := List.mem_range.mp (List.mem_of_getElem? hj)
    have hcl : (colS rs j).length = rs.length := by
      show (rs.map fun r => (tl r).getD j 0).toArray.size = _
      rw [List.size_toArray, List.length_map]
    exact ⟨_, rfl, colS rs j, rfl, col_dig sq hj2, by omega, by omega, k' _ _ (Same.refl _) ⟨_, hc, rfl⟩⟩
  intro H4 ys e4 hD4 hyl hy
  have hys : ys = (below rs).map nV := by
    unfold below
    rw [List.map_map]
    exact eq_map_of (by rw [hyl, List.length_map]) fun i y h => hy i y h
  subst hys
  clear hy hyl
  have e14 := e1.trans (e2.trans (e3.trans e4))
  have hD4a := e4 _ _ (e3 _ _ hD2)
  have al := above_len (rs := rs)
  have bl := below_len (rs := rs)
  refine ⟨_, rfl, D, above rs, rfl, SqL.of hD4a, by omega, fun H5 e5 => ⟨_, rfl, ?_⟩⟩
  refine if_nb (fun h2 => ?_) (fun h2 => ?_)
  · refine fun dd H2 e2 ht => q2 ?_ dd H2 (sb_of (e14.trans (e5.trans e2))) ht
    unfold progBoard
    rw [h1, h2] <;> rfl
  have e15 := e14.trans e5
  refine ⟨_, rfl, D2, below rs, rfl, SqL.of (e5 _ _ hD4), by omega, fun v1 H6 e6 hv1 => ?_⟩
  have hb6 := (e15.trans e6) _ _ hb
  refine ⟨_, rfl, b, _, dx, _, rfl, hb6, T.k_Board, T.n_Board_lows, (by decide : 0 < 1000), ?_⟩
  have n6 : SameB b H (upd H6 b (.ins (He.ga K "Board") dx (putF "lows" v1 []))) := (sb_of (e15.trans e6)).tr sb_upd
  have hDb : D ≠ b := fun z => by
    have h8 := (e5.trans e6) _ _ hD4a
    rw [z, hb6] at h8
    cases h8
  have hD7 : (upd H6 b (.ins (He.ga K "Board") dx (putF "lows" v1 []))) D = some (.lst ((above rs).map nV)) := by
    rw [upd_ne hDb]
    exact (e5.trans e6) _ _ hD4a
  refine ⟨_, rfl, D, above rs, rfl, SqL.of hD7, by omega, fun v2 H8 e8 hv2 => ?_⟩
  have hb8 := e8 _ _ upd_same
  refine ⟨_, rfl, b, _, dx, _, rfl, hb8, T.k_Board, T.n_Board_ups, (by show 1 < 1000; decide), ?_⟩
  have pf : putF "ups" v2 (putF "lows" v1 []) = [(("lows" : Str), v1), (("ups" : Str), v2)] := by rfl
  rw [pf]
  have n8 : SameB b H (upd H8 b (.ins (He.ga K "Board") dx [(("lows" : Str), v1), (("ups" : Str), v2)])) := (n6.tr (sb_of e8)).tr sb_upd
  have hb9 : (upd H8 b (.ins (He.ga K "Board") dx [(("lows" : Str), v1), (("ups" : Str), v2)])) b = some (.ins (He.ga K "Board") dx [(("lows" : Str), v1), (("ups" : Str), v2)]) := upd_same
  have hS9 := sl_b hb n8 hS
  have bad : (meetB (below rs) && meetB (above rs)) = false → progBoard rs = false := fun h => by
    unfold progBoard
    rw [h, h1, h2] <;> rfl
  have v1t : (∃ p, v1 = .ref p ∧ meetB (below rs) = true ∧ TabAt (upd H8 b (.ins (He.ga K "Board") dx [(("lows" : Str), v1), (("ups" : Str), v2)])) p (tabT (below rs))) ∨ (v1 = .non ∧ meetB (below rs) = false) := by
    rcases hv1 with ⟨p, hp, hm, ht⟩ | h
    · exact .inl ⟨p, hp, hm, tab_b hb8 sb_upd ((tab_b hb6 sb_upd ht).up e8)⟩
    · exact .inr h
  have v2t : (∃ p, v2 = .ref p ∧ meetB (above rs) = true ∧ TabAt (upd H8 b (.ins (He.ga K "Board") dx [(("lows" : Str), v1), (("ups" : Str), v2)])) p (tabT (above rs))) ∨ (v2 = .non ∧ meetB (above rs) = false) := by
    rcases hv2 with ⟨p, hp, hm, ht⟩ | h
    · exact .inl ⟨p, hp, hm, tab_b hb8 sb_upd ht⟩
    · exact .inr h
  clear hv1 hv2
  generalize upd H8 b (.ins (He.ga K "Board") dx [(("lows" : Str), v1), (("ups" : Str), v2)]) = H9 at n8 hb9 hS9 v1t v2t ⊢
  refine ⟨_, rfl, b, _, dx, _, _, rfl, hb9, T.k_Board, T.n_Board_lows, rfl, _, rfl, ?_⟩
  refine if_dec (fun h3 => ?_) (fun h3 => ?_)
  · subst h3
    refine fun dd H2 e2 ht => q2 (bad ?_) dd H2 (n8.tr (sb_of e2)) ht
    rcases v1t with ⟨p, hp, _⟩ | ⟨_, h⟩
    · cases hp
    · rw [h, Bool.false_and]
  refine ⟨_, rfl, b, _, dx, _, _, rfl, hb9, T.k_Board, T.n_Board_ups, rfl, _, rfl, ?_⟩
  refine if_dec (fun h4 => ?_) (fun h4 => ?_)
  · subst h4
    refine fun dd H2 e2 ht => q2 (bad ?_) dd H2 (n8.tr (sb_of e2)) ht
    rcases v2t with ⟨p, hp, _⟩ | ⟨_, h⟩
    · cases hp
    · rw [h, Bool.and_false]
  obtain ⟨lo, rfl, m1, t1⟩ : ∃ p, v1 = .ref p ∧ meetB (below rs) = true ∧ TabAt H9 p (tabT (below rs)) := v1t.resolve_right fun h => h3 h.1
  obtain ⟨up, rfl, m2, t2⟩ : ∃ p, v2 = .ref p ∧ meetB (above rs) = true ∧ TabAt H9 p (tabT (above rs)) := v2t.resolve_right fun h => h4 h.1
  have good : progBoard rs = true := by
    unfold progBoard
    rw [h1, h2, m1, m2] <;> rfl
  clear h3 h4 v1t v2t bad
  have ok1 := bl ▸ tabT_ok (ms := below rs) (by omega)
  have ok2 := al ▸ tabT_ok (ms := above rs) (by omega)
  refine ⟨_, rfl, a, _, rfl, .inl hS9, fun li hli => ?_⟩
  have f1 := same_new hli (.lst (rs.map V.str))
  have hb10 := f1 _ _ hb9
  refine ⟨_, rfl, b, _, dx, _, rfl, hb10, T.k_Board, T.n_Board_lines, (by show 2 < 1000; decide), ?_⟩
  have pf2 : putF "lines" (.ref li) [(("lows" : Str), .ref lo), (("ups" : Str), .ref up)] = [(("lows" : Str), .ref lo), (("ups" : Str), .ref up), (("lines" : Str), .ref li)] := by rfl
  rw [pf2]
  have lib : li ≠ b := fun z => by rw [z, hb9] at hli; cases hli
  have liN : H li = none := by
    cases hz : H li with
    | none => rfl
    | some o =>
      rw [n8 _ _ lib hz] at hli
      cases hli
  have n10 := (n8.tr (sb_of f1)).tr (sb_upd (a := b) (o := .ins (He.ga K "Board") dx [(("lows" : Str), .ref lo), (("ups" : Str), .ref up), (("lines" : Str), .ref li)]))
  have t1b := tab_b hb10 (sb_upd (o := .ins (He.ga K "Board") dx [(("lows" : Str), .ref lo), (("ups" : Str), .ref up), (("lines" : Str), .ref li)])) (t1.up f1)
  have t2b := tab_b hb10 (sb_upd (o := .ins (He.ga K "Board") dx [(("lows" : Str), .ref lo), (("ups" : Str), .ref up), (("lines" : Str), .ref li)])) (t2.up f1)
  have li10 : (upd (upd H9 li (.lst (rs.map V.str))) b (.ins (He.ga K "Board") dx [(("lows" : Str), .ref lo), (("ups" : Str), .ref up), (("lines" : Str), .ref li)])) li = some (.lst (rs.map V.str)) := by
    rw [upd_ne lib]
    exact upd_same
  have hb11 : (upd (upd H9 li (.lst (rs.map V.str))) b (.ins (He.ga K "Board") dx [(("lows" : Str), .ref lo), (("ups" : Str), .ref up), (("lines" : Str), .ref li)])) b = some (.ins (He.ga K "Board") dx [(("lows" : Str), .ref lo), (("ups" : Str), .ref up), (("lines" : Str), .ref li)]) := upd_same
  have hS11 := sl_b hb n10 hS
  generalize upd (upd H9 li (.lst (rs.map V.str))) b (.ins (He.ga K "Board") dx [(("lows" : Str), .ref lo), (("ups" : Str), .ref up), (("lines" : Str), .ref li)]) = H11 at n10 t1b t2b li10 hb11 hS11 ⊢
  have rg : RgOk 0 (rs.length : Int) := RgOk.of_le (by omega) (by omega) (by omega) (by omega)
  refine ⟨_, rfl, b, _, dx, _, _, rfl, hb11, T.k_Board, T.n_Board_lows, rfl, _, rfl, _, rs.length, rfl, .inl ⟨_, hS11, (List.length_map _).symm⟩, _, rfl, rg, fun g1 hg1 => ?_⟩
  have f2 := same_new hg1 (.lst (rgV 0 (rs.length : Int)))
  try unfold tNil
  dsimp only [List.append_nil, List.cons_append, List.nil_append]
  refine gathered_all (t1b.up f2) ok1 hp hn upd_same fun H12 e12 => ?_
  have f12 := f2.trans e12
  refine ⟨_, rfl, b, _, dx, _, rfl, f12 _ _ hb11, T.k_Board, T.n_Board_least, (by show 3 < 1000; decide), ?_⟩
  have pf3 : putF "least" (nV (gathA (tabT (below rs)))) [(("lows" : Str), .ref lo), (("ups" : Str), .ref up), (("lines" : Str), .ref li)] = [(("lows" : Str), .ref lo), (("ups" : Str), .ref up), (("lines" : Str), .ref li), (("least" : Str), nV (gathA (tabT (below rs))))] := by rfl
  rw [pf3]
  have hb12 := f12 _ _ hb11
  have n13 := (n10.tr (sb_of f12)).tr (sb_upd (a := b) (o := .ins (He.ga K "Board") dx [(("lows" : Str), .ref lo), (("ups" : Str), .ref up), (("lines" : Str), .ref li), (("least" : Str), nV (gathA (tabT (below rs))))]))
  have t1c := tab_b hb12 (sb_upd (o := .ins (He.ga K "Board") dx [(("lows" : Str), .ref lo), (("ups" : Str), .ref up), (("lines" : Str), .ref li), (("least" : Str), nV (gathA (tabT (below rs))))])) (t1b.up f12)
  have t2c := tab_b hb12 (sb_upd (o := .ins (He.ga K "Board") dx [(("lows" : Str), .ref lo), (("ups" : Str), .ref up), (("lines" : Str), .ref li), (("least" : Str), nV (gathA (tabT (below rs))))])) (t2b.up f12)
  have li13 : (upd H12 b (.ins (He.ga K "Board") dx [(("lows" : Str), .ref lo), (("ups" : Str), .ref up), (("lines" : Str), .ref li), (("least" : Str), nV (gathA (tabT (below rs))))])) li = some (.lst (rs.map V.str)) := by
    rw [upd_ne lib]
    exact f12 _ _ li10
  have hb13 : (upd H12 b (.ins (He.ga K "Board") dx [(("lows" : Str), .ref lo), (("ups" : Str), .ref up), (("lines" : Str), .ref li), (("least" : Str), nV (gathA (tabT (below rs))))])) b = some (.ins (He.ga K "Board") dx [(("lows" : Str), .ref lo), (("ups" : Str), .ref up), (("lines" : Str), .ref li), (("least" : Str), nV (gathA (tabT (below rs))))]) := upd_same
  have hS13 := sl_b hb n13 hS
  generalize upd H12 b (.ins (He.ga K "Board") dx [(("lows" : Str), .ref lo), (("ups" : Str), .ref up), (("lines" : Str), .ref li), (("least" : Str), nV (gathA (tabT (below rs))))]) = H13 at n13 t1c t2c li13 hb13 hS13 ⊢
  refine ⟨_, rfl, b, _, dx, _, _, rfl, hb13, T.k_Board, T.n_Board_ups, rfl, _, rfl, _, rs.length, rfl, .inl ⟨_, hS13, (List.length_map _).symm⟩, _, rfl, rg, fun g2 hg2 => ?_⟩
  have f3 := same_new hg2 (.lst (rgV 0 (rs.length : Int)))
  try unfold tNil
  dsimp only [List.append_nil, List.cons_append, List.nil_append]
  refine gathered_all (t2c.up f3) ok2 hp hn upd_same fun H14 e14 => ?_
  have f14 := f3.trans e14
  have hb14 := f14 _ _ hb13
  refine ⟨_, rfl, b, _, dx, _, rfl, hb14, T.k_Board, T.n_Board_greatest, (by show 4 < 1000; decide), ?_⟩
  refine q1 good li _ liN ((n13.tr (sb_of f14)).tr sb_upd) ⟨good, lo, up, ?_, tab_b hb14 sb_upd (t1c.up f14), tab_b hb14 sb_upd (t2c.up f14), ?_⟩
  · rw [upd_same] <;> rfl
  · rw [upd_ne lib]
    exact f14 _ _ li13
/-- the object and its rows alone -/
def LinesAt (K : PySem.W.Frag) (H : Hp) (b dx li : Addr) (rs : List Str) : Prop := ∃ (lo up : Addr) (l g : Nat), H b = some (.ins (He.ga K "Board") dx (brdF lo up li l g)) ∧ H li = some (.lst (rs.map V.str))
theorem BoardAt.lines {K : PySem.W.Frag} {H : Hp} {b dx li : Addr} {rs : List Str} (h : BoardAt K H b dx li rs) : LinesAt K H b dx li rs := by
  obtain ⟨_, lo, up, h1, _, _, h4⟩ := h
  exact ⟨lo, up, _, _, h1, h4⟩
theorem LinesAt.up {K : PySem.W.Frag} {H H' : Hp} {b dx li : Addr} {rs : List Str} (h : LinesAt K H b dx li rs) (e : Same H H') : LinesAt K H' b dx li rs := by
  obtain ⟨lo, up, l, g, h1, h2⟩ := h
  exact ⟨lo, up, l, g, e _ _ h1, e _ _ h2⟩
end
end FF
/-! Board.rows, Board.__len__ -/
namespace FF
open PySem PySem.Spec PyProof.Rows L2
section
variable {P : Program} {w : World} {K : PySem.W.Frag} {mg : Str → Option Value} {base : Heap}
def spRowsB (K : PySem.W.Frag) : Sp := fun vs H Q _ => ∃ (b dx li : Addr) (rs : List Str), vs = [.ref b] ∧ LinesAt K H b dx li rs ∧ ∀ p, H p = none → Q (.ref p) (upd H p (.lst (rs.map V.str)))
def spLenB (K : PySem.W.Frag) : Sp := fun vs H Q _ => ∃ (b dx li : Addr) (rs : List Str), vs = [.ref b] ∧ LinesAt K H b dx li rs ∧ Q (nV rs.length) H
theorem ok_rowsB {fd : FuncData} (F : FunD K "rows" "Board.rows" (defArgs s_Board_rows) (defBody s_Board_rows) (defScope s_Board_rows) [] [] (He.ma K (He.ga K "Board") "rows") fd) (T : Top K mg) : MethD P w K mg base "Board" "rows" 1 ["self"] (spRowsB K) := by
  refine methd_mk F (F.bindsN fun _ _ _ _ _ _ us hl => match us, hl with | [_], _ => rfl) T.k_Board T.m_Board_rows sc_Board_rows (fun vs H Q E h => ?_) (fun cdv A outer s H vs Q E hr h => ?_)
  · obtain ⟨b, dx, li, rs, rfl, _⟩ := h
    rfl
  obtain ⟨b, dx, li, rs, rfl, ⟨lo, up, l, g, hb, hli⟩, q⟩ := h
  refine ⟨_, (pss_one (ps_ret (pe_callTy (call_list_ofK K) (by rfl) T.b_list (by decide +kernel) (pa_cons (pe_fld (pv 0) rfl) pa_nil)))), ?_⟩
  exact ⟨_, rfl, b, _, dx, _, _, rfl, hb, T.k_Board, T.n_Board_lines, rfl, li, _, rfl, .inl (SqL.of hli), q⟩
theorem ok_lenB {fd : FuncData} (F : FunD K "__len__" "Board.__len__" (defArgs s_Board___len__) (defBody s_Board___len__) (defScope s_Board___len__) [] [] (He.ma K (He.ga K "Board") "__len__") fd) (T : Top K mg) : MethD P w K mg base "Board" "__len__" 1 ["self"] (spLenB K) := by
  refine methd_mk F (F.bindsN fun _ _ _ _ _ _ us hl => match us, hl with | [_], _ => rfl) T.k_Board T.m_Board___len__ sc_Board___len__ (fun vs H Q E h => ?_) (fun cdv A outer s H vs Q E hr h => ?_)
  · obtain ⟨b, dx, li, rs, rfl, _⟩ := h
    rfl
  obtain ⟨b, dx, li, rs, rfl, ⟨lo, up, l, g, hb, hli⟩, q⟩ := h
  refine ⟨_, (pss_one (ps_ret (pe_callB (call_lenK K) (by rfl) T.b_len (by decide +kernel) (pa_cons (pe_fld (pv 0) rfl) pa_nil)))), ?_⟩
  exact ⟨_, rfl, b, _, dx, _, _, rfl, hb, T.k_Board, T.n_Board_lines, rfl, .ref li, rs.length, rfl, .inl ⟨_, SqL.of hli, (List.length_map _).symm⟩, q⟩
end
end FF
/-! boards: families of numbers are boards; tables and what they gather -/
namespace FF
open PySem PySem.Spec PyProof.Rows L2
structure Fam (ms : List Nat) : Prop where
  nd : ms.Nodup
  cap : ∀ a ∈ ms, ∀ b ∈ ms, a &&& b ∈ ms
  top : ∃ t ∈ ms, ∀ a ∈ ms, a &&& t = a
theorem Fam.perm {ms ks : List Nat} (h : Fam ms) (p : ks.Perm ms) : Fam ks := by
  obtain ⟨h1, h2, t, ht, h3⟩ := h
  exact ⟨p.nodup_iff.mpr h1, fun a ha b hb => p.mem_iff.mpr (h2 a (p.mem_iff.mp ha) b (p.mem_iff.mp hb)), t, p.mem_iff.mpr ht, fun a ha => h3 a (p.mem_iff.mp ha)⟩
theorem Fam.pos {ms : List Nat} (h : Fam ms) : 1 ≤ ms.length := by
  obtain ⟨t, ht, _⟩ := h.top
  exact List.length_pos_of_mem ht
theorem fam_step {ms ks : List Nat} {m : Nat} (h : Fam ms) (nd : ks.Nodup) (h1 : ∀ k ∈ ks, k ∈ ms ∨ ∃ o ∈ ms, k = m &&& o) (h2 : ∀ k ∈ ms, k ∈ ks) (h3 : ∀ o ∈ ms, m &&& o ∈ ks) : Fam ks := by
  refine ⟨nd, fun a ha b hb => ?_, ?_⟩
  · rcases h1 a ha with ha | ⟨o, ho, rfl⟩ <;> rcases h1 b hb with hb | ⟨u, hu, rfl⟩
    · exact h2 _ (h.cap a ha b hb)
    · have e : a &&& (m &&& u) = m &&& (a &&& u) := by rw [← Nat.and_assoc, Nat.and_comm a m, Nat.and_assoc]
      rw [e]
      exact h3 _ (h.cap a ha u hu)
    · rw [Nat.and_assoc]
      exact h3 _ (h.cap o ho b hb)
    · have e : m &&& o &&& (m &&& u) = m &&& (o &&& u) := by
        refine Nat.eq_of_testBit_eq fun k => ?_
        rw [Nat.testBit_and, Nat.testBit_and, Nat.testBit_and, Nat.testBit_and, Nat.testBit_and]
        cases m.testBit k <;> cases o.testBit k <;> cases u.testBit k <;> rfl
      rw [e]
      exact h3 _ (h.cap o ho u hu)
  · obtain ⟨t, ht, q⟩ := h.top
    refine ⟨t, h2 t ht, fun a ha => ?_⟩
    rcases h1 a ha with ha | ⟨o, ho, rfl⟩
    · exact q a ha
    · rw [Nat.and_assoc, q o ho]
def sub1 (a b : Nat) : Nat := if a &&& b = a then 49 else 48
def rowsOf (ms : List Nat) : List Str := ms.map fun a => ⟨(ms.map fun b => sub1 a b).toArray⟩
theorem rowsOf_len (ms : List Nat) : (rowsOf ms).length = ms.length := List.length_map _
theorem rowsOf_sq {ms : List Nat} (h1 : 1 ≤ ms.length) (h2 : ms.length ≤ 60) : Sq (rowsOf ms) := by
  refine ⟨by rw [rowsOf_len]; exact h1, by rw [rowsOf_len]; exact h2, fun r hr => ?_, fun r hr c hc => ?_⟩
  · obtain ⟨a, _, rfl⟩ := List.mem_map.mp hr
    show (ms.map fun b => sub1 a b).toArray.size = _
    rw [List.size_toArray, List.length_map, rowsOf_len]
  · obtain ⟨a, _, rfl⟩ := List.mem_map.mp hr
    obtain ⟨b, _, rfl⟩ := List.mem_map.mp (show c ∈ ms.map fun b => sub1 a b from hc)
    unfold sub1
    split
    · exact .inr rfl
    · exact .inl rfl
theorem bit_rowsOf {ms : List Nat} {x y : Nat} (hx : x < ms.length) (hy : y < ms.length) : bit (rowsOf ms) x y = decide (ms[x] &&& ms[y] = ms[x]) := by
  unfold bit
  have e : (rowsOf ms)[x]? = some ⟨(ms.map fun b => sub1 ms[x] b).toArray⟩ := by
    unfold rowsOf
    rw [List.getElem?_map, List.getElem?_eq_getElem hx] <;> rfl
  rw [e]
  show ((ms.map fun b => sub1 ms[x] b)[y]? == some 49) = _
  rw [List.getElem?_map, List.getElem?_eq_getElem hy]
  show (some (sub1 ms[x] ms[y]) == some 49) = _
  unfold sub1
  by_cases h : ms[x] &&& ms[y] = ms[x]
  · rw [if_pos h, decide_eq_true h] <;> rfl
  · rw [if_neg h, decide_eq_false h] <;> rfl
theorem fam_board {ms : List Nat} (h : Fam ms) (h60 : ms.length ≤ 60) : progBoard (rowsOf ms) = true := by
  rw [board_alike]
  have sq := rowsOf_sq h.pos h60
  have b : ∀ {x y} (hx : x < ms.length) (hy : y < ms.length), bit (rowsOf ms) x y = true ↔ ms[x] &&& ms[y] = ms[x] := fun hx hy => by rw [bit_rowsOf hx hy, decide_eq_true_eq]
  have o : Ord (rowsOf ms).length (bit (rowsOf ms)) := by
    rw [rowsOf_len]
    refine ⟨fun x hx => (b hx hx).mpr (Nat.and_self _), fun x y z hx hy hz h1 h2 => ?_, fun x y hx hy h1 h2 => ?_⟩
    · have h1 := (b hx hy).mp h1
      have h2 := (b hy hz).mp h2
      refine (b hx hz).mpr ?_
      rw [← h1, Nat.and_assoc, h2]
    · have h1 := (b hx hy).mp h1
      have h2 := (b hy hx).mp h2
      have e : ms[x] = ms[y] := by
        rw [← h1, Nat.and_comm]
        exact h2
      exact (List.getElem_inj h.nd).mp e
  have at_ : ∀ {a}, a ∈ ms → ∃ i, ∃ hi : i < ms.length, ms[i] = a := fun ha => List.getElem_of_mem ha
  unfold lawBoard
  rw [sq_iff.mpr sq, orderL_iff.mpr o, (bounds_iff o).mpr ?_] <;> try rfl
  rw [rowsOf_len]
  refine ⟨fun x y hx hy => ?_, fun x y hx hy => ?_⟩
  · obtain ⟨z, hz, ez⟩ := at_ (h.cap _ (List.getElem_mem hx) _ (List.getElem_mem hy))
    refine ⟨z, hz, fun w hw => ?_⟩
    rw [b hw hz, b hw hx, b hw hy, ez]
    constructor
    · intro q
      constructor
      · rw [← q, Nat.and_assoc, Nat.and_assoc]
        congr 1
        rw [Nat.and_comm ms[y] ms[x], ← Nat.and_assoc, Nat.and_self]
      · rw [← q, Nat.and_assoc, Nat.and_assoc, Nat.and_self]
    · rintro ⟨q1, q2⟩
      rw [← Nat.and_assoc, q1, q2]
  · -- the least upper bound: the common part of all that lie above both
    have key : ∀ l : List Nat, (∀ a ∈ l, a ∈ ms) → ∃ m ∈ ms, (∀ a ∈ l, m &&& a = m) ∧ ∀ c, c ∈ ms → (∀ a ∈ l, c &&& a = c) → c &&& m = c := by
      intro l
      induction l with
      | nil =>
        intro _
        obtain ⟨t, ht, q⟩ := h.top
        exact ⟨t, ht, (fun a ha => by cases ha), fun c hc _ => q c hc⟩
      | cons a l ih =>
        intro ha
        obtain ⟨m, hm, q1, q2⟩ := ih fun d hd => ha d (List.mem_cons_of_mem _ hd)
        refine ⟨a &&& m, h.cap _ (ha a List.mem_cons_self) _ hm, fun d hd => ?_, fun c hc hd => ?_⟩
        · rcases List.mem_cons.mp hd with rfl | hd
          · rw [Nat.and_comm, ← Nat.and_assoc, Nat.and_self]
          · rw [Nat.and_assoc, q1 d hd]
        · rw [← Nat.and_assoc, hd a List.mem_cons_self]
          exact q2 c hc fun d hd' => hd d (List.mem_cons_of_mem _ hd')
    obtain ⟨m, hm, q1, q2⟩ := key (ms.filter fun a => decide (ms[x] &&& a = ms[x]) && decide (ms[y] &&& a = ms[y])) fun a ha => (List.mem_filter.mp ha).1
    obtain ⟨z, hz, ez⟩ := at_ hm
    have inU : ∀ {a}, a ∈ (ms.filter fun a => decide (ms[x] &&& a = ms[x]) && decide (ms[y] &&& a = ms[y])) ↔ a ∈ ms ∧ ms[x] &&& a = ms[x] ∧ ms[y] &&& a = ms[y] := fun {a} => by
      rw [List.mem_filter, Bool.and_eq_true, decide_eq_true_eq, decide_eq_true_eq]
    have zx : ms[x] &&& m = ms[x] := q2 _ (List.getElem_mem hx) fun a ha => (inU.mp ha).2.1
    have zy : ms[y] &&& m = ms[y] := q2 _ (List.getElem_mem hy) fun a ha => (inU.mp ha).2.2
    refine ⟨z, hz, fun w hw => ?_⟩
    show bit (rowsOf ms) z w = true ↔ bit (rowsOf ms) x w = true ∧ bit (rowsOf ms) y w = true
    rw [b hz hw, b hx hw, b hy hw, ez]
    constructor
    · intro q
      constructor
      · rw [← zx, Nat.and_assoc, q]
      · rw [← zy, Nat.and_assoc, q]
    · rintro ⟨p1, p2⟩
      exact q1 _ (inU.mpr ⟨List.getElem_mem hw, p1, p2⟩)
/-! ### tables -/
def IsGlb (n : Nat) (le : Nat → Nat → Bool) (x y z : Nat) : Prop := z < n ∧ ∀ w, w < n → (le w z = true ↔ le w x = true ∧ le w y = true)
theorem uniq {n : Nat} {le : Nat → Nat → Bool} (o : Ord n le) {z1 z2 : Nat} (h1 : z1 < n) (h2 : z2 < n) (h : ∀ w, w < n → (le w z1 = true ↔ le w z2 = true)) : z1 = z2 :=
  o.anti z1 z2 h1 h2 ((h z1 h1).mp (o.refl z1 h1)) ((h z2 h2).mpr (o.refl z2 h2))
theorem best_eq {n : Nat} {le : Nat → Nat → Bool} (o : Ord n le) {x y z : Nat} (hx : x < n) (hy : y < n) (h : IsGlb n le x y z) : bestL n le x y = [z] := by
  obtain ⟨hz, hg⟩ := h
  have hb : boundB n le x y = true := (bound_iff o hx hy).mpr ⟨z, hz, hg⟩
  unfold boundB at hb
  obtain ⟨u, hu⟩ := List.length_eq_one_iff.mp (beq_iff_eq.mp hb)
  rw [hu]
  have hm : u ∈ bestL n le x y := by rw [hu]; exact List.mem_singleton.mpr rfl
  unfold bestL someL at hm
  obtain ⟨h1, h2⟩ := List.mem_filter.mp hm
  obtain ⟨h3, h4⟩ := List.mem_filter.mp h1
  have hun := List.mem_range.mp h3
  obtain ⟨h5, h6⟩ := (Bool.and_eq_true _ _).mp h4
  have a1 := (hg u hun).mpr ⟨h5, h6⟩
  obtain ⟨b1, b2⟩ := (hg z hz).mp (o.refl z hz)
  have a2 := List.all_eq_true.mp h2 z (List.mem_filter.mpr ⟨List.mem_range.mpr hz, by rw [b1, b2]; rfl⟩)
  rw [o.anti u z hun hz a1 a2]
structure TabGlb (n : Nat) (le : Nat → Nat → Bool) (tab : List (List Nat)) : Prop where
  ok : TabOk n tab
  glb : ∀ x y, x < n → y < n → IsGlb n le x y ((tab.getD x []).getD y 0)
theorem gath_glb {n : Nat} {le : Nat → Nat → Bool} {tab : List (List Nat)} (T : TabGlb n le tab) : ∀ (xs : List Nat) (x : Nat), x < n → (∀ y ∈ xs, y < n) → gathL tab x xs < n ∧ ∀ w, w < n → (le w (gathL tab x xs) = true ↔ le w x = true ∧ ∀ y ∈ xs, le w y = true)
  | [], x, hx, _ => ⟨hx, fun w _ => ⟨fun h => ⟨h, fun y hy => by cases hy⟩, fun h => h.1⟩⟩
  | y :: ys, x, hx, hy => by
    obtain ⟨g1, g2⟩ := T.glb x y hx (hy y List.mem_cons_self)
    obtain ⟨h1, h2⟩ := gath_glb T ys _ g1 fun z hz => hy z (List.mem_cons_of_mem _ hz)
    refine ⟨h1, fun w hw => ?_⟩
    show le w (gathL tab ((tab.getD x []).getD y 0) ys) = true ↔ _
    rw [h2 w hw, g2 w hw]
    constructor
    · rintro ⟨⟨a, b⟩, c⟩
      refine ⟨a, fun z hz => ?_⟩
      rcases List.mem_cons.mp hz with rfl | hz
      · exact b
      · exact c z hz
    · rintro ⟨a, b⟩
      exact ⟨⟨a, b y List.mem_cons_self⟩, fun z hz => b z (List.mem_cons_of_mem _ hz)⟩
theorem gath_all {n : Nat} {le : Nat → Nat → Bool} {tab : List (List Nat)} (T : TabGlb n le tab) (hn : 1 ≤ n) : gathA tab < n ∧ ∀ w, w < n → (le w (gathA tab) = true ↔ ∀ y, y < n → le w y = true) := by
  unfold gathA
  rw [T.ok.len]
  have hl : ∀ y ∈ (List.range (n - 1)).map (· + 1), y < n := fun y hy => by
    obtain ⟨z, hz, rfl⟩ := List.mem_map.mp hy
    have := List.mem_range.mp hz
    omega
  obtain ⟨h1, h2⟩ := gath_glb T ((List.range (n - 1)).map (· + 1)) 0 hn hl
  refine ⟨h1, fun w hw => ?_⟩
  rw [h2 w hw]
  constructor
  · rintro ⟨a, b⟩ y hy
    cases y with
    | zero => exact a
    | succ y => exact b (y + 1) (List.mem_map.mpr ⟨y, List.mem_range.mpr (by omega), rfl⟩)
  · intro a
    exact ⟨a 0 hn, fun y hy => a y (hl y hy)⟩
theorem meet_tab {n : Nat} {le : Nat → Nat → Bool} {ms : List Nat} (hl : ms.length = n) (hn : 1 ≤ n) (hb : ∀ x z, x < n → (ms.getD x 0).testBit z = (decide (z < n) && le z x)) (hm : meetB ms = true) : TabGlb n le (tabT ms) := by
  refine ⟨hl ▸ tabT_ok (by omega), fun x y hx hy => ?_⟩
  have e1 : (tabT ms).getD x [] = rowT ms (ms.getD x 0) := by
    unfold tabT
    have hx' : x < ms.length := by omega
    rw [List.getD_eq_getElem?_getD, List.getElem?_map, List.getD_eq_getElem?_getD, List.getElem?_eq_getElem hx'] <;> rfl
  have e2 : (rowT ms (ms.getD x 0)).getD y 0 = (meetAt ms (ms.getD x 0) y).getD 0 := by
    unfold rowT
    rw [List.getD_eq_getElem?_getD, List.getElem?_map, List.getElem?_range (by omega)] <;> rfl
  rw [e1, e2]
  unfold meetB rowOk at hm
  rw [List.all_eq_true] at hm
  have h1 := List.all_eq_true.mp (hm x (List.mem_range.mpr (by omega))) y (List.mem_range.mpr (by omega))
  obtain ⟨z, hz⟩ := Option.isSome_iff_exists.mp h1
  rw [hz]
  show IsGlb n le x y z
  unfold meetAt at hz
  obtain ⟨a, b⟩ := lastTo_some hz
  refine ⟨by omega, fun w hw => ?_⟩
  have h2 : (ms.getD z 0).testBit w = (ms.getD x 0 &&& ms.getD y 0).testBit w := congrArg (fun k : Nat => k.testBit w) b
  rw [Nat.testBit_and, hb z w (by omega), hb x w hx, hb y w hy, decide_eq_true hw, Bool.true_and, Bool.true_and, Bool.true_and] at h2
  rw [h2, Bool.and_eq_true]
/-- a board: its order and tables -/
structure Lat (rs : List Str) : Prop where
  sq : Sq rs
  ord : Ord rs.length (bit rs)
  lo : TabGlb rs.length (bit rs) (tabT (below rs))
  up : TabGlb rs.length (flip2 (bit rs)) (tabT (above rs))
theorem lat_of {rs : List Str} (h : progBoard rs = true) : Lat rs := by
  unfold progBoard at h
  obtain ⟨h1, h⟩ := (Bool.and_eq_true _ _).mp h
  obtain ⟨h2, h⟩ := (Bool.and_eq_true _ _).mp h
  obtain ⟨h3, h4⟩ := (Bool.and_eq_true _ _).mp h
  have sq := sq_iff.mp h1
  refine ⟨sq, (ord_iff sq).mp h2, meet_tab below_len sq.pos (fun x z hx => ?_) h3, meet_tab above_len sq.pos (fun x z hx => ?_) h4⟩
  · rw [below_all sq (below_get hx)]
    cases e : bit rs z x with
    | false => rw [Bool.and_false]
    | true => rw [decide_eq_true (bit_lt sq e).1] <;> rfl
  · rw [above_bit sq (above_get hx)]
    show bit rs x z = (decide (z < rs.length) && bit rs x z)
    cases e : bit rs x z with
    | false => rw [Bool.and_false]
    | true => rw [decide_eq_true (bit_lt sq e).2] <;> rfl
/-! ### low, up, bottom, top -/
def lowN (rs : List Str) (x y : Nat) : Nat := ((tabT (below rs)).getD x []).getD y 0
def upN (rs : List Str) (x y : Nat) : Nat := ((tabT (above rs)).getD x []).getD y 0
def botN (rs : List Str) : Nat := gathA (tabT (below rs))
def topN (rs : List Str) : Nat := gathA (tabT (above rs))
section
variable {rs : List Str} (L : Lat rs)
include L
theorem Lat.low_lt {x y : Nat} (hx : x < rs.length) (hy : y < rs.length) : lowN rs x y < rs.length := (L.lo.glb x y hx hy).1
theorem Lat.up_lt {x y : Nat} (hx : x < rs.length) (hy : y < rs.length) : upN rs x y < rs.length := (L.up.glb x y hx hy).1
theorem Lat.low_iff {x y : Nat} (hx : x < rs.length) (hy : y < rs.length) {w : Nat} (hw : w < rs.length) : bit rs w (lowN rs x y) = true ↔ bit rs w x = true ∧ bit rs w y = true := (L.lo.glb x y hx hy).2 w hw
theorem Lat.up_iff {x y : Nat} (hx : x < rs.length) (hy : y < rs.length) {w : Nat} (hw : w < rs.length) : bit rs (upN rs x y) w = true ↔ bit rs x w = true ∧ bit rs y w = true := (L.up.glb x y hx hy).2 w hw
theorem Lat.bot_lt : botN rs < rs.length := (gath_all L.lo L.sq.pos).1
theorem Lat.top_lt : topN rs < rs.length := (gath_all L.up L.sq.pos).1
theorem Lat.bot_le {y : Nat} (hy : y < rs.length) : bit rs (botN rs) y = true := ((gath_all L.lo L.sq.pos).2 _ L.bot_lt).mp (L.ord.refl _ L.bot_lt) y hy
theorem Lat.top_ge {y : Nat} (hy : y < rs.length) : bit rs y (topN rs) = true := ((gath_all L.up L.sq.pos).2 _ L.top_lt).mp (L.ord.refl _ L.top_lt) y hy
/-- low(places) -/
def lowsN (rs : List Str) (xs : List Nat) : Nat := gathL (tabT (below rs)) (topN rs) xs
def upsN (rs : List Str) (xs : List Nat) : Nat := gathL (tabT (above rs)) (botN rs) xs
theorem Lat.lows_lt {xs : List Nat} (h : ∀ y ∈ xs, y < rs.length) : lowsN rs xs < rs.length := (gath_glb L.lo xs _ L.top_lt h).1
theorem Lat.ups_lt {xs : List Nat} (h : ∀ y ∈ xs, y < rs.length) : upsN rs xs < rs.length := (gath_glb L.up xs _ L.bot_lt h).1
theorem Lat.lows_iff {xs : List Nat} (h : ∀ y ∈ xs, y < rs.length) {w : Nat} (hw : w < rs.length) : bit rs w (lowsN rs xs) = true ↔ ∀ y ∈ xs, bit rs w y = true := by
  unfold lowsN
  rw [(gath_glb L.lo xs _ L.top_lt h).2 w hw]
  exact ⟨fun q => q.2, fun q => ⟨L.top_ge hw, q⟩⟩
theorem Lat.ups_iff {xs : List Nat} (h : ∀ y ∈ xs, y < rs.length) {w : Nat} (hw : w < rs.length) : bit rs (upsN rs xs) w = true ↔ ∀ y ∈ xs, bit rs y w = true := by
  unfold upsN
  have := (gath_glb L.up xs _ L.bot_lt h).2 w hw
  unfold flip2 at this
  rw [this]
  exact ⟨fun q => q.2, fun q => ⟨L.bot_le hw, q⟩⟩
theorem Lat.lows_one {x : Nat} (hx : x < rs.length) : lowsN rs [x] = x := uniq L.ord (L.lows_lt (by simpa using hx)) hx fun w hw => by rw [L.lows_iff (by simpa using hx) hw]; simp
theorem Lat.ups_one {x : Nat} (hx : x < rs.length) : upsN rs [x] = x := uniq L.ord.flip (L.ups_lt (by simpa using hx)) hx fun w hw => by
  show bit rs (upsN rs [x]) w = true ↔ bit rs x w = true
  rw [L.ups_iff (by simpa using hx) hw]
  simp
theorem Lat.lows_snoc {xs : List Nat} {x : Nat} (h : ∀ y ∈ xs, y < rs.length) (hx : x < rs.length) : lowsN rs (xs ++ [x]) = lowN rs (lowsN rs xs) x := by
  unfold lowsN gathL
  rw [List.foldl_append]
  rfl
theorem Lat.ups_snoc {xs : List Nat} {x : Nat} (h : ∀ y ∈ xs, y < rs.length) (hx : x < rs.length) : upsN rs (xs ++ [x]) = upN rs (upsN rs xs) x := by
  unfold upsN gathL
  rw [List.foldl_append]
  rfl
theorem Lat.best_low {x y : Nat} (hx : x < rs.length) (hy : y < rs.length) : bestL rs.length (bit rs) x y = [lowN rs x y] := best_eq L.ord hx hy (L.lo.glb x y hx hy)
theorem Lat.best_up {x y : Nat} (hx : x < rs.length) (hy : y < rs.length) : bestL rs.length (flip2 (bit rs)) x y = [upN rs x y] := best_eq L.ord.flip hx hy (L.up.glb x y hx hy)
end
end FF
/-! the class Board: is_place, need_places -/
namespace FF
open PySem PySem.Spec PyProof.Rows L2
def isPlaceD (n : Nat) : PyData → Bool
  | .int i => decide (0 ≤ i) && decide (i < n)
  | _ => false
def spIsPlace (K : PySem.W.Frag) : Sp := fun vs H Q _ => ∃ (b dx li : Addr) (rs : List Str) (v : V) (d : PyData), vs = [.ref b, v] ∧ LinesAt K H b dx li rs ∧ Dp K H v d ∧ Q (.bl (isPlaceD rs.length d)) H
abbrev inR (n : Nat) (i : Int) : Prop := 0 ≤ i ∧ i < n
def placeE (K : PySem.W.Frag) (v : V) (H : Hp) (E : XK) : Prop := ∀ dd H', Same H H' → H' dd = some (.xd [("place", v), ("code", .str "InvalidPlace")]) → E (.ref (He.ga K "InvalidPlace")) (some dd) H'
/-- good ways and bad ways of some places -/
def Places (K : PySem.W.Frag) (n : Nat) (is : List Int) (H : Hp) (E : XK) (good : Prop) : Prop := ((∀ i ∈ is, inR n i) → good) ∧ ∀ pre v post, is = pre ++ v :: post → (∀ i ∈ pre, inR n i) → ¬ inR n v → placeE K (.int v) H E
def spNeedPl (K : PySem.W.Frag) : Sp := fun vs H Q E => ∃ (b dx li p : Addr) (rs : List Str) (is : List Int), vs = [.ref b, .ref p] ∧ LinesAt K H b dx li rs ∧ (SqL K H p (is.map V.int) ∨ SqT K H p (is.map V.int)) ∧ is.length ≤ 20000 ∧ Places K rs.length is H E (Q .non H)
section
variable {P : Program} {w : World} {K : PySem.W.Frag} {mg : Str → Option Value} {base : Heap}
theorem ok_isPlace {fd : FuncData} (F : FunD K "is_place" "Board.is_place" (defArgs s_Board_is_place) (defBody s_Board_is_place) (defScope s_Board_is_place) [] [] (He.ma K (He.ga K "Board") "is_place") fd) (T : Top K mg) : MethD P w K mg base "Board" "is_place" 1 ["self", "value"] (spIsPlace K) := by
  refine methd_mk F (F.bindsN fun _ _ _ _ _ _ us hl => match us, hl with | [_, _], _ => rfl) T.k_Board T.m_Board_is_place sc_Board_is_place (fun vs H Q E h => ?_) (fun cdv A outer s H vs Q E hr h => ?_)
  · obtain ⟨b, dx, li, rs, v, d, rfl, _⟩ := h
    rfl
  obtain ⟨b, dx, li, rs, v, d, rfl, ⟨lo, up, l, g, hb, hli⟩, hd, q⟩ := h
  refine ⟨_, (pss_one (ps_ret (pe_and (pe_callB (call_isK K kb_int) (by rfl) T.b_isinstance (by decide +kernel) (pa_cons (pv 1) (pa_cons (pe_bltn (v := .ty "int") (by rfl) T.b_int (by decide +kernel) rfl) pa_nil))) (pe_and (pe_not (pe_callB (call_isK K kb_bool) (by rfl) T.b_isinstance (by decide +kernel) (pa_cons (pv 1) (pa_cons (pe_bltn (v := .ty "bool") (by rfl) T.b_bool (by decide +kernel) rfl) pa_nil)))) (pe_one (pe_chain op_le op_lt pe_int (pv 1) (pe_callB (call_lenK K) (by rfl) T.b_len (by decide +kernel) (pa_cons (pe_fld (pv 0) rfl) pa_nil)))))))), ?_⟩
  refine ⟨_, rfl, v, d, rfl, hd, _, rfl, ?_⟩
  refine if_b (fun h1 => ?_) (fun h1 => ?_)
  rotate_left
  · have : isPlaceD rs.length d = false := by
      cases d <;> first | rfl | cases h1
    rw [this] at q
    exact q
  refine ⟨_, rfl, v, d, rfl, hd, _, rfl, ⟨_, rfl, ?_⟩⟩
  refine if_nb (fun h2 => ?_) (fun h2 => ?_)
  rotate_left
  · have : isPlaceD rs.length d = false := by
      cases d <;> first | rfl | cases h2
    rw [this] at q
    exact q
  cases d with
  | int i =>
    cases hd
    refine ⟨_, rfl, _, _, rfl, rfl, _, rfl, ?_⟩
    change Q (.bl (decide (0 ≤ i) && decide (i < rs.length))) H at q
    refine if_dec (fun h3 => ?_) (fun h3 => ?_)
    · rw [decide_eq_true h3, Bool.true_and] at q
      exact ⟨_, rfl, b, _, dx, _, _, rfl, hb, T.k_Board, T.n_Board_lines, rfl, .ref li, rs.length, rfl, .inl ⟨_, SqL.of hli, (List.length_map _).symm⟩, _, _, rfl, rfl, q⟩
    · rw [decide_eq_false h3, Bool.false_and] at q
      exact q
  | bool x => cases h2
  | _ => cases h1
theorem ok_needPl {fd : FuncData} (F : FunD K "need_places" "Board.need_places" (defArgs s_Board_need_places) (defBody s_Board_need_places) (defScope s_Board_need_places) [] [] (He.ma K (He.ga K "Board") "need_places") fd) (T : Top K mg)
    (D_Board_is_place : MethD P w K mg base "Board" "is_place" 1 ["self", "value"] (spIsPlace K)) (x_InvalidPlace : RaiseD1 P w K mg base "InvalidPlace" "FaultError" 2 "InvalidPlace" "place") : MethX P w K mg base "Board" "need_places" 4 ["self", "places"] (spNeedPl K) := by
  refine methx_mk F (F.bindsN fun _ _ _ _ _ _ us hl => match us, hl with | [_, _], _ => rfl) T.k_Board T.m_Board_need_places sc_Board_need_places (fun vs H Q E h => ?_) (fun cdv A outer s0 H vs Q E hr h tk => ?_)
  · obtain ⟨b, dx, li, p, rs, is, rfl, _⟩ := h
    rfl
  obtain ⟨b, dx, li, p, rs, is, rfl, hL, hp, hn, q1, q2⟩ := h
  refine ⟨_, (pss_one (ps_for (passes_of rfl) rfl (pi_seqK K (pv 1)) (pg_name (i := 2) sc_Board_need_places.nd rfl (Or.inl rfl) (.inl rfl))
  (pss_one (ps_if (pt_not (pt_val (pe_methd D_Board_is_place hr (by first | decide | omega) (pv 0) (pa_cons (pv 2) pa_nil))))
  (pss_one (ps_raise rfl tk (pmk_raise1 x_InvalidPlace hr (by first | decide | omega) (pa_cons (pv 2) pa_nil) (mono := by intro σ H Q Q' h q; first | exact h _ _ q | exact (let ⟨v, e, q⟩ := q; ⟨v, e, h _ _ q⟩) | exact (let ⟨v, e, x, n, e2, h2, q⟩ := q; ⟨v, e, x, n, e2, h2, h _ _ q⟩) | exact (let ⟨v, e, a, b, c, d, e1, e2, h1, h2, q⟩ := q; ⟨v, e, a, b, c, d, e1, e2, h1, h2, h _ _ q⟩)))))
  pss_nil)))), ?_⟩
  obtain ⟨lo, up, l, g, hb, hli⟩ := id hL
  refine ⟨_, rfl, ?_⟩
  refine for_seqS (H0 := H) hp (Same.refl H) (fun i σ H' => (∃ o, σ = [some (.ref b), some (.ref p), o]) ∧ H' = H ∧ ∀ j ∈ is.take i, inR rs.length j) ⟨⟨_, rfl⟩, rfl, fun j hj => by cases hj⟩ (fun i σ H' _ ⟨_, e, _⟩ => e ▸ Same.refl H) ?_ ?_
  · rintro i x σ H1 hx ⟨⟨o, rfl⟩, rfl, hok⟩
    obtain ⟨v, hv, rfl⟩ := map_get hx
    refine ⟨_, rfl, b, dx, _, rfl, hb, rfl, _, rfl, b, dx, li, rs, .int v, .int v, rfl, hL, .int v, _, rfl, ?_⟩
    refine if_nb (fun h => ?_) (fun h => ?_)
    · have hi := (List.getElem?_eq_some_iff.mp hv).1
      refine ⟨_, rfl, _, rfl, fun dd H2 e2 hd => q2 (is.take i) v (is.drop (i + 1)) ?_ hok (fun z => ?_) dd H2 e2 hd⟩
      · have := (List.getElem?_eq_some_iff.mp hv).2
        rw [← this, ← List.drop_eq_getElem_cons hi, List.take_append_drop]
      · have h : (decide (0 ≤ v) && decide (v < rs.length)) = false := h
        rw [decide_eq_true z.1, decide_eq_true z.2] at h
        cases h
    · refine ⟨⟨_, rfl⟩, rfl, fun j hj => ?_⟩
      rw [List.take_add_one, hv] at hj
      rcases List.mem_append.mp hj with hj | hj
      · exact hok j hj
      · have e : j = v := by simpa using hj
        subst e
        have h : (decide (0 ≤ j) && decide (j < rs.length)) = true := h
        obtain ⟨a, c⟩ := (Bool.and_eq_true _ _).mp h
        exact ⟨of_decide_eq_true a, of_decide_eq_true c⟩
  · rintro σ H1 ⟨⟨o, rfl⟩, rfl, hok⟩
    rw [List.length_map, List.take_length] at hok
    exact q1 hok
end
end FF
/-! rows read sign by sign; [e for k in range(n) if test] -/
namespace FF
open PySem PySem.Spec PyProof.Rows L2
abbrev rowD (rs : List Str) (x : Nat) : Str := rs.getD x ⟨#[]⟩
abbrev sgD (rs : List Str) (x y : Nat) : Nat := (tl (rowD rs x)).getD y 0
section
variable {rs : List Str} {x y : Nat} {i j : Int}
theorem rowG (hx : x < rs.length) : rs[x]? = some (rowD rs x) := by
  unfold rowD
  rw [List.getD_eq_getElem?_getD, List.getElem?_eq_getElem hx] <;> rfl
theorem rowA (hx : x < rs.length) (e : i = (x : Nat)) : atI (rs.map V.str) i = some (.str (rowD rs x)) := by
  subst e
  refine atI_nat ?_
  rw [List.getElem?_map, rowG hx] <;> rfl
theorem lenA (h : Sq rs) (hx : x < rs.length) : (rowD rs x).length = rs.length := h.len _ (List.mem_of_getElem? (rowG hx))
theorem lineA (h : Sq rs) (hx : x < rs.length) : (rowD rs x).length ≤ sizeLine := by
  rw [lenA h hx]
  have := h.le
  exact le_line (by omega)
theorem signG (h : Sq rs) (hx : x < rs.length) (hy : y < rs.length) : (tl (rowD rs x))[y]? = some (sgD rs x y) := by
  have hl : y < (tl (rowD rs x)).length := by
    show y < (rowD rs x).length
    rw [lenA h hx]
    exact hy
  unfold sgD
  rw [List.getD_eq_getElem?_getD (l := tl (rowD rs x)), List.getElem?_eq_getElem hl] <;> rfl
theorem signA (h : Sq rs) (hx : x < rs.length) (hy : y < rs.length) (e : j = (y : Nat)) : atI (tl (rowD rs x)) j = some (sgD rs x y) := by
  subst e
  exact atI_nat (signG h hx hy)
theorem cell1 (h : Sq rs) (hx : x < rs.length) (hy : y < rs.length) : decide (V.str ⟨#[sgD rs x y]⟩ = V.str "1") = bit rs x y := by
  unfold bit
  rw [rowG hx]
  show _ = ((tl (rowD rs x))[y]? == some 49)
  rw [signG h hx hy, Bool.eq_iff_iff, decide_eq_true_eq, beq_iff_eq]
  have e1 : ("1" : Str) = ⟨#[49]⟩ := by decide +kernel
  rw [e1]
  exact ⟨fun h => by injection h with h; injection h with h; injection h with h; injection h with h; rw [h], fun h => by injection h with h; rw [h]⟩
end
theorem lc_filtR {n : Nat} {lo : Int} {tt : TT} {te : TE} {vs : List Nat} {σ : L2.St} {H1 : Hp} {D : Addr} {Qd : Hp → Prop} {j : Nat} (f : Nat → Bool) (g : Nat → V) (hD : H1 D = none) (hz : n ≤ sizeLine)
    (hw : ∀ x, wipe ((wipe σ vs).set j (some x)) vs = wipe σ vs)
    (test : ∀ (i : Nat) (H2 : Hp), i < n → Same H1 H2 → ∀ Qb : Bool → Hp → Prop, (∀ H3, Same H2 H3 → Qb (f i) H3) → tt ((wipe σ vs).set j (some (.int (lo + i)))) H2 Qb)
    (elt : ∀ (i : Nat) (H2 : Hp), i < n → Same H1 H2 → ∀ Q' : VK, (∀ H3, Same H2 H3 → Q' (g i) H3) → te ((wipe σ vs).set j (some (.int (lo + i)))) H2 Q')
    (done : ∀ H2, Same H1 H2 → H2 D = some (.lst (((List.range n).filter f).map g)) → Qd H2) :
    ∃ W : Nat → Nat → Hp → Prop, (∃ m, W 0 m (upd H1 D (.lst []))) ∧ ∀ i m H, W i m H →
      ((Itr lo n).stop i H ∧ Qd H) ∨ ((Itr lo n).go i H ∧ ∃ Nx : Hp → Prop, (∀ H', Nx H' → ∃ m', m' < m ∧ W (i + 1) m' H') ∧ ∀ x H', (Itr lo n).yld i H x H' → gName j x (wipe σ vs) H' fun σ2 H2 => wipe σ2 vs = wipe σ vs ∧ tt σ2 H2 fun b H3 =>
        if b = true then te σ2 H3 fun y H4 => ∃ acc, H4 D = some (.lst acc) ∧ acc.length < sizeLine ∧ Nx (upd H4 D (.lst (acc ++ [y]))) else Nx H3) :=
  lc_range (fun i H => Same H1 H ∧ H D = some (.lst (((List.range i).filter f).map g)))
    ⟨same_new hD _, upd_same⟩
    (fun i H hx ⟨e, h1⟩ => ⟨hw _, test i H hx e _ fun H3 e3 => by
      have f1 : (List.range (i + 1)).filter f = (List.range i).filter f ++ (if f i = true then [i] else []) := by
        rw [List.range_succ, List.filter_append]
        congr 1
        by_cases h : f i = true
        · rw [if_pos h, List.filter_cons_of_pos h, List.filter_nil]
        · rw [if_neg h, List.filter_cons_of_neg h, List.filter_nil]
      cases hb : f i with
      | false =>
        refine iteF ⟨e.trans e3, ?_⟩
        rw [f1, if_neg (by rw [hb]; decide), List.append_nil]
        exact e3 _ _ h1
      | true =>
        refine iteT (elt i H3 hx (e.trans e3) _ fun H4 e4 => ⟨_, e4 _ _ (e3 _ _ h1), ?_, same_at hD (e.trans (e3.trans e4)), ?_⟩)
        · rw [List.length_map]
          refine Nat.lt_of_le_of_lt (List.length_filter_le _ _) ?_
          rw [List.length_range]
          omega
        · rw [f1, if_pos hb, upd_same, List.map_append]
          rfl⟩)
    fun H ⟨e, h1⟩ => done H e h1
end FF
/-! the class Board: is_below, low, up, bottom, top -/
namespace FF
open PySem PySem.Spec PyProof.Rows L2
def natsOf (is : List Int) : List Nat := is.map Int.toNat
theorem natsOf_lt {n : Nat} {is : List Int} (h : ∀ i ∈ is, inR n i) : ∀ y ∈ natsOf is, y < n := fun y hy => by
  obtain ⟨i, hi, rfl⟩ := List.mem_map.mp hy
  have := h i hi
  obtain ⟨a, b⟩ := this
  omega
theorem natsOf_map {n : Nat} : ∀ {is : List Int}, (∀ i ∈ is, inR n i) → is.map V.int = (natsOf is).map nV
  | [], _ => rfl
  | i :: is, h => by
    have hi := h i List.mem_cons_self
    show V.int i :: is.map V.int = V.int (i.toNat : Nat) :: (natsOf is).map nV
    rw [natsOf_map fun j hj => h j (List.mem_cons_of_mem _ hj), show ((i.toNat : Nat) : Int) = i from Int.toNat_of_nonneg hi.1]
theorem natsOf_nat : ∀ xs : List Nat, natsOf (xs.map fun x : Nat => (x : Int)) = xs
  | [] => rfl
  | x :: xs => by
    show (x : Int).toNat :: natsOf (xs.map fun x : Nat => (x : Int)) = _
    rw [natsOf_nat xs, Int.toNat_natCast]
def spBelow (K : PySem.W.Frag) : Sp := fun vs H Q E => ∃ (b dx li : Addr) (rs : List Str) (i j : Int), vs = [.ref b, .int i, .int j] ∧ LinesAt K H b dx li rs ∧ Sq rs ∧ ∀ H1, Same H H1 → Places K rs.length [i, j] H1 E (Q (.bl (bit rs i.toNat j.toNat)) H1)
def spLowT (K : PySem.W.Frag) : Sp := fun vs H Q E => ∃ (b dx li p : Addr) (rs : List Str) (is : List Int), vs = [.ref b, .ref p] ∧ BoardAt K H b dx li rs ∧ SqT K H p (is.map V.int) ∧ is.length ≤ 9000 ∧ Places K rs.length is H E (∀ H1, Same H H1 → Q (nV (lowsN rs (natsOf is))) H1)
def spUpT (K : PySem.W.Frag) : Sp := fun vs H Q E => ∃ (b dx li p : Addr) (rs : List Str) (is : List Int), vs = [.ref b, .ref p] ∧ BoardAt K H b dx li rs ∧ SqT K H p (is.map V.int) ∧ is.length ≤ 9000 ∧ Places K rs.length is H E (∀ H1, Same H H1 → Q (nV (upsN rs (natsOf is))) H1)
/-- low(..), up(..) called with so many places -/
def spStar (K : PySem.W.Frag) (f : List Str → List Nat → Nat) : Sp := fun vs H Q E => ∃ (b dx li : Addr) (rs : List Str) (is : List Int), vs = .ref b :: is.map V.int ∧ BoardAt K H b dx li rs ∧ is.length ≤ 9000 ∧ ∀ H1, Same H H1 → Places K rs.length is H1 E (∀ H2, Same H1 H2 → Q (nV (f rs (natsOf is))) H2)
theorem gathered_from {K : PySem.W.Frag} {H : Hp} {tab : List (List Nat)} {n x : Nat} {xs : List Nat} {a q : Addr} {Q : VK} {E : XK} (ht : TabAt H a tab) (ok : TabOk n tab) (hx : x < n) (hxs : ∀ y ∈ xs, y < n) (hl : xs.length ≤ 10000) (hq : SqL K H q ((x :: xs).map nV)) (k : ∀ H', Same H H' → Q (nV (gathL tab x xs)) H') :
    spGathered K [.ref a, .ref q] H Q E :=
  ⟨a, q, tab, x, xs, rfl, ht, hq, hl, by rw [ok.len]; exact hx, fun y hy => by rw [ok.len]; exact hxs y hy, fun r hr => by rw [ok.len]; exact ok.row r hr, fun r hr z hz => by rw [ok.len]; exact ok.ent r hr z hz, k⟩
section
variable {P : Program} {w : World} {K : PySem.W.Frag} {mg : Str → Option Value} {base : Heap}
theorem fn_below {fd : FuncData} (F : FunD K "is_below" "Board.is_below" (defArgs s_Board_is_below) (defBody s_Board_is_below) (defScope s_Board_is_below) [] [] (He.ma K (He.ga K "Board") "is_below") fd) (T : Top K mg)
    (D_Board_need_places : MethX P w K mg base "Board" "need_places" 4 ["self", "places"] (spNeedPl K)) : FnOk P w K mg base (L2.CX P w) 5 (He.ma K (He.ga K "Board") "is_below") fd ["self", "one", "other"] (spBelow K) := by
  refine FunD.ok F sc_Board_is_below (fun vs H Q E h => ?_) (fun cdv A outer s0 H vs Q E hr h => ?_)
  · obtain ⟨b, dx, li, rs, i, j, rfl, _⟩ := h
    rfl
  obtain ⟨b, dx, li, rs, i, j, rfl, hL, sq, q⟩ := h
  have tk : Takes (cxOf (L2.CX P w) P w K mg base ["self", "one", "other"] "Board.is_below" (defScope s_Board_is_below) (He.ma K (He.ga K "Board") "is_below") cdv A outer s0 H E) (fun cls d _ H => E cls d H) := takes_of rfl rfl rfl rfl
  refine ⟨_, (pss_cons (ps_expr (pe_methx (E := E) D_Board_need_places tk (fun _ _ _ _ h => h) hr (by first | decide | omega) (pv 0) (pa_cons (pe_lst (pa_cons (pv 1) (pa_cons (pv 2) pa_nil))) pa_nil)))
  (pss_one (ps_ret (pe_cmpR op_eq (pe_ix ix_str (pe_ix (ix_listK K) (pe_fld (pv 0) rfl) (pv 1) (fun _ _ => rfl)) (pv 2) (fun _ _ => rfl)) pe_str (nomark _))))), ?_⟩
  obtain ⟨lo, up, l, g, hb, hli⟩ := id hL
  refine ⟨_, rfl, b, dx, _, rfl, hb, rfl, _, rfl, _, rfl, (by show 2 ≤ sizeLine; decide), fun p hp => ?_⟩
  have e1 := same_new hp (.lst [.int i, .int j])
  obtain ⟨q1, q2⟩ := q _ e1
  refine ⟨b, dx, li, p, rs, [i, j], rfl, hL.up e1, .inl (SqL.of upd_same), (by show 2 ≤ 20000; decide), fun hok => ?_, q2⟩
  have q1 := q1 hok
  obtain ⟨i0, i1⟩ := hok i List.mem_cons_self
  obtain ⟨j0, j1⟩ := hok j (List.mem_cons_of_mem _ List.mem_cons_self)
  have hi : i.toNat < rs.length := by omega
  have hj : j.toNat < rs.length := by omega
  have hb1 := e1 _ _ hb
  have hl1 := e1 _ _ hli
  generalize upd H p (.lst [.int i, .int j]) = H1 at hb1 hl1 q1 ⊢
  refine ⟨_, rfl, b, _, dx, _, _, rfl, hb1, T.k_Board, T.n_Board_lines, rfl, _, rfl, li, _, _, _, rfl, rfl, SqL.of hl1, rowA hi (by omega), _, rfl, _, _, _, rfl, rfl, lineA sq hi, signA sq hi hj (by omega), rfl, ?_⟩
  rw [cell1 sq hi hj]
  exact q1
theorem ok_below {fd : FuncData} (F : FunD K "is_below" "Board.is_below" (defArgs s_Board_is_below) (defBody s_Board_is_below) (defScope s_Board_is_below) [] [] (He.ma K (He.ga K "Board") "is_below") fd) (T : Top K mg)
    (D_Board_need_places : MethX P w K mg base "Board" "need_places" 4 ["self", "places"] (spNeedPl K)) : MethX P w K mg base "Board" "is_below" 5 ["self", "one", "other"] (spBelow K) :=
  ⟨⟨fd, fn_below F T D_Board_need_places, F.bindsN fun _ _ _ _ _ _ us hl => match us, hl with | [_, _, _], _ => rfl⟩, T.k_Board, T.m_Board_is_below⟩
end
end FF
/-! boards, the law: rows that are boards -/
namespace FF
open PySem PySem.Spec PyProof.Rows L2
def spCopied (K : PySem.W.Frag) : Sp := fun vs H Q _ => ∃ (a : Addr) (xs : List V), vs = [.ref a] ∧ SqL K H a xs ∧ xs.length ≤ 20000 ∧ ∀ p H', H p = none → Same H H' → H' p = some (.lst xs) → Q (.ref p) H'
def spFamV (K : PySem.W.Frag) : Sp := fun vs H Q _ => ∃ (s : Addr) (wd many : Nat), vs = [.ref s, .int wd, .int many] ∧ Src H s ∧ wd ≤ 10 ∧ many ≤ 5 ∧ ∀ p (ms : List Nat) H', H p = none → Same H H' → H' p = some (.lst (ms.map nV)) → Fam ms → ms.length ≤ 2 ^ many → Q (.ref p) H'
def spRowsV (K : PySem.W.Frag) : Sp := fun vs H Q _ => ∃ (a : Addr) (ms : List Nat), vs = [.ref a] ∧ SqL K H a (ms.map nV) ∧ ms.length ≤ 1000 ∧ ∀ p H', H p = none → Same H H' → H' p = some (.lst ((rowsOf ms).map V.str)) → Q (.ref p) H'
def spSomeV (K : PySem.W.Frag) : Sp := fun vs H Q _ => ∃ (s : Addr), vs = [.ref s] ∧ Src H s ∧ ∀ p (rs : List Str) H', H p = none → Same H H' → H' p = some (.lst (rs.map V.str)) → progBoard rs = true → rs.length ≤ 8 → Q (.ref p) H'
def toN (v : V) : Nat := match v with
  | .int i => i.toNat
  | _ => 0
theorem toN_n (n : Nat) : toN (nV n) = n := by
  show ((n : Nat) : Int).toNat = n
  exact Int.toNat_natCast n
theorem perm_nats {ys : List V} {ns : List Nat} (h : ys.Perm (ns.map nV)) : ∃ ms : List Nat, ys = ms.map nV ∧ ms.Perm ns := by
  have : ∀ l : List V, (∀ y ∈ l, ∃ n : Nat, y = nV n) → ∃ ms : List Nat, l = ms.map nV := by
    intro l
    induction l with
    | nil => exact fun _ => ⟨[], rfl⟩
    | cons y l ih =>
      intro hy
      obtain ⟨n, rfl⟩ := hy y List.mem_cons_self
      obtain ⟨ms, rfl⟩ := ih fun z hz => hy z (List.mem_cons_of_mem _ hz)
      exact ⟨n :: ms, rfl⟩
  obtain ⟨ms, rfl⟩ := this ys fun y hy => by
    obtain ⟨n, _, e⟩ := List.mem_map.mp (h.subset hy)
    exact ⟨n, e.symm⟩
  refine ⟨ms, rfl, ?_⟩
  have h2 := h.map toN
  rw [List.map_map, List.map_map] at h2
  have e : toN ∘ nV = id := funext toN_n
  rw [e, List.map_id, List.map_id] at h2
  exact h2
theorem nats_flat (ns : List Nat) : (ns.map nV).all flatV = true := by
  rw [List.all_map, List.all_eq_true]
  intro y _
  rfl
theorem eqv_nat (a b : Nat) : eqV (nV a) (nV b) = decide (a = b) := by
  show decide ((a : Int) = (b : Int)) = _
  rw [Bool.eq_iff_iff, decide_eq_true_eq, decide_eq_true_eq]
  exact ⟨fun h => Int.ofNat.inj h, fun h => by rw [h]⟩
theorem inV_nat (k : Nat) (ks : List Nat) : inV (nV k) (ks.map nV) = decide (k ∈ ks) := by
  unfold inV
  rw [List.any_map, Bool.eq_iff_iff, List.any_eq_true, decide_eq_true_eq]
  constructor
  · rintro ⟨x, hx, e⟩
    have e : eqV (nV x) (nV k) = true := e
    rw [eqv_nat, decide_eq_true_eq] at e
    rw [← e]
    exact hx
  · intro h
    refine ⟨k, h, ?_⟩
    show eqV (nV k) (nV k) = true
    rw [eqv_nat, decide_eq_true_eq]
theorem nd1 {α : Type} (a : α) : [a].Nodup := List.nodup_cons.mpr ⟨by simp, List.nodup_nil⟩
theorem one_fam (t : Nat) : Fam [t] := ⟨nd1 t, fun a ha b hb => by
  rw [List.mem_singleton.mp ha, List.mem_singleton.mp hb, Nat.and_self]
  exact List.mem_singleton.mpr rfl, t, List.mem_singleton.mpr rfl, fun a ha => by rw [List.mem_singleton.mp ha, Nat.and_self]⟩
theorem fam_a : Fam [0, 1, 2, 4, 7] := ⟨by decide, by decide, by decide⟩
theorem fam_b : Fam [0, 1, 3, 4, 7] := ⟨by decide, by decide, by decide⟩
theorem sub_str (a b : Nat) : (toString (if decide (V.int (Builtin.bitAnd (a : Int) (b : Int)) = nV a) = true then (1 : Int) else 0) : Str) = ⟨#[sub1 a b]⟩ := by
  have e : decide (V.int (Builtin.bitAnd (a : Int) (b : Int)) = nV a) = decide (a &&& b = a) := by
    rw [band_nat, Bool.eq_iff_iff, decide_eq_true_eq, decide_eq_true_eq]
    exact ⟨fun h => Int.ofNat.inj (V.int.inj h), fun h => by rw [h]⟩
  rw [e]
  unfold sub1
  by_cases h : a &&& b = a
  · rw [decide_eq_true h, if_pos h, if_pos rfl]
    decide +kernel
  · rw [decide_eq_false h, if_neg h, if_neg (by decide)]
    decide +kernel
section
variable {P : Program} {w : World} {K : PySem.W.Frag} {mg : Str → Option Value} {base : Heap}
theorem ok_copied {f : Addr} {fd : FuncData} (F : FunD K "_law_copied" "_law_copied" (defArgs s_law_copied) (defBody s_law_copied) (defScope s_law_copied) [] [] f fd) (hm : mg "_law_copied" = some (.ref f)) (T : Top K mg) : Def P w K mg base "_law_copied" 1 ["_law_row"] (spCopied K) := by
  refine def_mk F hm (F.bindsN fun _ _ _ _ _ _ us hl => match us, hl with | [_], _ => rfl) sc_law_copied (fun vs H Q E h => ?_) (fun cdv A outer s H vs Q E hr h => ?_)
  · obtain ⟨a, xs, rfl, _⟩ := h
    rfl
  obtain ⟨a, xs, rfl, hS, hn, q⟩ := h
  refine ⟨_, (pss_one (ps_ret (pe_lc (own := [("_law_one", 1)]) rfl sc_law_copied.nd (pi_listK K (pv 0)) (blkOk_by (by kernel_rfl)) (fun _ _ _ _ _ => (pg_name (i := 1) sc_law_copied.nd rfl (Or.inl rfl) (.inr rfl))) (fun _ _ _ _ _ => pts_nil) (fun _ _ _ _ _ => (pv 1))))), ?_⟩
  refine ⟨_, rfl, a, rfl, ⟨_, hS⟩, fun D hD => ?_⟩
  refine lc_mapL (j := 1) (R := fun i y _ => xs[i]? = some y) (fun _ _ _ _ _ h => h) hD hS (le_line hn) (fun _ => rfl) ?_ ?_
  · intro i x H2 hx e2 Q' k'
    exact ⟨_, rfl, k' _ _ (Same.refl _) hx⟩
  · intro H2 ys e2 hD2 hl hy
    refine q D H2 hD e2 ?_
    have : ys = xs := by
      refine List.ext_getElem? fun i => ?_
      cases h : ys[i]? with
      | none =>
        have := List.getElem?_eq_none_iff.mp h
        rw [List.getElem?_eq_none_iff.mpr (by omega)]
      | some y => rw [hy i y h]
    rw [hD2, this]
theorem ok_familyV {f : Addr} {fd : FuncData} (F : FunD K "_law_family" "_law_family" (defArgs s_law_family) (defBody s_law_family) (defScope s_law_family) [] [] f fd) (hm : mg "_law_family" = some (.ref f)) (T : Top K mg)
    (D_law_take : Def P w K mg base "_law_take" 1 ["_law_source_here", "_law_many"] spTake) (D_law_copied : Def P w K mg base "_law_copied" 1 ["_law_row"] (spCopied K)) (D_law_mixed : Def P w K mg base "_law_mixed" 2 ["_law_source_here", "_law_row"] (spMixed K)) :
    Def P w K mg base "_law_family" 3 ["_law_source_here", "_law_wide", "_law_many"] (spFamV K) := by
  refine def_mk F hm (F.bindsN fun _ _ _ _ _ _ us hl => match us, hl with | [_, _, _], _ => rfl) sc_law_family (fun vs H Q E h => ?_) (fun cdv A outer s H vs Q E hr h => ?_)
  · obtain ⟨s, wd, many, rfl, _⟩ := h
    rfl
  obtain ⟨s, wd, many, rfl, hs, hw, hm5, q⟩ := h
  refine ⟨_, (pss_cons (ps_set (i := 3) sc_law_family.nd rfl (Or.inl rfl) (pe_lst (pa_cons (pe_op op_sub (pe_op op_shl pe_int (pv 1)) pe_int) pa_nil)))
  (pss_cons (ps_for PassesOwn.never rfl (pi_range1 (by rfl) T.b_range (pa_cons (pv 2) pa_nil)) (pg_name (i := 4) sc_law_family.nd rfl (Or.inl rfl) (.inl rfl))
  (pss_cons (ps_set (i := 5) sc_law_family.nd rfl (Or.inl rfl) (pe_def D_law_take hr (by first | decide | omega) (pa_cons (pv 0) (pa_cons (pe_op op_shl pe_int (pv 1)) pa_nil))))
  (pss_one (ps_for PassesOwn.never rfl (pi_listK K (pe_def D_law_copied hr (by first | decide | omega) (pa_cons (pv 3) pa_nil))) (pg_name (i := 6) sc_law_family.nd rfl (Or.inl rfl) (.inl rfl))
  (pss_one (ps_if (pt_cmpR (op_notIn_seqK K) (pe_op op_and (pv 5) (pv 6)) (pv 3) (by rfl))
  (pss_one (ps_expr (pe_bmK K PySem.F.plainAttrs_list PySem.F.slot_list_append PySem.F.type_list_append mt_append (pv 3) (pa_cons (pe_op op_and (pv 5) (pv 6)) pa_nil))))
  pss_nil))))))
  (pss_one (ps_ret (pe_def D_law_mixed hr (by first | decide | omega) (pa_cons (pv 0) (pa_cons (pv 3) pa_nil))))))), ?_⟩
  have h1024 : (2 : Nat) ^ wd ≤ 2 ^ 10 := Nat.pow_le_pow_right (by decide) hw
  have hpos : (0 : Nat) < 2 ^ wd := Nat.pow_pos (by decide)
  have epw : (2 : Int) ^ ((wd : Nat) : Int).toNat = ((2 ^ wd : Nat) : Int) := by rw [Int.toNat_natCast, Int.natCast_pow] <;> rfl
  have etop : V.int (1 * 2 ^ ((wd : Nat) : Int).toNat - 1) = nV (2 ^ wd - 1) := by
    show V.int _ = V.int _
    rw [epw]
    congr 1
    omega
  refine ⟨_, rfl, _, _, rfl, rfl, ⟨by omega, by omega, by decide⟩, _, _, rfl, rfl, (by show 1 ≤ sizeLine; decide), fun p hp => ?_⟩
  dsimp only
  rw [etop]
  have e1 := same_new hp (.lst [nV (2 ^ wd - 1)])
  refine ⟨_, rfl, many, rfl, by omega, by omega, ?_⟩
  rw [Int.toNat_natCast]
  refine for_range (lo := 0) (n := many) (fun i σ H' => ∃ (ms : List Nat) (o4 o5 o6 : Option V), σ = [some (.ref s), some (.int (wd : Nat)), some (.int (many : Nat)), some (.ref p), o4, o5, o6] ∧ Same H H' ∧ H' p = some (.lst (ms.map nV)) ∧ ms.length ≤ 2 ^ i ∧ Fam ms)
    ⟨[2 ^ wd - 1], none, none, none, rfl, e1, upd_same, Nat.le_refl _, one_fam _⟩ ?_ ?_
  · rintro i σ H2 hi ⟨ms, o4, o5, o6, rfl, e2, hp2, hl, hF⟩
    have hp32 : 2 ^ i ≤ 2 ^ 5 := Nat.pow_le_pow_right (by decide) (by omega)
    refine ⟨_, rfl, _, rfl, _, _, rfl, rfl, ⟨by omega, by omega, by decide⟩, s, _, rfl, by rw [epw]; omega, by rw [epw]; omega, hs.up e2, fun m m0 m1 => ?_⟩
    obtain ⟨mn, rfl⟩ : ∃ mn : Nat, m = (mn : Int) := ⟨m.toNat, by omega⟩
    refine ⟨_, rfl, p, _, rfl, SqL.of hp2, by rw [List.length_map]; omega, fun c H3 hc e3 hc3 => ?_⟩
    have cp : c ≠ p := fun z => by rw [z, hp2] at hc; cases hc
    refine ⟨c, rfl, ⟨_, SqL.of hc3⟩, ?_⟩
    refine for_list (K := K) (a := c) (xs := ms.map nV) (fun j σ H' => ∃ (ks : List Nat) (o6 : Option V), σ = [some (.ref s), some (.int (wd : Nat)), some (.int (many : Nat)), some (.ref p), some (.int (0 + (i : Nat))), some (nV mn), o6] ∧ Same H H' ∧ H' c = some (.lst (ms.map nV)) ∧ H' p = some (.lst (ks.map nV)) ∧ ks.length ≤ 2 ^ i + j ∧ ks.Nodup ∧ (∀ k ∈ ks, k ∈ ms ∨ ∃ o ∈ ms, k = mn &&& o) ∧ (∀ k ∈ ms, k ∈ ks) ∧ ∀ o ∈ ms.take j, mn &&& o ∈ ks)
      ⟨ms, _, rfl, e2.trans e3, hc3, e3 _ _ hp2, by omega, hF.nd, fun k hk => .inl hk, fun k hk => hk, fun o ho => by cases ho⟩ (fun j σ H' _ ⟨_, _, _, _, h, _⟩ => SqL.of h) ?_ ?_
    · rintro j x σ H4 hj ⟨ks, o6, rfl, e4, hc4, hp4, hkl, nd, k1, k2, k3⟩
      obtain ⟨n, hn1, rfl⟩ := map_get hj
      have hnm := List.mem_of_getElem? hn1
      have hj2 := (List.getElem?_eq_some_iff.mp hn1).1
      have tk : ms.take (j + 1) = ms.take j ++ [n] := by rw [List.take_add_one, hn1] <;> rfl
      refine ⟨_, rfl, _, rfl, _, _, rfl, rfl, _, rfl, p, _, rfl, .inl (SqL.of hp4), rfl, nats_flat ks, _, rfl, ?_⟩
      have eb : V.int (Builtin.bitAnd (mn : Int) (n : Int)) = nV (mn &&& n) := by rw [band_nat]
      dsimp only
      rw [eb, inV_nat]
      refine if_nb (fun hb => ?_) (fun hb => ?_)
      · have hb := of_decide_eq_false hb
        refine ⟨_, rfl, .inl ⟨rfl, _, SqL.of hp4⟩, _, rfl, _, rfl, _, _, rfl, rfl, p, _, _, rfl, rfl, hp4, lt_line (by rw [List.length_map]; omega), ?_⟩
        refine ⟨ks ++ [mn &&& n], _, rfl, same_at hp e4, by rw [upd_ne cp]; exact hc4, by rw [upd_same, List.map_append]; show some (HO.lst (_ ++ [V.int (Builtin.bitAnd (mn : Int) (n : Int))])) = _; rw [eb]; rfl, ?_, ?_, ?_, ?_, ?_⟩
        · rw [List.length_append, List.length_singleton]
          omega
        · refine List.nodup_append.mpr ⟨nd, nd1 _, fun a ha b hb2 => ?_⟩
          rw [List.mem_singleton.mp hb2]
          exact fun z => hb (z ▸ ha)
        · intro k hk
          rcases List.mem_append.mp hk with hk | hk
          · exact k1 k hk
          · exact .inr ⟨n, hnm, List.mem_singleton.mp hk⟩
        · exact fun k hk => List.mem_append_left _ (k2 k hk)
        · intro o ho
          rw [tk] at ho
          rcases List.mem_append.mp ho with ho | ho
          · exact List.mem_append_left _ (k3 o ho)
          · rw [List.mem_singleton.mp ho]
            exact List.mem_append_right _ (List.mem_singleton.mpr rfl)
      · have hb := of_decide_eq_true hb
        refine ⟨ks, _, rfl, e4, hc4, hp4, by omega, nd, k1, k2, fun o ho => ?_⟩
        rw [tk] at ho
        rcases List.mem_append.mp ho with ho | ho
        · exact k3 o ho
        · rw [List.mem_singleton.mp ho]
          exact hb
    · rintro σ H4 ⟨ks, o6, rfl, e4, hc4, hp4, hkl, nd, k1, k2, k3⟩
      rw [List.length_map] at hkl k3
      rw [List.take_length] at k3
      refine ⟨ks, _, _, _, rfl, e4, hp4, ?_, fam_step hF nd k1 k2 k3⟩
      rw [Nat.pow_succ]
      omega
  · rintro σ H2 ⟨ms, o4, o5, o6, rfl, e2, hp2, hl, hF⟩
    have hp32 : 2 ^ many ≤ 2 ^ 5 := Nat.pow_le_pow_right (by decide) (by omega)
    refine ⟨_, rfl, _, rfl, s, p, _, rfl, hs.up e2, SqL.of hp2, by rw [List.length_map]; omega, fun r H3 ys hr e3 hr3 hperm => ?_⟩
    obtain ⟨ks, rfl, hkp⟩ := perm_nats hperm
    exact q r ks H3 ((e2.free hr)) (e2.trans e3) hr3 (hF.perm hkp) (by rw [hkp.length_eq]; exact hl)
theorem ok_rowsV {f : Addr} {fd : FuncData} (F : FunD K "_law_rows" "_law_rows" (defArgs s_law_rows) (defBody s_law_rows) (defScope s_law_rows) [] [] f fd) (hm : mg "_law_rows" = some (.ref f)) (T : Top K mg) : Def P w K mg base "_law_rows" 1 ["_law_masks"] (spRowsV K) := by
  refine def_mk F hm (F.bindsN fun _ _ _ _ _ _ us hl => match us, hl with | [_], _ => rfl) sc_law_rows (fun vs H Q E h => ?_) (fun cdv A outer s H vs Q E hr h => ?_)
  · obtain ⟨a, xs, rfl, _⟩ := h
    rfl
  obtain ⟨a, ms, rfl, hS, hn, q⟩ := h
  refine ⟨_, (pss_one (ps_ret (pe_lc (own := [("_law_one", 2)]) rfl sc_law_rows.nd (pi_listK K (pv 0)) (blkOk_by (by kernel_rfl)) (fun _ _ _ _ _ => (pg_name (i := 2) sc_law_rows.nd rfl (Or.inr rfl) (.inl rfl))) (fun _ _ _ _ _ => pts_nil) (fun _ _ _ _ _ => (pe_joinK K pe_str (pe_lc (own := [("_law_other", 1)]) rfl sc_law_rows.nd (pi_listK K (pv 0)) (blkOk_by (by kernel_rfl)) (fun _ _ _ _ _ => (pg_name (i := 1) sc_law_rows.nd rfl (Or.inl rfl) (.inr rfl))) (fun _ _ _ _ _ => pts_nil) (fun _ _ _ _ _ => (pe_callTy call_str_int (by rfl) T.b_str (by decide +kernel) (pa_cons (pe_callTy call_int1 (by rfl) T.b_int (by decide +kernel) (pa_cons (pe_cmpR op_eq (pe_op op_and (pv 2) (pv 1)) (pv 2) (nomark _)) pa_nil)) pa_nil))))))))), ?_⟩
  refine ⟨_, rfl, a, rfl, ⟨_, hS⟩, fun D hD => ?_⟩
  refine lc_mapX (j := 2) (f := nV) (l := ms) (fun a => .str ⟨(ms.map fun b => sub1 a b).toArray⟩) hD hS (by omega) (fun _ => rfl) ?_ ?_
  · intro x H2 hx e2 Q' k'
    refine ⟨⟨_, rfl⟩, _, rfl, a, rfl, ⟨_, up_l e2 hS⟩, fun D2 hD2 => ?_⟩
    refine lc_mapX (j := 1) (f := nV) (l := ms) (fun b => .str ⟨#[sub1 x b]⟩) hD2 (up_l e2 hS) (by omega) (fun _ => rfl) ?_ ?_
    · intro y H3 hy e3 Q'' kk
      refine ⟨_, rfl, _, rfl, _, _, rfl, rfl, _, rfl, rfl, .inr ⟨_, rfl, _, rfl, ?_, ?_⟩⟩
      · split <;> decide
      · rw [sub_str]
        exact kk _ (Same.refl _)
    · intro H3 e3 hD3
      have em : (ms.map fun b => V.str ⟨#[sub1 x b]⟩) = (ms.map fun b => (⟨#[sub1 x b]⟩ : Str)).map V.str := by
        rw [List.map_map]
        rfl
      rw [em] at hD3
      refine ⟨_, D2, _, rfl, rfl, .inl (SqL.of hD3), ?_, ?_⟩
      · rw [sum_one, List.length_map, show ("" : Str).length = 0 from rfl]
        omega
      · rw [join_one]
        exact k' H3 e3
  · intro H2 e2 hD2
    refine q D H2 hD e2 ?_
    rw [hD2]
    unfold rowsOf
    rw [List.map_map]
    rfl
theorem ok_some_rowsV {f : Addr} {fd : FuncData} (F : FunD K "_law_some_rows" "_law_some_rows" (defArgs s_law_some_rows) (defBody s_law_some_rows) (defScope s_law_some_rows) [] [] f fd) (hm : mg "_law_some_rows" = some (.ref f)) (T : Top K mg)
    (D_law_take : Def P w K mg base "_law_take" 1 ["_law_source_here", "_law_many"] spTake) (D_law_mixed : Def P w K mg base "_law_mixed" 2 ["_law_source_here", "_law_row"] (spMixed K)) (D_law_rows : Def P w K mg base "_law_rows" 1 ["_law_masks"] (spRowsV K))
    (D_law_family : Def P w K mg base "_law_family" 3 ["_law_source_here", "_law_wide", "_law_many"] (spFamV K)) : Def P w K mg base "_law_some_rows" 4 ["_law_source_here"] (spSomeV K) := by
  refine def_mk F hm (F.bindsN fun _ _ _ _ _ _ us hl => match us, hl with | [_], _ => rfl) sc_law_some_rows (fun vs H Q E h => ?_) (fun cdv A outer s H vs Q E hr h => ?_)
  · obtain ⟨s, rfl, _⟩ := h
    rfl
  obtain ⟨s, rfl, hs, q⟩ := h
  have five : ∀ (ns : List Nat) (p : Addr), ns.length = 5 → Fam ns → H p = none → spMixed K [.ref s, .ref p] (upd H p (.lst (ns.map nV))) (fun v H1 => ∃ x, v = x ∧ spRowsV K [x] H1 Q E0) E0 := fun ns p h5 hF hp => by
    have e1 := same_new hp (.lst (ns.map nV))
    refine ⟨s, p, _, rfl, hs.up e1, SqL.of upd_same, by rw [List.length_map]; omega, fun r H3 ys hr e3 hr3 hperm => ⟨_, rfl, ?_⟩⟩
    obtain ⟨ks, rfl, hkp⟩ := perm_nats hperm
    have hl := hkp.length_eq
    exact ⟨r, ks, rfl, SqL.of hr3, by omega, fun t H4 ht e4 ht4 => q t _ H4 ((e1.trans e3).free ht) (e1.trans (e3.trans e4)) ht4 (fam_board (hF.perm hkp) (by omega)) (by rw [rowsOf_len]; omega)⟩
  refine ⟨_, (pss_cons (ps_set (i := 1) sc_law_some_rows.nd rfl (Or.inl rfl) (pe_def D_law_take hr (by first | decide | omega) (pa_cons (pv 0) (pa_cons pe_int pa_nil))))
  (pss_cons (ps_if (pt_cmpR op_eq (pv 1) pe_int (nomark _))
  (pss_one (ps_ret (pe_def D_law_rows hr (by first | decide | omega) (pa_cons (pe_def D_law_mixed hr (by first | decide | omega) (pa_cons (pv 0) (pa_cons (pe_lst (pa_cons pe_int (pa_cons pe_int (pa_cons pe_int (pa_cons pe_int (pa_cons pe_int pa_nil)))))) pa_nil))) pa_nil))))
  pss_nil)
  (pss_cons (ps_if (pt_cmpR op_eq (pv 1) pe_int (nomark _))
  (pss_one (ps_ret (pe_def D_law_rows hr (by first | decide | omega) (pa_cons (pe_def D_law_mixed hr (by first | decide | omega) (pa_cons (pv 0) (pa_cons (pe_lst (pa_cons pe_int (pa_cons pe_int (pa_cons pe_int (pa_cons pe_int (pa_cons pe_int pa_nil)))))) pa_nil))) pa_nil))))
  pss_nil)
  (pss_one (ps_ret (pe_def D_law_rows hr (by first | decide | omega) (pa_cons (pe_def D_law_family hr (by first | decide | omega) (pa_cons (pv 0) (pa_cons (pe_op op_add pe_int (pe_op op_fdiv (pv 1) pe_int)) (pa_cons (pe_def D_law_take hr (by first | decide | omega) (pa_cons (pv 0) (pa_cons pe_int pa_nil))) pa_nil)))) pa_nil))))))), ?_⟩
  refine ⟨_, rfl, s, 4, rfl, by decide, by decide, hs, fun way w0 w1 => ?_⟩
  refine ⟨_, rfl, rfl, _, rfl, ?_⟩
  refine if_int (fun h1 => ?_) (fun h1 => ?_)
  · refine ⟨_, rfl, by decide, fun p hp => ?_⟩
    obtain ⟨s', r', xs', e1, h2, h3, h4, h5⟩ := five [0, 1, 2, 4, 7] p rfl fam_a hp
    cases e1
    refine ⟨s, p, _, rfl, h2, h3, h4, fun r H3 ys hr e3 hr3 hperm => ?_⟩
    obtain ⟨x, rfl, h6⟩ := h5 r H3 ys hr e3 hr3 hperm
    exact h6
  refine ⟨_, rfl, rfl, _, rfl, ?_⟩
  refine if_int (fun h2 => ?_) (fun h2 => ?_)
  · refine ⟨_, rfl, by decide, fun p hp => ?_⟩
    obtain ⟨s', r', xs', e1, h2, h3, h4, h5⟩ := five [0, 1, 3, 4, 7] p rfl fam_b hp
    cases e1
    refine ⟨s, p, _, rfl, h2, h3, h4, fun r H3 ys hr e3 hr3 hperm => ?_⟩
    obtain ⟨x, rfl, h6⟩ := h5 r H3 ys hr e3 hr3 hperm
    exact h6
  have hfd : ∃ wd : Nat, (3 + way / 3) = (wd : Int) ∧ wd ≤ 10 := ⟨(3 + way / 3).toNat, by omega, by omega⟩
  obtain ⟨wd, ewd, hwd⟩ := hfd
  refine ⟨_, rfl, _, rfl, _, _, rfl, rfl, ⟨by decide, by decide⟩, _, _, rfl, rfl, _, rfl, s, 4, rfl, by decide, by decide, hs, fun m m0 m1 => ?_⟩
  obtain ⟨mn, rfl⟩ : ∃ mn : Nat, m = (mn : Int) := ⟨m.toNat, by omega⟩
  dsimp only
  rw [ewd]
  refine ⟨s, wd, mn, rfl, hs, hwd, by omega, fun p ms H3 hp e3 hp3 hF hl => ?_⟩
  have h8 : 2 ^ mn ≤ 2 ^ 3 := Nat.pow_le_pow_right (by decide) (by omega)
  exact ⟨p, ms, rfl, SqL.of hp3, by omega, fun t H4 ht e4 ht4 => q t _ H4 (e3.free ht) (e3.trans e4) ht4 (fam_board hF (by omega)) (by rw [rowsOf_len]; omega)⟩
end
end FF
/-! boards, the law: low, up and the tables of both -/
namespace FF
open PySem PySem.Spec PyProof.Rows L2
theorem nV_inj (a b : Nat) (h : nV a = nV b) : a = b := Int.ofNat.inj (V.int.inj h)
def spLowL (K : PySem.W.Frag) (f : List Str → Nat → Nat → Nat) : Sp := fun vs H Q _ => ∃ (a : Addr) (rs : List Str) (x y : Nat), vs = [.ref a, .int x, .int y] ∧ SqL K H a (rs.map V.str) ∧ Lat rs ∧ x < rs.length ∧ y < rs.length ∧ ∀ H', Same H H' → Q (nV (f rs x y)) H'
def spTables (K : PySem.W.Frag) : Sp := fun vs H Q _ => ∃ (a : Addr) (rs : List Str), vs = [.ref a] ∧ SqL K H a (rs.map V.str) ∧ Lat rs ∧ ∀ t lo up H', Same H H' → H' t = some (.tup [.ref lo, .ref up]) → TabAt H' lo (tabT (below rs)) → TabAt H' up (tabT (above rs)) → Q (.ref t) H'
theorem tab_eq {n : Nat} {tab : List (List Nat)} (ok : TabOk n tab) : tab = (List.range n).map fun x => (List.range n).map fun y => (tab.getD x []).getD y 0 := by
  refine List.ext_getElem (by rw [List.length_map, List.length_range, ok.len]) fun x h1 h2 => ?_
  rw [List.getElem_map, List.getElem_range]
  have hx : tab.getD x [] = tab[x] := by rw [List.getD_eq_getElem?_getD, List.getElem?_eq_getElem h1] <;> rfl
  have hl := ok.row _ (List.getElem_mem h1)
  rw [hx]
  refine List.ext_getElem (by rw [List.length_map, List.length_range, hl]) fun y h3 h4 => ?_
  rw [List.getElem_map, List.getElem_range, List.getD_eq_getElem?_getD, List.getElem?_eq_getElem h3] <;> rfl
section
variable {P : Program} {w : World} {K : PySem.W.Frag} {mg : Str → Option Value} {base : Heap}
theorem ok_lowL {f : Addr} {fd : FuncData} (F : FunD K "_law_low" "_law_low" (defArgs s_law_low) (defBody s_law_low) (defScope s_law_low) [] [] f fd) (hm : mg "_law_low" = some (.ref f)) (T : Top K mg) : Def P w K mg base "_law_low" 1 ["_law_rows_here", "_law_x", "_law_y"] (spLowL K lowN) := by
  refine def_mk F hm (F.bindsN fun _ _ _ _ _ _ us hl => match us, hl with | [_, _, _], _ => rfl) sc_law_low (fun vs H Q E h => ?_) (fun cdv A outer s H vs Q E hr h => ?_)
  · obtain ⟨a, rs, x, y, rfl, _⟩ := h
    rfl
  obtain ⟨a, rs, x, y, rfl, hS, L, hx, hy, q⟩ := h
  have sq := L.sq
  have hn := sq.le
  refine ⟨_, (pss_cons (ps_set (i := 3) sc_law_low.nd rfl (Or.inr rfl) (pe_lc (own := [("_law_z", 4)]) rfl sc_law_low.nd (pi_range1 (by rfl) T.b_range (pa_cons (pe_callB (call_lenK K) (by rfl) T.b_len (by decide +kernel) (pa_cons (pv 0) pa_nil)) pa_nil)) (blkOk_by (by kernel_rfl)) (fun _ _ _ _ _ => (pg_name (i := 4) sc_law_low.nd rfl (Or.inl rfl) (.inr rfl))) (fun _ _ _ _ _ => (pts_one (PW.pt (pw_and (pt_cmpR op_eq (pe_ix ix_str (pe_ix (ix_listK K) (pv 0) (pv 4) (fun _ _ => rfl)) (pv 1) (fun _ _ => rfl)) pe_str (nomark _)) (pw_and1 (pt_cmpR op_eq (pe_ix ix_str (pe_ix (ix_listK K) (pv 0) (pv 4) (fun _ _ => rfl)) (pv 2) (fun _ _ => rfl)) pe_str (nomark _))))))) (fun _ _ _ _ _ => (pv 4))))
  (pss_one (ps_ret (pe_ix (ix_listK K) (pe_lc (own := [("_law_z", 4)]) rfl sc_law_low.nd (pi_listK K (pv 3)) (blkOk_by (by kernel_rfl)) (fun _ _ _ _ _ => (pg_name (i := 4) sc_law_low.nd rfl (Or.inr rfl) (.inl rfl))) (fun _ _ _ _ _ => (pts_one (pt_val (pe_callB (cr_allK K rfl) (by rfl) T.b_all (by decide +kernel) (pa_cons (pe_lc (own := [("_law_w", 5)]) rfl sc_law_low.nd (pi_listK K (pv 3)) (blkOk_by (by kernel_rfl)) (fun _ _ _ _ _ => (pg_name (i := 5) sc_law_low.nd rfl (Or.inl rfl) (.inr rfl))) (fun _ _ _ _ _ => pts_nil) (fun _ _ _ _ _ => (pe_cmpR op_eq (pe_ix ix_str (pe_ix (ix_listK K) (pv 0) (pv 5) (fun _ _ => rfl)) (pv 4) (fun _ _ => rfl)) pe_str (nomark _)))) pa_nil))))) (fun _ _ _ _ _ => (pv 4))) pe_int (fun _ _ => rfl))))), ?_⟩
  refine ⟨_, rfl, _, rs.length, rfl, .inl ⟨_, hS, (List.length_map _).symm⟩, (rs.length : Nat), rfl, by omega, by omega, fun D hD => ?_⟩
  rw [Int.toNat_natCast]
  refine lc_filtR (j := 4) (fun z => bit rs z x && bit rs z y) nV hD (le_line (by omega)) (fun _ => rfl) ?_ ?_ ?_
  · intro z H2 hz e2 Qb k
    have k := k H2 (Same.refl _)
    refine ⟨_, rfl, _, rfl, a, _, _, _, rfl, rfl, up_l e2 hS, rowA hz (Int.zero_add _), _, rfl, _, _, _, rfl, rfl, lineA sq hz, signA sq hz hx rfl, rfl, _, rfl, ?_⟩
    refine if_bb (cell1 sq hz hx) (fun b1 => ?_) (fun b1 => ?_)
    · refine ⟨_, rfl, _, rfl, a, _, _, _, rfl, rfl, up_l e2 hS, rowA hz (Int.zero_add _), _, rfl, _, _, _, rfl, rfl, lineA sq hz, signA sq hz hy rfl, rfl, _, rfl, ?_⟩
      rw [cell1 sq hz hy]
      rw [b1, Bool.true_and] at k
      exact k
    · rw [b1, Bool.false_and] at k
      exact k
  · intro z H2 hz e2 Q' k
    have k := k H2 (Same.refl _)
    refine ⟨_, rfl, ?_⟩
    rw [Int.zero_add]
    exact k
  intro H2 e2 hD2
  change H2 D = some (.lst ((someL rs.length (bit rs) x y).map nV)) at hD2
  have sml : (someL rs.length (bit rs) x y).length ≤ 20000 := Nat.le_trans (List.length_filter_le _ _) (by rw [List.length_range]; omega)
  have smem : ∀ {z}, z ∈ someL rs.length (bit rs) x y → z < rs.length := fun h => List.mem_range.mp (List.mem_filter.mp h).1
  refine ⟨_, rfl, D, rfl, ⟨_, SqL.of hD2⟩, fun D2 hD2n => ?_⟩
  refine lc_filtX (j := 4) (f := nV) (fun z => (someL rs.length (bit rs) x y).all fun w => bit rs w z) nV_inj hD2n (SqL.of hD2) sml (fun _ => rfl) ?_ (fun v H2 Q' k => ⟨_, rfl, k⟩) ?_
  · intro z H3 hzm e3 Qb k
    have hz := smem hzm
    have hD3 := e3 _ _ hD2
    refine ⟨_, rfl, D, rfl, ⟨_, SqL.of hD3⟩, fun D3 hD3n => ?_⟩
    refine lc_mapX (j := 5) (f := nV) (fun w => .bl (bit rs w z)) hD3n (SqL.of hD3) sml (fun _ => rfl) ?_ ?_
    · intro w H4 hwm e4 Q' k'
      have hw := smem hwm
      refine ⟨_, rfl, _, rfl, a, _, _, _, rfl, rfl, up_l (e2.trans (e3.trans e4)) hS, rowA hw rfl, _, rfl, _, _, _, rfl, rfl, lineA sq hw, signA sq hw hz rfl, rfl, ?_⟩
      rw [cell1 sq hw hz]
      exact k' _ (Same.refl _)
    · intro H4 e4 hD4
      refine ⟨D3, (someL rs.length (bit rs) x y).map fun w => bit rs w z, rfl, SqL.of ?_, _, rfl, ?_⟩
      · rw [hD4, List.map_map] <;> rfl
      · rw [List.all_map]
        exact k H4 e4
  intro H3 e3 hD3
  change H3 D2 = some (.lst ((bestL rs.length (bit rs) x y).map nV)) at hD3
  rw [L.best_low hx hy] at hD3
  exact ⟨D2, _, 0, _, rfl, rfl, SqL.of hD3, at0, q _ (e2.trans e3)⟩
theorem ok_upL {f : Addr} {fd : FuncData} (F : FunD K "_law_up" "_law_up" (defArgs s_law_up) (defBody s_law_up) (defScope s_law_up) [] [] f fd) (hm : mg "_law_up" = some (.ref f)) (T : Top K mg) : Def P w K mg base "_law_up" 1 ["_law_rows_here", "_law_x", "_law_y"] (spLowL K upN) := by
  refine def_mk F hm (F.bindsN fun _ _ _ _ _ _ us hl => match us, hl with | [_, _, _], _ => rfl) sc_law_up (fun vs H Q E h => ?_) (fun cdv A outer s H vs Q E hr h => ?_)
  · obtain ⟨a, rs, x, y, rfl, _⟩ := h
    rfl
  obtain ⟨a, rs, x, y, rfl, hS, L, hx, hy, q⟩ := h
  have sq := L.sq
  have hn := sq.le
  refine ⟨_, (pss_cons (ps_set (i := 3) sc_law_up.nd rfl (Or.inr rfl) (pe_lc (own := [("_law_z", 4)]) rfl sc_law_up.nd (pi_range1 (by rfl) T.b_range (pa_cons (pe_callB (call_lenK K) (by rfl) T.b_len (by decide +kernel) (pa_cons (pv 0) pa_nil)) pa_nil)) (blkOk_by (by kernel_rfl)) (fun _ _ _ _ _ => (pg_name (i := 4) sc_law_up.nd rfl (Or.inl rfl) (.inr rfl))) (fun _ _ _ _ _ => (pts_one (PW.pt (pw_and (pt_cmpR op_eq (pe_ix ix_str (pe_ix (ix_listK K) (pv 0) (pv 1) (fun _ _ => rfl)) (pv 4) (fun _ _ => rfl)) pe_str (nomark _)) (pw_and1 (pt_cmpR op_eq (pe_ix ix_str (pe_ix (ix_listK K) (pv 0) (pv 2) (fun _ _ => rfl)) (pv 4) (fun _ _ => rfl)) pe_str (nomark _))))))) (fun _ _ _ _ _ => (pv 4))))
  (pss_one (ps_ret (pe_ix (ix_listK K) (pe_lc (own := [("_law_z", 4)]) rfl sc_law_up.nd (pi_listK K (pv 3)) (blkOk_by (by kernel_rfl)) (fun _ _ _ _ _ => (pg_name (i := 4) sc_law_up.nd rfl (Or.inr rfl) (.inl rfl))) (fun _ _ _ _ _ => (pts_one (pt_val (pe_callB (cr_allK K rfl) (by rfl) T.b_all (by decide +kernel) (pa_cons (pe_lc (own := [("_law_w", 5)]) rfl sc_law_up.nd (pi_listK K (pv 3)) (blkOk_by (by kernel_rfl)) (fun _ _ _ _ _ => (pg_name (i := 5) sc_law_up.nd rfl (Or.inl rfl) (.inr rfl))) (fun _ _ _ _ _ => pts_nil) (fun _ _ _ _ _ => (pe_cmpR op_eq (pe_ix ix_str (pe_ix (ix_listK K) (pv 0) (pv 4) (fun _ _ => rfl)) (pv 5) (fun _ _ => rfl)) pe_str (nomark _)))) pa_nil))))) (fun _ _ _ _ _ => (pv 4))) pe_int (fun _ _ => rfl))))), ?_⟩
  refine ⟨_, rfl, _, rs.length, rfl, .inl ⟨_, hS, (List.length_map _).symm⟩, (rs.length : Nat), rfl, by omega, by omega, fun D hD => ?_⟩
  rw [Int.toNat_natCast]
  refine lc_filtR (j := 4) (fun z => flip2 (bit rs) z x && flip2 (bit rs) z y) nV hD (le_line (by omega)) (fun _ => rfl) ?_ ?_ ?_
  · intro z H2 hz e2 Qb k
    have k := k H2 (Same.refl _)
    refine ⟨_, rfl, _, rfl, a, _, _, _, rfl, rfl, up_l e2 hS, rowA hx rfl, _, rfl, _, _, _, rfl, rfl, lineA sq hx, signA sq hx hz (Int.zero_add _), rfl, _, rfl, ?_⟩
    refine if_bb (cell1 sq hx hz) (fun b1 => ?_) (fun b1 => ?_)
    · refine ⟨_, rfl, _, rfl, a, _, _, _, rfl, rfl, up_l e2 hS, rowA hy rfl, _, rfl, _, _, _, rfl, rfl, lineA sq hy, signA sq hy hz (Int.zero_add _), rfl, _, rfl, ?_⟩
      rw [cell1 sq hy hz]
      rw [show flip2 (bit rs) z x = true from b1, Bool.true_and] at k
      exact k
    · rw [show flip2 (bit rs) z x = false from b1, Bool.false_and] at k
      exact k
  · intro z H2 hz e2 Q' k
    have k := k H2 (Same.refl _)
    refine ⟨_, rfl, ?_⟩
    rw [Int.zero_add]
    exact k
  intro H2 e2 hD2
  change H2 D = some (.lst ((someL rs.length (flip2 (bit rs)) x y).map nV)) at hD2
  have sml : (someL rs.length (flip2 (bit rs)) x y).length ≤ 20000 := Nat.le_trans (List.length_filter_le _ _) (by rw [List.length_range]; omega)
  have smem : ∀ {z}, z ∈ someL rs.length (flip2 (bit rs)) x y → z < rs.length := fun h => List.mem_range.mp (List.mem_filter.mp h).1
  refine ⟨_, rfl, D, rfl, ⟨_, SqL.of hD2⟩, fun D2 hD2n => ?_⟩
  refine lc_filtX (j := 4) (f := nV) (fun z => (someL rs.length (flip2 (bit rs)) x y).all fun w => flip2 (bit rs) w z) nV_inj hD2n (SqL.of hD2) sml (fun _ => rfl) ?_ (fun v H2 Q' k => ⟨_, rfl, k⟩) ?_
  · intro z H3 hzm e3 Qb k
    have hz := smem hzm
    have hD3 := e3 _ _ hD2
    refine ⟨_, rfl, D, rfl, ⟨_, SqL.of hD3⟩, fun D3 hD3n => ?_⟩
    refine lc_mapX (j := 5) (f := nV) (fun w => .bl (flip2 (bit rs) w z)) hD3n (SqL.of hD3) sml (fun _ => rfl) ?_ ?_
    · intro w H4 hwm e4 Q' k'
      have hw := smem hwm
      refine ⟨_, rfl, _, rfl, a, _, _, _, rfl, rfl, up_l (e2.trans (e3.trans e4)) hS, rowA hz rfl, _, rfl, _, _, _, rfl, rfl, lineA sq hz, signA sq hz hw rfl, rfl, ?_⟩
      rw [cell1 sq hz hw]
      exact k' _ (Same.refl _)
    · intro H4 e4 hD4
      refine ⟨D3, (someL rs.length (flip2 (bit rs)) x y).map fun w => flip2 (bit rs) w z, rfl, SqL.of ?_, _, rfl, ?_⟩
      · rw [hD4, List.map_map] <;> rfl
      · rw [List.all_map]
        exact k H4 e4
  intro H3 e3 hD3
  change H3 D2 = some (.lst ((bestL rs.length (flip2 (bit rs)) x y).map nV)) at hD3
  rw [L.best_up hx hy] at hD3
  exact ⟨D2, _, 0, _, rfl, rfl, SqL.of hD3, at0, q _ (e2.trans e3)⟩
/-- a table made row by row -/
theorem tab_made {H : Hp} {D : Addr} {ys : List V} {n : Nat} {tab : List (List Nat)} (ok : TabOk n tab) (hD : H D = some (.lst ys)) (hl : ys.length = n) (h : ∀ (i : Nat) (y : V), ys[i]? = some y → ∃ t, y = .ref t ∧ t ≠ D ∧ H t = some (.lst (((List.range n).map fun z => (tab.getD i []).getD z 0).map nV))) : TabAt H D tab := by
  have : ∃ ts : List Addr, ys = ts.map V.ref := by
    have g : ∀ y ∈ ys, ∃ t, y = V.ref t := fun y hy => by
      obtain ⟨i, hi⟩ := List.mem_iff_getElem?.mp hy
      obtain ⟨t, e, _⟩ := h i y hi
      exact ⟨t, e⟩
    clear h hD hl
    induction ys with
    | nil => exact ⟨[], rfl⟩
    | cons y ys ih =>
      obtain ⟨t, rfl⟩ := g y List.mem_cons_self
      obtain ⟨ts, rfl⟩ := ih fun z hz => g z (List.mem_cons_of_mem _ hz)
      exact ⟨t :: ts, rfl⟩
  obtain ⟨ts, rfl⟩ := this
  rw [List.length_map] at hl
  refine ⟨ts, hD, by rw [hl, ok.len], fun i t r h1 h2 => ?_⟩
  obtain ⟨t', e, _, h3⟩ := h i (.ref t) (by rw [List.getElem?_map, h1] <;> rfl)
  cases e
  rw [h3]
  have hi := (List.getElem?_eq_some_iff.mp h2).1
  rw [tab_eq ok, List.getElem?_map, List.getElem?_range (by rw [← ok.len]; exact hi)] at h2
  cases h2
  rfl
theorem ok_tables {f : Addr} {fd : FuncData} (F : FunD K "_law_tables" "_law_tables" (defArgs s_law_tables) (defBody s_law_tables) (defScope s_law_tables) [] [] f fd) (hm : mg "_law_tables" = some (.ref f)) (T : Top K mg)
    (D_law_low : Def P w K mg base "_law_low" 1 ["_law_rows_here", "_law_x", "_law_y"] (spLowL K lowN)) (D_law_up : Def P w K mg base "_law_up" 1 ["_law_rows_here", "_law_x", "_law_y"] (spLowL K upN)) : Def P w K mg base "_law_tables" 2 ["_law_rows_here"] (spTables K) := by
  refine def_mk F hm (F.bindsN fun _ _ _ _ _ _ us hl => match us, hl with | [_], _ => rfl) sc_law_tables (fun vs H Q E h => ?_) (fun cdv A outer s H vs Q E hr h => ?_)
  · obtain ⟨a, rs, rfl, _⟩ := h
    rfl
  obtain ⟨a, rs, rfl, hS, L, q⟩ := h
  have hn := L.sq.le
  refine ⟨_, (pss_cons (ps_set (i := 1) sc_law_tables.nd rfl (Or.inr rfl) (pe_listRg rfl (by rfl) T.b_list (prg_1 (by rfl) T.b_range (pe_callB (call_lenK K) (by rfl) T.b_len (by decide +kernel) (pa_cons (pv 0) pa_nil)))))
  (pss_cons (ps_setLc (i := 2) (own := [("_law_x", 4)]) rfl sc_law_tables.nd rfl rfl (sw_true rfl rfl rfl (by kernel_rfl)) (pi_listK K (pv 1)) (blkOk_by (by kernel_rfl)) (fun _ _ _ _ _ => (pg_name (i := 4) sc_law_tables.nd rfl (Or.inr rfl) (.inl rfl))) (fun _ _ _ _ _ => pts_nil) (fun _ _ _ _ _ => (pe_lc (own := [("_law_y", 3)]) rfl sc_law_tables.nd (pi_listK K (pv 1)) (blkOk_by (by kernel_rfl)) (fun _ _ _ _ _ => (pg_name (i := 3) sc_law_tables.nd rfl (Or.inl rfl) (.inr rfl))) (fun _ _ _ _ _ => pts_nil) (fun _ _ _ _ _ => (pe_def D_law_low hr (by first | decide | omega) (pa_cons (pv 0) (pa_cons (pv 4) (pa_cons (pv 3) pa_nil))))))))
  (pss_one (ps_ret (pe_tup (pa_cons (pv 2) (pa_cons (pe_lc (own := [("_law_x", 4)]) rfl sc_law_tables.nd (pi_listK K (pv 1)) (blkOk_by (by kernel_rfl)) (fun _ _ _ _ _ => (pg_name (i := 4) sc_law_tables.nd rfl (Or.inr rfl) (.inl rfl))) (fun _ _ _ _ _ => pts_nil) (fun _ _ _ _ _ => (pe_lc (own := [("_law_y", 3)]) rfl sc_law_tables.nd (pi_listK K (pv 1)) (blkOk_by (by kernel_rfl)) (fun _ _ _ _ _ => (pg_name (i := 3) sc_law_tables.nd rfl (Or.inl rfl) (.inr rfl))) (fun _ _ _ _ _ => pts_nil) (fun _ _ _ _ _ => (pe_def D_law_up hr (by first | decide | omega) (pa_cons (pv 0) (pa_cons (pv 4) (pa_cons (pv 3) pa_nil)))))))) pa_nil))))))), ?_⟩
  refine ⟨_, rfl, _, rs.length, rfl, .inl ⟨_, hS, (List.length_map _).symm⟩, _, rfl, RgOk.of_le (by omega) (by omega) (by omega) (by omega), fun ev hev => ?_⟩
  rw [rgV_nat]
  have e1 := same_new hev (.lst ((List.range rs.length).map nV))
  have hE1 : SqL K (upd H ev (.lst ((List.range rs.length).map nV))) ev ((List.range rs.length).map nV) := SqL.of upd_same
  generalize upd H ev (.lst ((List.range rs.length).map nV)) = H1 at e1 hE1 ⊢
  have rl : ((List.range rs.length).map nV).length = rs.length := by rw [List.length_map, List.length_range]
  have zl : ((List.range rs.length).map nV).length ≤ sizeLine := le_line (by omega)
  have row : ∀ {H2 : Hp} {i : Nat} {x : V} {D : Addr} {f : List Str → Nat → Nat → Nat}, ((List.range rs.length).map nV)[i]? = some x → i < rs.length ∧ x = nV i := fun {H2 i x D f} h => by
    obtain ⟨z, hz, rfl⟩ := map_get h
    have hi := (List.getElem?_eq_some_iff.mp hz).1
    rw [List.length_range] at hi
    rw [List.getElem?_range hi] at hz
    cases hz
    exact ⟨hi, rfl⟩
  refine ⟨_, rfl, ev, rfl, ⟨_, hE1⟩, fun D hD => ?_⟩
  refine lc_mapLB (j := 4) (R := fun i y H' => ∃ t, y = .ref t ∧ t ≠ D ∧ H' t = some (.lst (((List.range rs.length).map fun z => lowN rs i z).map nV))) (fun i y H' H'' e ⟨t, e1, e2, e3⟩ => ⟨t, e1, e2, e _ _ e2 e3⟩) hD hE1 zl (fun _ => rfl) ?_ ?_
  · intro i x H2 hx e2 hDn Q' k'
    obtain ⟨hi, rfl⟩ := row (H2 := H2) (D := D) (f := lowN) hx
    refine ⟨_, rfl, ev, rfl, ⟨_, up_l e2 hE1⟩, fun R hR => ?_⟩
    refine lc_mapX (j := 3) (f := nV) (fun y => nV (lowN rs i y)) hR (up_l e2 hE1) (by rw [List.length_range]; omega) (fun _ => rfl) ?_ ?_
    · intro y H3 hy e3 Q'' kk
      exact ⟨_, rfl, _, rfl, _, rfl, a, rs, i, y, rfl, up_l (e1.trans (e2.trans e3)) hS, L, hi, List.mem_range.mp hy, fun H4 e4 => kk _ e4⟩
    · intro H3 e3 hR3
      refine k' _ _ e3 ⟨R, rfl, fun z => ?_, by rw [hR3, List.map_map]; rfl⟩
      obtain ⟨o, ho⟩ := hDn
      rw [z, ho] at hR
      cases hR
  intro H2 ys e2 hD2 hyl hy
  have T1 : TabAt H2 D (tabT (below rs)) := tab_made L.lo.ok hD2 (by omega) hy
  clear hy hyl hD2
  have hE2 := up_l e2 hE1
  refine ⟨_, rfl, _, rfl, ev, rfl, ⟨_, hE2⟩, fun D2 hD2 => ?_⟩
  refine lc_mapLB (j := 4) (R := fun i y H' => ∃ t, y = .ref t ∧ t ≠ D2 ∧ H' t = some (.lst (((List.range rs.length).map fun z => upN rs i z).map nV))) (fun i y H' H'' e ⟨t, e1, e2, e3⟩ => ⟨t, e1, e2, e _ _ e2 e3⟩) hD2 hE2 zl (fun _ => rfl) ?_ ?_
  · intro i x H3 hx e3 hDn Q' k'
    obtain ⟨hi, rfl⟩ := row (H2 := H2) (D := D) (f := lowN) hx
    refine ⟨_, rfl, ev, rfl, ⟨_, up_l e3 hE2⟩, fun R hR => ?_⟩
    refine lc_mapX (j := 3) (f := nV) (fun y => nV (upN rs i y)) hR (up_l e3 hE2) (by rw [List.length_range]; omega) (fun _ => rfl) ?_ ?_
    · intro y H4 hy e4 Q'' kk
      exact ⟨_, rfl, _, rfl, _, rfl, a, rs, i, y, rfl, up_l (e1.trans (e2.trans (e3.trans e4))) hS, L, hi, List.mem_range.mp hy, fun H5 e5 => kk _ e5⟩
    · intro H4 e4 hR4
      refine k' _ _ e4 ⟨R, rfl, fun z => ?_, by rw [hR4, List.map_map]; rfl⟩
      obtain ⟨o, ho⟩ := hDn
      rw [z, ho] at hR
      cases hR
  intro H3 ys e3 hD3 hyl hy
  have T2 : TabAt H3 D2 (tabT (above rs)) := tab_made L.up.ok hD3 (by omega) hy
  refine ⟨(by show 2 ≤ sizeLine; decide), fun t ht => ?_⟩
  have e4 := same_new ht (.tup [.ref D, .ref D2])
  exact q t D D2 _ (e1.trans (e2.trans (e3.trans e4))) upd_same (T1.up (e3.trans e4)) (T2.up e4)
end
end FF
/-! boards: C(..) in a law; low, up called; tables read; rows and their ends -/
namespace FF
open PySem PySem.Spec PyProof.Rows L2
theorem Src.upN {H H' : Hp} {s : Addr} (e : LamX.ExtN H H') (h : Src H s) : Src H' s := by
  obtain ⟨c, ns, h1, h2⟩ := h
  exact ⟨c, ns, e _ _ h1 (fun ps z => by unfold hid at z; cases z), e _ _ h2 (fun ps z => by cases z)⟩
theorem tabs_l {T : List (Addr × Str)} {a : Addr} {H : Hp} {o : HO} {xs : List V} (t : LamX.Tabs T H) (ha : H a = some (.lst xs)) : LamX.Tabs T (upd H a o) := fun p hp => by
  obtain ⟨ps, h1, h2, h3⟩ := t p hp
  refine ⟨ps, by rw [upd_ne (fun z => by rw [z, ha] at h1; cases h1)]; exact h1, h2, fun pos cv hc => ?_⟩
  obtain ⟨c, e1, e2⟩ := h3 pos cv hc
  exact ⟨c, e1, by rw [upd_ne (fun z => by rw [z, ha] at e2; unfold LamX.CodeO at e2; cases e2)]; exact e2⟩
theorem mk_same {H H' : Hp} {b dx : Addr} {o o' : HO} (hb : H b = none) (hdx : H dx = none) (e : SameB b (upd (upd H dx o) b o') H') : Same H H' := fun z u hz => by
  have h1 : z ≠ b := ne_of_none hz hb
  have h2 : z ≠ dx := ne_of_none hz hdx
  exact e z u h1 (by rw [upd_ne h1, upd_ne h2]; exact hz)
theorem extN_at {H H1 : Hp} {D : Addr} {o : HO} (hD : H1 D = none) (e : LamX.ExtN H1 H) : LamX.ExtN H1 (upd H D o) := fun b u hb n => by
  rw [upd_ne (ne_of_none hb hD)]
  exact e _ _ hb n
theorem tp_n {K : PySem.W.Frag} {H H' : Hp} {v : V} {d : PyData} (h : Tp K H v d) (e : LamX.ExtN H H') : Tp K H' v d := h.up fun b xs hb => e _ _ hb fun ps z => by cases z
theorem strs_dp {K : PySem.W.Frag} {H : Hp} : ∀ (rs : List Str), DpAll K H (rs.map V.str) (rs.map .str)
  | [] => .nil
  | _ :: rs => .cons (.str _) (strs_dp rs)
theorem digs_ok {rs : List Str} (sq : Sq rs) : nice (.list (rs.map .str)) = true := by
  simp only [nice, Bool.and_eq_true, decide_eq_true_eq]
  refine ⟨by rw [List.length_map]; have := sq.le; omega, niceAll_of fun d hd => ?_⟩
  obtain ⟨r, hr, rfl⟩ := List.mem_map.mp hd
  simp only [nice, Bool.and_eq_true, decide_eq_true_eq]
  refine ⟨by rw [sq.len r hr]; have := sq.le; omega, ?_⟩
  show (r.cps.all fun x => decide (x < 0x110000)) = true
  rw [Array.all_eq_true_iff_forall_mem]
  intro x hx
  rcases sq.dig r hr x (Array.mem_toList_iff.mpr hx) with rfl | rfl <;> rfl
theorem dig_shaped {rs : List Str} (sq : Sq rs) : SeqAt.shaped (.list (rs.map .str)) = true := by
  refine Nice.shaped (n := 2) ⟨digs_ok sq, ?_⟩
  have := depthAll_of (ds := rs.map PyData.str) (n := 0) fun d hd => by
    obtain ⟨r, _, rfl⟩ := List.mem_map.mp hd
    rw [PyData.depth]
    exact Nat.le_refl _
  rw [PyData.depth]
  omega
/-- a board that is refused; one that is made -/
theorem refuse {K : PySem.W.Frag} {H1 : Hp} {l : Addr} {rs : List Str} {Q' : Addr → Hp → Prop} {E' : XK} (bad : progBoard rs = false) (h1 : rs.length ≤ 1000) (h2 : ∀ r ∈ rs, r.length ≤ 10000) (hl : SqL K H1 l (rs.map V.str)) (k : ∀ dd H2, Same H1 H2 → Thr ("InvalidBoard" : Str) dd H2 → E' (.ref (He.ga K "InvalidBoard")) dd H2) :
    ∀ x dx, H1 x = none → H1 dx = none → dx ≠ x → spBoard K (.ref x :: ([.ref l] ++ [])) (upd (upd H1 dx (.own x)) x (.ins (He.ga K "Board") dx [])) (fun v H2 => v = .non ∧ Q' x H2) E' := fun x dx hx hdx hne =>
  ⟨x, l, dx, rs, rfl, upd_same, up_l ((same_new hdx (.own x)).trans (same_new (by rw [upd_ne hne.symm]; exact hx) _)) hl, h1, h2, fun g => (by rw [bad] at g; cases g), fun _ dd H2 e ht => k dd H2 (mk_same hx hdx e) ht⟩
theorem accept {K : PySem.W.Frag} {H1 : Hp} {l : Addr} {rs : List Str} {Q' : Addr → Hp → Prop} {E' : XK} (good : progBoard rs = true) (hl : SqL K H1 l (rs.map V.str)) (k : ∀ b dx li H2, H1 b = none → H1 li = none → Same H1 H2 → BoardAt K H2 b dx li rs → Q' b H2) :
    ∀ x dx, H1 x = none → H1 dx = none → dx ≠ x → spBoard K (.ref x :: ([.ref l] ++ [])) (upd (upd H1 dx (.own x)) x (.ins (He.ga K "Board") dx [])) (fun v H2 => v = .non ∧ Q' x H2) E' := fun x dx hx hdx hne =>
  have sq := (lat_of good).sq
  ⟨x, l, dx, rs, rfl, upd_same, up_l ((same_new hdx (.own x)).trans (same_new (by rw [upd_ne hne.symm]; exact hx) _)) hl, (by have := sq.le; omega), (fun r hr => by rw [sq.len r hr]; have := sq.le; omega), fun _ li H2 hli e hB => ⟨rfl, k x dx li H2 hx (by
    have h3 : li ≠ x := fun z => by rw [z, upd_same] at hli; cases hli
    rw [upd_ne h3] at hli
    by_cases h4 : li = dx
    · rw [h4]; exact hdx
    · rw [upd_ne h4] at hli; exact hli) (mk_same hx hdx e) hB⟩, fun g => (by rw [good] at g; cases g)⟩
/-! ### places -/
theorem places_ok {K : PySem.W.Frag} {n : Nat} {xs : List Nat} {H : Hp} {E : XK} {good : Prop} (h : ∀ x ∈ xs, x < n) (g : good) : Places K n (xs.map fun x : Nat => (x : Int)) H E good :=
  ⟨fun _ => g, fun pre v post e _ hv => by
    have hm : v ∈ xs.map fun x : Nat => (x : Int) := by rw [e]; exact List.mem_append_right _ List.mem_cons_self
    obtain ⟨x, hx, rfl⟩ := List.mem_map.mp hm
    have := h x hx
    exact absurd ⟨by omega, by omega⟩ hv⟩
theorem first_bad {p : Int → Prop} : ∀ {pre pre' post post' : List Int} {v v' : Int}, pre ++ v :: post = pre' ++ v' :: post' → (∀ i ∈ pre, p i) → ¬ p v → (∀ i ∈ pre', p i) → ¬ p v' → v' = v
  | [], [], _, _, _, _, e, _, _, _, _ => (List.cons.inj e).1.symm
  | [], a :: pre', _, _, v, _, e, _, hv, h', _ => absurd ((List.cons.inj e).1 ▸ h' a List.mem_cons_self) hv
  | a :: pre, [], _, _, _, v', e, h, _, _, hv' => absurd ((List.cons.inj e).1 ▸ h a List.mem_cons_self) hv'
  | _ :: _, _ :: _, _, _, _, _, e, h, hv, h', hv' => first_bad (List.cons.inj e).2 (fun i hi => h i (List.mem_cons_of_mem _ hi)) hv (fun i hi => h' i (List.mem_cons_of_mem _ hi)) hv'
theorem places_bad {K : PySem.W.Frag} {n : Nat} {is : List Int} {H : Hp} {E : XK} {good : Prop} {pre post : List Int} {v : Int} (e : is = pre ++ v :: post) (hp : ∀ i ∈ pre, inR n i) (hv : ¬ inR n v) (k : placeE K (.int v) H E) : Places K n is H E good :=
  ⟨fun h => absurd (h v (by rw [e]; exact List.mem_append_right _ List.mem_cons_self)) hv, fun pre' v' post' e' hp' hv' => by
    have := first_bad (e.symm.trans e') hp hv hp' hv'
    rw [this]
    exact k⟩
theorem star_ok {K : PySem.W.Frag} {f : List Str → List Nat → Nat} {H : Hp} {b dx li : Addr} {rs : List Str} {xs : List Nat} {Q : VK} {E : XK} (hB : BoardAt K H b dx li rs) (hl : xs.length ≤ 9000) (h : ∀ x ∈ xs, x < rs.length) (k : ∀ H2, Same H H2 → Q (nV (f rs xs)) H2) : spStar K f (.ref b :: xs.map nV) H Q E := by
  refine ⟨b, dx, li, rs, xs.map fun x : Nat => (x : Int), by rw [List.map_map]; rfl, hB, by rw [List.length_map]; exact hl, fun H1 e1 => places_ok h fun H2 e2 => ?_⟩
  rw [natsOf_nat]
  exact k H2 (e1.trans e2)
theorem star_bad {K : PySem.W.Frag} {f : List Str → List Nat → Nat} {H : Hp} {b dx li : Addr} {rs : List Str} {is pre post : List Int} {v : Int} {Q : VK} {E : XK} (hB : BoardAt K H b dx li rs) (hl : is.length ≤ 9000) (e : is = pre ++ v :: post) (hp : ∀ i ∈ pre, inR rs.length i) (hv : ¬ inR rs.length v)
    (k : ∀ dd H2, Same H H2 → H2 dd = some (.xd [("place", .int v), ("code", .str "InvalidPlace")]) → E (.ref (He.ga K "InvalidPlace")) (some dd) H2) : spStar K f (.ref b :: is.map V.int) H Q E :=
  ⟨b, dx, li, rs, is, rfl, hB, hl, fun _ e1 => places_bad e hp hv fun dd H2 e2 hd => k dd H2 (e1.trans e2) hd⟩
theorem below_ok {K : PySem.W.Frag} {H : Hp} {b dx li : Addr} {rs : List Str} {x y : Nat} {Q : VK} {E : XK} (hL : LinesAt K H b dx li rs) (sq : Sq rs) (hx : x < rs.length) (hy : y < rs.length) (k : ∀ H2, Same H H2 → Q (.bl (bit rs x y)) H2) : spBelow K [.ref b, nV x, nV y] H Q E :=
  ⟨b, dx, li, rs, x, y, rfl, hL, sq, fun H1 e1 => places_ok (xs := [x, y]) (fun z hz => by
    simp only [List.mem_cons, List.not_mem_nil, or_false] at hz
    rcases hz with rfl | rfl
    · exact hx
    · exact hy) (by rw [Int.toNat_natCast, Int.toNat_natCast]; exact k H1 e1)⟩
theorem below_bad {K : PySem.W.Frag} {H : Hp} {b dx li : Addr} {rs : List Str} {i j : Int} {pre post : List Int} {v : Int} {Q : VK} {E : XK} (hL : LinesAt K H b dx li rs) (sq : Sq rs) (e : [i, j] = pre ++ v :: post) (hp : ∀ i ∈ pre, inR rs.length i) (hv : ¬ inR rs.length v)
    (k : ∀ dd H2, Same H H2 → H2 dd = some (.xd [("place", .int v), ("code", .str "InvalidPlace")]) → E (.ref (He.ga K "InvalidPlace")) (some dd) H2) : spBelow K [.ref b, .int i, .int j] H Q E :=
  ⟨b, dx, li, rs, i, j, rfl, hL, sq, fun _ e1 => places_bad e hp hv fun dd H2 e2 hd => k dd H2 (e1.trans e2) hd⟩
/-! ### tables read -/
theorem ix_row {K : PySem.W.Frag} {H : Hp} {a : Addr} {tab : List (List Nat)} {n x : Nat} {Q : VK} (T : TabAt H a tab) (ok : TabOk n tab) (hx : x < n) (q : ∀ t, H t = some (.lst ((tab.getD x []).map nV)) → Q (.ref t) H) : rIxL K (.ref a) (nV x) H Q := by
  obtain ⟨ts, h1, h2, h3⟩ := T
  have hxt : x < ts.length := by rw [h2, ok.len]; exact hx
  have hxb : x < tab.length := by rw [ok.len]; exact hx
  refine ⟨a, _, _, .ref ts[x], rfl, rfl, SqL.of h1, atI_nat (by rw [List.getElem?_map, List.getElem?_eq_getElem hxt] <;> rfl), q _ (h3 x _ _ (List.getElem?_eq_getElem hxt) ?_)⟩
  rw [List.getD_eq_getElem?_getD, List.getElem?_eq_getElem hxb] <;> rfl
theorem ix_ent {K : PySem.W.Frag} {H : Hp} {t : Addr} {r : List Nat} {y : Nat} {Q : VK} (h : H t = some (.lst (r.map nV))) (hy : y < r.length) (q : Q (nV (r.getD y 0)) H) : rIxL K (.ref t) (nV y) H Q :=
  ⟨t, _, _, nV (r.getD y 0), rfl, rfl, SqL.of h, atI_nat (by rw [List.getElem?_map, List.getD_eq_getElem?_getD, List.getElem?_eq_getElem hy] <;> rfl), q⟩
theorem TabOk.rlen {n x : Nat} {tab : List (List Nat)} (ok : TabOk n tab) (hx : x < n) : (tab.getD x []).length = n := by
  have hxb : x < tab.length := by rw [ok.len]; exact hx
  rw [List.getD_eq_getElem?_getD, List.getElem?_eq_getElem hxb]
  exact ok.row _ (List.getElem_mem hxb)
/-! ### several places -/
section
variable {rs : List Str} (L : Lat rs)
include L
theorem Lat.lows2 {x y : Nat} (hx : x < rs.length) (hy : y < rs.length) : lowsN rs [x, y] = lowN rs x y := by
  have := L.lows_snoc (xs := [x]) (x := y) (by simpa using hx) hy
  rw [L.lows_one hx] at this
  exact this
theorem Lat.ups2 {x y : Nat} (hx : x < rs.length) (hy : y < rs.length) : upsN rs [x, y] = upN rs x y := by
  have := L.ups_snoc (xs := [x]) (x := y) (by simpa using hx) hy
  rw [L.ups_one hx] at this
  exact this
theorem Lat.lows3 {x y z : Nat} (hx : x < rs.length) (hy : y < rs.length) (hz : z < rs.length) : lowsN rs [x, y, z] = lowN rs (lowN rs x y) z := by
  have := L.lows_snoc (xs := [x, y]) (x := z) (by simp [hx, hy]) hz
  rw [L.lows2 hx hy] at this
  exact this
theorem Lat.ups3 {x y z : Nat} (hx : x < rs.length) (hy : y < rs.length) (hz : z < rs.length) : upsN rs [x, y, z] = upN rs (upN rs x y) z := by
  have := L.ups_snoc (xs := [x, y]) (x := z) (by simp [hx, hy]) hz
  rw [L.ups2 hx hy] at this
  exact this
theorem Lat.lows4 {x y z w : Nat} (hx : x < rs.length) (hy : y < rs.length) (hz : z < rs.length) (hw : w < rs.length) : lowsN rs [x, y, z, w] = lowN rs (lowN rs (lowN rs x y) z) w := by
  have := L.lows_snoc (xs := [x, y, z]) (x := w) (by simp [hx, hy, hz]) hw
  rw [L.lows3 hx hy hz] at this
  exact this
theorem Lat.ups4 {x y z w : Nat} (hx : x < rs.length) (hy : y < rs.length) (hz : z < rs.length) (hw : w < rs.length) : upsN rs [x, y, z, w] = upN rs (upN rs (upN rs x y) z) w := by
  have := L.ups_snoc (xs := [x, y, z]) (x := w) (by simp [hx, hy, hz]) hw
  rw [L.ups3 hx hy hz] at this
  exact this
/-- the same places in any order, with repetitions -/
theorem Lat.ups_set {xs ys : List Nat} (h1 : ∀ y ∈ xs, y < rs.length) (h2 : ∀ y ∈ ys, y < rs.length) (h : ∀ z, z ∈ xs ↔ z ∈ ys) : upsN rs xs = upsN rs ys := uniq L.ord.flip (L.ups_lt h1) (L.ups_lt h2) fun w hw => by
  show bit rs (upsN rs xs) w = true ↔ bit rs (upsN rs ys) w = true
  rw [L.ups_iff h1 hw, L.ups_iff h2 hw]
  exact ⟨fun q y hy => q y ((h y).mpr hy), fun q y hy => q y ((h y).mp hy)⟩
theorem Lat.is_bot {x : Nat} (hx : x < rs.length) : (∀ y, y < rs.length → bit rs x y = true) ↔ x = botN rs := ⟨fun h => L.ord.anti _ _ hx L.bot_lt (h _ L.bot_lt) (L.bot_le hx), fun h y hy => h ▸ L.bot_le hy⟩
theorem Lat.is_top {x : Nat} (hx : x < rs.length) : (∀ y, y < rs.length → bit rs y x = true) ↔ x = topN rs := ⟨fun h => L.ord.anti _ _ hx L.top_lt (L.top_ge hx) (h _ L.top_lt), fun h y hy => h ▸ L.top_ge hy⟩
end
theorem single {l : List Nat} {b : Nat} (nd : l.Nodup) (h : ∀ x, x ∈ l ↔ x = b) : l = [b] := by
  match l, nd, h with
  | [], _, h => exact absurd ((h b).mpr rfl) (by simp)
  | [a], _, h => rw [(h a).mp List.mem_cons_self]
  | a :: c :: r, nd, h =>
    have h1 := (h a).mp List.mem_cons_self
    have h2 := (h c).mp (List.mem_cons_of_mem _ List.mem_cons_self)
    rw [h1, h2] at nd
    exact absurd List.mem_cons_self (List.nodup_cons.mp nd).1
theorem filt_single {n b : Nat} {f : Nat → Bool} (hb : b < n) (h : ∀ x, x < n → (f x = true ↔ x = b)) : (List.range n).filter f = [b] := by
  refine single (List.filter_sublist.nodup List.nodup_range) fun x => ?_
  rw [List.mem_filter, List.mem_range]
  exact ⟨fun ⟨h1, h2⟩ => (h x h1).mp h2, fun e => by rw [e]; exact ⟨hb, (h b hb).mpr rfl⟩⟩
def flatD : PyData → Bool
  | .int _ => true
  | .bool _ => true
  | .none => true
  | _ => false
theorem nice_flat {ds : List PyData} (h : ds.all flatD = true) (hl : ds.length ≤ 20000) : Nice 1 (.list ds) := by
  refine Nice.list hl fun d hd => ?_
  have := List.all_eq_true.mp h d hd
  cases d with
  | int i => exact ⟨rfl, by rw [PyData.depth]; exact Nat.le_refl _⟩
  | bool i => exact ⟨rfl, by rw [PyData.depth]; exact Nat.le_refl _⟩
  | none => exact ⟨rfl, by rw [PyData.depth]; exact Nat.le_refl _⟩
  | _ => cases this
end FF
/-! named boards: chains, cubes, fans are families -/
namespace FF
open PySem PySem.Spec PyProof.Rows L2
theorem and_tb (a b k : Nat) : (a &&& b).testBit k = (a.testBit k && b.testBit k) := Nat.testBit_and a b k
/-! ### chains -/
def chM (i : Nat) : Nat := 2 ^ i - 1
def chainM (n : Nat) : List Nat := (List.range n).map chM
theorem chM_tb (i k : Nat) : (chM i).testBit k = decide (k < i) := Nat.testBit_two_pow_sub_one i k
theorem chM_and (i j : Nat) : chM i &&& chM j = chM (min i j) := Nat.eq_of_testBit_eq fun k => by
  rw [and_tb, chM_tb, chM_tb, chM_tb, ← Bool.decide_and]
  exact decide_eq_decide.mpr (by omega)
theorem chM_inj {i j : Nat} (h : chM i = chM j) : i = j := by
  have t : ∀ k, decide (k < i) = decide (k < j) := fun k => by rw [← chM_tb, ← chM_tb, h]
  have t : ∀ k, k < i ↔ k < j := fun k => decide_eq_decide.mp (t k)
  have h1 := t i
  have h2 := t j
  omega
theorem chM_sub (i j : Nat) : chM i &&& chM j = chM i ↔ i ≤ j := by
  rw [chM_and]
  exact ⟨fun h => by have := chM_inj h; omega, fun h => by rw [Nat.min_eq_left h]⟩
theorem nodup_map {f : Nat → Nat} (inj : ∀ {i j}, f i = f j → i = j) (n : Nat) : ((List.range n).map f).Nodup := by
  refine List.pairwise_map.mpr (List.Pairwise.imp (fun {a b} h => ?_) (List.nodup_range (n := n)))
  exact fun z => h (inj z)
theorem chain_fam {n : Nat} (h : 1 ≤ n) : Fam (chainM n) := by
  have mem : ∀ {a}, a ∈ chainM n ↔ ∃ i, i < n ∧ chM i = a := fun {a} => by
    unfold chainM
    rw [List.mem_map]
    exact ⟨fun ⟨i, hi, e⟩ => ⟨i, List.mem_range.mp hi, e⟩, fun ⟨i, hi, e⟩ => ⟨i, List.mem_range.mpr hi, e⟩⟩
  refine ⟨nodup_map chM_inj n, fun a ha b hb => ?_, chM (n - 1), mem.mpr ⟨n - 1, by omega, rfl⟩, fun a ha => ?_⟩
  · obtain ⟨i, hi, rfl⟩ := mem.mp ha
    obtain ⟨j, hj, rfl⟩ := mem.mp hb
    exact mem.mpr ⟨min i j, by omega, (chM_and i j).symm⟩
  · obtain ⟨i, hi, rfl⟩ := mem.mp ha
    exact (chM_sub _ _).mpr (by omega)
/-! ### cubes -/
def cubeM (n : Nat) : List Nat := List.range (2 ^ n)
theorem cube_fam (n : Nat) : Fam (cubeM n) := by
  have pos : 0 < 2 ^ n := Nat.two_pow_pos n
  refine ⟨List.nodup_range, fun a ha b hb => ?_, 2 ^ n - 1, List.mem_range.mpr (by omega), fun a ha => ?_⟩
  · exact List.mem_range.mpr (Nat.and_lt_two_pow a (List.mem_range.mp hb))
  · have ha := List.mem_range.mp ha
    rw [Nat.and_two_pow_sub_one_eq_mod, Nat.mod_eq_of_lt ha]
/-! ### fans -/
def fanT (n : Nat) : Nat := 2 ^ (n + 1) - 1
def fanM (n : Nat) : List Nat := 0 :: ((List.range n).map (fun i => 2 ^ i) ++ [fanT n])
theorem pw_and_pw {i j : Nat} (h : i ≠ j) : 2 ^ i &&& 2 ^ j = 0 := Nat.eq_of_testBit_eq fun k => by
  rw [and_tb, Nat.testBit_two_pow, Nat.testBit_two_pow, Nat.zero_testBit, ← Bool.decide_and]
  exact decide_eq_false (by omega)
theorem pw_top {i n : Nat} (h : i < n) : 2 ^ i &&& fanT n = 2 ^ i := by
  have h1 : 2 ^ i < 2 ^ (n + 1) := Nat.pow_lt_pow_right (by decide) (by omega)
  unfold fanT
  rw [Nat.and_two_pow_sub_one_eq_mod, Nat.mod_eq_of_lt h1]
theorem pw_inj {i j : Nat} (h : 2 ^ i = 2 ^ j) : i = j := by
  rcases Nat.lt_trichotomy i j with k | k | k
  · have := Nat.pow_lt_pow_right (show 1 < 2 by decide) k
    omega
  · exact k
  · have := Nat.pow_lt_pow_right (show 1 < 2 by decide) k
    omega
theorem pw_ne_top {i n : Nat} (h : i < n) : 2 ^ i ≠ fanT n := fun z => by
  have := congrArg (fun u => Nat.testBit u n) z
  unfold fanT at this
  rw [Nat.testBit_two_pow, Nat.testBit_two_pow_sub_one, decide_eq_true (show n < n + 1 by omega), decide_eq_false (show ¬ i = n by omega)] at this
  cases this
theorem fan_fam {n : Nat} : Fam (fanM n) := by
  have mem : ∀ {a}, a ∈ fanM n ↔ a = 0 ∨ (∃ i, i < n ∧ 2 ^ i = a) ∨ a = fanT n := fun {a} => by
    unfold fanM
    rw [List.mem_cons, List.mem_append, List.mem_map, List.mem_singleton]
    exact or_congr Iff.rfl (or_congr ⟨fun ⟨i, hi, e⟩ => ⟨i, List.mem_range.mp hi, e⟩, fun ⟨i, hi, e⟩ => ⟨i, List.mem_range.mpr hi, e⟩⟩ Iff.rfl)
  have tpos : fanT n ≠ 0 := by
    unfold fanT
    have : 2 ^ 1 ≤ 2 ^ (n + 1) := Nat.pow_le_pow_right (by decide) (by omega)
    omega
  have under : ∀ a ∈ fanM n, a &&& fanT n = a := fun a ha => by
    rcases mem.mp ha with rfl | ⟨i, hi, rfl⟩ | rfl
    · exact Nat.zero_and _
    · exact pw_top hi
    · exact Nat.and_self _
  refine ⟨?_, fun a ha b hb => ?_, fanT n, mem.mpr (.inr (.inr rfl)), under⟩
  · unfold fanM
    refine List.nodup_cons.mpr ⟨fun z => ?_, List.nodup_append.mpr ⟨nodup_map (f := fun i => 2 ^ i) (fun {i j} h => pw_inj h) n, by simp, fun a ha b hb => ?_⟩⟩
    · rcases List.mem_append.mp z with z | z
      · obtain ⟨i, _, e⟩ := List.mem_map.mp z
        have := Nat.two_pow_pos i
        omega
      · exact tpos (List.mem_singleton.mp z).symm
    · obtain ⟨i, hi, rfl⟩ := List.mem_map.mp ha
      rw [List.mem_singleton.mp hb]
      exact pw_ne_top (List.mem_range.mp hi)
  · rcases mem.mp hb with rfl | ⟨j, hj, rfl⟩ | rfl
    · rw [Nat.and_zero]
      exact mem.mpr (.inl rfl)
    · rcases mem.mp ha with rfl | ⟨i, hi, rfl⟩ | rfl
      · rw [Nat.zero_and]
        exact mem.mpr (.inl rfl)
      · by_cases h : i = j
        · subst h
          rw [Nat.and_self]
          exact ha
        · rw [pw_and_pw h]
          exact mem.mpr (.inl rfl)
      · rw [Nat.and_comm, under _ hb]
        exact hb
    · rw [under _ ha]
      exact ha
/-! ### their digits -/
def fanG (n z : Nat) : Nat := if z = 0 then 0 else if z = n + 1 then fanT n else 2 ^ (z - 1)
theorem fan_eq (n : Nat) : fanM n = (List.range (n + 2)).map (fanG n) := by
  unfold fanM
  rw [List.range_succ_eq_map, List.map_cons, List.map_map, List.range_succ, List.map_append, List.map_singleton]
  have h1 : (List.range n).map (fun i => 2 ^ i) = (List.range n).map (fanG n ∘ Nat.succ) := List.map_congr_left fun i hi => by
    have := List.mem_range.mp hi
    show 2 ^ i = fanG n (i + 1)
    unfold fanG
    rw [if_neg (by omega), if_neg (by omega)]
    rfl
  have h2 : fanT n = (fanG n ∘ Nat.succ) n := by
    show fanT n = fanG n (n + 1)
    unfold fanG
    rw [if_neg (by omega), if_pos rfl]
  rw [h1, h2]
  rfl
theorem fan_sub {n x y : Nat} (hx : x < n + 2) (hy : y < n + 2) : fanG n x &&& fanG n y = fanG n x ↔ (x = y ∨ x = 0 ∨ y = n + 1) := by
  by_cases hxy : x = y
  · subst hxy
    rw [Nat.and_self]
    exact ⟨fun _ => .inl rfl, fun _ => rfl⟩
  have tpos : 2 ^ 1 ≤ 2 ^ (n + 1) := Nat.pow_le_pow_right (by decide) (by omega)
  unfold fanG
  by_cases x0 : x = 0
  · rw [if_pos x0, Nat.zero_and]
    exact ⟨fun _ => .inr (.inl x0), fun _ => rfl⟩
  rw [if_neg x0]
  by_cases xt : x = n + 1
  · rw [if_pos xt]
    have yt : y ≠ n + 1 := fun z => hxy (xt.trans z.symm)
    by_cases y0 : y = 0
    · rw [if_pos y0, Nat.and_zero]
      exact ⟨fun h => by unfold fanT at h; omega, fun h => by omega⟩
    · rw [if_neg y0, if_neg yt, Nat.and_comm, pw_top (by omega)]
      exact ⟨fun h => absurd h (pw_ne_top (by omega)), fun h => by omega⟩
  rw [if_neg xt]
  by_cases y0 : y = 0
  · rw [if_pos y0, Nat.and_zero]
    have := Nat.two_pow_pos (x - 1)
    exact ⟨fun h => by omega, fun h => by omega⟩
  rw [if_neg y0]
  by_cases yt : y = n + 1
  · rw [if_pos yt, pw_top (by omega)]
    exact ⟨fun _ => .inr (.inr yt), fun _ => rfl⟩
  rw [if_neg yt, pw_and_pw (by omega)]
  have := Nat.two_pow_pos (x - 1)
  exact ⟨fun h => by omega, fun h => by omega⟩
end FF
/-! named boards: their rows as texts -/
namespace FF
open PySem PySem.Spec PyProof.Rows L2
def digRow (N : Nat) (p : Nat → Bool) : Str := ⟨((List.range N).map fun y => if p y = true then 49 else 48).toArray⟩
theorem digRow_congr {N : Nat} {p q : Nat → Bool} (h : ∀ y, y < N → p y = q y) : digRow N p = digRow N q := by
  unfold digRow
  rw [List.map_congr_left (f := fun y => if p y = true then 49 else 48) (g := fun y => if q y = true then 49 else 48) fun y hy => by rw [h y (List.mem_range.mp hy)]]
theorem rows_dig (f : Nat → Nat) (N : Nat) : rowsOf ((List.range N).map f) = (List.range N).map fun x => digRow N fun y => decide (f x &&& f y = f x) := by
  unfold rowsOf
  rw [List.map_map]
  refine List.map_congr_left fun x _ => ?_
  show (⟨(((List.range N).map f).map fun b => sub1 (f x) b).toArray⟩ : Str) = digRow N _
  unfold digRow
  rw [List.map_map]
  refine congrArg (fun l : List Nat => (⟨l.toArray⟩ : Str)) (List.map_congr_left fun y _ => ?_)
  show sub1 (f x) (f y) = _
  unfold sub1
  by_cases h : f x &&& f y = f x
  · simp [h]
  · simp [h]
def chainR (n : Nat) : List Str := (List.range n).map fun x => digRow n fun y => decide (x ≤ y)
def fanR (n : Nat) : List Str := (List.range (n + 2)).map fun x => digRow (n + 2) fun y => decide (x = y ∨ x = 0 ∨ y = n + 1)
def cubeR (n : Nat) : List Str := (List.range (2 ^ n)).map fun x => digRow (2 ^ n) fun y => decide (x &&& y = x)
theorem chainR_eq (n : Nat) : chainR n = rowsOf (chainM n) := by
  unfold chainM
  rw [rows_dig]
  exact List.map_congr_left fun x _ => digRow_congr fun y _ => decide_eq_decide.mpr (chM_sub x y).symm
theorem fanR_eq (n : Nat) : fanR n = rowsOf (fanM n) := by
  rw [fan_eq, rows_dig]
  exact List.map_congr_left fun x hx => digRow_congr fun y hy => decide_eq_decide.mpr (fan_sub (List.mem_range.mp hx) hy).symm
theorem cubeR_eq (n : Nat) : cubeR n = rowsOf (cubeM n) := by
  have := rows_dig id (2 ^ n)
  rw [List.map_id] at this
  exact this.symm
theorem chain_board {n : Nat} (h1 : 1 ≤ n) (h2 : n ≤ 60) : progBoard (chainR n) = true := by
  rw [chainR_eq]
  exact fam_board (chain_fam h1) (by unfold chainM; rw [List.length_map, List.length_range]; exact h2)
theorem fan_board {n : Nat} (h2 : n ≤ 58) : progBoard (fanR n) = true := by
  rw [fanR_eq]
  exact fam_board fan_fam (by rw [fan_eq, List.length_map, List.length_range]; omega)
theorem cube_board {n : Nat} (h2 : n ≤ 5) : progBoard (cubeR n) = true := by
  rw [cubeR_eq]
  refine fam_board (cube_fam n) ?_
  unfold cubeM
  rw [List.length_range]
  have : 2 ^ n ≤ 2 ^ 5 := Nat.pow_le_pow_right (by decide) h2
  omega
/-! ### the texts that the program lays -/
theorem tl_app (a b : Str) : tl (a ++ b) = tl a ++ tl b := by
  show (a.cps ++ b.cps).toList = _
  rw [Array.toList_append]
theorem tl_rep0 (n : Nat) : tl (repS "0" n) = List.replicate n 48 := by
  show (List.replicate n ("0" : Str).cps.toList).flatten = _
  rw [show ("0" : Str).cps.toList = [48] by decide +kernel]
  induction n with
  | zero => rfl
  | succ n ih => rw [List.replicate_succ, List.flatten_cons, ih, List.replicate_succ] <;> rfl
theorem tl_rep1 (n : Nat) : tl (repS "1" n) = List.replicate n 49 := by
  show (List.replicate n ("1" : Str).cps.toList).flatten = _
  rw [show ("1" : Str).cps.toList = [49] by decide +kernel]
  induction n with
  | zero => rfl
  | succ n ih => rw [List.replicate_succ, List.flatten_cons, ih, List.replicate_succ] <;> rfl
theorem tl_zero : tl ("0" : Str) = [48] := by decide +kernel
theorem tl_one : tl ("1" : Str) = [49] := by decide +kernel
theorem tl_dig (N : Nat) (p : Nat → Bool) : tl (digRow N p) = (List.range N).map fun y => if p y = true then 49 else 48 := rfl
theorem chain_text {n x : Nat} (hx : x < n) : repS "0" x ++ repS "1" (n - x) = digRow n fun y => decide (x ≤ y) := by
  refine TL.ext_tl ?_
  show tl _ = tl _
  rw [tl_app, tl_rep0, tl_rep1, tl_dig]
  refine List.ext_getElem (by simp; omega) fun y h1 h2 => ?_
  rw [List.getElem_map, List.getElem_range, List.getElem_append]
  simp only [List.length_replicate, List.getElem_replicate]
  by_cases h : y < x
  · rw [dif_pos h, decide_eq_false (by omega), if_neg (by decide)]
  · rw [dif_neg h, decide_eq_true (by omega), if_pos rfl]
def fanRow (n i : Nat) : Str := ((("0" ++ repS "0" i) ++ "1") ++ repS "0" (n - 1 - i)) ++ "1"
theorem fan_text {n i : Nat} (hi : i < n) : fanRow n i = digRow (n + 2) fun y => decide (i + 1 = y ∨ i + 1 = 0 ∨ y = n + 1) := by
  refine TL.ext_tl ?_
  show tl _ = tl _
  unfold fanRow
  rw [tl_app, tl_app, tl_app, tl_app, tl_rep0, tl_rep0, tl_zero, tl_one, tl_dig]
  refine List.ext_getElem (by simp; omega) fun y h1 h2 => ?_
  rw [List.getElem_map, List.getElem_range]
  simp only [List.length_map, List.length_range] at h2
  simp only [List.getElem_append, List.length_append, List.length_replicate, List.length_singleton, List.getElem_replicate, List.getElem_singleton]
  by_cases c : i + 1 = y ∨ i + 1 = 0 ∨ y = n + 1
  · rw [decide_eq_true c, if_pos rfl]
    repeat (first | rfl | split | omega)
  · rw [decide_eq_false c, if_neg (by decide)]
    repeat (first | rfl | split | omega)
theorem fan_first (n : Nat) : repS "1" (n + 2) = digRow (n + 2) fun y => decide (0 = y ∨ 0 = 0 ∨ y = n + 1) := by
  refine TL.ext_tl ?_
  show tl _ = tl _
  rw [tl_rep1, tl_dig]
  refine List.ext_getElem (by simp) fun y h1 h2 => ?_
  rw [List.getElem_map, List.getElem_range, List.getElem_replicate, decide_eq_true (.inr (.inl rfl)), if_pos rfl]
theorem fan_last (n : Nat) : repS "0" (n + 1) ++ "1" = digRow (n + 2) fun y => decide (n + 1 = y ∨ n + 1 = 0 ∨ y = n + 1) := by
  refine TL.ext_tl ?_
  show tl _ = tl _
  rw [tl_app, tl_rep0, tl_one, tl_dig]
  refine List.ext_getElem (by simp) fun y h1 h2 => ?_
  rw [List.getElem_map, List.getElem_range]
  simp only [List.length_map, List.length_range] at h2
  simp only [List.getElem_append, List.length_replicate, List.getElem_replicate, List.getElem_singleton]
  by_cases c : n + 1 = y ∨ n + 1 = 0 ∨ y = n + 1
  · rw [decide_eq_true c, if_pos rfl]
    repeat (first | rfl | split | omega)
  · rw [decide_eq_false c, if_neg (by decide)]
    repeat (first | rfl | split | omega)
theorem fan_rows (n : Nat) : repS "1" (n + 2) :: ((List.range n).map (fanRow n) ++ [repS "0" (n + 1) ++ "1"]) = fanR n := by
  unfold fanR
  rw [List.range_succ_eq_map, List.map_cons, List.map_map, List.range_succ, List.map_append, List.map_singleton, ← fan_first]
  have h1 : (List.range n).map (fanRow n) = (List.range n).map ((fun x => digRow (n + 2) fun y => decide (x = y ∨ x = 0 ∨ y = n + 1)) ∘ Nat.succ) := List.map_congr_left fun i hi => fan_text (List.mem_range.mp hi)
  rw [h1, fan_last]
  rfl
end FF
/-! Board.chain, Board.cube, Board.fan, ==, repr -/
namespace FF
open PySem PySem.Spec PyProof.Rows L2
def ibR (K : PySem.W.Frag) (H : Hp) (E : XK) : Prop := ∀ dd H', Same H H' → Thr ("InvalidBoard" : Str) dd H' → E (.ref (He.ga K "InvalidBoard")) dd H'
/-- a board of so many steps, or InvalidBoard -/
def spNamed (K : PySem.W.Frag) (pre_ : List V) (lo hi : Nat) (R : Nat → List Str) : Sp := fun vs H Q E => ∃ n : Int, vs = pre_ ++ [.int n] ∧
  (∀ m : Nat, n = m → lo ≤ m → m ≤ hi → ∀ b dx li H', Same H H' → BoardAt K H' b dx li (R m) → Q (.ref b) H') ∧ (¬ (lo ≤ n ∧ n ≤ hi) → ibR K H E)
def spChain (K : PySem.W.Frag) : Sp := spNamed K [.ref (He.ga K "Board")] 1 60 chainR
def spCube (K : PySem.W.Frag) : Sp := spNamed K [.ref (He.ga K "Board")] 0 5 cubeR
def spFan (K : PySem.W.Frag) : Sp := spNamed K [] 1 58 fanR
theorem str_len (a b : Str) : (a ++ b).length = a.length + b.length := by
  show (a.cps ++ b.cps).size = _
  rw [Array.size_append]
  rfl
theorem rep0_len (n : Nat) : (repS "0" n).length = n := by rw [repS_len, show ("0" : Str).length = 1 from rfl, Nat.mul_one]
theorem rep1_len (n : Nat) : (repS "1" n).length = n := by rw [repS_len, show ("1" : Str).length = 1 from rfl, Nat.mul_one]
theorem rep0_ok {n : Int} (h : 0 ≤ n ∧ n ≤ 60) : -2147483648 ≤ n ∧ n < 2147483648 ∧ ("0" : Str).length * n.toNat ≤ 100000 := ⟨by omega, by omega, by rw [show ("0" : Str).length = 1 from rfl]; omega⟩
theorem rep1_ok {n : Int} (h : 0 ≤ n ∧ n ≤ 60) : -2147483648 ≤ n ∧ n < 2147483648 ∧ ("1" : Str).length * n.toNat ≤ 100000 := ⟨by omega, by omega, by rw [show ("1" : Str).length = 1 from rfl]; omega⟩
section
variable {P : Program} {w : World} {K : PySem.W.Frag} {mg : Str → Option Value} {base : Heap}
theorem fn_chain {fd : FuncData} (F : FunD K "chain" "Board.chain" (defArgs s_Board_chain) (defBody s_Board_chain) (defScope s_Board_chain) [] [] (gAd K "classmethod" "Board" "chain") fd) (T : Top K mg)
    (M_Board : MakeX P w K mg base "Board" 4 ["self", "rows"] (spBoard K)) (x_InvalidBoard : RaiseD P w K mg base "InvalidBoard" "FaultError" 2 "InvalidBoard") : FnOk P w K mg base (L2.CX P w) 6 (gAd K "classmethod" "Board" "chain") fd ["cls", "size"] (spChain K) := by
  refine FunD.ok F sc_Board_chain (fun vs H Q E h => ?_) (fun cdv A outer s0 H vs Q E hr h => ?_)
  · obtain ⟨n, rfl, _⟩ := h
    rfl
  obtain ⟨n, rfl, q1, q2⟩ := h
  have tk : Takes (cxOf (L2.CX P w) P w K mg base ["cls", "size", "place"] "Board.chain" (defScope s_Board_chain) (gAd K "classmethod" "Board" "chain") cdv A outer s0 H E) (fun cls d _ H => E cls d H) := takes_of rfl rfl rfl rfl
  obtain ⟨u, hv⟩ := T.v_Board_MAX_PLACES
  refine ⟨_, (pss_cons (ps_if (pt_not (pt_chain op_le op_le pe_int (pv 1) (ClX.pe_cval (pv 0))))
  (pss_one (ps_raise rfl tk (pmk_raise x_InvalidBoard hr (by first | decide | omega))))
  pss_nil)
  (pss_one (ps_ret (pe_mkL (E := E) M_Board tk (fun _ _ _ _ h => h) hr (by first | decide | omega) (pv 0) (pa_cons (pe_lc (own := [("place", 2)]) rfl sc_Board_chain.nd (pi_range1 (by rfl) T.b_range (pa_cons (pv 1) pa_nil)) (blkOk_by (by kernel_rfl)) (fun _ _ _ _ _ => (pg_name (i := 2) sc_Board_chain.nd rfl (Or.inl rfl) (.inr rfl))) (fun _ _ _ _ _ => pts_nil) (fun _ _ _ _ _ => (pe_op op_add_str (pe_op op_rep_strX pe_str (pv 2)) (pe_op op_rep_strX pe_str (pe_op op_sub (pv 1) (pv 2)))))) pa_nil))))), ?_⟩
  refine ⟨_, rfl, _, _, rfl, rfl, _, rfl, ?_⟩
  refine if_dec (fun h1 => ?_) (fun h1 => ?_)
  rotate_left
  · exact ⟨_, rfl, q2 (fun z => h1 z.1)⟩
  refine ⟨_, rfl, _, _, _, _, rfl, T.r_Board, hv, _, _, rfl, rfl, _, rfl, ?_⟩
  refine if_nb (fun h2 => ?_) (fun h2 => ?_)
  · exact q2 (fun z => of_decide_eq_false h2 z.2)
  have h2 := of_decide_eq_true h2
  obtain ⟨m, rfl⟩ : ∃ m : Nat, n = m := ⟨n.toNat, by omega⟩
  refine ⟨_, rfl, rfl, _, rfl, m, rfl, by omega, by omega, fun D hD => ?_⟩
  refine lc_mapN (n := m) (j := 2) (fun i => .str (repS "0" i ++ repS "1" (m - i))) hD (by omega) (fun _ => rfl) ?_ ?_
  · intro i H2 hi e2 Q' k'
    have k' := k' H2 (Same.refl _)
    have b1 := rep0_ok (n := 0 + (i : Int)) (by omega)
    have b2 := rep1_ok (n := (m : Int) - (0 + (i : Int))) (by omega)
    refine ⟨_, rfl, _, _, rfl, rfl, b1.1, b1.2.1, b1.2.2, ?_⟩
    refine ⟨_, rfl, _, rfl, _, _, rfl, rfl, _, _, rfl, rfl, b2.1, b2.2.1, b2.2.2, ?_⟩
    have t1 : (0 + (i : Int)).toNat = i := by omega
    have t2 : ((m : Int) - (0 + (i : Int))).toNat = m - i := by omega
    rw [t1, t2]
    refine ⟨_, _, rfl, rfl, le_line ?_, k'⟩
    rw [rep0_len, rep1_len]
    omega
  intro H2 e2 hD2
  have er : (List.range m).map (fun i => V.str (repS "0" i ++ repS "1" (m - i))) = (chainR m).map V.str := by
    unfold chainR
    rw [List.map_map]
    refine List.map_congr_left fun i hi => ?_
    rw [chain_text (List.mem_range.mp hi)]
    rfl
  rw [er] at hD2
  exact accept (chain_board (by omega) (by omega)) (SqL.of hD2) fun b dx li H3 hb0 hli0 e4 hB => q1 m rfl (by omega) (by omega) b dx li H3 (e2.trans e4) hB
end
end FF
/-! Board.fan, Board.cube, ==, repr; the law's rows of cubes -/
namespace FF
open PySem PySem.Spec PyProof.Rows L2
theorem bool_str (b : Bool) : (toString (if b = true then (1 : Int) else 0) : Str) = ⟨#[if b = true then 49 else 48]⟩ := by
  cases b
  · decide +kernel
  · decide +kernel
theorem bool_lt (b : Bool) : (if b = true then (1 : Int) else 0).natAbs.log2 < 1920 := by
  cases b
  · show (0 : Int).natAbs.log2 < 1920
    decide
  · show (1 : Int).natAbs.log2 < 1920
    decide
theorem join_digs {l : List Nat} {p : Nat → Bool} : Txt.join "" (l.map fun y => (⟨#[if p y = true then 49 else 48]⟩ : Str)) = ⟨(l.map fun y => if p y = true then 49 else 48).toArray⟩ := by
  rw [join_one]
section
variable {P : Program} {w : World} {K : PySem.W.Frag} {mg : Str → Option Value} {base : Heap}
theorem ok_fan {fd : FuncData} (F : FunD K "fan" "Board.fan" (defArgs s_Board_fan) (defBody s_Board_fan) (defScope s_Board_fan) [] [] (gAd K "staticmethod" "Board" "fan") fd) (T : Top K mg)
    (M_Board : MakeX P w K mg base "Board" 4 ["self", "rows"] (spBoard K)) (x_InvalidBoard : RaiseD P w K mg base "InvalidBoard" "FaultError" 2 "InvalidBoard") : StatX P w K mg base "Board" "fan" 6 ["size"] (spFan K) := by
  refine statx_mk F (F.bindsN fun _ _ _ _ _ _ us hl => match us, hl with | [_], _ => rfl) T.r_Board T.s_Board_fan T.c_Board sc_Board_fan (fun vs H Q E h => ?_) (fun cdv A outer s0 H vs Q E hr h tk => ?_)
  · obtain ⟨n, rfl, _⟩ := h
    rfl
  obtain ⟨n, rfl, q1, q2⟩ := h
  refine ⟨_, (pss_cons (ps_if (pt_not (pt_chain op_le op_le pe_int (pv 0) pe_int))
  (pss_one (ps_raise rfl tk (pmk_raise x_InvalidBoard hr (by first | decide | omega))))
  pss_nil)
  (pss_cons (ps_setLc (i := 1) (own := [("at", 2)]) rfl sc_Board_fan.nd rfl rfl (sw_true rfl rfl rfl (by kernel_rfl)) (pi_range1 (by rfl) T.b_range (pa_cons (pv 0) pa_nil)) (blkOk_by (by kernel_rfl)) (fun _ _ _ _ _ => (pg_name (i := 2) sc_Board_fan.nd rfl (Or.inl rfl) (.inr rfl))) (fun _ _ _ _ _ => pts_nil) (fun _ _ _ _ _ => (pe_op op_add_str (pe_op op_add_str (pe_op op_add_str (pe_op op_add_str pe_str (pe_op op_rep_strX pe_str (pv 2))) pe_str) (pe_op op_rep_strX pe_str (pe_op op_sub (pe_op op_sub (pv 0) pe_int) (pv 2)))) pe_str)))
  (pss_one (ps_ret (pe_mkxK K (E := E) M_Board tk (fun _ _ _ _ h => h) hr (by first | decide | omega) (pa_cons (pe_lst (pa_cons (pe_op op_rep_strX pe_str (pe_op op_add (pv 0) pe_int)) (StX.pa_star (pv 1) (pa_cons (pe_op op_add_str (pe_op op_rep_strX pe_str (pe_op op_add (pv 0) pe_int)) pe_str) pa_nil)))) pa_nil)))))), ?_⟩
  refine ⟨_, rfl, _, _, rfl, rfl, _, rfl, ?_⟩
  refine if_dec (fun h1 => ?_) (fun h1 => ?_)
  rotate_left
  · exact ⟨_, rfl, q2 (fun z => h1 z.1)⟩
  refine ⟨_, _, rfl, rfl, _, rfl, ?_⟩
  refine if_nb (fun h2 => ?_) (fun h2 => ?_)
  · exact q2 (fun z => of_decide_eq_false h2 z.2)
  have h2 := of_decide_eq_true h2
  obtain ⟨m, rfl⟩ : ∃ m : Nat, n = m := ⟨n.toNat, by omega⟩
  refine ⟨_, rfl, m, rfl, by omega, by omega, fun D hD => ?_⟩
  have l0 : ("0" : Str).length = 1 := rfl
  have l1 : ("1" : Str).length = 1 := rfl
  refine lc_mapN (n := m) (j := 2) (fun i => .str (fanRow m i)) hD (by omega) (fun _ => rfl) ?_ ?_
  · intro i H2 hi e2 Q' k'
    have k' := k' H2 (Same.refl _)
    have b1 := rep0_ok (n := 0 + (i : Int)) (by omega)
    have b2 := rep0_ok (n := (m : Int) - 1 - (0 + (i : Int))) (by omega)
    have zz : ∀ {n : Nat}, n ≤ 20000 → n ≤ sizeLine := fun h => le_line h
    refine ⟨_, rfl, _, _, rfl, rfl, b1.1, b1.2.1, b1.2.2, ?_⟩
    refine ⟨_, _, rfl, rfl, zz (by rw [rep0_len, l0]; omega), _, _, rfl, rfl, zz (by rw [str_len, rep0_len, l0, l1]; omega), ?_⟩
    refine ⟨_, rfl, _, _, rfl, rfl, _, rfl, _, _, rfl, rfl, _, _, rfl, rfl, b2.1, b2.2.1, b2.2.2, ?_⟩
    refine ⟨_, _, rfl, rfl, zz (by rw [str_len, str_len, rep0_len, rep0_len, l0, l1]; omega), _, _, rfl, rfl, zz (by rw [str_len, str_len, str_len, rep0_len, rep0_len, l0, l1]; omega), ?_⟩
    have t1 : (0 + (i : Int)).toNat = i := by omega
    have t2 : ((m : Int) - 1 - (0 + (i : Int))).toNat = m - 1 - i := by omega
    rw [t1, t2]
    exact k'
  intro H2 e2 hD2
  have c1 := rep1_ok (n := (m : Int) + 2) (by omega)
  have c2 := rep0_ok (n := (m : Int) + 1) (by omega)
  have t3 : ((m : Int) + 2).toNat = m + 2 := by omega
  have t4 : ((m : Int) + 1).toNat = m + 1 := by omega
  refine ⟨_, rfl, _, _, rfl, rfl, _, _, rfl, rfl, c1.1, c1.2.1, c1.2.2, ?_⟩
  refine ⟨_, rfl, D, _, rfl, .inr (SqL.of hD2), ?_⟩
  refine ⟨_, rfl, _, _, rfl, rfl, _, _, rfl, rfl, c2.1, c2.2.1, c2.2.2, _, _, rfl, rfl, le_line (by rw [rep0_len, l1, t4]; omega), ?_⟩
  refine ⟨?_, fun l hl => ?_⟩
  · refine le_line ?_
    dsimp only [List.length_cons, List.length_append, List.length_map, List.length_nil]
    rw [List.length_append, List.length_map, List.length_range]
    simp
    omega
  rw [t3, t4]
  have er : V.str (repS "1" (m + 2)) :: ((List.range m).map (fun i => V.str (fanRow m i)) ++ [V.str (repS "0" (m + 1) ++ "1")]) = (fanR m).map V.str := by
    rw [← fan_rows, List.map_cons, List.map_append, List.map_map]
    rfl
  have e3 := same_new hl (.lst ((fanR m).map V.str))
  have hl3 : SqL K (upd H2 l (.lst ((fanR m).map V.str))) l ((fanR m).map V.str) := SqL.of upd_same
  have fin := accept (K := K) (Q' := fun b H' => Q (.ref b) H') (E' := E) (fan_board (n := m) (by omega)) hl3 fun b dx li H3 hb0 hli0 e4 hB => q1 m rfl (by omega) (by omega) b dx li H3 (e2.trans (e3.trans e4)) hB
  rw [← er] at fin
  exact fin
end
end FF
/-! Board.cube, ==, repr; the law's rows of cubes -/
namespace FF
open PySem PySem.Spec PyProof.Rows L2
theorem eqvAll_strs : ∀ (xs ys : List Str), PyData.eqvAll (xs.map .str) (ys.map .str) = decide (xs = ys)
  | [], [] => rfl
  | [], _ :: _ => rfl
  | _ :: _, [] => rfl
  | x :: xs, y :: ys => by
    rw [List.map_cons, List.map_cons, PyData.eqvAll, eqvAll_strs xs ys]
    have : PyData.eqv (.str x) (.str y) = decide (x = y) := by
      rw [PyData.eqv]
      by_cases h : x = y
      · rw [h, decide_eq_true rfl]
        exact beq_self_eq_true y
      · rw [decide_eq_false h]
        exact beq_eq_false_iff_ne.mpr h
    rw [this]
    by_cases h1 : x = y <;> by_cases h2 : xs = ys <;> simp [h1, h2]
theorem eqv_strs (xs ys : List Str) : PyData.eqv (.list (xs.map .str)) (.list (ys.map .str)) = decide (xs = ys) := by
  rw [PyData.eqv, eqvAll_strs]
theorem int_log : ∀ n : Nat, n ≤ 60 → (n : Int).natAbs.log2 < 1920 := by decide +kernel
theorem int_short : ∀ n : Nat, n ≤ 60 → (toString (n : Int) : Str).length ≤ 100 := by decide +kernel
section
variable {P : Program} {w : World} {K : PySem.W.Frag} {mg : Str → Option Value} {base : Heap}
theorem fn_cube {fd : FuncData} (F : FunD K "cube" "Board.cube" (defArgs s_Board_cube) (defBody s_Board_cube) (defScope s_Board_cube) [] [] (gAd K "classmethod" "Board" "cube") fd) (T : Top K mg)
    (M_Board : MakeX P w K mg base "Board" 4 ["self", "rows"] (spBoard K)) (x_InvalidBoard : RaiseD P w K mg base "InvalidBoard" "FaultError" 2 "InvalidBoard") : FnOk P w K mg base (L2.CX P w) 6 (gAd K "classmethod" "Board" "cube") fd ["cls", "size"] (spCube K) := by
  refine FunD.ok F sc_Board_cube (fun vs H Q E h => ?_) (fun cdv A outer s0 H vs Q E hr h => ?_)
  · obtain ⟨n, rfl, _⟩ := h
    rfl
  obtain ⟨n, rfl, q1, q2⟩ := h
  have tk : Takes (cxOf (L2.CX P w) P w K mg base ["cls", "size", "every", "other", "one"] "Board.cube" (defScope s_Board_cube) (gAd K "classmethod" "Board" "cube") cdv A outer s0 H E) (fun cls d _ H => E cls d H) := takes_of rfl rfl rfl rfl
  refine ⟨_, (pss_cons (ps_if (pt_not (pt_chain op_le op_le pe_int (pv 1) pe_int))
  (pss_one (ps_raise rfl tk (pmk_raise x_InvalidBoard hr (by first | decide | omega))))
  pss_nil)
  (pss_cons (ps_set (i := 2) sc_Board_cube.nd rfl (Or.inr rfl) (pe_listRg rfl (by rfl) T.b_list (prg_1 (by rfl) T.b_range (pe_op op_shl pe_int (pv 1)))))
  (pss_one (ps_ret (pe_mkL (E := E) M_Board tk (fun _ _ _ _ h => h) hr (by first | decide | omega) (pv 0) (pa_cons (pe_lc (own := [("one", 4)]) rfl sc_Board_cube.nd (pi_listK K (pv 2)) (blkOk_by (by kernel_rfl)) (fun _ _ _ _ _ => (pg_name (i := 4) sc_Board_cube.nd rfl (Or.inr rfl) (.inl rfl))) (fun _ _ _ _ _ => pts_nil) (fun _ _ _ _ _ => (pe_joinK K pe_str (pe_lc (own := [("other", 3)]) rfl sc_Board_cube.nd (pi_listK K (pv 2)) (blkOk_by (by kernel_rfl)) (fun _ _ _ _ _ => (pg_name (i := 3) sc_Board_cube.nd rfl (Or.inl rfl) (.inr rfl))) (fun _ _ _ _ _ => pts_nil) (fun _ _ _ _ _ => (pe_callTy call_str_int (by rfl) T.b_str (by decide +kernel) (pa_cons (pe_callTy call_int1 (by rfl) T.b_int (by decide +kernel) (pa_cons (pe_cmpR op_eq (pe_op op_and (pv 4) (pv 3)) (pv 4) (nomark _)) pa_nil)) pa_nil))))))) pa_nil)))))), ?_⟩
  refine ⟨_, rfl, _, _, rfl, rfl, _, rfl, ?_⟩
  refine if_dec (fun h1 => ?_) (fun h1 => ?_)
  rotate_left
  · exact ⟨_, rfl, q2 (fun z => h1 z.1)⟩
  refine ⟨_, _, rfl, rfl, _, rfl, ?_⟩
  refine if_nb (fun h2 => ?_) (fun h2 => ?_)
  · exact q2 (fun z => of_decide_eq_false h2 z.2)
  have h2 := of_decide_eq_true h2
  obtain ⟨m, rfl⟩ : ∃ m : Nat, n = m := ⟨n.toNat, by omega⟩
  have m5 : m ≤ 5 := by omega
  have p5 : 2 ^ m ≤ 32 := Nat.pow_le_pow_right (by decide) m5
  have tN : (1 : Int) * 2 ^ ((m : Int)).toNat = ((2 ^ m : Nat) : Int) := by
    rw [Int.toNat_natCast, Int.one_mul, Int.natCast_pow]
    rfl
  have rgN : ∀ N : Nat, N ≤ 32 → RgOk 0 (N : Int) := fun N h => RgOk.of_le (by omega) (by omega) (by omega) (by omega)
  have rg := rgN _ p5
  refine ⟨_, rfl, _, _, rfl, rfl, ⟨by omega, by omega, by decide⟩, _, congrArg V.int tN, rg, fun g hg => ?_⟩
  rw [rgV_nat]
  have e1 := same_new hg (.lst ((List.range (2 ^ m)).map nV))
  have hg1 : (upd H g (.lst ((List.range (2 ^ m)).map nV))) g = some (.lst ((List.range (2 ^ m)).map nV)) := upd_same
  generalize upd H g (.lst ((List.range (2 ^ m)).map nV)) = H1 at e1 hg1 ⊢
  have ll : (List.range (2 ^ m)).length ≤ 20000 := by rw [List.length_range]; omega
  refine ⟨_, rfl, rfl, _, rfl, g, rfl, ⟨_, SqL.of hg1⟩, fun D hD => ?_⟩
  refine lc_mapX (j := 4) (f := nV) (l := List.range (2 ^ m)) (fun a => .str ⟨((List.range (2 ^ m)).map fun b => sub1 a b).toArray⟩) hD (SqL.of hg1) ll (fun _ => rfl) ?_ ?_
  · intro x H2 hx e2 Q' k'
    refine ⟨⟨_, rfl⟩, _, rfl, g, rfl, ⟨_, SqL.of (e2 _ _ hg1)⟩, fun D2 hD2 => ?_⟩
    refine lc_mapX (j := 3) (f := nV) (l := List.range (2 ^ m)) (fun b : Nat => .str ⟨#[if (decide (V.int (Builtin.bitAnd (x : Int) (b : Int)) = nV x)) = true then 49 else 48]⟩) hD2 (SqL.of (e2 _ _ hg1)) ll (fun _ => rfl) ?_ ?_
    · intro y H3 hy e3 Q'' kk
      refine ⟨_, rfl, _, rfl, _, _, rfl, rfl, _, rfl, rfl, .inr ⟨_, rfl, _, rfl, bool_lt _, ?_⟩⟩
      have h9 := kk _ (Same.refl _)
      rw [← bool_str] at h9
      exact h9
    · intro H3 e3 hD3
      have em : ((List.range (2 ^ m)).map fun b : Nat => V.str ⟨#[if (decide (V.int (Builtin.bitAnd (x : Int) (b : Int)) = nV x)) = true then 49 else 48]⟩) = ((List.range (2 ^ m)).map fun b => (⟨#[sub1 x b]⟩ : Str)).map V.str := by
        rw [List.map_map]
        refine List.map_congr_left fun b _ => ?_
        have e : decide (V.int (Builtin.bitAnd (x : Int) (b : Int)) = nV x) = decide (x &&& b = x) := by
          rw [band_nat, Bool.eq_iff_iff, decide_eq_true_eq, decide_eq_true_eq]
          exact ⟨fun h => Int.ofNat.inj (V.int.inj h), fun h => by rw [h]⟩
        show V.str _ = V.str ⟨#[sub1 x b]⟩
        rw [e]
        unfold sub1
        by_cases h : x &&& b = x
        · rw [decide_eq_true h, if_pos h, if_pos rfl]
        · rw [decide_eq_false h, if_neg h, if_neg (by decide)]
      rw [em] at hD3
      refine ⟨_, D2, _, rfl, rfl, .inl (SqL.of hD3), ?_, ?_⟩
      · rw [sum_one, List.length_map, show ("" : Str).length = 0 from rfl, List.length_range]
        omega
      · rw [join_one]
        exact k' H3 e3
  intro H2 e2 hD2
  have er : (List.range (2 ^ m)).map (fun a => V.str ⟨((List.range (2 ^ m)).map fun b => sub1 a b).toArray⟩) = (cubeR m).map V.str := by
    rw [cubeR_eq]
    unfold cubeM rowsOf
    rw [List.map_map]
    rfl
  rw [er] at hD2
  exact accept (cube_board m5) (SqL.of hD2) fun b dx li H3 hb0 hli0 e4 hB => q1 m rfl (by omega) (by omega) b dx li H3 (e1.trans (e2.trans e4)) hB
end
end FF
/-! boards turned; boards that spread: the plain law -/
namespace FF
open PySem PySem.Spec PyProof.Rows L2
theorem cols_len (rs : List Str) : (cols rs).length = rs.length := by
  unfold cols
  rw [List.length_map, List.length_range]
theorem cols_get {rs : List Str} {x : Nat} (hx : x < rs.length) : (cols rs)[x]? = some (colS rs x) := by
  unfold cols
  rw [List.getElem?_map, List.getElem?_range hx] <;> rfl
theorem cols_sq {rs : List Str} (h : Sq rs) : Sq (cols rs) := by
  refine ⟨by rw [cols_len]; exact h.pos, by rw [cols_len]; exact h.le, fun r hr => ?_, fun r hr => ?_⟩
  · obtain ⟨j, hj, rfl⟩ := List.mem_map.mp hr
    rw [cols_len]
    show (rs.map fun r => (tl r).getD j 0).toArray.size = _
    rw [List.size_toArray, List.length_map]
  · obtain ⟨j, hj, rfl⟩ := List.mem_map.mp hr
    exact col_dig h (List.mem_range.mp hj)
theorem cols_bit {rs : List Str} (h : Sq rs) {x y : Nat} (hx : x < rs.length) (hy : y < rs.length) : bit (cols rs) x y = bit rs y x := by
  show (match (cols rs)[x]? with | some r => (tl r)[y]? == some 49 | none => false) = _
  rw [cols_get hx]
  show ((tl (colS rs x))[y]? == some 49) = _
  rw [col_get h hy hx]
  show ((rs[y]?).bind (fun r => (tl r)[x]?) == some 49) = (match rs[y]? with | some r => (tl r)[x]? == some 49 | none => false)
  rw [List.getElem?_eq_getElem hy] <;> rfl
theorem cols_cols {rs : List Str} (h : Sq rs) : cols (cols rs) = rs := by
  refine List.ext_getElem? fun x => ?_
  by_cases hx : x < rs.length
  · rw [cols_get (by rw [cols_len]; exact hx), List.getElem?_eq_getElem hx]
    refine congrArg some (TL.ext_tl ?_)
    show tl (colS (cols rs) x) = tl rs[x]
    have hl : (tl rs[x]).length = rs.length := by
      have := h.len _ (List.getElem_mem hx)
      exact this
    refine List.ext_getElem? fun y => ?_
    by_cases hy : y < rs.length
    · rw [col_get (cols_sq h) (by rw [cols_len]; exact hy) (by rw [cols_len]; exact hx), cols_get hy]
      show (tl (colS rs y))[x]? = _
      rw [col_get h hx hy, List.getElem?_eq_getElem hx] <;> rfl
    · rw [List.getElem?_eq_none_iff.mpr (show (tl rs[x]).length ≤ y by omega), List.getElem?_eq_none_iff.mpr ?_]
      show ((cols rs).map fun r => (tl r).getD x 0).toArray.toList.length ≤ y
      rw [List.toList_toArray, List.length_map, cols_len]
      omega
  · rw [List.getElem?_eq_none_iff.mpr (show rs.length ≤ x by omega), List.getElem?_eq_none_iff.mpr (by rw [cols_len, cols_len]; omega)]
theorem Ord.congr {n : Nat} {le le' : Nat → Nat → Bool} (o : Ord n le) (h : ∀ x y, x < n → y < n → le' x y = le x y) : Ord n le' :=
  ⟨fun x hx => by rw [h x x hx hx]; exact o.refl x hx, fun x y z hx hy hz h1 h2 => by
    rw [h x y hx hy] at h1
    rw [h y z hy hz] at h2
    rw [h x z hx hz]
    exact o.trans x y z hx hy hz h1 h2, fun x y hx hy h1 h2 => by
    rw [h x y hx hy] at h1
    rw [h y x hy hx] at h2
    exact o.anti x y hx hy h1 h2⟩
theorem Glb.congr {n : Nat} {le le' : Nat → Nat → Bool} (h : ∀ x y, x < n → y < n → le' x y = le x y) {x y : Nat} (hx : x < n) (hy : y < n) (g : Glb n le x y) : Glb n le' x y := by
  obtain ⟨z, hz, q⟩ := g
  refine ⟨z, hz, fun w hw => ?_⟩
  rw [h w z hw hz, h w x hw hx, h w y hw hy]
  exact q w hw
theorem cols_board {rs : List Str} (h : progBoard rs = true) : progBoard (cols rs) = true := by
  have L := lat_of h
  have sq := L.sq
  rw [board_alike] at h ⊢
  unfold lawBoard at h ⊢
  obtain ⟨h1, h⟩ := (Bool.and_eq_true _ _).mp h
  obtain ⟨h2, h3⟩ := (Bool.and_eq_true _ _).mp h
  obtain ⟨g1, g2⟩ := (bounds_iff L.ord).mp h3
  have cb : ∀ x y, x < rs.length → y < rs.length → bit (cols rs) x y = flip2 (bit rs) x y := fun x y hx hy => cols_bit sq hx hy
  have cf : ∀ x y, x < rs.length → y < rs.length → flip2 (bit (cols rs)) x y = bit rs x y := fun x y hx hy => cols_bit sq hy hx
  have o2 : Ord (cols rs).length (bit (cols rs)) := by
    rw [cols_len]
    exact L.ord.flip.congr cb
  rw [sq_iff.mpr (cols_sq sq), orderL_iff.mpr o2, (bounds_iff o2).mpr ?_] <;> try rfl
  rw [cols_len]
  exact ⟨fun x y hx hy => (g2 x y hx hy).congr cb hx hy, fun x y hx hy => (g1 x y hx hy).congr cf hx hy⟩
section
variable {rs : List Str} (L : Lat rs)
include L
theorem Lat.cols : Lat (cols rs) := lat_of (cols_board (by
  rw [board_alike]
  unfold lawBoard
  rw [sq_iff.mpr L.sq, orderL_iff.mpr L.ord, (bounds_iff L.ord).mpr ⟨fun x y hx hy => ⟨_, L.lo.glb x y hx hy⟩, fun x y hx hy => ⟨_, L.up.glb x y hx hy⟩⟩] <;> rfl))
theorem Lat.cols_low {x y : Nat} (hx : x < rs.length) (hy : y < rs.length) : lowN (FF.cols rs) x y = upN rs x y := by
  have L' := L.cols
  have e := cols_len rs
  have hx' : x < (FF.cols rs).length := by omega
  have hy' : y < (FF.cols rs).length := by omega
  have hl := L'.low_lt hx' hy'
  rw [e] at hl
  refine uniq L.ord.flip hl (L.up_lt hx hy) fun w hw => ?_
  show bit rs (lowN (FF.cols rs) x y) w = true ↔ bit rs (upN rs x y) w = true
  rw [L.up_iff hx hy hw, ← cols_bit L.sq hw hl, L'.low_iff hx' hy' (by omega), cols_bit L.sq hw hx, cols_bit L.sq hw hy]
theorem Lat.cols_up {x y : Nat} (hx : x < rs.length) (hy : y < rs.length) : upN (FF.cols rs) x y = lowN rs x y := by
  have L' := L.cols
  have e := cols_len rs
  have hx' : x < (FF.cols rs).length := by omega
  have hy' : y < (FF.cols rs).length := by omega
  have hl := L'.up_lt hx' hy'
  rw [e] at hl
  refine uniq L.ord hl (L.low_lt hx hy) fun w hw => ?_
  rw [L.low_iff hx hy hw, ← cols_bit L.sq hl hw, L'.up_iff hx' hy' (by omega), cols_bit L.sq hx hw, cols_bit L.sq hy hw]
theorem Lat.cols_bot : botN (FF.cols rs) = topN rs := by
  have L' := L.cols
  have e := cols_len rs
  have hb := L'.bot_lt
  rw [e] at hb
  refine L.ord.anti _ _ hb L.top_lt (L.top_ge hb) ?_
  rw [← cols_bit L.sq hb L.top_lt]
  exact L'.bot_le (by rw [e]; exact L.top_lt)
theorem Lat.cols_top : topN (FF.cols rs) = botN rs := by
  have L' := L.cols
  have e := cols_len rs
  have hb := L'.top_lt
  rw [e] at hb
  refine L.ord.anti _ _ hb L.bot_lt ?_ (L.bot_le hb)
  rw [← cols_bit L.sq L.bot_lt hb]
  exact L'.top_ge (by rw [e]; exact L.bot_lt)
end
/-! ### lattices on numbers -/
structure LA (n : Nat) (le : Nat → Nat → Bool) (lo up : Nat → Nat → Nat) : Prop where
  ord : Ord n le
  low : ∀ x y, x < n → y < n → lo x y < n ∧ ∀ w, w < n → (le w (lo x y) = true ↔ le w x = true ∧ le w y = true)
  upp : ∀ x y, x < n → y < n → up x y < n ∧ ∀ w, w < n → (le (up x y) w = true ↔ le x w = true ∧ le y w = true)
theorem LA.flip {n : Nat} {le : Nat → Nat → Bool} {lo up : Nat → Nat → Nat} (a : LA n le lo up) : LA n (flip2 le) up lo := ⟨a.ord.flip, a.upp, a.low⟩
theorem Lat.la {rs : List Str} (L : Lat rs) : LA rs.length (bit rs) (lowN rs) (upN rs) := ⟨L.ord, fun x y hx hy => ⟨L.low_lt hx hy, fun w hw => L.low_iff hx hy hw⟩, fun x y hx hy => ⟨L.up_lt hx hy, fun w hw => L.up_iff hx hy hw⟩⟩
def Spr (n : Nat) (lo up : Nat → Nat → Nat) : Prop := ∀ x y z, x < n → y < n → z < n → lo x (up y z) = up (lo x y) (lo x z)
section
variable {n : Nat} {le : Nat → Nat → Bool} {lo up : Nat → Nat → Nat} (a : LA n le lo up)
include a
theorem LA.up1 {x y : Nat} (hx : x < n) (hy : y < n) : le x (up x y) = true ∧ le y (up x y) = true := ((a.upp x y hx hy).2 _ (a.upp x y hx hy).1).mp (a.ord.refl _ (a.upp x y hx hy).1)
theorem LA.lo1 {x y : Nat} (hx : x < n) (hy : y < n) : le (lo x y) x = true ∧ le (lo x y) y = true := ((a.low x y hx hy).2 _ (a.low x y hx hy).1).mp (a.ord.refl _ (a.low x y hx hy).1)
theorem LA.comm {x y : Nat} (hx : x < n) (hy : y < n) : lo x y = lo y x := uniq a.ord (a.low x y hx hy).1 (a.low y x hy hx).1 fun w hw => by
  rw [(a.low x y hx hy).2 w hw, (a.low y x hy hx).2 w hw, And.comm]
theorem LA.absorb {x y : Nat} (hx : x < n) (hy : y < n) : lo (up x y) x = x := by
  have hu := (a.upp x y hx hy).1
  refine uniq a.ord (a.low _ _ hu hx).1 hx fun w hw => ?_
  rw [(a.low _ _ hu hx).2 w hw]
  exact ⟨And.right, fun h => ⟨a.ord.trans w x _ hw hx hu h (a.up1 hx hy).1, h⟩⟩
/-- one law gives the other -/
theorem LA.dual (d : Spr n lo up) : Spr n up lo := by
  intro x y z hx hy hz
  have lyz := (a.low y z hy hz).1
  have uxy := (a.upp x y hx hy).1
  have uxz := (a.upp x z hx hz).1
  have hL := (a.upp x (lo y z) hx lyz).1
  have hR := (a.low _ _ uxy uxz).1
  have lxz := (a.low x z hx hz).1
  have lzx := (a.low z x hz hx).1
  have lzy := (a.low z y hz hy).1
  refine a.ord.anti _ _ hL hR ?_ ?_
  · rw [(a.upp x _ hx lyz).2 _ hR, (a.low _ _ uxy uxz).2 x hx, (a.low _ _ uxy uxz).2 _ lyz]
    exact ⟨⟨(a.up1 hx hy).1, (a.up1 hx hz).1⟩, a.ord.trans _ y _ lyz hy uxy (a.lo1 hy hz).1 (a.up1 hx hy).2, a.ord.trans _ z _ lyz hz uxz (a.lo1 hy hz).2 (a.up1 hx hz).2⟩
  · rw [d _ x z uxy hx hz, a.absorb hx hy, a.comm uxy hz, d z x y hz hx hy]
    have luu := (a.upp _ _ lzx lzy).1
    rw [(a.upp x _ hx luu).2 _ hL, (a.upp _ _ lzx lzy).2 _ hL]
    refine ⟨(a.up1 hx lyz).1, a.ord.trans _ x _ lzx hx hL (a.lo1 hz hx).2 (a.up1 hx lyz).1, ?_⟩
    rw [a.comm hz hy]
    exact (a.up1 hx lyz).2
end
/-! ### spreading -/
def sprAt (rs : List Str) (x y z : Nat) : Bool := lowN rs x (upN rs y z) == upN rs (lowN rs x y) (lowN rs x z)
def spreadsB (rs : List Str) : Bool := (List.range rs.length).all fun x => (List.range rs.length).all fun y => (List.range rs.length).all fun z => sprAt rs x y z
theorem spr_iff {rs : List Str} : spreadsB rs = true ↔ Spr rs.length (lowN rs) (upN rs) := by
  unfold spreadsB
  rw [List.all_eq_true]
  constructor
  · intro h x y z hx hy hz
    exact beq_iff_eq.mp (List.all_eq_true.mp (List.all_eq_true.mp (h x (List.mem_range.mpr hx)) y (List.mem_range.mpr hy)) z (List.mem_range.mpr hz))
  · intro h x hx
    rw [List.all_eq_true]
    intro y hy
    rw [List.all_eq_true]
    intro z hz
    exact beq_iff_eq.mpr (h x y z (List.mem_range.mp hx) (List.mem_range.mp hy) (List.mem_range.mp hz))
theorem spr_false {rs : List Str} {x y z : Nat} (hx : x < rs.length) (hy : y < rs.length) (hz : z < rs.length) (h : lowN rs x (upN rs y z) ≠ upN rs (lowN rs x y) (lowN rs x z)) : spreadsB rs = false := by
  cases e : spreadsB rs with
  | false => rfl
  | true => exact absurd (spr_iff.mp e x y z hx hy hz) h
theorem spr_cols {rs : List Str} (L : Lat rs) : spreadsB (cols rs) = spreadsB rs := by
  have e := cols_len rs
  have key : Spr (cols rs).length (lowN (cols rs)) (upN (cols rs)) ↔ Spr rs.length (upN rs) (lowN rs) := by
    rw [e]
    constructor
    · intro h x y z hx hy hz
      have := h x y z hx hy hz
      rw [L.cols_up hy hz, L.cols_low hx (L.low_lt hy hz), L.cols_low hx hy, L.cols_low hx hz, L.cols_up (L.up_lt hx hy) (L.up_lt hx hz)] at this
      exact this
    · intro h x y z hx hy hz
      rw [L.cols_up hy hz, L.cols_low hx (L.low_lt hy hz), L.cols_low hx hy, L.cols_low hx hz, L.cols_up (L.up_lt hx hy) (L.up_lt hx hz)]
      exact h x y z hx hy hz
  rw [Bool.eq_iff_iff, spr_iff, spr_iff, key]
  exact ⟨fun h => L.la.flip.dual h, fun h => L.la.dual h⟩
/-! ### values -/
theorem foldl_congr_lt {f g : Nat → Nat → Nat} {n : Nat} (hf : ∀ a b, a < n → b < n → f a b < n) (h : ∀ a b, a < n → b < n → f a b = g a b) : ∀ (l : List Nat) (a : Nat), a < n → (∀ x ∈ l, x < n) → l.foldl f a = l.foldl g a
  | [], _, _, _ => rfl
  | x :: l, a, ha, hl => by
    have hx := hl x List.mem_cons_self
    rw [List.foldl_cons, List.foldl_cons, ← h a x ha hx]
    exact foldl_congr_lt hf h l _ (hf a x ha hx) fun y hy => hl y (List.mem_cons_of_mem _ hy)
/-! ### chains, cubes, fans -/
theorem low_is {rs : List Str} (L : Lat rs) {x y z : Nat} (hx : x < rs.length) (hy : y < rs.length) (hz : z < rs.length) (h : ∀ w, w < rs.length → (bit rs w z = true ↔ bit rs w x = true ∧ bit rs w y = true)) : lowN rs x y = z := uniq L.ord (L.low_lt hx hy) hz fun w hw => by rw [L.low_iff hx hy hw, h w hw]
theorem up_is {rs : List Str} (L : Lat rs) {x y z : Nat} (hx : x < rs.length) (hy : y < rs.length) (hz : z < rs.length) (h : ∀ w, w < rs.length → (bit rs z w = true ↔ bit rs x w = true ∧ bit rs y w = true)) : upN rs x y = z := uniq L.ord.flip (L.up_lt hx hy) hz fun w hw => by
  show bit rs (upN rs x y) w = true ↔ bit rs z w = true
  rw [L.up_iff hx hy hw, h w hw]
theorem chain_len' (n : Nat) : (chainR n).length = n := by
  unfold chainR
  rw [List.length_map, List.length_range]
theorem cube_len' (n : Nat) : (cubeR n).length = 2 ^ n := by
  unfold cubeR
  rw [List.length_map, List.length_range]
theorem fan_len' (n : Nat) : (fanR n).length = n + 2 := by
  unfold fanR
  rw [List.length_map, List.length_range]
theorem chain_bit {n x y : Nat} (hx : x < n) (hy : y < n) : bit (chainR n) x y = decide (x ≤ y) := by
  have hl : (chainM n).length = n := by unfold chainM; rw [List.length_map, List.length_range]
  rw [chainR_eq, bit_rowsOf (by omega) (by omega)]
  refine decide_eq_decide.mpr ?_
  have g : ∀ {i : Nat} (h : i < (chainM n).length), (chainM n)[i] = chM i := fun {i} h => Option.some.inj ((List.getElem?_eq_getElem h).symm.trans (by
    unfold chainM
    rw [List.getElem?_map, List.getElem?_range (by omega)] <;> rfl))
  rw [g, g]
  exact chM_sub x y
theorem cube_bit {n x y : Nat} (hx : x < 2 ^ n) (hy : y < 2 ^ n) : bit (cubeR n) x y = decide (x &&& y = x) := by
  have hl : (cubeM n).length = 2 ^ n := by unfold cubeM; rw [List.length_range]
  rw [cubeR_eq, bit_rowsOf (by omega) (by omega)]
  have g : ∀ {i : Nat} (h : i < (cubeM n).length), (cubeM n)[i] = i := fun {i} h => Option.some.inj ((List.getElem?_eq_getElem h).symm.trans (by
    unfold cubeM
    rw [List.getElem?_range (by omega)]))
  rw [g, g]
theorem chain_spr {n : Nat} (h1 : 1 ≤ n) (h2 : n ≤ 60) : spreadsB (chainR n) = true := by
  have L := lat_of (chain_board h1 h2)
  have e := chain_len' n
  have lo : ∀ {x y : Nat}, x < n → y < n → lowN (chainR n) x y = min x y := fun {x y} hx hy => low_is L (by omega) (by omega) (by omega) fun w hw => by
    rw [chain_bit (by omega) (by omega), chain_bit (by omega) (by omega), chain_bit (by omega) (by omega), decide_eq_true_eq, decide_eq_true_eq, decide_eq_true_eq]
    omega
  have up : ∀ {x y : Nat}, x < n → y < n → upN (chainR n) x y = max x y := fun {x y} hx hy => up_is L (by omega) (by omega) (by omega) fun w hw => by
    rw [chain_bit (by omega) (by omega), chain_bit (by omega) (by omega), chain_bit (by omega) (by omega), decide_eq_true_eq, decide_eq_true_eq, decide_eq_true_eq]
    omega
  refine spr_iff.mpr fun x y z hx hy hz => ?_
  rw [e] at hx hy hz
  rw [up hy hz, lo hx (by omega), lo hx hy, lo hx hz, up (by omega) (by omega)]
  omega
theorem sub_tb {a b : Nat} : a &&& b = a ↔ ∀ k, a.testBit k = true → b.testBit k = true := by
  constructor
  · intro h k hk
    have := congrArg (fun u => Nat.testBit u k) h
    simp only [Nat.testBit_and] at this
    rw [hk, Bool.true_and] at this
    exact this
  · intro h
    refine Nat.eq_of_testBit_eq fun k => ?_
    rw [Nat.testBit_and]
    cases e : a.testBit k with
    | false => rfl
    | true => rw [h k e] <;> rfl
theorem cube_spr {n : Nat} (h2 : n ≤ 5) : spreadsB (cubeR n) = true := by
  have L := lat_of (cube_board h2)
  have e := cube_len' n
  have lo : ∀ {x y : Nat}, x < 2 ^ n → y < 2 ^ n → lowN (cubeR n) x y = x &&& y := fun {x y} hx hy => low_is L (by omega) (by omega) (by rw [e]; exact Nat.and_lt_two_pow x hy) fun w hw => by
    rw [e] at hw
    rw [cube_bit hw (Nat.and_lt_two_pow x hy), cube_bit hw hx, cube_bit hw hy, decide_eq_true_eq, decide_eq_true_eq, decide_eq_true_eq, sub_tb, sub_tb, sub_tb]
    simp only [Nat.testBit_and, Bool.and_eq_true]
    exact ⟨fun h => ⟨fun k hk => (h k hk).1, fun k hk => (h k hk).2⟩, fun h k hk => ⟨h.1 k hk, h.2 k hk⟩⟩
  have up : ∀ {x y : Nat}, x < 2 ^ n → y < 2 ^ n → upN (cubeR n) x y = x ||| y := fun {x y} hx hy => up_is L (by omega) (by omega) (by rw [e]; exact Nat.or_lt_two_pow hx hy) fun w hw => by
    rw [e] at hw
    rw [cube_bit (Nat.or_lt_two_pow hx hy) hw, cube_bit hx hw, cube_bit hy hw, decide_eq_true_eq, decide_eq_true_eq, decide_eq_true_eq, sub_tb, sub_tb, sub_tb]
    simp only [Nat.testBit_or, Bool.or_eq_true]
    exact ⟨fun h => ⟨fun k hk => h k (.inl hk), fun k hk => h k (.inr hk)⟩, fun h k hk => hk.elim (h.1 k) (h.2 k)⟩
  refine spr_iff.mpr fun x y z hx hy hz => ?_
  rw [e] at hx hy hz
  rw [up hy hz, lo hx (Nat.or_lt_two_pow hy hz), lo hx hy, lo hx hz, up (Nat.and_lt_two_pow x hy) (Nat.and_lt_two_pow x hz)]
  exact Nat.and_or_distrib_left _ _ _
theorem fan_spr : ∀ n, 1 ≤ n → n ≤ 6 → spreadsB (fanR n) = decide (n + 2 < 5) := by
  have s13 : fanR 1 = chainR 3 := by decide +kernel
  have s22 : fanR 2 = cubeR 2 := by decide +kernel
  have no : ∀ m, m < 4 → (3 + m + 2 = (fanR (3 + m)).length ∧ sprAt (fanR (3 + m)) 1 2 3 = false) := by decide +kernel
  intro n h1 h6
  by_cases a : n = 1
  · subst a
    rw [s13, chain_spr (by decide) (by decide)] <;> rfl
  by_cases b : n = 2
  · subst b
    rw [s22, cube_spr (by decide)] <;> rfl
  obtain ⟨m, rfl, hm⟩ : ∃ m, n = 3 + m ∧ m < 4 := ⟨n - 3, by omega, by omega⟩
  obtain ⟨hl, hs⟩ := no m hm
  rw [spr_false (x := 1) (y := 2) (z := 3) (by omega) (by omega) (by omega) (fun z => by
    unfold sprAt at hs
    rw [z] at hs
    simp at hs), decide_eq_false (by omega)]
end FF
/-! Board.turned, Board.spreads, _law_spreads -/
namespace FF
open PySem PySem.Spec PyProof.Rows L2
def spTurnB (K : PySem.W.Frag) : Sp := fun vs H Q _ => ∃ (b dx li : Addr) (rs : List Str), vs = [.ref b] ∧ BoardAt K H b dx li rs ∧ ∀ b2 dx2 li2 H', Same H H' → BoardAt K H' b2 dx2 li2 (cols rs) → Q (.ref b2) H'
def spSpr (K : PySem.W.Frag) : Sp := fun vs H Q _ => ∃ (b dx li : Addr) (rs : List Str), vs = [.ref b] ∧ BoardAt K H b dx li rs ∧ ∀ H', Same H H' → Q (.bl (spreadsB rs)) H'
def spSprL (K : PySem.W.Frag) : Sp := fun vs H Q _ => ∃ (t lo up : Addr) (rs : List Str), vs = [.ref t] ∧ H t = some (.tup [.ref lo, .ref up]) ∧ Lat rs ∧ TabAt H lo (tabT (below rs)) ∧ TabAt H up (tabT (above rs)) ∧ ∀ H', Same H H' → Q (.bl (spreadsB rs)) H'
theorem all_spr {rs : List Str} {x : Nat} (h : ∀ x' < x, ∀ y < rs.length, ∀ z < rs.length, sprAt rs x' y z = true) (h2 : ∀ y < rs.length, ∀ z < rs.length, sprAt rs x y z = true) : ∀ x' < x + 1, ∀ y < rs.length, ∀ z < rs.length, sprAt rs x' y z = true := fun x' hx' => by
  by_cases e : x' = x
  · subst e; exact h2
  · exact h x' (by omega)
theorem spr_true {rs : List Str} (h : ∀ x < rs.length, ∀ y < rs.length, ∀ z < rs.length, sprAt rs x y z = true) : spreadsB rs = true := spr_iff.mpr fun x y z hx hy hz => beq_iff_eq.mp (h x hx y hy z hz)
section
variable {P : Program} {w : World} {K : PySem.W.Frag} {mg : Str → Option Value} {base : Heap}
theorem ok_spr {fd : FuncData} (F : FunD K "spreads" "Board.spreads" (defArgs s_Board_spreads) (defBody s_Board_spreads) (defScope s_Board_spreads) [] [] (He.ma K (He.ga K "Board") "spreads") fd) (T : Top K mg) : MethD P w K mg base "Board" "spreads" 1 ["self"] (spSpr K) := by
  refine methd_mk F (F.bindsN fun _ _ _ _ _ _ us hl => match us, hl with | [_], _ => rfl) T.k_Board T.m_Board_spreads sc_Board_spreads (fun vs H Q E h => ?_) (fun cdv A outer s0 H vs Q E hr h => ?_)
  · obtain ⟨b, dx, li, rs, rfl, _⟩ := h
    rfl
  obtain ⟨b, dx, li, rs, rfl, ⟨good, lo, up, hb, t1, t2, hli⟩, q⟩ := h
  have L := lat_of good
  have n60 := L.sq.le
  refine ⟨_, (pss_cons (ps_set (i := 1) sc_Board_spreads.nd rfl (Or.inl rfl) (pe_listRg rfl (by rfl) T.b_list (prg_1 (by rfl) T.b_range (pe_callB (call_lenK K) (by rfl) T.b_len (by decide +kernel) (pa_cons (pe_fld (pv 0) rfl) pa_nil)))))
  (pss_cons (ps_for PassesOwn.never rfl (pi_listK K (pv 1)) (pg_name (i := 2) sc_Board_spreads.nd rfl (Or.inl rfl) (.inl rfl))
  (pss_one (ps_for PassesOwn.never rfl (pi_listK K (pv 1)) (pg_name (i := 3) sc_Board_spreads.nd rfl (Or.inl rfl) (.inl rfl))
  (pss_one (ps_for PassesOwn.never rfl (pi_listK K (pv 1)) (pg_name (i := 4) sc_Board_spreads.nd rfl (Or.inl rfl) (.inl rfl))
  (pss_cons (ps_set (i := 5) sc_Board_spreads.nd rfl (Or.inl rfl) (pe_ix (ix_listK K) (pe_ix (ix_listK K) (pe_fld (pv 0) rfl) (pv 2) (fun _ _ => rfl)) (pe_ix (ix_listK K) (pe_ix (ix_listK K) (pe_fld (pv 0) rfl) (pv 3) (fun _ _ => rfl)) (pv 4) (fun _ _ => rfl)) (fun _ _ => rfl)))
  (pss_one (ps_if (pt_cmpR op_ne (pv 5) (pe_ix (ix_listK K) (pe_ix (ix_listK K) (pe_fld (pv 0) rfl) (pe_ix (ix_listK K) (pe_ix (ix_listK K) (pe_fld (pv 0) rfl) (pv 2) (fun _ _ => rfl)) (pv 3) (fun _ _ => rfl)) (fun _ _ => rfl)) (pe_ix (ix_listK K) (pe_ix (ix_listK K) (pe_fld (pv 0) rfl) (pv 2) (fun _ _ => rfl)) (pv 4) (fun _ _ => rfl)) (fun _ _ => rfl)) (nomark _))
  (pss_one (ps_ret pe_bl))
  pss_nil))))))))
  (pss_one (ps_ret pe_bl)))), ?_⟩
  refine ⟨_, rfl, b, _, dx, _, _, rfl, hb, T.k_Board, T.n_Board_lines, rfl, .ref li, rs.length, rfl, .inl ⟨_, SqL.of hli, (List.length_map _).symm⟩, _, rfl, RgOk.of_le (by omega) (by omega) (by omega) (by omega), fun p hp => ?_⟩
  have e1 := same_new hp (.lst (rgV 0 (rs.length : Int)))
  have hp1 : (upd H p (.lst (rgV 0 (rs.length : Int)))) p = some (.lst ((List.range rs.length).map nV)) := by rw [upd_same, rgV_nat]
  generalize upd H p (.lst (rgV 0 (rs.length : Int))) = H1 at e1 hp1 ⊢
  have hb := e1 _ _ hb
  have t1 := t1.up e1
  have t2 := t2.up e1
  have q := q H1 e1
  clear e1 hp hli
  have it : ∀ {i : Nat} {x : V}, ((List.range rs.length).map nV)[i]? = some x → i < rs.length ∧ x = nV i := fun {i x} h => by
    obtain ⟨y, hy, rfl⟩ := map_get h
    have hi := (List.getElem?_eq_some_iff.mp hy).1
    rw [List.length_range] at hi
    rw [List.getElem?_range hi] at hy
    cases hy
    exact ⟨hi, rfl⟩
  have len : ((List.range rs.length).map nV).length = rs.length := by rw [List.length_map, List.length_range]
  refine ⟨_, rfl, p, rfl, ⟨_, SqL.of hp1⟩, ?_⟩
  refine for_list (xs := (List.range rs.length).map nV) (fun i σ H' => (∃ o2 o3 o4 o5, σ = [some (.ref b), some (.ref p), o2, o3, o4, o5]) ∧ H' = H1 ∧ ∀ x < i, ∀ y < rs.length, ∀ z < rs.length, sprAt rs x y z = true)
    ⟨⟨_, _, _, _, rfl⟩, rfl, fun x hx => absurd hx (Nat.not_lt_zero _)⟩ (fun i σ H' _ ⟨_, e, _⟩ => e ▸ SqL.of hp1) ?_ ?_
  · rintro x v σ H2 hx ⟨⟨o2, o3, o4, o5, rfl⟩, rfl, hok⟩
    obtain ⟨kx, ex⟩ := it hx
    clear hx
    subst ex
    have hx := kx
    refine ⟨_, rfl, p, rfl, ⟨_, SqL.of hp1⟩, ?_⟩
    refine for_list (xs := (List.range rs.length).map nV) (fun i σ H' => (∃ o3 o4 o5, σ = [some (.ref b), some (.ref p), some (nV x), o3, o4, o5]) ∧ H' = H2 ∧ ∀ y < i, ∀ z < rs.length, sprAt rs x y z = true)
      ⟨⟨_, _, _, rfl⟩, rfl, fun x hx => absurd hx (Nat.not_lt_zero _)⟩ (fun i σ H' _ ⟨_, e, _⟩ => e ▸ SqL.of hp1) ?_ ?_
    · rintro y v σ H3 hy ⟨⟨o3, o4, o5, rfl⟩, rfl, hok2⟩
      obtain ⟨ky, ey⟩ := it hy
      clear hy
      subst ey
      have hy := ky
      refine ⟨_, rfl, p, rfl, ⟨_, SqL.of hp1⟩, ?_⟩
      refine for_list (xs := (List.range rs.length).map nV) (fun i σ H' => (∃ o4 o5, σ = [some (.ref b), some (.ref p), some (nV x), some (nV y), o4, o5]) ∧ H' = H3 ∧ ∀ z < i, sprAt rs x y z = true)
        ⟨⟨_, _, rfl⟩, rfl, fun x hx => absurd hx (Nat.not_lt_zero _)⟩ (fun i σ H' _ ⟨_, e, _⟩ => e ▸ SqL.of hp1) ?_ ?_
      · rintro z v σ H4 hz ⟨⟨o4, o5, rfl⟩, rfl, hok3⟩
        obtain ⟨kz, ez⟩ := it hz
        clear hz
        subst ez
        have hz := kz
        have hyz := L.up_lt hy hz
        have hxy := L.low_lt hx hy
        have hxz := L.low_lt hx hz
        refine ⟨_, rfl, b, _, dx, _, _, rfl, hb, T.k_Board, T.n_Board_lows, rfl, _, rfl, ix_row t1 L.lo.ok hx fun r1 h1 => ?_⟩
        refine ⟨_, rfl, b, _, dx, _, _, rfl, hb, T.k_Board, T.n_Board_ups, rfl, _, rfl, ix_row t2 L.up.ok hy fun r2 h2 => ⟨_, rfl, ix_ent h2 (Nat.lt_of_lt_of_eq hz (L.up.ok.rlen hy).symm) (ix_ent h1 (Nat.lt_of_lt_of_eq hyz (L.lo.ok.rlen hx).symm) ?_)⟩⟩
        refine ⟨_, rfl, _, rfl, b, _, dx, _, _, rfl, hb, T.k_Board, T.n_Board_ups, rfl, _, rfl, b, _, dx, _, _, rfl, hb, T.k_Board, T.n_Board_lows, rfl, _, rfl, ix_row t1 L.lo.ok hx fun r3 h3 => ⟨_, rfl, ix_ent h3 (Nat.lt_of_lt_of_eq hy (L.lo.ok.rlen hx).symm) (ix_row t2 L.up.ok hxy fun r4 h4 => ?_)⟩⟩
        refine ⟨_, rfl, b, _, dx, _, _, rfl, hb, T.k_Board, T.n_Board_lows, rfl, _, rfl, ix_row t1 L.lo.ok hx fun r5 h5 => ⟨_, rfl, ix_ent h5 (Nat.lt_of_lt_of_eq hz (L.lo.ok.rlen hx).symm) (ix_ent h4 (Nat.lt_of_lt_of_eq hxz (L.up.ok.rlen hxy).symm) ?_)⟩⟩
        refine ⟨rfl, _, rfl, ?_⟩
        refine if_nb (fun h => ?_) (fun h => ?_)
        · rw [spr_false hx hy hz (fun e => (of_decide_eq_false h) (congrArg nV e))] at q
          exact q
        · refine ⟨⟨_, _, rfl⟩, rfl, fun z' hz' => ?_⟩
          by_cases e : z' = z
          · subst e
            exact beq_iff_eq.mpr (nV_inj _ _ (of_decide_eq_true h))
          · exact hok3 z' (by omega)
      · rintro σ H4 ⟨⟨o4, o5, rfl⟩, rfl, hok3⟩
        rw [len] at hok3
        exact ⟨⟨_, _, _, rfl⟩, rfl, fun y' hy' => by
          by_cases e : y' = y
          · subst e; exact hok3
          · exact hok2 y' (by omega)⟩
    · rintro σ H3 ⟨⟨o3, o4, o5, rfl⟩, rfl, hok2⟩
      rw [len] at hok2
      exact ⟨⟨_, _, _, _, rfl⟩, rfl, all_spr hok hok2⟩
  · rintro σ H2 ⟨⟨o2, o3, o4, o5, rfl⟩, rfl, hok⟩
    rw [len] at hok
    rw [spr_true hok] at q
    exact q
theorem ok_sprL {f : Addr} {fd : FuncData} (F : FunD K "_law_spreads" "_law_spreads" (defArgs s_law_spreads) (defBody s_law_spreads) (defScope s_law_spreads) [] [] f fd) (hm : mg "_law_spreads" = some (.ref f)) (T : Top K mg) : Def P w K mg base "_law_spreads" 1 ["_law_tables_here"] (spSprL K) := by
  refine def_mk F hm (F.bindsN fun _ _ _ _ _ _ us hl => match us, hl with | [_], _ => rfl) sc_law_spreads (fun vs H Q E h => ?_) (fun cdv A outer s0 H vs Q E hr h => ?_)
  · obtain ⟨t, lo, up, rs, rfl, _⟩ := h
    rfl
  obtain ⟨t, lo, up, rs, rfl, ht, L, t1, t2, q⟩ := h
  have n60 := L.sq.le
  refine ⟨_, (pss_cons (ps_asg (pv 0) (pg_tupK K (n := 2) rfl (pgs_cons (pg_name (i := 1) sc_law_spreads.nd rfl (Or.inl rfl) (.inl rfl)) (pgs_cons (pg_name (i := 2) sc_law_spreads.nd rfl (Or.inl rfl) (.inl rfl)) pgs_nil))))
  (pss_cons (ps_set (i := 3) sc_law_spreads.nd rfl (Or.inl rfl) (pe_listRg rfl (by rfl) T.b_list (prg_1 (by rfl) T.b_range (pe_callB (call_lenK K) (by rfl) T.b_len (by decide +kernel) (pa_cons (pv 1) pa_nil)))))
  (pss_cons (ps_for PassesOwn.never rfl (pi_listK K (pv 3)) (pg_name (i := 4) sc_law_spreads.nd rfl (Or.inl rfl) (.inl rfl))
  (pss_one (ps_for PassesOwn.never rfl (pi_listK K (pv 3)) (pg_name (i := 5) sc_law_spreads.nd rfl (Or.inl rfl) (.inl rfl))
  (pss_one (ps_for PassesOwn.never rfl (pi_listK K (pv 3)) (pg_name (i := 6) sc_law_spreads.nd rfl (Or.inl rfl) (.inl rfl))
  (pss_cons (ps_set (i := 7) sc_law_spreads.nd rfl (Or.inl rfl) (pe_ix (ix_listK K) (pe_ix (ix_listK K) (pv 2) (pe_ix (ix_listK K) (pe_ix (ix_listK K) (pv 1) (pv 4) (fun _ _ => rfl)) (pv 5) (fun _ _ => rfl)) (fun _ _ => rfl)) (pe_ix (ix_listK K) (pe_ix (ix_listK K) (pv 1) (pv 4) (fun _ _ => rfl)) (pv 6) (fun _ _ => rfl)) (fun _ _ => rfl)))
  (pss_one (ps_if (pt_cmpR op_ne (pe_ix (ix_listK K) (pe_ix (ix_listK K) (pv 1) (pv 4) (fun _ _ => rfl)) (pe_ix (ix_listK K) (pe_ix (ix_listK K) (pv 2) (pv 5) (fun _ _ => rfl)) (pv 6) (fun _ _ => rfl)) (fun _ _ => rfl)) (pv 7) (nomark _))
  (pss_one (ps_ret pe_bl))
  pss_nil))))))))
  (pss_one (ps_ret pe_bl))))), ?_⟩
  obtain ⟨ts, hlo, htl, _⟩ := id t1
  refine ⟨_, rfl, t, _, rfl, SqT.of ht, rfl, _, _, rfl, _, _, rfl, rfl, ?_⟩
  have tl : ts.length = rs.length := htl.trans L.lo.ok.len
  refine ⟨_, rfl, .ref lo, rs.length, rfl, .inl ⟨_, SqL.of hlo, by rw [List.length_map, tl]⟩, _, rfl, RgOk.of_le (by omega) (by omega) (by omega) (by omega), fun p hp => ?_⟩
  have e1 := same_new hp (.lst (rgV 0 (rs.length : Int)))
  have hp1 : (upd H p (.lst (rgV 0 (rs.length : Int)))) p = some (.lst ((List.range rs.length).map nV)) := by rw [upd_same, rgV_nat]
  generalize upd H p (.lst (rgV 0 (rs.length : Int))) = H1 at e1 hp1 ⊢
  have t1 := t1.up e1
  have t2 := t2.up e1
  have q := q H1 e1
  clear e1 hp hlo ht
  have it : ∀ {i : Nat} {x : V}, ((List.range rs.length).map nV)[i]? = some x → i < rs.length ∧ x = nV i := fun {i x} h => by
    obtain ⟨y, hy, rfl⟩ := map_get h
    have hi := (List.getElem?_eq_some_iff.mp hy).1
    rw [List.length_range] at hi
    rw [List.getElem?_range hi] at hy
    cases hy
    exact ⟨hi, rfl⟩
  have len : ((List.range rs.length).map nV).length = rs.length := by rw [List.length_map, List.length_range]
  refine ⟨_, rfl, p, rfl, ⟨_, SqL.of hp1⟩, ?_⟩
  refine for_list (xs := (List.range rs.length).map nV) (fun i σ H' => (∃ o2 o3 o4 o5, σ = [some (.ref t), some (.ref lo), some (.ref up), some (.ref p), o2, o3, o4, o5]) ∧ H' = H1 ∧ ∀ x < i, ∀ y < rs.length, ∀ z < rs.length, sprAt rs x y z = true)
    ⟨⟨_, _, _, _, rfl⟩, rfl, fun x hx => absurd hx (Nat.not_lt_zero _)⟩ (fun i σ H' _ ⟨_, e, _⟩ => e ▸ SqL.of hp1) ?_ ?_
  · rintro x v σ H2 hx ⟨⟨o2, o3, o4, o5, rfl⟩, rfl, hok⟩
    obtain ⟨kx, ex⟩ := it hx
    clear hx
    subst ex
    have hx := kx
    refine ⟨_, rfl, p, rfl, ⟨_, SqL.of hp1⟩, ?_⟩
    refine for_list (xs := (List.range rs.length).map nV) (fun i σ H' => (∃ o3 o4 o5, σ = [some (.ref t), some (.ref lo), some (.ref up), some (.ref p), some (nV x), o3, o4, o5]) ∧ H' = H2 ∧ ∀ y < i, ∀ z < rs.length, sprAt rs x y z = true)
      ⟨⟨_, _, _, rfl⟩, rfl, fun x hx => absurd hx (Nat.not_lt_zero _)⟩ (fun i σ H' _ ⟨_, e, _⟩ => e ▸ SqL.of hp1) ?_ ?_
    · rintro y v σ H3 hy ⟨⟨o3, o4, o5, rfl⟩, rfl, hok2⟩
      obtain ⟨ky, ey⟩ := it hy
      clear hy
      subst ey
      have hy := ky
      refine ⟨_, rfl, p, rfl, ⟨_, SqL.of hp1⟩, ?_⟩
      refine for_list (xs := (List.range rs.length).map nV) (fun i σ H' => (∃ o4 o5, σ = [some (.ref t), some (.ref lo), some (.ref up), some (.ref p), some (nV x), some (nV y), o4, o5]) ∧ H' = H3 ∧ ∀ z < i, sprAt rs x y z = true)
        ⟨⟨_, _, rfl⟩, rfl, fun x hx => absurd hx (Nat.not_lt_zero _)⟩ (fun i σ H' _ ⟨_, e, _⟩ => e ▸ SqL.of hp1) ?_ ?_
      · rintro z v σ H4 hz ⟨⟨o4, o5, rfl⟩, rfl, hok3⟩
        obtain ⟨kz, ez⟩ := it hz
        clear hz
        subst ez
        have hz := kz
        have hyz := L.up_lt hy hz
        have hxy := L.low_lt hx hy
        have hxz := L.low_lt hx hz
        refine ⟨_, rfl, _, rfl, _, rfl, ix_row t1 L.lo.ok hx fun r1 h1 => ⟨_, rfl, ix_ent h1 (Nat.lt_of_lt_of_eq hy (L.lo.ok.rlen hx).symm) (ix_row t2 L.up.ok hxy fun r2 h2 => ?_)⟩⟩
        refine ⟨_, rfl, _, rfl, ix_row t1 L.lo.ok hx fun r3 h3 => ⟨_, rfl, ix_ent h3 (Nat.lt_of_lt_of_eq hz (L.lo.ok.rlen hx).symm) (ix_ent h2 (Nat.lt_of_lt_of_eq hxz (L.up.ok.rlen hxy).symm) ?_)⟩⟩
        refine ⟨_, rfl, _, rfl, ix_row t1 L.lo.ok hx fun r4 h4 => ⟨_, rfl, _, rfl, ix_row t2 L.up.ok hy fun r5 h5 => ⟨_, rfl, ix_ent h5 (Nat.lt_of_lt_of_eq hz (L.up.ok.rlen hy).symm) (ix_ent h4 (Nat.lt_of_lt_of_eq hyz (L.lo.ok.rlen hx).symm) ?_)⟩⟩⟩
        refine ⟨_, rfl, rfl, _, rfl, ?_⟩
        refine if_nb (fun h => ?_) (fun h => ?_)
        · rw [spr_false hx hy hz (fun e => (of_decide_eq_false h) (congrArg nV e))] at q
          exact q
        · refine ⟨⟨_, _, rfl⟩, rfl, fun z' hz' => ?_⟩
          by_cases e : z' = z
          · subst e
            exact beq_iff_eq.mpr (nV_inj _ _ (of_decide_eq_true h))
          · exact hok3 z' (by omega)
      · rintro σ H4 ⟨⟨o4, o5, rfl⟩, rfl, hok3⟩
        rw [len] at hok3
        exact ⟨⟨_, _, _, rfl⟩, rfl, fun y' hy' => by
          by_cases e : y' = y
          · subst e; exact hok3
          · exact hok2 y' (by omega)⟩
    · rintro σ H3 ⟨⟨o3, o4, o5, rfl⟩, rfl, hok2⟩
      rw [len] at hok2
      exact ⟨⟨_, _, _, _, rfl⟩, rfl, all_spr hok hok2⟩
  · rintro σ H2 ⟨⟨o2, o3, o4, o5, rfl⟩, rfl, hok⟩
    rw [len] at hok
    rw [spr_true hok] at q
    exact q
end
end FF
/-! products of boards: the plain law -/
namespace FF
open PySem PySem.Spec PyProof.Rows L2
def prodR (rs ts : List Str) : List Str := (List.range (rs.length * ts.length)).map fun i => digRow (rs.length * ts.length) fun j => bit rs (i / ts.length) (j / ts.length) && bit ts (i % ts.length) (j % ts.length)
theorem prod_len (rs ts : List Str) : (prodR rs ts).length = rs.length * ts.length := by
  unfold prodR
  rw [List.length_map, List.length_range]
theorem dig_len (n : Nat) (p : Nat → Bool) : (digRow n p).length = n := by
  show ((List.range n).map fun y => if p y = true then 49 else 48).toArray.size = n
  rw [List.size_toArray, List.length_map, List.length_range]
theorem dig_bits (n : Nat) (p : Nat → Bool) : Bits (tl (digRow n p)) := fun c hc => by
  have hc : c ∈ ((List.range n).map fun y => if p y = true then 49 else 48).toArray.toList := hc
  rw [List.toList_toArray] at hc
  obtain ⟨y, _, rfl⟩ := List.mem_map.mp hc
  split
  · exact .inr rfl
  · exact .inl rfl
theorem prod_bit {rs ts : List Str} {i j : Nat} (hi : i < rs.length * ts.length) (hj : j < rs.length * ts.length) : bit (prodR rs ts) i j = (bit rs (i / ts.length) (j / ts.length) && bit ts (i % ts.length) (j % ts.length)) := by
  have hr : (prodR rs ts)[i]? = some (digRow (rs.length * ts.length) fun j => bit rs (i / ts.length) (j / ts.length) && bit ts (i % ts.length) (j % ts.length)) := by
    unfold prodR
    rw [List.getElem?_map, List.getElem?_range hi] <;> rfl
  show (match (prodR rs ts)[i]? with | some r => (tl r)[j]? == some 49 | none => false) = _
  rw [hr]
  show ((((List.range (rs.length * ts.length)).map fun y => if (bit rs (i / ts.length) (y / ts.length) && bit ts (i % ts.length) (y % ts.length)) = true then 49 else 48).toArray.toList)[j]? == some 49) = _
  rw [List.toList_toArray, List.getElem?_map, List.getElem?_range hj, Option.map_some]
  generalize (bit rs (i / ts.length) (j / ts.length) && bit ts (i % ts.length) (j % ts.length)) = q
  cases q <;> rfl
theorem prod_sq {rs ts : List Str} (h1 : 1 ≤ rs.length) (h2 : 1 ≤ ts.length) (h : rs.length * ts.length ≤ 60) : Sq (prodR rs ts) := by
  refine ⟨by rw [prod_len]; exact Nat.mul_pos h1 h2, by rw [prod_len]; exact h, fun r hr => ?_, fun r hr => ?_⟩
  · obtain ⟨i, _, rfl⟩ := List.mem_map.mp hr
    rw [dig_len, prod_len]
  · obtain ⟨i, _, rfl⟩ := List.mem_map.mp hr
    exact dig_bits _ _
section
variable {rs ts : List Str}
theorem div_lt' {i n m : Nat} (h : i < n * m) : i / m < n := Nat.div_lt_of_lt_mul (by rw [Nat.mul_comm]; exact h)
theorem mod_lt' {i n m : Nat} (h : i < n * m) : i % m < m := Nat.mod_lt _ (Nat.pos_of_ne_zero fun z => by subst z; omega)
theorem pair_lt {a b n m : Nat} (ha : a < n) (hb : b < m) : a * m + b < n * m := by
  have : (a + 1) * m ≤ n * m := Nat.mul_le_mul_right _ ha
  rw [Nat.succ_mul] at this
  omega
theorem pair_div {a b m : Nat} (hb : b < m) : (a * m + b) / m = a := by
  rw [Nat.mul_comm, Nat.mul_add_div (by omega), Nat.div_eq_of_lt hb, Nat.add_zero]
theorem pair_mod {a b m : Nat} (hb : b < m) : (a * m + b) % m = b := by
  rw [Nat.mul_comm, Nat.mul_add_mod, Nat.mod_eq_of_lt hb]
theorem pair_eq (i m : Nat) : i / m * m + i % m = i := by
  rw [Nat.mul_comm]
  exact Nat.div_add_mod i m
/-- by parts -/
def byP (m : Nat) (f g : Nat → Nat → Nat) (i j : Nat) : Nat := f (i / m) (j / m) * m + g (i % m) (j % m)
variable (L : Lat rs) (M : Lat ts) (h60 : rs.length * ts.length ≤ 60)
include L M h60
theorem prod_ord : Ord (rs.length * ts.length) (bit (prodR rs ts)) := by
  refine ⟨fun i hi => ?_, fun i j k hi hj hk a b => ?_, fun i j hi hj a b => ?_⟩
  · rw [prod_bit hi hi, L.ord.refl _ (div_lt' hi), M.ord.refl _ (mod_lt' hi)] <;> rfl
  · rw [prod_bit hi hj] at a
    rw [prod_bit hj hk] at b
    rw [prod_bit hi hk]
    obtain ⟨a1, a2⟩ := Bool.and_eq_true_iff.mp a
    obtain ⟨b1, b2⟩ := Bool.and_eq_true_iff.mp b
    rw [L.ord.trans _ _ _ (div_lt' hi) (div_lt' hj) (div_lt' hk) a1 b1, M.ord.trans _ _ _ (mod_lt' hi) (mod_lt' hj) (mod_lt' hk) a2 b2] <;> rfl
  · rw [prod_bit hi hj] at a
    rw [prod_bit hj hi] at b
    obtain ⟨a1, a2⟩ := Bool.and_eq_true_iff.mp a
    obtain ⟨b1, b2⟩ := Bool.and_eq_true_iff.mp b
    have e1 := L.ord.anti _ _ (div_lt' hi) (div_lt' hj) a1 b1
    have e2 := M.ord.anti _ _ (mod_lt' hi) (mod_lt' hj) a2 b2
    rw [← pair_eq i ts.length, ← pair_eq j ts.length, e1, e2]
theorem prod_low {i j : Nat} (hi : i < rs.length * ts.length) (hj : j < rs.length * ts.length) : byP ts.length (lowN rs) (lowN ts) i j < rs.length * ts.length ∧ ∀ w, w < rs.length * ts.length → (bit (prodR rs ts) w (byP ts.length (lowN rs) (lowN ts) i j) = true ↔ bit (prodR rs ts) w i = true ∧ bit (prodR rs ts) w j = true) := by
  have a := L.low_lt (div_lt' hi) (div_lt' hj)
  have b := M.low_lt (mod_lt' hi) (mod_lt' hj)
  have hz := pair_lt a b
  refine ⟨hz, fun w hw => ?_⟩
  unfold byP
  rw [prod_bit hw hz, prod_bit hw hi, prod_bit hw hj, pair_div b, pair_mod b, Bool.and_eq_true_iff, Bool.and_eq_true_iff, Bool.and_eq_true_iff, L.low_iff (div_lt' hi) (div_lt' hj) (div_lt' hw), M.low_iff (mod_lt' hi) (mod_lt' hj) (mod_lt' hw)]
  constructor
  · rintro ⟨⟨h1, h2⟩, h3, h4⟩; exact ⟨⟨h1, h3⟩, h2, h4⟩
  · rintro ⟨⟨h1, h2⟩, h3, h4⟩; exact ⟨⟨h1, h3⟩, h2, h4⟩
theorem prod_up {i j : Nat} (hi : i < rs.length * ts.length) (hj : j < rs.length * ts.length) : byP ts.length (upN rs) (upN ts) i j < rs.length * ts.length ∧ ∀ w, w < rs.length * ts.length → (bit (prodR rs ts) (byP ts.length (upN rs) (upN ts) i j) w = true ↔ bit (prodR rs ts) i w = true ∧ bit (prodR rs ts) j w = true) := by
  have a := L.up_lt (div_lt' hi) (div_lt' hj)
  have b := M.up_lt (mod_lt' hi) (mod_lt' hj)
  have hz := pair_lt a b
  refine ⟨hz, fun w hw => ?_⟩
  unfold byP
  rw [prod_bit hz hw, prod_bit hi hw, prod_bit hj hw, pair_div b, pair_mod b, Bool.and_eq_true_iff, Bool.and_eq_true_iff, Bool.and_eq_true_iff, L.up_iff (div_lt' hi) (div_lt' hj) (div_lt' hw), M.up_iff (mod_lt' hi) (mod_lt' hj) (mod_lt' hw)]
  constructor
  · rintro ⟨⟨h1, h2⟩, h3, h4⟩; exact ⟨⟨h1, h3⟩, h2, h4⟩
  · rintro ⟨⟨h1, h2⟩, h3, h4⟩; exact ⟨⟨h1, h3⟩, h2, h4⟩
theorem prod_board : progBoard (prodR rs ts) = true := by
  have sq := prod_sq L.sq.pos M.sq.pos h60
  have e := prod_len rs ts
  have o2 : Ord (prodR rs ts).length (bit (prodR rs ts)) := by
    rw [e]
    exact prod_ord L M h60
  rw [board_alike]
  unfold lawBoard
  rw [sq_iff.mpr sq, orderL_iff.mpr o2, (bounds_iff o2).mpr ?_] <;> try rfl
  rw [e]
  exact ⟨fun i j hi hj => ⟨_, prod_low L M h60 hi hj⟩, fun i j hi hj => ⟨_, prod_up L M h60 hi hj⟩⟩
theorem prodLow {i j : Nat} (hi : i < rs.length * ts.length) (hj : j < rs.length * ts.length) : lowN (prodR rs ts) i j = byP ts.length (lowN rs) (lowN ts) i j := by
  have P := lat_of (prod_board L M h60)
  have e := prod_len rs ts
  obtain ⟨h1, h2⟩ := prod_low L M h60 hi hj
  exact low_is P (by omega) (by omega) (by omega) fun w hw => h2 w (by omega)
theorem prodUp {i j : Nat} (hi : i < rs.length * ts.length) (hj : j < rs.length * ts.length) : upN (prodR rs ts) i j = byP ts.length (upN rs) (upN ts) i j := by
  have P := lat_of (prod_board L M h60)
  have e := prod_len rs ts
  obtain ⟨h1, h2⟩ := prod_up L M h60 hi hj
  exact up_is P (by omega) (by omega) (by omega) fun w hw => h2 w (by omega)
theorem byP_div {f g : Nat → Nat → Nat} {i j : Nat} (hg : g (i % ts.length) (j % ts.length) < ts.length) : byP ts.length f g i j / ts.length = f (i / ts.length) (j / ts.length) ∧ byP ts.length f g i j % ts.length = g (i % ts.length) (j % ts.length) := ⟨pair_div hg, pair_mod hg⟩
theorem spr_prod : spreadsB (prodR rs ts) = (spreadsB rs && spreadsB ts) := by
  have e := prod_len rs ts
  have pl := @prodLow rs ts L M h60
  have pu := @prodUp rs ts L M h60
  have ll : ∀ {i j}, i < rs.length * ts.length → j < rs.length * ts.length → byP ts.length (lowN rs) (lowN ts) i j < rs.length * ts.length := fun hi hj => (prod_low L M h60 hi hj).1
  have uu : ∀ {i j}, i < rs.length * ts.length → j < rs.length * ts.length → byP ts.length (upN rs) (upN ts) i j < rs.length * ts.length := fun hi hj => (prod_up L M h60 hi hj).1
  have key : ∀ {i j k}, i < rs.length * ts.length → j < rs.length * ts.length → k < rs.length * ts.length → (lowN (prodR rs ts) i (upN (prodR rs ts) j k) = upN (prodR rs ts) (lowN (prodR rs ts) i j) (lowN (prodR rs ts) i k) ↔
      (lowN rs (i / ts.length) (upN rs (j / ts.length) (k / ts.length)) = upN rs (lowN rs (i / ts.length) (j / ts.length)) (lowN rs (i / ts.length) (k / ts.length)) ∧ lowN ts (i % ts.length) (upN ts (j % ts.length) (k % ts.length)) = upN ts (lowN ts (i % ts.length) (j % ts.length)) (lowN ts (i % ts.length) (k % ts.length)))) := fun {i j k} hi hj hk => by
    have mjk := M.up_lt (mod_lt' hj) (mod_lt' hk)
    have mij := M.low_lt (mod_lt' hi) (mod_lt' hj)
    have mik := M.low_lt (mod_lt' hi) (mod_lt' hk)
    rw [pu hj hk, pl hi (uu hj hk), pl hi hj, pl hi hk, pu (ll hi hj) (ll hi hk)]
    have d1 := byP_div L M h60 (f := upN rs) (g := upN ts) (i := j) (j := k) mjk
    have d2 := byP_div L M h60 (f := lowN rs) (g := lowN ts) (i := i) (j := j) mij
    have d3 := byP_div L M h60 (f := lowN rs) (g := lowN ts) (i := i) (j := k) mik
    generalize byP ts.length (upN rs) (upN ts) j k = u at d1 ⊢
    generalize byP ts.length (lowN rs) (lowN ts) i j = v at d2 ⊢
    generalize byP ts.length (lowN rs) (lowN ts) i k = x at d3 ⊢
    unfold byP
    rw [d1.1, d1.2, d2.1, d2.2, d3.1, d3.2]
    have g1 := M.low_lt (mod_lt' hi) mjk
    have g2 := M.up_lt mij mik
    constructor
    · intro h
      have h1 := congrArg (· / ts.length) h
      have h2 := congrArg (· % ts.length) h
      simp only [pair_div g1, pair_div g2, pair_mod g1, pair_mod g2] at h1 h2
      exact ⟨h1, h2⟩
    · rintro ⟨h1, h2⟩
      rw [h1, h2]
  have p1 := L.sq.pos
  have p2 := M.sq.pos
  rw [Bool.eq_iff_iff, Bool.and_eq_true_iff, spr_iff, spr_iff, spr_iff]
  constructor
  · intro h
    constructor
    · intro x y z hx hy hz
      have := (key (pair_lt hx p2) (pair_lt hy p2) (pair_lt hz p2)).mp (h _ _ _ (by rw [e]; exact pair_lt hx p2) (by rw [e]; exact pair_lt hy p2) (by rw [e]; exact pair_lt hz p2))
      have := this.1
      rw [pair_div p2, pair_div p2, pair_div p2] at this
      exact this
    · intro x y z hx hy hz
      have := (key (pair_lt p1 hx) (pair_lt p1 hy) (pair_lt p1 hz)).mp (h _ _ _ (by rw [e]; exact pair_lt p1 hx) (by rw [e]; exact pair_lt p1 hy) (by rw [e]; exact pair_lt p1 hz))
      have := this.2
      rw [pair_mod hx, pair_mod hy, pair_mod hz] at this
      exact this
  · rintro ⟨h1, h2⟩ x y z hx hy hz
    rw [e] at hx hy hz
    exact (key hx hy hz).mpr ⟨h1 _ _ _ (div_lt' hx) (div_lt' hy) (div_lt' hz), h2 _ _ _ (mod_lt' hx) (mod_lt' hy) (mod_lt' hz)⟩
theorem foldP {f : Nat → Nat → Nat} {f1 f2 : Nat → Nat → Nat} (hf : ∀ i j, i < rs.length * ts.length → j < rs.length * ts.length → f i j = byP ts.length f1 f2 i j) (h1 : ∀ a b, a < rs.length → b < rs.length → f1 a b < rs.length) (h2 : ∀ a b, a < ts.length → b < ts.length → f2 a b < ts.length) :
    ∀ (l : List Nat) (i : Nat), i < rs.length * ts.length → (∀ x ∈ l, x < rs.length * ts.length) → l.foldl f i < rs.length * ts.length ∧ l.foldl f i / ts.length = (l.map (· / ts.length)).foldl f1 (i / ts.length) ∧ l.foldl f i % ts.length = (l.map (· % ts.length)).foldl f2 (i % ts.length)
  | [], _, hi, _ => ⟨hi, rfl, rfl⟩
  | x :: l, i, hi, hl => by
    have hx := hl x List.mem_cons_self
    have b := h2 _ _ (mod_lt' hi) (mod_lt' hx)
    have e := hf i x hi hx
    have hn : f i x < rs.length * ts.length := by
      rw [e]
      exact pair_lt (h1 _ _ (div_lt' hi) (div_lt' hx)) b
    obtain ⟨r1, r2, r3⟩ := foldP hf h1 h2 l (f i x) hn fun y hy => hl y (List.mem_cons_of_mem _ hy)
    refine ⟨r1, ?_, ?_⟩
    · rw [List.foldl_cons, r2, List.map_cons, List.foldl_cons, e]
      unfold byP
      rw [pair_div b]
    · rw [List.foldl_cons, r3, List.map_cons, List.foldl_cons, e]
      unfold byP
      rw [pair_mod b]
end
end FF
/-! Board.product -/
namespace FF
open PySem PySem.Spec PyProof.Rows L2
def tmE (K : PySem.W.Frag) (H : Hp) (E : XK) : Prop := ∀ dd H', Same H H' → H' dd = some (.xd [("limit", .int 60), ("code", .str "TooManyPlaces")]) → E (.ref (He.ga K "TooManyPlaces")) (some dd) H'
def spProd (K : PySem.W.Frag) : Sp := fun vs H Q E => ∃ (b dx li c dy lj : Addr) (rs ts : List Str), vs = [.ref b, .ref c] ∧ BoardAt K H b dx li rs ∧ BoardAt K H c dy lj ts ∧
  (rs.length * ts.length ≤ 60 → ∀ b3 dx3 li3 H', Same H H' → BoardAt K H' b3 dx3 li3 (prodR rs ts) → Q (.ref b3) H') ∧ (¬ rs.length * ts.length ≤ 60 → tmE K H E)
theorem one_is {c d : Nat} (hc : c = 48 ∨ c = 49) (hd : d = 48 ∨ d = 49) : (decide (V.str ⟨#[c]⟩ = V.str ⟨#[d]⟩) = true ∧ decide (V.str ⟨#[d]⟩ = V.str ("1" : Str)) = true) ↔ (c = 49 ∧ d = 49) := by
  have e1 : ("1" : Str) = ⟨#[49]⟩ := by decide +kernel
  rw [decide_eq_true_eq, decide_eq_true_eq, e1]
  constructor
  · rintro ⟨h1, h2⟩
    have h1 := V.str.inj h1
    have h2 := V.str.inj h2
    have h2 : d = 49 := by
      have := congrArg (fun z : Str => z.cps.toList) h2
      simpa using this
    have h1 : c = d := by
      have := congrArg (fun z : Str => z.cps.toList) h1
      simpa using this
    exact ⟨h1.trans h2, h2⟩
  · rintro ⟨rfl, rfl⟩
    exact ⟨rfl, rfl⟩
theorem mul_ok {a b : Nat} (ha : a ≤ 60) (hb : b ≤ 60) : CMul (a : Int) (b : Int) := by
  have e : (2 : Int) ^ 64 = 18446744073709551616 := by decide
  exact .inl ⟨by rw [e]; omega, by rw [e]; omega⟩
theorem yes_intro {σ : L2.St} {H : Hp} {f : Bool → Hp → Prop} (h : f true H) : tYes σ H f := h
theorem bit_at {rs : List Str} {a i : Nat} {r : Str} (h : rs[a]? = some r) : bit rs a i = ((tl r)[i]? == some 49) := by
  show (match rs[a]? with | some r => (tl r)[i]? == some 49 | none => false) = _
  rw [h]
section
variable {P : Program} {w : World} {K : PySem.W.Frag} {mg : Str → Option Value} {base : Heap}
theorem fn_prod {fd : FuncData} (F : FunD K "product" "Board.product" (defArgs s_Board_product) (defBody s_Board_product) (defScope s_Board_product) [] [] (He.ma K (He.ga K "Board") "product") fd) (T : Top K mg)
    (M_Board : MakeX P w K mg base "Board" 4 ["self", "rows"] (spBoard K)) (x_TooManyPlaces : RaiseD1 P w K mg base "TooManyPlaces" "FaultError" 2 "TooManyPlaces" "limit") : FnOk P w K mg base (L2.CX P w) 6 (He.ma K (He.ga K "Board") "product") fd ["self", "other"] (spProd K) := by
  refine FunD.ok F sc_Board_product (fun vs H Q E h => ?_) (fun cdv A outer s0 H vs Q E hr h => ?_)
  · obtain ⟨b, dx, li, c, dy, lj, rs, ts, rfl, _⟩ := h
    rfl
  obtain ⟨b, dx, li, c, dy, lj, rs, ts, rfl, ⟨g1, lo1, up1, hb, _, _, hli⟩, ⟨g2, lo2, up2, hc, _, _, hlj⟩, q1, q2⟩ := h
  have tk : Takes (cxOf (L2.CX P w) P w K mg base ["self", "other", "pairs", "one", "two", "x", "y"] "Board.product" (defScope s_Board_product) (He.ma K (He.ga K "Board") "product") cdv A outer s0 H E) (fun cls d _ H => E cls d H) := takes_of rfl rfl rfl rfl
  have L := lat_of g1
  have M := lat_of g2
  have a60 := L.sq.le
  have b60 := M.sq.le
  have big : rs.length * ts.length ≤ 3600 := Nat.mul_le_mul a60 b60
  have er : ((rs.length : Nat) : Int) * ((ts.length : Nat) : Int) = ((rs.length * ts.length : Nat) : Int) := (Int.natCast_mul _ _).symm
  refine ⟨_, (pss_cons (ps_if (pt_cmpR op_gt (pe_op op_mul (pe_callB (call_lenK K) (by rfl) T.b_len (by decide +kernel) (pa_cons (pe_fld (pv 0) rfl) pa_nil)) (pe_callB (call_lenK K) (by rfl) T.b_len (by decide +kernel) (pa_cons (pe_fld (pv 1) rfl) pa_nil))) pe_int (nomark _))
  (pss_one (ps_raise rfl tk (pmk_raise1 x_TooManyPlaces hr (by first | decide | omega) (pa_cons pe_int pa_nil) (mono := by intro σ H Q Q' h q; first | exact h _ _ q | exact (let ⟨v, e, q⟩ := q; ⟨v, e, h _ _ q⟩) | exact (let ⟨v, e, x, n, e2, h2, q⟩ := q; ⟨v, e, x, n, e2, h2, h _ _ q⟩) | exact (let ⟨v, e, a, b, c, d, e1, e2, h1, h2, q⟩ := q; ⟨v, e, a, b, c, d, e1, e2, h1, h2, h _ _ q⟩)))))
  pss_nil)
  (pss_cons (ps_setLc2 (i := 2) (own := [("one", 3), ("two", 4)]) (vs1 := [4]) rfl sc_Board_product.nd rfl rfl (sw_true rfl rfl rfl (by kernel_rfl)) (pi_listK K (pe_fld (pv 0) rfl)) (blkOk_by (by kernel_rfl)) (by decide) (fun _ _ _ _ _ => (pg_name (i := 3) sc_Board_product.nd rfl (Or.inl rfl) (.inr rfl))) (fun _ _ _ _ _ => pts_nil) (fun _ _ _ _ _ => (pi_listK K (pe_fldK K (pv 1) rfl))) (fun _ _ _ _ _ => (pg_name (i := 4) sc_Board_product.nd rfl (Or.inl rfl) (.inr rfl))) (fun _ _ _ _ _ => pts_nil) (fun _ _ _ _ _ => (pe_tup (pa_cons (pv 3) (pa_cons (pv 4) pa_nil)))))
  (pss_one (ps_ret (pe_mkxK K (E := E) M_Board tk (fun _ _ _ _ h => h) hr (by first | decide | omega) (pa_cons (pe_lc (own := [("one", 3), ("two", 4)]) rfl sc_Board_product.nd (pi_listK K (pv 2)) (blkOk_by (by kernel_rfl)) (fun _ _ _ _ _ => (pg_tupK K (n := 2) rfl (pgs_cons (pg_name (i := 3) sc_Board_product.nd rfl (Or.inl rfl) (.inr rfl)) (pgs_cons (pg_name (i := 4) sc_Board_product.nd rfl (Or.inr rfl) (.inl rfl)) pgs_nil)))) (fun _ _ _ _ _ => pts_nil) (fun _ _ _ _ _ => (pe_joinK K pe_str (pe_lc2 (own := [("x", 5), ("y", 6)]) (vs1 := [6]) rfl sc_Board_product.nd (pi_str (pv 3)) (blkOk_by (by kernel_rfl)) (by decide) (fun _ _ _ _ _ => (pg_name (i := 5) sc_Board_product.nd rfl (Or.inl rfl) (.inr rfl))) (fun _ _ _ _ _ => pts_nil) (fun _ _ _ _ _ => (pi_str (pv 4))) (fun _ _ _ _ _ => (pg_name (i := 6) sc_Board_product.nd rfl (Or.inl rfl) (.inr rfl))) (fun _ _ _ _ _ => pts_nil) (fun _ _ _ _ _ => (pe_ifExp (pt_chain op_eq op_eq (pv 5) (pv 6) pe_str) pe_str pe_str)))))) pa_nil)))))), ?_⟩
  refine ⟨_, rfl, b, _, dx, _, _, rfl, hb, T.k_Board, T.n_Board_lines, rfl, .ref li, rs.length, rfl, .inl ⟨_, SqL.of hli, (List.length_map _).symm⟩, _, rfl, c, _, dy, _, _, rfl, hc, T.k_Board, T.n_Board_lines, rfl, .ref lj, ts.length, rfl, .inl ⟨_, SqL.of hlj, (List.length_map _).symm⟩, _, _, rfl, rfl, mul_ok a60 b60, _, _, rfl, rfl, _, rfl, ?_⟩
  refine if_dec (fun h1 => ?_) (fun h1 => ?_)
  · exact ⟨_, rfl, fun dd H2 e2 hd => q2 (by rw [er] at h1; omega) dd H2 e2 hd⟩
  have h60 : rs.length * ts.length ≤ 60 := by rw [er] at h1; omega
  have q1 := q1 h60
  clear q2 h1
  have sr : ∀ {a : Nat} {r : Str}, rs[a]? = some r → r.cps.size = rs.length := fun h => L.sq.len _ (List.mem_of_getElem? h)
  have st : ∀ {a : Nat} {r : Str}, ts[a]? = some r → r.cps.size = ts.length := fun h => M.sq.len _ (List.mem_of_getElem? h)
  refine ⟨_, rfl, b, _, dx, _, _, rfl, hb, T.k_Board, T.n_Board_lines, rfl, li, rfl, ⟨_, SqL.of hli⟩, fun D hD => ?_⟩
  refine lc2_map (n := (rs.map V.str).length) (n1 := (ts.map V.str).length) (jo := 3) (ji := 4) (Po := fun i x => (rs.map V.str)[i]? = some x) (P1 := fun j y => (ts.map V.str)[j]? = some y)
    (fun m y H' => ∃ (t : Addr) (r1 r2 : Str), rs[m / ts.length]? = some r1 ∧ ts[m % ts.length]? = some r2 ∧ y = .ref t ∧ H' t = some (.tup [.str r1, .str r2])) (fun m y _ _ e ⟨t, r1, r2, h1, h2, h3, h4⟩ => ⟨t, r1, r2, h1, h2, h3, e _ _ h4⟩) (walkL_same (SqL.of hli)) hD
    (le_line (by rw [List.length_map, List.length_map]; omega)) (fun _ => rfl) (fun _ _ => rfl) ?_ ?_ ?_
  · intro i x H2 G hi hx e2 k
    exact ⟨_, rfl, c, _, dy, _, _, rfl, e2 _ _ hc, T.k_Board, T.n_Board_lines, rfl, lj, rfl, ⟨_, SqL.of (e2 _ _ hlj)⟩, k _ H2 (Same.refl _) (walkL_same (SqL.of hlj))⟩
  · intro i x j y H2 hi hx hj hy e2 Q' k
    obtain ⟨r1, hr1, rfl⟩ := map_get hx
    obtain ⟨r2, hr2, rfl⟩ := map_get hy
    rw [List.length_map] at hj k
    exact ⟨_, rfl, _, rfl, (by show 2 ≤ sizeLine; decide), fun t ht => k _ _ (same_new ht _) ⟨t, r1, r2, by rw [pair_div hj]; exact hr1, by rw [pair_mod hj]; exact hr2, rfl, upd_same⟩⟩
  intro H2 ps e2 hD2 hpl hps
  rw [List.length_map, List.length_map] at hpl
  refine ⟨_, rfl, D, rfl, ⟨_, SqL.of hD2⟩, fun D2 hD2n => ?_⟩
  let rowOf : Nat → Str := fun i => digRow (rs.length * ts.length) fun j => bit rs (i / ts.length) (j / ts.length) && bit ts (i % ts.length) (j % ts.length)
  have n1 := M.sq.pos
  refine lc_list (xs := ps) (fun i H' => Same H2 H' ∧ H' D2 = some (.lst ((List.range i).map fun i => V.str (rowOf i)))) ⟨same_new hD2n _, upd_same⟩ (fun i H' _ p => SqL.of (p.1 _ _ hD2)) ?_ ?_
  · rintro i x H3 hx ⟨e3, h3⟩
    obtain ⟨t, r1, r2, hr1, hr2, rfl, ht⟩ := hps i x hx
    have hi : i < rs.length * ts.length := by
      have := (List.getElem?_eq_some_iff.mp hx).1
      omega
    refine ⟨t, _, rfl, SqT.of (e3 _ _ ht), rfl, _, _, rfl, _, _, rfl, rfl, rfl, ?_⟩
    refine yes_intro ?_
    rw [if_pos rfl]
    refine ⟨⟨_, rfl⟩, _, rfl, r1, rfl, fun D3 hD3 => ?_⟩
    refine lc2_map (n := r1.cps.size) (n1 := r2.cps.size) (jo := 5) (ji := 6) (Po := fun i x => ∃ c, r1.cps[i]? = some c ∧ x = .str ⟨#[c]⟩) (P1 := fun j y => ∃ c, r2.cps[j]? = some c ∧ y = .str ⟨#[c]⟩)
      (fun m y _ => y = .str ⟨#[if (bit rs (i / ts.length) (m / ts.length) && bit ts (i % ts.length) (m % ts.length)) = true then 49 else 48]⟩) ?_ ?_ hD3 ?_ ?_ ?_ ?_ ?_ ?_
    · exact fun _ _ _ _ _ h => h
    · exact Walk.mono walk_str (fun _ _ => trivial) (fun _ _ _ _ _ _ y => y)
    · exact le_line (by rw [sr hr1, st hr2]; omega)
    · exact fun _ => rfl
    · exact fun _ _ => rfl
    · intro i x H4 G hi hx e4 k
      exact ⟨_, rfl, r2, rfl, k _ H4 (Same.refl _) (Walk.mono walk_str (fun _ _ => trivial) (fun _ _ _ _ _ _ y => y))⟩
    · rintro j x k y H4 hj ⟨c, hc1, rfl⟩ hk ⟨d, hd1, rfl⟩ e4 Q' kk
      rw [st hr2] at hk kk
      have b1 : bit rs (i / ts.length) j = (c == 49) := by
        rw [bit_at hr1]
        show (r1.cps.toList[j]? == some 49) = _
        rw [Array.getElem?_toList, hc1] <;> rfl
      have b2 : bit ts (i % ts.length) k = (d == 49) := by
        rw [bit_at hr2]
        show (r2.cps.toList[k]? == some 49) = _
        rw [Array.getElem?_toList, hd1] <;> rfl
      have hc2 : c = 48 ∨ c = 49 := L.sq.dig r1 (List.mem_of_getElem? hr1) c (by
        show c ∈ r1.cps.toList
        exact List.mem_of_getElem? (i := j) (by rw [Array.getElem?_toList]; exact hc1))
      have hd2 : d = 48 ∨ d = 49 := M.sq.dig r2 (List.mem_of_getElem? hr2) d (by
        show d ∈ r2.cps.toList
        exact List.mem_of_getElem? (i := k) (by rw [Array.getElem?_toList]; exact hd1))
      have key := one_is hc2 hd2
      have fin := fun y h => kk y H4 (Same.refl _) h
      rw [pair_div hk, pair_mod hk, b1, b2] at fin
      have e1 : ("1" : Str) = ⟨#[49]⟩ := by decide +kernel
      have e0 : ("0" : Str) = ⟨#[48]⟩ := by decide +kernel
      have no : ¬ (c = 49 ∧ d = 49) → Q' (.str ("0" : Str)) H4 := fun h => fin _ (by
        have : (c == 49 && d == 49) = false := by
          rw [Bool.eq_false_iff]
          intro z
          obtain ⟨z1, z2⟩ := Bool.and_eq_true_iff.mp z
          exact h ⟨beq_iff_eq.mp z1, beq_iff_eq.mp z2⟩
        rw [this, e0] <;> rfl)
      refine ⟨_, rfl, _, rfl, rfl, _, rfl, ?_⟩
      refine if_b (fun h1 => ⟨rfl, _, rfl, ?_⟩) (fun h1 => ⟨_, rfl, iteF (no fun z => absurd ((key.mpr z).1.symm.trans h1) (by decide))⟩)
      refine if_b (fun h2 => ?_) (fun h2 => no fun z => absurd ((key.mpr z).2.symm.trans h2) (by decide))
      obtain ⟨z1, z2⟩ := key.mp ⟨h1, h2⟩
      refine fin _ ?_
      rw [z1, z2, e1] <;> rfl
    · intro H4 ys e4 hD4 hyl hy
      rw [sr hr1, st hr2] at hyl
      have hys : ys = ((List.range (rs.length * ts.length)).map fun m => (⟨#[if (bit rs (i / ts.length) (m / ts.length) && bit ts (i % ts.length) (m % ts.length)) = true then 49 else 48]⟩ : Str)).map V.str := by
        refine eq_map_of (by rw [hyl, List.length_map, List.length_range]) fun m y h => ?_
        have hm := (List.getElem?_eq_some_iff.mp h).1
        exact ⟨_, by rw [List.getElem?_map, List.getElem?_range (by omega)] <;> rfl, hy m y h⟩
      subst hys
      refine ⟨_, D3, _, rfl, rfl, .inl (SqL.of hD4), ?_, ?_⟩
      · rw [sum_one, List.length_map, show ("" : Str).length = 0 from rfl, List.length_range]
        omega
      · rw [join_one]
        refine ⟨_, e4 _ _ h3, ?_, same_at hD2n (e3.trans e4), ?_⟩
        · rw [List.length_map, List.length_range]
          exact Nat.lt_of_lt_of_le (show i < 20000 by omega) (le_line (Nat.le_refl _))
        · rw [upd_same, List.range_succ, List.map_append] <;> rfl
  · rintro H3 ⟨e3, h3⟩
    have h3 : H3 D2 = some (.lst ((prodR rs ts).map V.str)) := by
      rw [h3, hpl]
      unfold prodR
      rw [List.map_map] <;> rfl
    exact accept (prod_board L M h60) (SqL.of h3) fun b3 dx3 li3 H4 _ _ e4 hB => q1 b3 dx3 li3 H4 (e2.trans (e3.trans e4)) hB
theorem ok_prod {fd : FuncData} (F : FunD K "product" "Board.product" (defArgs s_Board_product) (defBody s_Board_product) (defScope s_Board_product) [] [] (He.ma K (He.ga K "Board") "product") fd) (T : Top K mg)
    (M_Board : MakeX P w K mg base "Board" 4 ["self", "rows"] (spBoard K)) (x_TooManyPlaces : RaiseD1 P w K mg base "TooManyPlaces" "FaultError" 2 "TooManyPlaces" "limit") : MethX P w K mg base "Board" "product" 6 ["self", "other"] (spProd K) :=
  ⟨⟨fd, fn_prod F T M_Board x_TooManyPlaces, F.bindsN fun _ _ _ _ _ _ us hl => match us, hl with | [_, _], _ => rfl⟩, T.k_Board, T.m_Board_product⟩
end
end FF
/-! faults: the plain law -/
namespace FF
open PySem PySem.Spec PyProof.Rows L2
theorem sub_len : ∀ (ks l : List Int), ks.Nodup → (∀ k ∈ ks, k ∈ l) → ks.length ≤ l.length
  | [], _, _, _ => Nat.zero_le _
  | k :: ks, l, nd, h => by
    have nd' := List.nodup_cons.mp nd
    have hk := h k List.mem_cons_self
    have h1 := sub_len ks (l.erase k) nd'.2 fun j hj => (List.mem_erase_of_ne (fun z : j = k => nd'.1 (z ▸ hj))).mpr (h j (List.mem_cons_of_mem _ hj))
    rw [List.length_erase_of_mem hk] at h1
    have h2 := List.length_pos_of_mem hk
    rw [List.length_cons]
    omega
theorem sub_lt : ∀ (l ks : List Int), ks.Nodup → (∀ k ∈ ks, k ∈ l) → ¬ l.Nodup → ks.length < l.length
  | [], _, _, _, h => absurd List.nodup_nil h
  | x :: t, ks, nd, h, hn => by
    rw [List.length_cons]
    by_cases hx : x ∈ t
    · have := sub_len ks t nd fun k hk => (List.mem_cons.mp (h k hk)).elim (fun e => e ▸ hx) id
      omega
    · have ht : ¬ t.Nodup := fun z => hn (List.nodup_cons.mpr ⟨hx, z⟩)
      have h1 := sub_lt t (ks.erase x) (nd.erase x) (fun k hk => by
        have hk2 := (nd.mem_erase_iff).mp hk
        exact (List.mem_cons.mp (h k hk2.2)).elim (fun e => absurd e hk2.1) id) ht
      by_cases hk : x ∈ ks
      · rw [List.length_erase_of_mem hk] at h1
        omega
      · rw [List.erase_of_not_mem hk] at h1
        omega
/-- so many different numbers -/
def HasN (l : List Int) (n : Nat) : Prop := ∃ ks : List Int, ks.Nodup ∧ (∀ k, k ∈ ks ↔ k ∈ l) ∧ ks.length = n
theorem HasN.le {l : List Int} {n : Nat} (h : HasN l n) : n ≤ l.length := by
  obtain ⟨ks, nd, hm, rfl⟩ := h
  exact sub_len ks l nd fun k hk => (hm k).mp hk
theorem HasN.full {l : List Int} {n : Nat} (h : HasN l n) : n = l.length ↔ l.Nodup := by
  have hle := h.le
  obtain ⟨ks, nd, hm, rfl⟩ := h
  constructor
  · intro e
    by_cases hl : l.Nodup
    · exact hl
    · have := sub_lt l ks nd (fun k hk => (hm k).mp hk) hl
      omega
  · intro hl
    have := sub_len l ks hl fun k hk => (hm k).mpr hk
    omega
theorem HasN.nil : HasN [] 0 := ⟨[], List.nodup_nil, fun _ => Iff.rfl, rfl⟩
theorem HasN.snoc {l : List Int} {n : Nat} {x : Int} (h : HasN l n) : HasN (l ++ [x]) (if decide (x ∈ l) = true then n else n + 1) := by
  obtain ⟨ks, nd, hm, rfl⟩ := h
  by_cases hx : x ∈ l
  · rw [decide_eq_true hx, if_pos rfl]
    refine ⟨ks, nd, fun k => ?_, rfl⟩
    rw [hm k, List.mem_append, List.mem_singleton]
    exact ⟨.inl, fun z => z.elim id fun e => e ▸ hx⟩
  · rw [decide_eq_false hx, if_neg (by decide)]
    refine ⟨x :: ks, List.nodup_cons.mpr ⟨fun z => hx ((hm x).mp z), nd⟩, fun k => ?_, rfl⟩
    rw [List.mem_cons, hm k, List.mem_append, List.mem_singleton, Or.comm]
/-! ### five places -/
def intD : PyData → Int
  | .int i => i
  | _ => 0
def five (n : Nat) (ds : List PyData) : Bool := decide (ds.length = 5) && (ds.all (isPlaceD n) && decide (ds.map intD).Nodup)
theorem place_get {n : Nat} {d : PyData} (h : isPlaceD n d = true) : ∃ x : Nat, d = .int x ∧ x < n := by
  cases d with
  | int i =>
    have h : (decide (0 ≤ i) && decide (i < n)) = true := h
    obtain ⟨a, b⟩ := (Bool.and_eq_true _ _).mp h
    have a := of_decide_eq_true a
    have b := of_decide_eq_true b
    exact ⟨i.toNat, by rw [Int.toNat_of_nonneg a], by omega⟩
  | _ => cases h
theorem places_get {n : Nat} : ∀ {ds : List PyData}, ds.all (isPlaceD n) = true → ∃ xs : List Nat, ds = xs.map (fun x : Nat => PyData.int x) ∧ ∀ x ∈ xs, x < n
  | [], _ => ⟨[], rfl, fun x hx => by cases hx⟩
  | d :: ds, h => by
    rw [List.all_cons, Bool.and_eq_true] at h
    obtain ⟨x, rfl, hx⟩ := place_get h.1
    obtain ⟨xs, rfl, hxs⟩ := places_get h.2
    exact ⟨x :: xs, rfl, fun y hy => (List.mem_cons.mp hy).elim (fun e => e ▸ hx) (hxs y)⟩
theorem five_get {n : Nat} {ds : List PyData} (h : five n ds = true) : ∃ a x y z g : Nat, ds = [.int a, .int x, .int y, .int z, .int g] ∧ a < n ∧ x < n ∧ y < n ∧ z < n ∧ g < n := by
  unfold five at h
  rw [Bool.and_eq_true, Bool.and_eq_true] at h
  obtain ⟨h1, h2, _⟩ := h
  have h1 := of_decide_eq_true h1
  obtain ⟨xs, rfl, hxs⟩ := places_get h2
  rw [List.length_map] at h1
  match xs, h1, hxs with
  | [a, x, y, z, g], _, hxs => exact ⟨a, x, y, z, g, rfl, hxs a (by simp), hxs x (by simp), hxs y (by simp), hxs z (by simp), hxs g (by simp)⟩
/-! ### faults -/
def meets (rs : List Str) (a g x y : Nat) : Bool := decide (lowN rs x y = a) && decide (upN rs x y = g)
abbrev lad : Str := "ladder"
abbrev fanS : Str := "fan"
def okKind (k : Str) : Bool := inV (.str k) [.str lad, .str fanS]
def fiveOk (rs : List Str) (k : Str) (a x y z g : Nat) : Bool := (decide (k ≠ lad) || bit rs x y) && (meets rs a g x z && (meets rs a g y z && (decide (k ≠ fanS) || meets rs a g x y)))
def restD (rs : List Str) (k : Str) : List PyData → Bool
  | [.int a, .int x, .int y, .int z, .int g] => fiveOk rs k a.toNat x.toNat y.toNat z.toNat g.toNat
  | _ => false
def tupD (rs : List Str) (k : Str) : PyData → Bool
  | .tuple ds => five rs.length ds && restD rs k ds
  | _ => false
def headD (rs : List Str) (d : PyData) : PyData → Bool
  | .str k => okKind k && tupD rs k d
  | _ => false
def pairD (rs : List Str) : List PyData → Bool
  | [] => false
  | a :: r => match r with
    | [] => false
    | b :: r2 => match r2 with
      | [] => headD rs b a
      | _ :: _ => false
def faultD (rs : List Str) : PyData → Bool
  | .tuple ds => pairD rs ds
  | _ => false
theorem faultD_tup {rs : List Str} {k : Str} {ds : List PyData} : faultD rs (.tuple [.str k, .tuple ds]) = (okKind k && (five rs.length ds && restD rs k ds)) := rfl
theorem restD_five {rs : List Str} {k : Str} {a x y z g : Nat} : restD rs k [.int a, .int x, .int y, .int z, .int g] = fiveOk rs k a x y z g := rfl
theorem faultD_len {rs : List Str} {ds : List PyData} (h : ds.length ≠ 2) : faultD rs (.tuple ds) = false := by
  match ds, h with
  | [], _ => rfl
  | [_], _ => rfl
  | [_, _], h => exact absurd rfl h
  | _ :: _ :: _ :: _, _ => rfl
theorem eqV_str {a b : Str} : eqV (.str a) (.str b) = decide (a = b) := by
  by_cases h : a = b
  · rw [decide_eq_true h, h]
    exact beq_self_eq_true b
  · rw [decide_eq_false h]
    exact beq_eq_false_iff_ne.mpr h
theorem kind_or {k : Str} (h : okKind k = true) : k = lad ∨ k = fanS := by
  unfold okKind inV at h
  rw [List.any_cons, List.any_cons, List.any_nil, Bool.or_false, Bool.or_eq_true, eqV_str, eqV_str] at h
  exact h.imp (fun z => (of_decide_eq_true z).symm) fun z => (of_decide_eq_true z).symm
theorem lad_fan : lad ≠ fanS := by decide +kernel
/-! ### values of faults -/
def FaultV (K : PySem.W.Frag) (H : Hp) (v : V) (n : Nat) : Prop := ∃ (a f : Addr) (k : Str) (xs : List Nat), v = .ref a ∧ SqT K H a [.str k, .ref f] ∧ SqT K H f (xs.map nV) ∧ xs.length = 5 ∧ (∀ x ∈ xs, x < n) ∧ (k = lad ∨ k = fanS)
theorem FaultV.up {K : PySem.W.Frag} {H H' : Hp} {v : V} {n : Nat} (h : FaultV K H v n) (e : Same H H') : FaultV K H' v n := by
  obtain ⟨a, f, k, xs, e1, h1, h2, r⟩ := h
  exact ⟨a, f, k, xs, e1, up_t e h1, up_t e h2, r⟩
theorem dp_nats {K : PySem.W.Frag} {H : Hp} : ∀ (xs : List Nat), DpAll K H (xs.map nV) (xs.map fun x : Nat => PyData.int x)
  | [] => .nil
  | _ :: xs => .cons (.int _) (dp_nats xs)
theorem FaultV.dp {K : PySem.W.Frag} {H : Hp} {v : V} {n : Nat} (h : FaultV K H v n) : ∃ d, Dp K H v d ∧ Nice 4 d := by
  obtain ⟨a, f, k, xs, rfl, h1, h2, h3, _, h5⟩ := h
  refine ⟨.tuple [.str k, .tuple (xs.map fun x : Nat => PyData.int x)], .tup h1 (.cons (.str k) (.cons (.tup h2 (dp_nats xs)) .nil)), ?_⟩
  have hs : nice (.str k) = true := by rcases h5 with rfl | rfl <;> decide +kernel
  have ht : nice (.tuple (xs.map fun x : Nat => PyData.int x)) = true := by
    simp only [nice, Bool.and_eq_true, decide_eq_true_eq]
    refine ⟨by rw [List.length_map]; omega, niceAll_of fun d hd => ?_⟩
    obtain ⟨x, _, rfl⟩ := List.mem_map.mp hd
    rfl
  have d1 : (PyData.tuple (xs.map fun x : Nat => PyData.int x)).depth ≤ 2 := by
    rw [PyData.depth]
    have := depthAll_of (ds := xs.map fun x : Nat => PyData.int x) (n := 0) fun d hd => by
      obtain ⟨x, _, rfl⟩ := List.mem_map.mp hd
      rw [PyData.depth]
      exact Nat.le_refl _
    omega
  refine ⟨?_, ?_⟩
  · simp only [nice, Bool.and_eq_true, decide_eq_true_eq]
    refine ⟨by show 2 ≤ 20000; decide, niceAll_of fun d hd => ?_⟩
    simp only [List.mem_cons, List.not_mem_nil, or_false] at hd
    rcases hd with rfl | rfl
    · exact hs
    · exact ht
  · rw [PyData.depth]
    have := depthAll_of (ds := [.str k, .tuple (xs.map fun x : Nat => PyData.int x)]) (n := 2) fun d hd => by
      simp only [List.mem_cons, List.not_mem_nil, or_false] at hd
      rcases hd with rfl | rfl
      · rw [PyData.depth]
        exact Nat.zero_le _
      · exact d1
    omega
end FF
/-! are_places, is_fault -/
namespace FF
open PySem PySem.Spec PyProof.Rows L2
/-! ### comprehensions over pairs, sets of a tuple's numbers -/
def PairsV (K : PySem.W.Frag) (H : Hp) (us : List V) (ps : List (Nat × Nat)) : Prop := us.length = ps.length ∧ ∀ (i : Nat) (u : V), us[i]? = some u → ∃ (p : Nat × Nat) (a : Addr), ps[i]? = some p ∧ u = V.ref a ∧ SqT K H a [nV p.1, nV p.2]
theorem lc_pairs {K : PySem.W.Frag} {a : Addr} {us : List V} {ps : List (Nat × Nat)} {i j : Nat} {te : TE} {vs : List Nat} {σ : L2.St} {H1 : Hp} {Q : Addr → Hp → Prop} (f : Nat × Nat → Bool) (h : SqL K H1 a us) (pv : PairsV K H1 us ps) (hz : us.length ≤ 100)
    (hw : ∀ x y, wipe (((wipe σ vs).set i (some x)).set j (some y)) vs = wipe σ vs)
    (step : ∀ p H2, p ∈ ps → Same H1 H2 → ∀ Q' : VK, (∀ H3, Same H2 H3 → Q' (.bl (f p)) H3) → te (((wipe σ vs).set i (some (nV p.1))).set j (some (nV p.2))) H2 Q')
    (done : ∀ H2 D, Same H1 H2 → H2 D = some (.lst ((ps.map f).map V.bl)) → Q D H2) : ∀ D, H1 D = none → LcR (Itl K a) (gTup K 2 (gCons (gName i) (gCons (gName j) gNil))) tYes te vs σ H1 D (Q D) := by
  refine lc_mapG (fun i y _ => ∃ p, ps[i]? = some p ∧ y = .bl (f p)) (fun _ _ _ _ _ h => h) h (le_line (by omega)) ?_ g2_mono ?_
  · intro m x H2 hx e2 Q' k'
    obtain ⟨p, t, hp, rfl, ht⟩ := pv.2 m x hx
    refine ⟨t, [nV p.1, nV p.2], rfl, up_t e2 ht, rfl, nV p.1, _, rfl, nV p.2, _, rfl, rfl, hw _ _, ?_⟩
    exact step p H2 (List.mem_of_getElem? hp) e2 Q' fun H3 e3 => k' _ _ e3 ⟨p, hp, rfl⟩
  · intro H2 D ys e2 _ h3 h4 h5
    have : ys = (ps.map f).map V.bl := by
      rw [List.map_map]
      exact eq_map_of (h4.trans pv.1) fun i u hu => h5 i u hu
    subst this
    exact done H2 D e2 h3
theorem sc_ints {P : Program} {w : World} {K : PySem.W.Frag} {a : Addr} {is : List Int} {te : TE} {vs : List Nat} {j : Nat} {σ : L2.St} {H1 : Hp} {D : Addr} {Qd : Hp → Prop} (hD : H1 D = none) (hs : SqT K H1 a (is.map V.int)) (hz : is.length ≤ 900) (hw : ∀ x, wipe ((wipe σ vs).set j (some x)) vs = wipe σ vs)
    (elt : ∀ x H (Q' : VK), Q' x H → te ((wipe σ vs).set j (some x)) H Q') (done : ∀ H2 S n, Same H1 H2 → H2 D = some (SetO w D S n) → HasN is n → Qd H2) :
    ∃ W : Nat → Nat → Hp → Prop, (∃ m, W 0 m (upd H1 D ((intF P w).ob D (fun _ => false) 0))) ∧ ∀ i m H, W i m H →
      ((Itt K a).stop i H ∧ Qd H) ∨ ((Itt K a).go i H ∧ ∃ Nx : Hp → Prop, (∀ H', Nx H' → ∃ m', m' < m ∧ W (i + 1) m' H') ∧ ∀ x H', (Itt K a).yld i H x H' → gName j x (wipe σ vs) H' fun σ2 H2 => wipe σ2 vs = wipe σ vs ∧ tYes σ2 H2 fun b H3 =>
        if b = true then te σ2 H3 fun y H4 => ∃ (k : (intF P w).κ) (S : (intF P w).κ → Bool) (n : Nat), y = (intF P w).val k ∧ H4 D = some ((intF P w).ob D S n) ∧ n + 1 < scanBound ∧ Nx (upd H4 D ((intF P w).ob D ((intF P w).put S k) (if S k = true then n else n + 1))) else Nx H3) := by
  let Pi : Nat → Hp → Prop := fun i H => ∃ S n, H = upd H1 D (SetO w D S n) ∧ (∀ k, S k = decide (k ∈ is.take i)) ∧ HasN (is.take i) n
  refine ⟨fun i m H => m = is.length - i ∧ i ≤ is.length ∧ Pi i H, ⟨is.length, rfl, Nat.zero_le _, _, 0, rfl, fun k => by simp, HasN.nil⟩, ?_⟩
  rintro i m H ⟨rfl, hi, S, n, rfl, hS, hn⟩
  have ht := up_t (same_new hD (SetO w D S n)) hs
  by_cases hlt : i < is.length
  · have hlm : i < (is.map V.int).length := by rw [List.length_map]; exact hlt
    have get : (is.map V.int)[i]? = some (V.int is[i]) := by rw [List.getElem?_map, List.getElem?_eq_getElem hlt]; rfl
    refine .inr ⟨⟨_, _, ht, get⟩, Pi (i + 1), fun H' p' => ⟨_, by omega, rfl, hlt, p'⟩, fun x H' y => ?_⟩
    obtain ⟨e, y⟩ := y
    subst e
    have hx := (y _ ht).symm.trans get
    cases hx
    refine ⟨hw _, ?_⟩
    unfold tYes
    dsimp only
    rw [if_pos rfl]
    refine elt _ _ _ ⟨is[i], S, n, rfl, upd_same, ?_, ?_⟩
    · have := hn.le
      rw [List.length_take] at this
      unfold scanBound
      omega
    · have tk : is.take (i + 1) = is.take i ++ [is[i]] := by rw [List.take_add_one, List.getElem?_eq_getElem hlt]; rfl
      refine ⟨_, _, upd_upd, fun k => ?_, ?_⟩
      · show (S k || decide (k = is[i])) = _
        rw [hS k, tk, ← Bool.decide_or]
        exact decide_eq_decide.mpr (by rw [List.mem_append, List.mem_singleton])
      · rw [tk, hS]
        exact hn.snoc
  · have e : i = is.length := by omega
    subst e
    rw [List.take_length] at hn
    refine .inl ⟨⟨_, ht, by rw [List.length_map]; exact Nat.le_refl _⟩, done _ S n (same_new hD _) upd_same hn⟩
end FF
/-! are_places, is_fault -/
namespace FF
open PySem PySem.Spec PyProof.Rows L2
def areD (n : Nat) : PyData → Bool
  | .tuple ds => five n ds
  | _ => false
theorem dp_ints {K : PySem.W.Frag} {H : Hp} : ∀ {xs : List Nat} {us : List V}, DpAll K H us (xs.map fun x : Nat => PyData.int x) → us = (xs.map fun x : Nat => (x : Int)).map V.int
  | [], _, .nil => rfl
  | _ :: _, _, .cons (.int _) h => congrArg _ (dp_ints h)
theorem intD_nats (xs : List Nat) : (xs.map fun x : Nat => PyData.int x).map intD = xs.map fun x : Nat => (x : Int) := by
  rw [List.map_map]
  rfl
section
variable {P : Program} {w : World} {K : PySem.W.Frag} {mg : Str → Option Value} {base : Heap}
end
end FF
/-! is_fault -/
namespace FF
open PySem PySem.Spec PyProof.Rows L2
def pairsOf (k : Str) (x y z : Nat) : List (Nat × Nat) := [(x, z), (y, z)] ++ (if decide (V.str k = V.str fanS) = true then [(x, y)] else [])
theorem meets_all {rs : List Str} {k : Str} {a x y z g : Nat} : ((pairsOf k x y z).map fun p => meets rs a g p.1 p.2).all id = (meets rs a g x z && (meets rs a g y z && (decide (k ≠ fanS) || meets rs a g x y))) := by
  unfold pairsOf
  by_cases hk : k = fanS
  · rw [decide_eq_true (congrArg V.str hk), if_pos rfl, decide_eq_false (fun z => z hk)]
    simp [List.all_cons, Bool.and_true]
  · rw [decide_eq_false (fun z => hk (V.str.inj z)), if_neg (by decide), decide_eq_true hk]
    simp [List.all_cons, Bool.and_true]
theorem eqN {l a : Nat} : decide (nV l = nV a) = decide (l = a) := decide_eq_decide.mpr ⟨fun e => by have := V.int.inj e; omega, fun e => by rw [e]⟩
section
variable {P : Program} {w : World} {K : PySem.W.Frag} {mg : Str → Option Value} {base : Heap}
end
end FF
/-! lattices: ladders and fans -/
namespace FF
structure Ltc {α : Type} (le : α → α → Prop) (m j : α → α → α) : Prop where
  rf : ∀ a, le a a
  tr : ∀ {a b c}, le a b → le b c → le a c
  an : ∀ {a b}, le a b → le b a → a = b
  mi : ∀ {w a b}, le w (m a b) ↔ le w a ∧ le w b
  ji : ∀ {a b w}, le (j a b) w ↔ le a w ∧ le b w
section
variable {α : Type} {le : α → α → Prop} {m j : α → α → α} (L : Ltc le m j)
include L
theorem Ltc.flip : Ltc (fun a b => le b a) j m := ⟨L.rf, fun h1 h2 => L.tr h2 h1, fun h1 h2 => L.an h2 h1, L.ji, L.mi⟩
theorem Ltc.ml {a b : α} : le (m a b) a := (L.mi.mp (L.rf _)).1
theorem Ltc.mr {a b : α} : le (m a b) b := (L.mi.mp (L.rf _)).2
theorem Ltc.jl {a b : α} : le a (j a b) := (L.ji.mp (L.rf _)).1
theorem Ltc.jr {a b : α} : le b (j a b) := (L.ji.mp (L.rf _)).2
theorem Ltc.mc {a b : α} : m a b = m b a := L.an (L.mi.mpr ⟨L.mr, L.ml⟩) (L.mi.mpr ⟨L.mr, L.ml⟩)
theorem Ltc.jc {a b : α} : j a b = j b a := L.an (L.ji.mpr ⟨L.jr, L.jl⟩) (L.ji.mpr ⟨L.jr, L.jl⟩)
theorem Ltc.me {a b : α} (h : le a b) : m a b = a := L.an L.ml (L.mi.mpr ⟨L.rf _, h⟩)
theorem Ltc.je {a b : α} (h : le a b) : j a b = b := L.an (L.ji.mpr ⟨h, L.rf _⟩) L.jr
/-! ### ladders -/
theorem Ltc.lad_le {x y z : α} (h : le x z) : le (j x (m y z)) (m (j x y) z) := L.mi.mpr ⟨L.ji.mpr ⟨L.jl, L.tr L.ml L.jr⟩, L.ji.mpr ⟨h, L.mr⟩⟩
theorem Ltc.lad_low {x y z : α} (h : le x z) : m (j x (m y z)) y = m y z ∧ m (m (j x y) z) y = m y z := by
  have h1 : le (m y z) (m (j x (m y z)) y) := L.mi.mpr ⟨L.jr, L.ml⟩
  have h2 : le (m (j x (m y z)) y) (m (m (j x y) z) y) := L.mi.mpr ⟨L.tr L.ml (L.lad_le h), L.mr⟩
  have h3 : le (m (m (j x y) z) y) (m y z) := L.mi.mpr ⟨L.mr, L.tr L.ml L.mr⟩
  exact ⟨L.an (L.tr h2 h3) h1, L.an h3 (L.tr h1 h2)⟩
theorem Ltc.lad_up {x y z : α} (h : le x z) : j (j x (m y z)) y = j x y ∧ j (m (j x y) z) y = j x y := by
  have h1 : le (j x y) (j (j x (m y z)) y) := L.ji.mpr ⟨L.tr L.jl L.jl, L.jr⟩
  have h2 : le (j (j x (m y z)) y) (j (m (j x y) z) y) := L.ji.mpr ⟨L.tr (L.lad_le h) L.jl, L.jr⟩
  have h3 : le (j (m (j x y) z) y) (j x y) := L.ji.mpr ⟨L.ml, L.jr⟩
  exact ⟨L.an (L.tr h2 h3) h1, L.an h3 (L.tr h1 h2)⟩
theorem Ltc.lad_diff {a p q y g : α} (hn : p ≠ q) (hl : le p q) (m1 : m p y = a) (m2 : m q y = a) (j1 : j p y = g) (j2 : j q y = g) : [a, p, q, y, g].Nodup := by
  have ap : le a p := m1 ▸ L.ml
  have ay : le a y := m1 ▸ L.mr
  have pg : le p g := j1 ▸ L.jl
  have yg : le y g := j1 ▸ L.jr
  have qg : le q g := j2 ▸ L.jl
  have na : a ≠ p := fun e => by
    have h1 : le p y := e ▸ ay
    have h2 : g = y := j1.symm.trans (L.je h1)
    have h3 : le q y := h2 ▸ qg
    have h4 : q = a := (L.me h3).symm.trans m2
    exact hn (e.symm.trans h4.symm)
  have nq : a ≠ q := fun e => hn (L.an hl (e ▸ ap))
  have ny : a ≠ y := fun e => by
    have h1 : le y p := e ▸ ap
    have h2 : g = p := by rw [← j1, L.jc]; exact L.je h1
    exact hn (L.an hl (h2 ▸ qg))
  have ng : a ≠ g := fun e => hn (L.an hl (L.tr qg (e ▸ ap)))
  have py : p ≠ y := fun e => na (by rw [← m1, ← e]; exact L.me (L.rf _))
  have pg' : p ≠ g := fun e => hn (L.an hl (e ▸ qg))
  have qy : q ≠ y := fun e => nq (by rw [← m2, ← e]; exact L.me (L.rf _))
  have qg' : q ≠ g := fun e => ny (by
    have h1 : le y q := e ▸ yg
    rw [← m2, L.mc]
    exact L.me h1)
  have yg' : y ≠ g := fun e => na (by
    have h1 : le p y := e ▸ pg
    rw [← m1]
    exact L.me h1)
  simp [na, nq, ny, ng, hn, py, pg', qy, qg', yg']
/-! ### the modular law -/
def Md (le : α → α → Prop) (m j : α → α → α) : Prop := ∀ x y z, le x z → j x (m y z) = m (j x y) z
theorem Ltc.md_flip (h : Md le m j) : Md (fun a b => le b a) j m := fun x y z hz => by
  have := h z y x hz
  show m x (j y z) = j (m x y) z
  rw [L.mc (a := x) (b := j y z), L.jc (a := y) (b := z), ← this, L.jc (a := z), L.mc (a := y)]
/-! ### fans: d and e told by what is above and below -/
def isD (le : α → α → Prop) (m : α → α → α) (x y z d : α) : Prop := ∀ w, le d w ↔ le (m x y) w ∧ le (m y z) w ∧ le (m z x) w
def isE (le : α → α → Prop) (j : α → α → α) (x y z e : α) : Prop := ∀ w, le w e ↔ le w (j x y) ∧ le w (j y z) ∧ le w (j z x)
theorem isD.rot {x y z d : α} (h : isD le m x y z d) : isD le m y z x d := fun w => (h w).trans ⟨fun ⟨a, b, c⟩ => ⟨b, c, a⟩, fun ⟨a, b, c⟩ => ⟨c, a, b⟩⟩
theorem isE.rot {x y z d : α} (h : isE le j x y z d) : isE le j y z x d := fun w => (h w).trans ⟨fun ⟨a, b, c⟩ => ⟨b, c, a⟩, fun ⟨a, b, c⟩ => ⟨c, a, b⟩⟩
theorem Ltc.d_swap {x y z d : α} (h : isD le m x y z d) : isD le m y x z d := fun w => by
  rw [h w, L.mc (a := y) (b := x), L.mc (a := x) (b := z), L.mc (a := z) (b := y)]
  exact ⟨fun ⟨a, b, c⟩ => ⟨a, c, b⟩, fun ⟨a, b, c⟩ => ⟨a, c, b⟩⟩
theorem Ltc.e_swap {x y z e : α} (h : isE le j x y z e) : isE le j y x z e := L.flip.d_swap (m := j) h
theorem Ltc.de {x y z d e : α} (hd : isD le m x y z d) (he : isE le j x y z e) : le d e := (hd e).mpr ⟨(he _).mpr ⟨L.tr L.ml L.jl, L.tr L.mr L.jl, L.tr L.ml L.jr⟩, (he _).mpr ⟨L.tr L.ml L.jr, L.tr L.ml L.jl, L.tr L.mr L.jl⟩, (he _).mpr ⟨L.tr L.mr L.jl, L.tr L.ml L.jr, L.tr L.ml L.jl⟩⟩
theorem Ltc.fan_meet (M : Md le m j) {x y z d e : α} (hd : isD le m x y z d) : m (j (m x e) d) (j (m y e) d) = d := by
  refine L.an ?_ (L.mi.mpr ⟨L.jr, L.jr⟩)
  obtain ⟨d1, d2, d3⟩ := (hd d).mp (L.rf _)
  have h1 : m (j (m x e) d) (j (m y e) d) = j d (m (m x e) (j (m y e) d)) := by rw [L.jc (a := m x e)]; exact (M d (m x e) _ L.jr).symm
  rw [h1]
  refine L.ji.mpr ⟨L.rf _, ?_⟩
  generalize hw : m (m x e) (j (m y e) d) = w
  have wx : le w x := hw ▸ L.tr L.ml L.ml
  have wy : le w (j (m z x) y) := by
    have h2 : le w (j (m y e) d) := hw ▸ L.mr
    refine L.tr h2 (L.ji.mpr ⟨L.tr L.ml L.jr, (hd _).mpr ⟨L.tr L.mr L.jr, L.tr L.ml L.jr, L.jl⟩⟩)
  have h3 : le w (m (j (m z x) y) x) := L.mi.mpr ⟨wy, wx⟩
  rw [← M (m z x) y x L.mr] at h3
  refine L.tr h3 (L.ji.mpr ⟨d3, ?_⟩)
  rw [L.mc]
  exact d1
theorem Ltc.fan_side (M : Md le m j) {d e x : α} (h : le d e) : j (m x e) d = m (j x d) e := by
  rw [L.jc, M d x e h, L.jc]
theorem Ltc.fan_join (M : Md le m j) {x y z d e : α} (hd : isD le m x y z d) (he : isE le j x y z e) : j (j (m x e) d) (j (m y e) d) = e := by
  have h := L.de hd he
  rw [L.fan_side M h, L.fan_side M h]
  exact L.flip.fan_meet (L.md_flip M) (m := j) (j := m) (e := d) he
theorem Ltc.fan_diff {d e p q r : α} (hn : d ≠ e) (m1 : m p q = d) (m2 : m q r = d) (m3 : m p r = d) (j1 : j p q = e) (j2 : j q r = e) (j3 : j p r = e) : [d, p, q, r, e].Nodup := by
  have dp : le d p := m1 ▸ L.ml
  have dq : le d q := m1 ▸ L.mr
  have dr : le d r := m2 ▸ L.mr
  have pe : le p e := j1 ▸ L.jl
  have qe : le q e := j1 ▸ L.jr
  have re : le r e := j2 ▸ L.jr
  -- no side is least or greatest
  have no : ∀ {p q r : α}, m q r = d → j p q = e → j p r = e → le d q → le d r → d ≠ p := fun {p q r} m2 j1 j3 hq hr z => by
    subst z
    have h1 : q = e := (L.je hq).symm.trans j1
    have h2 : r = e := (L.je hr).symm.trans j3
    rw [h1, h2, L.me (L.rf _)] at m2
    exact hn m2.symm
  have no2 : ∀ {p q r : α}, j q r = e → m p q = d → m p r = d → le q e → le r e → p ≠ e := fun {p q r} j2 m1 m3 hq hr z => by
    subst z
    have h1 : q = d := by rw [← m1, L.mc]; exact (L.me hq).symm
    have h2 : r = d := by rw [← m3, L.mc]; exact (L.me hr).symm
    rw [h1, h2, L.je (L.rf _)] at j2
    exact hn j2
  have ne : ∀ {p q : α}, m p q = d → j p q = e → p ≠ q := fun {p q} h1 h2 z => by
    subst z
    rw [L.me (L.rf _)] at h1
    rw [L.je (L.rf _)] at h2
    exact hn (h1.symm.trans h2)
  have a1 := no m2 j1 j3 dq dr
  have a2 := no (p := q) (q := p) (r := r) m3 (by rw [L.jc]; exact j1) j2 dp dr
  have a3 := no (p := r) (q := p) (r := q) m1 (by rw [L.jc]; exact j3) (by rw [L.jc]; exact j2) dp dq
  have b1 := no2 j2 m1 m3 qe re
  have b2 := no2 (p := q) (q := p) (r := r) j3 (by rw [L.mc]; exact m1) m2 pe re
  have b3 := no2 (p := r) (q := p) (r := q) j1 (by rw [L.mc]; exact m3) (by rw [L.mc]; exact m2) pe qe
  have c1 := ne m1 j1
  have c2 := ne m2 j2
  have c3 := ne m3 j3
  simp [a1, a2, a3, b1, b2, b3, c1, c2, c3, hn]
/-- the distributive law at three places -/
theorem Ltc.dis (M : Md le m j) {x y z d : α} (hd : isD le m x y z d) (he : isE le j x y z d) : m x (j y z) = j (m x y) (m x z) := by
  refine L.an ?_ (L.ji.mpr ⟨L.mi.mpr ⟨L.ml, L.tr L.mr L.jl⟩, L.mi.mpr ⟨L.ml, L.tr L.mr L.jr⟩⟩)
  generalize hw : m x (j y z) = w
  generalize hu : j (m x y) (m x z) = u
  have wx : le w x := hw ▸ L.ml
  have wd : le w d := (he w).mpr ⟨L.tr wx L.jl, hw ▸ L.mr, L.tr wx L.jr⟩
  have ux : le u x := hu ▸ L.ji.mpr ⟨L.ml, L.ml⟩
  have u1 : le (m x y) u := hu ▸ L.jl
  have u2 : le (m x z) u := hu ▸ L.jr
  have du : le d (j u (m y z)) := (hd _).mpr ⟨L.tr u1 L.jl, L.jr, L.tr (L.mc ▸ u2) L.jl⟩
  have h1 : le w (m (j u (m y z)) x) := L.mi.mpr ⟨L.tr wd du, wx⟩
  rw [← M u (m y z) x ux] at h1
  exact L.tr h1 (L.ji.mpr ⟨L.rf _, L.tr (L.mi.mpr ⟨L.mr, L.tr L.ml L.ml⟩) u1⟩)
/-- no ladder and no fan in what is distributive -/
theorem Ltc.no_lad (D : ∀ x y z, m x (j y z) = j (m x y) (m x z)) {a p q y g : α} (hl : le p q) (m1 : m p y = a) (m2 : m q y = a) (j1 : j p y = g) (j2 : j q y = g) : p = q := by
  have h := D q p y
  rw [j1, m2, L.me (j2 ▸ L.jl : le q g), L.mc, L.me hl, ← m1, L.jc, L.je L.ml] at h
  exact h.symm
theorem Ltc.no_fan (D : ∀ x y z, m x (j y z) = j (m x y) (m x z)) {d e p q r : α} (m1 : m p q = d) (m3 : m p r = d) (j1 : j p q = e) (j2 : j q r = e) : d = p := by
  have h := D p q r
  rw [j2, m1, m3, L.je (L.rf _), L.me (j1 ▸ L.jl : le p e)] at h
  exact h.symm
theorem Ltc.no_lad2 (M : Md le m j) {p q y : α} (hl : le p q) (h1 : m p y = m q y) (h2 : j p y = j q y) : p = q := by
  have h := M p y q hl
  rw [L.mc (a := y), ← h1, L.jc, L.je L.ml, h2, L.mc, L.me L.jl] at h
  exact h
/-- x, y, z not all different: d and e are alike -/
theorem Ltc.de_two {x z d e : α} (hd : isD le m x x z d) (he : isE le j x x z e) : d = e := by
  refine L.an (L.de hd he) ?_
  have h1 : le e x := by
    have := ((he e).mp (L.rf _)).1
    rw [L.je (L.rf _)] at this
    exact this
  have h2 : le x d := by
    have := ((hd d).mp (L.rf _)).1
    rw [L.me (L.rf _)] at this
    exact this
  exact L.tr h1 h2
end
end FF
/-! find_fault: what it finds (plain) -/
namespace FF
open PySem PySem.Spec PyProof.Rows L2
def mkF (k : Str) (a x y z g : Nat) : PyData := .tuple [.str k, .tuple [.int (a : Int), .int (x : Int), .int (y : Int), .int (z : Int), .int (g : Int)]]
def ladD (rs : List Str) (x y z : Nat) : Option PyData :=
  if upN rs x (lowN rs y z) = lowN rs (upN rs x y) z then none else some (mkF lad (lowN rs y z) (upN rs x (lowN rs y z)) (lowN rs (upN rs x y) z) y (upN rs x y))
def leastN (rs : List Str) (x y z : Nat) : Nat := upN rs (upN rs (lowN rs x y) (lowN rs y z)) (lowN rs z x)
def greatN (rs : List Str) (x y z : Nat) : Nat := lowN rs (lowN rs (upN rs x y) (upN rs y z)) (upN rs z x)
def sideN (rs : List Str) (d e p : Nat) : Nat := upN rs (lowN rs p e) d
def fanD (rs : List Str) (x y z : Nat) : Option PyData :=
  if leastN rs x y z = greatN rs x y z then none else some (mkF fanS (leastN rs x y z) (sideN rs (leastN rs x y z) (greatN rs x y z) x) (sideN rs (leastN rs x y z) (greatN rs x y z) y) (sideN rs (leastN rs x y z) (greatN rs x y z) z) (greatN rs x y z))
def ladsD (rs : List Str) : Option PyData := (List.range rs.length).findSome? fun x => ((List.range rs.length).filter fun z => bit rs x z).findSome? fun z => (List.range rs.length).findSome? fun y => ladD rs x y z
def fansD (rs : List Str) : Option PyData := (List.range rs.length).findSome? fun x => (List.range x).findSome? fun y => (List.range y).findSome? fun z => fanD rs x y z
def findD (rs : List Str) : Option PyData := match ladsD rs with
  | some d => some d
  | none => fansD rs
theorem first_at {α β : Type} {l : List α} {f : α → Option β} {i : Nat} {a : α} {b : β} (ha : l[i]? = some a) (h : ∀ x ∈ l.take i, f x = none) (hb : f a = some b) : l.findSome? f = some b := by
  refine List.findSome?_eq_some_iff.mpr ⟨l.take i, a, l.drop (i + 1), ?_, hb, h⟩
  obtain ⟨hi, rfl⟩ := List.getElem?_eq_some_iff.mp ha
  rw [← List.drop_eq_getElem_cons hi, List.take_append_drop]
theorem first_no {α β : Type} {l : List α} {f : α → Option β} (h : ∀ x ∈ l, f x = none) : l.findSome? f = none := List.findSome?_eq_none_iff.mpr h
theorem first_get {α β : Type} {l : List α} {f : α → Option β} {b : β} (h : l.findSome? f = some b) : ∃ a ∈ l, f a = some b := by
  obtain ⟨l1, a, l2, rfl, h1, _⟩ := List.findSome?_eq_some_iff.mp h
  exact ⟨a, List.mem_append_right _ List.mem_cons_self, h1⟩
/-! ### the lattice of the places -/
abbrev Pl (rs : List Str) : Type := { i : Nat // i < rs.length }
section
variable {rs : List Str} (L : Lat rs)
def leP (rs : List Str) : Pl rs → Pl rs → Prop := fun a b => bit rs a.1 b.1 = true
def loP (a b : Pl rs) : Pl rs := ⟨lowN rs a.1 b.1, L.low_lt a.2 b.2⟩
def upP (a b : Pl rs) : Pl rs := ⟨upN rs a.1 b.1, L.up_lt a.2 b.2⟩
theorem Lat.ltc : Ltc (leP rs) (loP L) (upP L) := ⟨fun a => L.ord.refl _ a.2, fun {a b c} h1 h2 => L.ord.trans _ _ _ a.2 b.2 c.2 h1 h2, fun {a b} h1 h2 => Subtype.ext (L.ord.anti _ _ a.2 b.2 h1 h2), fun {w a b} => L.low_iff a.2 b.2 w.2, fun {a b w} => L.up_iff a.2 b.2 w.2⟩
theorem spr_dis : spreadsB rs = true ↔ ∀ x y z : Pl rs, loP L x (upP L y z) = upP L (loP L x y) (loP L x z) := by
  rw [spr_iff]
  exact ⟨fun h x y z => Subtype.ext (h x.1 y.1 z.1 x.2 y.2 z.2), fun h x y z hx hy hz => congrArg Subtype.val (h ⟨x, hx⟩ ⟨y, hy⟩ ⟨z, hz⟩)⟩
/-- two places under one another that no third place tells apart -/
def HasLad (rs : List Str) : Prop := ∃ x y z, x < rs.length ∧ y < rs.length ∧ z < rs.length ∧ bit rs x y = true ∧ x ≠ y ∧ lowN rs x z = lowN rs y z ∧ upN rs x z = upN rs y z
theorem five_nd {n : Nat} {l : List (Pl rs)} (hn : n = rs.length) (nd : l.Nodup) (h5 : l.length = 5) : five n (l.map fun s => PyData.int (s.1 : Int)) = true := by
  unfold five
  rw [decide_eq_true (by rw [List.length_map]; exact h5), Bool.true_and, Bool.and_eq_true]
  constructor
  · rw [List.all_eq_true]
    intro d hd
    obtain ⟨s, _, rfl⟩ := List.mem_map.mp hd
    show (decide ((0 : Int) ≤ (s.1 : Int)) && decide ((s.1 : Int) < (n : Int))) = true
    rw [decide_eq_true (Int.natCast_nonneg _), decide_eq_true (by have := s.2; omega)] <;> rfl
  · rw [decide_eq_true_eq, List.map_map]
    exact List.pairwise_map.mpr (nd.imp fun hne e => hne (Subtype.ext (Int.ofNat.inj e)))
theorem okLad : okKind lad = true := by decide +kernel
theorem okFan : okKind fanS = true := by decide +kernel
theorem meets_ok {a g x y : Nat} (h1 : lowN rs x y = a) (h2 : upN rs x y = g) : meets rs a g x y = true := by
  unfold meets
  rw [decide_eq_true h1, decide_eq_true h2] <;> rfl
include L
theorem lad_some {x y z : Nat} {d : PyData} (hx : x < rs.length) (hy : y < rs.length) (hz : z < rs.length) (hb : bit rs x z = true) (h : ladD rs x y z = some d) : (∃ a p q g, d = mkF lad a p q y g ∧ a < rs.length ∧ p < rs.length ∧ q < rs.length ∧ g < rs.length) ∧ faultD rs d = true ∧ HasLad rs ∧ spreadsB rs = false := by
  unfold ladD at h
  split at h
  · cases h
  rename_i hn
  cases h
  have T := L.ltc
  let X : Pl rs := ⟨x, hx⟩
  let Y : Pl rs := ⟨y, hy⟩
  let Z : Pl rs := ⟨z, hz⟩
  have hle : leP rs X Z := hb
  obtain ⟨m1, m2⟩ := T.lad_low (x := X) (y := Y) (z := Z) hle
  obtain ⟨j1, j2⟩ := T.lad_up (x := X) (y := Y) (z := Z) hle
  have l1 := T.lad_le (x := X) (y := Y) (z := Z) hle
  have nd := T.lad_diff (fun e => hn (congrArg Subtype.val e)) l1 m1 m2 j1 j2
  have f5 := five_nd rfl nd rfl
  refine ⟨⟨_, _, _, _, rfl, (loP L Y Z).2, (upP L X (loP L Y Z)).2, (loP L (upP L X Y) Z).2, (upP L X Y).2⟩, ?_, ⟨_, _, y, (upP L X (loP L Y Z)).2, (loP L (upP L X Y) Z).2, hy, l1, hn, congrArg Subtype.val (m1.trans m2.symm), congrArg Subtype.val (j1.trans j2.symm)⟩, ?_⟩
  · unfold mkF
    rw [faultD_tup, okLad, restD_five]
    have f5' : five rs.length [.int (lowN rs y z : Nat), .int (upN rs x (lowN rs y z) : Nat), .int (lowN rs (upN rs x y) z : Nat), .int (y : Nat), .int (upN rs x y : Nat)] = true := f5
    rw [f5', Bool.true_and, Bool.true_and]
    unfold fiveOk
    have q1 : meets rs (lowN rs y z) (upN rs x y) (upN rs x (lowN rs y z)) y = true := meets_ok (congrArg Subtype.val m1) (congrArg Subtype.val j1)
    have q2 : meets rs (lowN rs y z) (upN rs x y) (lowN rs (upN rs x y) z) y = true := meets_ok (congrArg Subtype.val m2) (congrArg Subtype.val j2)
    rw [show bit rs (upN rs x (lowN rs y z)) (lowN rs (upN rs x y) z) = true from l1, q1, q2, decide_eq_true lad_fan, Bool.or_true] <;> rfl
  · cases e : spreadsB rs with
    | false => rfl
    | true => exact absurd (congrArg Subtype.val (T.no_lad ((spr_dis L).mp e) l1 m1 m2 j1 j2)) hn
theorem fan_isD {x y z : Nat} (hx : x < rs.length) (hy : y < rs.length) (hz : z < rs.length) : isD (leP rs) (loP L) ⟨x, hx⟩ ⟨y, hy⟩ ⟨z, hz⟩ (upP L (upP L (loP L ⟨x, hx⟩ ⟨y, hy⟩) (loP L ⟨y, hy⟩ ⟨z, hz⟩)) (loP L ⟨z, hz⟩ ⟨x, hx⟩)) := fun w => by
  rw [L.ltc.ji, L.ltc.ji, and_assoc]
theorem fan_isE {x y z : Nat} (hx : x < rs.length) (hy : y < rs.length) (hz : z < rs.length) : isE (leP rs) (upP L) ⟨x, hx⟩ ⟨y, hy⟩ ⟨z, hz⟩ (loP L (loP L (upP L ⟨x, hx⟩ ⟨y, hy⟩) (upP L ⟨y, hy⟩ ⟨z, hz⟩)) (upP L ⟨z, hz⟩ ⟨x, hx⟩)) := fun w => by
  rw [L.ltc.mi, L.ltc.mi, and_assoc]
theorem fan_some (M : Md (leP rs) (loP L) (upP L)) {x y z : Nat} {d : PyData} (hx : x < rs.length) (hy : y < rs.length) (hz : z < rs.length) (h : fanD rs x y z = some d) : (∃ a p q r g, d = mkF fanS a p q r g ∧ a < rs.length ∧ p < rs.length ∧ q < rs.length ∧ r < rs.length ∧ g < rs.length) ∧ faultD rs d = true ∧ spreadsB rs = false := by
  unfold fanD at h
  split at h
  · cases h
  rename_i hn
  cases h
  have T := L.ltc
  let X : Pl rs := ⟨x, hx⟩
  let Y : Pl rs := ⟨y, hy⟩
  let Z : Pl rs := ⟨z, hz⟩
  let D : Pl rs := upP L (upP L (loP L X Y) (loP L Y Z)) (loP L Z X)
  let E : Pl rs := loP L (loP L (upP L X Y) (upP L Y Z)) (upP L Z X)
  have hd : isD (leP rs) (loP L) X Y Z D := fan_isD L hx hy hz
  have he : isE (leP rs) (upP L) X Y Z E := fan_isE L hx hy hz
  have hd2 : isD (leP rs) (loP L) Y Z X D := isD.rot T hd
  have he2 : isE (leP rs) (upP L) Y Z X E := isE.rot T he
  have hd3 : isD (leP rs) (loP L) X Z Y D := T.d_swap (isD.rot T hd2)
  have he3 : isE (leP rs) (upP L) X Z Y E := T.e_swap (isE.rot T he2)
  have m1 := T.fan_meet M (e := E) hd
  have m2 := T.fan_meet M (e := E) hd2
  have m3 := T.fan_meet M (e := E) hd3
  have j1 := T.fan_join M hd he
  have j2 := T.fan_join M hd2 he2
  have j3 := T.fan_join M hd3 he3
  have nd := T.fan_diff (fun e => hn (congrArg Subtype.val e)) m1 m2 m3 j1 j2 j3
  have f5 := five_nd rfl nd rfl
  refine ⟨⟨_, _, _, _, _, rfl, D.2, (upP L (loP L X E) D).2, (upP L (loP L Y E) D).2, (upP L (loP L Z E) D).2, E.2⟩, ?_, ?_⟩
  · unfold mkF
    rw [faultD_tup, okFan, restD_five]
    have f5' : five rs.length [.int (leastN rs x y z : Nat), .int (sideN rs (leastN rs x y z) (greatN rs x y z) x : Nat), .int (sideN rs (leastN rs x y z) (greatN rs x y z) y : Nat), .int (sideN rs (leastN rs x y z) (greatN rs x y z) z : Nat), .int (greatN rs x y z : Nat)] = true := f5
    rw [f5', Bool.true_and, Bool.true_and]
    unfold fiveOk
    have q1 : meets rs (leastN rs x y z) (greatN rs x y z) (sideN rs (leastN rs x y z) (greatN rs x y z) x) (sideN rs (leastN rs x y z) (greatN rs x y z) y) = true := meets_ok (congrArg Subtype.val m1) (congrArg Subtype.val j1)
    have q2 : meets rs (leastN rs x y z) (greatN rs x y z) (sideN rs (leastN rs x y z) (greatN rs x y z) y) (sideN rs (leastN rs x y z) (greatN rs x y z) z) = true := meets_ok (congrArg Subtype.val m2) (congrArg Subtype.val j2)
    have q3 : meets rs (leastN rs x y z) (greatN rs x y z) (sideN rs (leastN rs x y z) (greatN rs x y z) x) (sideN rs (leastN rs x y z) (greatN rs x y z) z) = true := meets_ok (congrArg Subtype.val m3) (congrArg Subtype.val j3)
    rw [decide_eq_true lad_fan.symm, q1, q2, q3, Bool.or_true] <;> rfl
  · cases e : spreadsB rs with
    | false => rfl
    | true =>
      have h1 := T.no_fan ((spr_dis L).mp e) m1 m3 j1 j2
      rw [List.nodup_cons] at nd
      exact absurd (h1 ▸ List.mem_cons_self) nd.1
theorem lads_none (h : ladsD rs = none) : Md (leP rs) (loP L) (upP L) := fun x y z hz => by
  have h1 := List.findSome?_eq_none_iff.mp h x.1 (List.mem_range.mpr x.2)
  have h2 := List.findSome?_eq_none_iff.mp h1 z.1 (List.mem_filter.mpr ⟨List.mem_range.mpr z.2, hz⟩)
  have h3 := List.findSome?_eq_none_iff.mp h2 y.1 (List.mem_range.mpr y.2)
  refine Subtype.ext ?_
  show upN rs x.1 (lowN rs y.1 z.1) = lowN rs (upN rs x.1 y.1) z.1
  unfold ladD at h3
  split at h3
  · rename_i e; exact e
  · cases h3
theorem md_nolad (M : Md (leP rs) (loP L) (upP L)) : ¬ HasLad rs := fun ⟨x, y, z, hx, hy, hz, hb, hn, h1, h2⟩ =>
  hn (congrArg Subtype.val (L.ltc.no_lad2 M (p := ⟨x, hx⟩) (q := ⟨y, hy⟩) (y := ⟨z, hz⟩) hb (Subtype.ext h1) (Subtype.ext h2)))
theorem fans_none (M : Md (leP rs) (loP L) (upP L)) (h : fansD rs = none) : spreadsB rs = true := by
  have T := L.ltc
  have key : ∀ x y z : Pl rs, z.1 < y.1 → y.1 < x.1 → ∃ d, isD (leP rs) (loP L) x y z d ∧ isE (leP rs) (upP L) x y z d := fun x y z h1 h2 => by
    have a1 := List.findSome?_eq_none_iff.mp h x.1 (List.mem_range.mpr x.2)
    have a2 := List.findSome?_eq_none_iff.mp a1 y.1 (List.mem_range.mpr h2)
    have a3 := List.findSome?_eq_none_iff.mp a2 z.1 (List.mem_range.mpr h1)
    have e : leastN rs x.1 y.1 z.1 = greatN rs x.1 y.1 z.1 := by
      unfold fanD at a3
      split at a3
      · rename_i e; exact e
      · cases a3
    have hd := fan_isD L x.2 y.2 z.2
    have he := fan_isE L x.2 y.2 z.2
    refine ⟨_, hd, ?_⟩
    have e2 : (upP L (upP L (loP L x y) (loP L y z)) (loP L z x)) = (loP L (loP L (upP L x y) (upP L y z)) (upP L z x)) := Subtype.ext e
    rw [show (upP L (upP L (loP L ⟨x.1, x.2⟩ ⟨y.1, y.2⟩) (loP L ⟨y.1, y.2⟩ ⟨z.1, z.2⟩)) (loP L ⟨z.1, z.2⟩ ⟨x.1, x.2⟩)) = _ from e2]
    exact he
  have sw : ∀ {x y z : Pl rs}, (∃ d, isD (leP rs) (loP L) x y z d ∧ isE (leP rs) (upP L) x y z d) → ∃ d, isD (leP rs) (loP L) y x z d ∧ isE (leP rs) (upP L) y x z d := fun ⟨d, h1, h2⟩ => ⟨d, T.d_swap h1, T.e_swap h2⟩
  have ro : ∀ {x y z : Pl rs}, (∃ d, isD (leP rs) (loP L) x y z d ∧ isE (leP rs) (upP L) x y z d) → ∃ d, isD (leP rs) (loP L) y z x d ∧ isE (leP rs) (upP L) y z x d := fun ⟨d, h1, h2⟩ => ⟨d, isD.rot T h1, isE.rot T h2⟩
  have two : ∀ x z : Pl rs, ∃ d, isD (leP rs) (loP L) x x z d ∧ isE (leP rs) (upP L) x x z d := fun x z => by
    have hd := fan_isD L x.2 x.2 z.2
    have he := fan_isE L x.2 x.2 z.2
    have e := T.de_two hd he
    exact ⟨_, hd, e ▸ he⟩
  have all : ∀ x y z : Pl rs, ∃ d, isD (leP rs) (loP L) x y z d ∧ isE (leP rs) (upP L) x y z d := fun x y z => by
    by_cases e1 : x = y
    · subst e1; exact two x z
    by_cases e2 : y = z
    · subst e2; exact ro (ro (two y x))
    by_cases e3 : x = z
    · subst e3; exact ro (two x y)
    have n1 : x.1 ≠ y.1 := fun e => e1 (Subtype.ext e)
    have n2 : y.1 ≠ z.1 := fun e => e2 (Subtype.ext e)
    have n3 : x.1 ≠ z.1 := fun e => e3 (Subtype.ext e)
    rcases Nat.lt_or_gt_of_ne n1 with h1 | h1 <;> rcases Nat.lt_or_gt_of_ne n2 with h2 | h2 <;> rcases Nat.lt_or_gt_of_ne n3 with h3 | h3
    · -- x < y < z
      exact sw (ro (key z y x h1 h2))
    · omega
    · -- x < z < y
      exact ro (ro (key y z x h3 h2))
    · -- z < x < y
      exact sw (key y x z h3 h1)
    · -- y < x, y < z, x < z : z > x > y
      exact ro (key z x y h1 h3)
    · -- z < x, y < z : x > z > y
      exact sw (ro (ro (key x z y h2 h3)))
    · omega
    · -- z < y < x
      exact key x y z h2 h1
  refine (spr_dis L).mpr fun x y z => ?_
  obtain ⟨d, h1, h2⟩ := all x y z
  exact T.dis M h1 h2
theorem find_none (h : findD rs = none) : spreadsB rs = true := by
  unfold findD at h
  split at h
  · cases h
  · rename_i e
    exact fans_none L (lads_none L e) h
theorem find_some {d : PyData} (h : findD rs = some d) : (∃ k a x y z g, d = mkF k a x y z g ∧ a < rs.length ∧ x < rs.length ∧ y < rs.length ∧ z < rs.length ∧ g < rs.length ∧ (k = lad ∨ k = fanS) ∧ (k = lad ↔ HasLad rs)) ∧ faultD rs d = true ∧ spreadsB rs = false := by
  unfold findD at h
  split at h
  · rename_i e
    cases h
    obtain ⟨x, hx, h1⟩ := first_get e
    obtain ⟨z, hz, h2⟩ := first_get h1
    obtain ⟨y, hy, h3⟩ := first_get h2
    obtain ⟨hz, hb⟩ := List.mem_filter.mp hz
    obtain ⟨⟨a, p, q, g, e1, i1, i2, i3, i4⟩, f, hl, sp⟩ := lad_some L (List.mem_range.mp hx) (List.mem_range.mp hy) (List.mem_range.mp hz) hb h3
    exact ⟨⟨lad, a, p, q, y, g, e1, i1, i2, i3, List.mem_range.mp hy, i4, .inl rfl, ⟨fun _ => hl, fun _ => rfl⟩⟩, f, sp⟩
  · rename_i e
    have M := lads_none L e
    obtain ⟨x, hx, h1⟩ := first_get h
    obtain ⟨y, hy, h2⟩ := first_get h1
    obtain ⟨z, hz, h3⟩ := first_get h2
    have hx := List.mem_range.mp hx
    have hy := List.mem_range.mp hy
    have hz := List.mem_range.mp hz
    obtain ⟨⟨a, p, q, r, g, e1, i1, i2, i3, i4, i5⟩, f, sp⟩ := fan_some L M hx (by omega) (by omega) h3
    exact ⟨⟨fanS, a, p, q, r, g, e1, i1, i2, i3, i4, i5, .inr rfl, ⟨fun e => absurd e.symm lad_fan, fun h => absurd h (md_nolad L M)⟩⟩, f, sp⟩
end
end FF
namespace FF
open PySem PySem.Spec PyProof.Rows L2
theorem and_both {ta tb : TE} {σ : L2.St} {H : Hp} {Q : VK} {b1 b2 : Bool} (h1 : ∀ Q' : VK, Q' (.bl b1) H → ta σ H Q') (h2 : ∀ Q' : VK, Q' (.bl b2) H → tb σ H Q') (k : Q (.bl (b1 && b2)) H) : tAndV ta tb σ H Q := h1 _ ⟨b1, rfl, by
  cases b1 with
  | false => exact k
  | true => exact h2 _ k⟩
end FF
/-! the law's own judgement -/
namespace FF
open PySem PySem.Spec PyProof.Rows L2
def spIdx (K : PySem.W.Frag) : Sp := fun vs H Q _ => ∃ (v : V) (d : PyData) (n : Nat), vs = [v, nV n] ∧ Dp K H v d ∧ Q (.bl (isPlaceD n d)) H
def spRight (K : PySem.W.Frag) : Sp := fun vs H Q _ => ∃ (p t lo up : Addr) (rs : List Str) (v : V) (d : PyData), vs = [.ref p, .ref t, v] ∧ SqL K H p (rs.map V.str) ∧ Lat rs ∧ SqT K H t [.ref lo, .ref up] ∧ TabAt H lo (tabT (below rs)) ∧ TabAt H up (tabT (above rs)) ∧ Dp K H v d ∧ Nice 10 d ∧ ∀ H', Same H H' → Q (.bl (faultD rs d)) H'
theorem eqv_strF : ∀ {a : Str} {d : PyData}, PyData.eqv (.str a) d = true → d = .str a := by
  intro a d h
  cases d with
  | str b =>
    have : (a == b) = true := h
    rw [beq_iff_eq.mp this]
  | _ => cases h
theorem eqv_strE {a b : Str} : PyData.eqv (.str a) (.str b) = decide (a = b) := by
  by_cases h : a = b
  · rw [decide_eq_true h, h]
    exact beq_self_eq_true b
  · rw [decide_eq_false h]
    exact beq_eq_false_iff_ne.mpr h
theorem five_nodup {n : Nat} {a x y z g : Nat} (ha : a < n) (hx : x < n) (hy : y < n) (hz : z < n) (hg : g < n) : five n [.int a, .int x, .int y, .int z, .int g] = decide ([(a : Int), x, y, z, g].Nodup) := by
  have p : ∀ {u : Nat}, u < n → isPlaceD n (.int u) = true := fun {u} h => by
    show (decide ((0 : Int) ≤ u) && decide ((u : Int) < n)) = true
    rw [decide_eq_true (by omega), decide_eq_true (by omega)] <;> rfl
  unfold five
  rw [show ([PyData.int a, .int x, .int y, .int z, .int g].all (isPlaceD n)) = true by simp only [List.all_cons, List.all_nil, p ha, p hx, p hy, p hz, p hg, Bool.and_true]]
  rfl
section
variable {P : Program} {w : World} {K : PySem.W.Frag} {mg : Str → Option Value} {base : Heap}
theorem ok_idx {f : Addr} {fd : FuncData} (F : FunD K "_law_index" "_law_index" (defArgs s_law_index) (defBody s_law_index) (defScope s_law_index) [] [] f fd) (hm : mg "_law_index" = some (.ref f)) (T : Top K mg) : Def P w K mg base "_law_index" 1 ["_law_one", "_law_at"] (spIdx K) := by
  refine def_mk F hm (F.bindsN fun _ _ _ _ _ _ us hl => match us, hl with | [_, _], _ => rfl) sc_law_index (fun vs H Q E h => ?_) (fun cdv A outer s H vs Q E hr h => ?_)
  · obtain ⟨v, d, n, rfl, _⟩ := h
    rfl
  obtain ⟨v, d, n, rfl, hd, q⟩ := h
  refine ⟨_, (pss_one (ps_ret (pe_and (pe_callB (call_isK K kb_int) (by rfl) T.b_isinstance (by decide +kernel) (pa_cons (pv 0) (pa_cons (pe_bltn (v := .ty "int") (by rfl) T.b_int (by decide +kernel) rfl) pa_nil))) (pe_and (pe_not (pe_callB (call_isK K kb_bool) (by rfl) T.b_isinstance (by decide +kernel) (pa_cons (pv 0) (pa_cons (pe_bltn (v := .ty "bool") (by rfl) T.b_bool (by decide +kernel) rfl) pa_nil)))) (pe_one (pe_chain op_le op_lt pe_int (pv 0) (pv 1))))))), ?_⟩
  refine ⟨_, rfl, v, d, rfl, hd, _, rfl, ?_⟩
  refine if_b (fun h1 => ?_) (fun h1 => ?_)
  rotate_left
  · have : isPlaceD n d = false := by
      cases d <;> first | rfl | cases h1
    rw [this] at q
    exact q
  refine ⟨_, rfl, v, d, rfl, hd, _, rfl, ⟨_, rfl, ?_⟩⟩
  refine if_nb (fun h2 => ?_) (fun h2 => ?_)
  rotate_left
  · have : isPlaceD n d = false := by
      cases d <;> first | rfl | cases h2
    rw [this] at q
    exact q
  cases d with
  | int i =>
    cases hd
    refine ⟨_, rfl, _, _, rfl, rfl, _, rfl, ?_⟩
    change Q (.bl (decide (0 ≤ i) && decide (i < n))) H at q
    refine if_dec (fun h3 => ?_) (fun h3 => ?_)
    · rw [decide_eq_true h3, Bool.true_and] at q
      exact ⟨_, rfl, _, _, rfl, rfl, q⟩
    · rw [decide_eq_false h3, Bool.false_and] at q
      exact q
  | bool x => cases h2
  | _ => cases h1
theorem ok_right {f : Addr} {fd : FuncData} (F : FunD K "_law_fault_right" "_law_fault_right" (defArgs s_law_fault_right) (defBody s_law_fault_right) (defScope s_law_fault_right) [] [] f fd) (hm : mg "_law_fault_right" = some (.ref f)) (T : Top K mg)
    (D_law_index : Def P w K mg base "_law_index" 1 ["_law_one", "_law_at"] (spIdx K)) : Def P w K mg base "_law_fault_right" 2 ["_law_rows_here", "_law_tables_here", "_law_fault"] (spRight K) := by
  refine def_mk F hm (F.bindsN fun _ _ _ _ _ _ us hl => match us, hl with | [_, _, _], _ => rfl) sc_law_fault_right (fun vs H Q E h => ?_) (fun cdv A outer s H vs Q E hr h => ?_)
  · obtain ⟨p, t, lo, up, rs, v, d, rfl, _⟩ := h
    rfl
  obtain ⟨p, t, lo, up, rs, v, d, rfl, hS, L, ht, t1, t2, hv, hn, q⟩ := h
  have sq := L.sq
  refine ⟨_, (pss_cons (ps_if (PW.pt (pw_or (pt_not (pt_val (pe_callB (call_isK K kb_tup) (by rfl) T.b_isinstance (by decide +kernel) (pa_cons (pv 2) (pa_cons (pe_bltn (v := .ty "tuple") (by rfl) T.b_tuple (by decide +kernel) rfl) pa_nil))))) (pw_or (pt_cmpR op_ne (pe_callB (call_lenK K) (by rfl) T.b_len (by decide +kernel) (pa_cons (pv 2) pa_nil)) pe_int (nomark _)) (pw_or1 (pt_cmpR (op_notInK K (r65 hr)) (pe_ix (ix_tupK K) (pv 2) pe_int (fun _ _ => rfl)) (pe_tup (pa_cons pe_str (pa_cons pe_str pa_nil))) (by rfl))))))
  (pss_one (ps_ret pe_bl))
  pss_nil)
  (pss_cons (ps_set (i := 3) sc_law_fault_right.nd rfl (Or.inl rfl) (pe_ix (ix_tupK K) (pv 2) pe_int (fun _ _ => rfl)))
  (pss_cons (ps_if (PW.pt (pw_or (pt_not (pt_val (pe_callB (call_isK K kb_tup) (by rfl) T.b_isinstance (by decide +kernel) (pa_cons (pv 3) (pa_cons (pe_bltn (v := .ty "tuple") (by rfl) T.b_tuple (by decide +kernel) rfl) pa_nil))))) (pw_or (pt_cmpR op_ne (pe_callB (call_lenK K) (by rfl) T.b_len (by decide +kernel) (pa_cons (pv 3) pa_nil)) pe_int (nomark _)) (pw_or1 (pt_not (pt_val (pe_callB (cr_allK K rfl) (by rfl) T.b_all (by decide +kernel) (pa_cons (pe_lc (own := [("_law_x", 4)]) rfl sc_law_fault_right.nd (pi_tupK K (pv 3)) (blkOk_by (by kernel_rfl)) (fun _ _ _ _ _ => (pg_name (i := 4) sc_law_fault_right.nd rfl (Or.inl rfl) (.inr rfl))) (fun _ _ _ _ _ => pts_nil) (fun _ _ _ _ _ => (pe_def D_law_index hr (by first | decide | omega) (pa_cons (pv 4) (pa_cons (pe_callB (call_lenK K) (by rfl) T.b_len (by decide +kernel) (pa_cons (pv 0) pa_nil)) pa_nil))))) pa_nil))))))))
  (pss_one (ps_ret pe_bl))
  pss_nil)
  (pss_cons (ps_asg (pv 3) (pg_tupK K (n := 5) rfl (pgs_cons (pg_name (i := 5) sc_law_fault_right.nd rfl (Or.inr rfl) (.inl rfl)) (pgs_cons (pg_name (i := 4) sc_law_fault_right.nd rfl (Or.inl rfl) (.inl rfl)) (pgs_cons (pg_name (i := 6) sc_law_fault_right.nd rfl (Or.inl rfl) (.inl rfl)) (pgs_cons (pg_name (i := 7) sc_law_fault_right.nd rfl (Or.inl rfl) (.inl rfl)) (pgs_cons (pg_name (i := 8) sc_law_fault_right.nd rfl (Or.inr rfl) (.inl rfl)) pgs_nil)))))))
  (pss_cons (ps_set (i := 9) sc_law_fault_right.nd rfl (Or.inl rfl) (pe_op op_cat (pe_lst (pa_cons (pe_tup (pa_cons (pv 4) (pa_cons (pv 7) pa_nil))) (pa_cons (pe_tup (pa_cons (pv 6) (pa_cons (pv 7) pa_nil))) pa_nil))) (pe_op op_rep (pe_lst (pa_cons (pe_tup (pa_cons (pv 4) (pa_cons (pv 6) pa_nil))) pa_nil)) (pe_callTy call_int1 (by rfl) T.b_int (by decide +kernel) (pa_cons (pe_cmpR (op_eqK K hr.units) (pe_ix (ix_tupK K) (pv 2) pe_int (fun _ _ => rfl)) pe_str (nomark _)) pa_nil)))))
  (C8.pss_cut (ps_if (PW.pt (pw_or (pt_cmpR op_lt (pe_callB cr_lenSetO (by rfl) T.b_len (by decide +kernel) (pa_cons (pe_callTy (cr_setI rfl) (by rfl) T.b_set (by decide +kernel) (pa_cons (pv 3) pa_nil)) pa_nil)) pe_int (nomark _)) (pw_or1 (PW.pt (pw_and (pt_cmpR (op_eqK K hr.units) (pe_ix (ix_tupK K) (pv 2) pe_int (fun _ _ => rfl)) pe_str (nomark _)) (pw_and1 (pt_cmpR op_ne (pe_ix ix_str (pe_ix (ix_listK K) (pv 0) (pv 4) (fun _ _ => rfl)) (pv 6) (fun _ _ => rfl)) pe_str (nomark _))))))))
  (pss_one (ps_ret pe_bl))
  pss_nil)
  (pss_one (ps_ret (pe_callB (cr_allK K rfl) (by rfl) T.b_all (by decide +kernel) (pa_cons (pe_lc (own := [("_law_p", 10), ("_law_q", 11)]) rfl sc_law_fault_right.nd (pi_listK K (pv 9)) (blkOk_by (by kernel_rfl)) (fun _ _ _ _ _ => (pg_tupK K (n := 2) rfl (pgs_cons (pg_name (i := 10) sc_law_fault_right.nd rfl (Or.inl rfl) (.inr rfl)) (pgs_cons (pg_name (i := 11) sc_law_fault_right.nd rfl (Or.inl rfl) (.inr rfl)) pgs_nil)))) (fun _ _ _ _ _ => pts_nil) (fun _ _ _ _ _ => (pe_and (pe_cmpR op_eq (pe_ix (ix_listK K) (pe_ix (ix_listK K) (pe_ix (ix_tupK K) (pv 1) pe_int (fun _ _ => rfl)) (pv 10) (fun _ _ => rfl)) (pv 11) (fun _ _ => rfl)) (pv 5) (nomark _)) (pe_one (pe_cmpR op_eq (pe_ix (ix_listK K) (pe_ix (ix_listK K) (pe_ix (ix_tupK K) (pv 1) pe_int (fun _ _ => rfl)) (pv 10) (fun _ _ => rfl)) (pv 11) (fun _ _ => rfl)) (pv 8) (nomark _)))))) pa_nil)))))))))), ?_⟩
  have q0 := q H (Same.refl H)
  refine ⟨_, rfl, v, d, rfl, hv, _, rfl, ?_⟩
  cases hv with
  | non => exact iteT q0
  | bl x => exact iteT q0
  | int i => exact iteT q0
  | str z => exact iteT q0
  | lst _ _ => exact iteT q0
  | @tup ta vs ds hta hts =>
  refine iteF ?_
  have lv := da_len hts
  refine ⟨_, rfl, _, _, rfl, .inr ⟨_, hta, rfl⟩, rfl, _, rfl, ?_⟩
  refine if_nb (fun h2 => ?_) (fun h2 => ?_)
  · rw [faultD_len (fun z => of_decide_eq_false h2 (by rw [lv, z] <;> rfl))] at q0
    exact q0
  have h2 : vs.length = 2 := by
    have := V.int.inj (of_decide_eq_true h2)
    omega
  obtain ⟨v0, v1, rfl⟩ : ∃ v0 v1, vs = [v0, v1] := by
    match vs, h2 with
    | [v0, v1], _ => exact ⟨v0, v1, rfl⟩
  cases hts with
  | @cons _ _ d0 _ hv0 hvr =>
  cases hvr with
  | @cons _ _ d1 _ hv1 hnil =>
  cases hnil
  have hn0 : Nice 10 d0 := hn.itemT (by simp)
  have hn1 : Nice 10 d1 := hn.itemT (by simp)
  change Q (.bl (headD rs d1 d0)) H at q0
  change ∀ H', Same H H' → Q (.bl (headD rs d1 d0)) H' at q
  refine ⟨_, rfl, ta, _, _, v0, rfl, rfl, hta, at0, (by show 2 ≤ sizeLine; decide), fun pk hpk => ?_⟩
  have e1 := same_new hpk (.tup [.str lad, .str fanS])
  refine ⟨d0, [.str lad, .str fanS], up_d e1 hv0, .inr (.tup (SqT.of upd_same) (.cons (.str _) (.cons (.str _) .nil))), hn0.shaped, (by decide +kernel), _, rfl, ?_⟩
  refine if_nb (fun hk => ?_) (fun hk => ?_)
  · have z : headD rs d1 d0 = false := by
      cases d0 with
      | str k =>
        have : okKind k = false := by
          cases e : okKind k with
          | false => rfl
          | true =>
            rcases kind_or e with rfl | rfl
            · rw [List.any_cons, eqv_strE, decide_eq_true rfl, Bool.true_or] at hk
              cases hk
            · rw [List.any_cons, List.any_cons, eqv_strE, eqv_strE, decide_eq_true (rfl : fanS = fanS), Bool.true_or, Bool.or_true] at hk
              cases hk
        show (okKind k && tupD rs k d1) = false
        rw [this, Bool.false_and]
      | _ => rfl
    have := q _ e1
    rw [z] at this
    exact this
  obtain ⟨k, rfl, hkk⟩ : ∃ k, d0 = .str k ∧ (k = lad ∨ k = fanS) := by
    rw [List.any_cons, List.any_cons, List.any_nil, Bool.or_false, Bool.or_eq_true] at hk
    exact hk.elim (fun h => ⟨_, eqv_strF h, .inl rfl⟩) fun h => ⟨_, eqv_strF h, .inr rfl⟩
  have hok : okKind k = true := by rcases hkk with rfl | rfl <;> decide +kernel
  cases hv0
  change ∀ H', Same H H' → Q (.bl (okKind k && tupD rs k d1)) H' at q
  simp only [hok, Bool.true_and] at q
  have hta1 := up_t e1 hta
  have hv1 := up_d e1 hv1
  have hS1 := up_l e1 hS
  have ht1 := up_t e1 ht
  have t1 := t1.up e1
  have t2 := t2.up e1
  have q := fun H' e => q H' (e1.trans e)
  clear hta hS ht q0 hk
  generalize upd H pk _ = H1 at e1 hta1 hv1 hS1 ht1 t1 t2 q ⊢
  clear e1 hpk
  have q0 := q H1 (Same.refl H1)
  refine ⟨_, rfl, ta, _, _, v1, rfl, rfl, hta1, atI_nat (j := 1) rfl, ?_⟩
  refine ⟨_, rfl, v1, d1, rfl, hv1, _, rfl, ?_⟩
  cases hv1 with
  | non => exact iteT q0
  | bl x => exact iteT q0
  | int i => exact iteT q0
  | str z => exact iteT q0
  | lst _ _ => exact iteT q0
  | @tup tf vs ds htf hts =>
  refine iteF ?_
  change Q (.bl (five rs.length ds && restD rs k ds)) H1 at q0
  change ∀ H', Same H1 H' → Q (.bl (five rs.length ds && restD rs k ds)) H' at q
  have lv := da_len hts
  refine ⟨_, rfl, _, _, rfl, .inr ⟨_, htf, rfl⟩, rfl, _, rfl, ?_⟩
  refine if_nb (fun h5 => ?_) (fun h5 => ?_)
  · have : five rs.length ds = false := by
      unfold five
      rw [decide_eq_false (fun z => of_decide_eq_false h5 (by rw [lv, z] <;> rfl)), Bool.false_and]
    rw [this] at q0
    exact q0
  have h5 : vs.length = 5 := by
    have := V.int.inj (of_decide_eq_true h5)
    omega
  have l5 : ds.length = 5 := lv ▸ h5
  refine ⟨_, rfl, tf, rfl, ⟨_, htf⟩, fun D hD => ?_⟩
  refine lc_mapT (j := 4) (fun i u _ => ∃ d, ds[i]? = some d ∧ u = .bl (isPlaceD rs.length d)) (fun _ _ _ _ _ h => h) hD htf (le_line (by omega)) (fun _ => rfl) ?_ ?_
  · intro i u H2 hu e2 Q' k'
    obtain ⟨d, hd1, hd2⟩ := da_get hts hu
    exact ⟨_, rfl, _, rfl, .ref p, rs.length, rfl, .inl ⟨_, up_l e2 hS1, (List.length_map _).symm⟩, u, d, rs.length, rfl, up_d e2 hd2, k' _ _ (Same.refl _) ⟨d, hd1, rfl⟩⟩
  intro H2 ys e2 hD2 hyl hy
  have hys : ys = (ds.map (isPlaceD rs.length)).map V.bl := by
    rw [List.map_map]
    exact eq_map_of (hyl.trans lv) fun i u hu => hy i u hu
  subst hys
  refine ⟨D, _, rfl, SqL.of hD2, _, rfl, ?_⟩
  have q2 := q H2 e2
  refine if_nb (fun ha => ?_) (fun ha => ?_)
  · have : five rs.length ds = false := by
      have h' : ds.all (isPlaceD rs.length) = false := by
        rw [List.all_map] at ha
        exact ha
      unfold five
      rw [h', Bool.false_and, Bool.and_false]
    rw [this] at q2
    exact q2
  have ha : ds.all (isPlaceD rs.length) = true := by
    rw [List.all_map] at ha
    exact ha
  obtain ⟨xs, rfl, hxs⟩ := places_get ha
  have hvs := dp_ints hts
  subst hvs
  rw [List.length_map] at l5
  match xs, l5, hxs, q, q2, htf with
  | [a, x, y, z, g], _, hxs, q, q2, htf =>
  have hla := hxs a (by simp)
  have hlx := hxs x (by simp)
  have hly := hxs y (by simp)
  have hlz := hxs z (by simp)
  have hlg := hxs g (by simp)
  change ∀ H', Same H1 H' → Q (.bl (five rs.length [.int a, .int x, .int y, .int z, .int g] && fiveOk rs k a x y z g)) H' at q
  rw [five_nodup hla hlx hly hlz hlg] at q
  have q := fun H' e => q H' (e2.trans e)
  have htf := up_t e2 htf
  have hta := up_t e2 hta1
  have hS := up_l e2 hS1
  have ht := up_t e2 ht1
  have t1 := t1.up e2
  have t2 := t2.up e2
  clear q0 q2 hta1 hS1 ht1 hts hy hyl hD2 hD e2 ha
  refine ⟨_, rfl, tf, _, rfl, htf, rfl, _, _, rfl, _, _, rfl, _, _, rfl, _, _, rfl, _, _, rfl, rfl, ?_⟩
  refine ⟨_, rfl, _, rfl, (by show 2 ≤ sizeLine; decide), fun p1 hp1 => ⟨_, rfl, _, rfl, (by show 2 ≤ sizeLine; decide), fun p2 hp2 => ⟨(by show 2 ≤ sizeLine; decide), fun l1 hl1 => ?_⟩⟩⟩
  generalize hg1 : upd H2 p1 _ = H3 at hp2 hl1 ⊢
  have e3 : Same H2 H3 := hg1 ▸ same_new hp1 _
  have a1 : H3 p1 = some (.tup [nV x, nV z]) := by rw [← hg1]; exact upd_same
  generalize hg2 : upd H3 p2 _ = H4 at hl1 ⊢
  have e4 : Same H3 H4 := hg2 ▸ same_new hp2 _
  have a2 : H4 p2 = some (.tup [nV y, nV z]) := by rw [← hg2]; exact upd_same
  generalize hg3 : upd H4 l1 _ = H5
  have e5 : Same H4 H5 := hg3 ▸ same_new hl1 _
  have a3 : H5 l1 = some (.lst [.ref p1, .ref p2]) := by rw [← hg3]; exact upd_same
  clear hg1 hg2 hg3
  refine ⟨_, rfl, _, rfl, (by show 2 ≤ sizeLine; decide), fun p3 hp3 => ⟨(by show 1 ≤ sizeLine; decide), fun l2 hl2 => ?_⟩⟩
  generalize hg1 : upd H5 p3 _ = H6 at hl2 ⊢
  have e6 : Same H5 H6 := hg1 ▸ same_new hp3 _
  have a4 : H6 p3 = some (.tup [nV x, nV y]) := by rw [← hg1]; exact upd_same
  generalize hg2 : upd H6 l2 _ = H7
  have e7 : Same H6 H7 := hg2 ▸ same_new hl2 _
  have a5 : H7 l2 = some (.lst [.ref p3]) := by rw [← hg2]; exact upd_same
  clear hg1 hg2
  have e27 := (((e3.trans e4).trans e5).trans e6).trans e7
  have hsk : SeqAt.shaped (.str k) = true := hn0.shaped
  refine ⟨_, rfl, ta, _, _, .str k, rfl, rfl, up_t e27 hta, at0, .str k, .str fanS, .str k, .str _, hsk, (by decide +kernel), ?_⟩
  generalize hb : PyData.eqv (.str k) (.str fanS) = bb
  refine .inr ⟨_, rfl, l2, _, _, rfl, rfl, a5, (by cases bb <;> decide), (by cases bb <;> decide), le_line (by cases bb <;> exact Nat.le_of_ble_eq_true rfl), fun l3 hl3 => ?_⟩
  generalize hg1 : upd H7 l3 _ = H8
  have e8 : Same H7 H8 := hg1 ▸ same_new hl3 _
  have a6 : H8 l3 = some (.lst (if bb = true then [.ref p3] else [])) := by
    rw [← hg1, upd_same]
    cases bb <;> rfl
  clear hg1
  refine ⟨l1, l3, _, _, rfl, rfl, e8 _ _ (e7 _ _ (e6 _ _ a3)), a6, le_line (by cases bb <;> exact Nat.le_of_ble_eq_true rfl), fun l4 hl4 => ?_⟩
  generalize hg1 : upd H8 l4 _ = H9
  have e9 : Same H8 H9 := hg1 ▸ same_new hl4 _
  have a7 : H9 l4 = some (.lst ([.ref p1, .ref p2] ++ (if bb = true then [.ref p3] else []))) := by rw [← hg1, upd_same]
  clear hg1
  have eS := (e27.trans e8).trans e9
  have a1 := e9 _ _ (e8 _ _ (e7 _ _ (e6 _ _ (e5 _ _ (e4 _ _ a1)))))
  have a2 := e9 _ _ (e8 _ _ (e7 _ _ (e6 _ _ (e5 _ _ a2))))
  have a4 := e9 _ _ (e8 _ _ (e7 _ _ a4))
  have q := fun H' e => q H' (eS.trans e)
  have htf := up_t eS htf
  have hta := up_t eS hta
  have hS := up_l eS hS
  have ht := up_t eS ht
  have t1 := t1.up eS
  have t2 := t2.up eS
  have hpv : PairsV K H9 ([.ref p1, .ref p2] ++ (if bb = true then [.ref p3] else [])) (pairsOf k x y z) := by
    rw [eqv_strE] at hb
    have hb' : decide (V.str k = V.str fanS) = bb := by
      rw [← hb]
      exact decide_eq_decide.mpr ⟨V.str.inj, congrArg V.str⟩
    unfold pairsOf
    rw [hb']
    cases bb with
    | true =>
      refine ⟨rfl, fun i u hu => ?_⟩
      match i, hu with
      | 0, hu => cases hu; exact ⟨_, p1, rfl, rfl, SqT.of a1⟩
      | 1, hu => cases hu; exact ⟨_, p2, rfl, rfl, SqT.of a2⟩
      | 2, hu => cases hu; exact ⟨_, p3, rfl, rfl, SqT.of a4⟩
      | _ + 3, hu => simp at hu
    | false =>
      refine ⟨rfl, fun i u hu => ?_⟩
      match i, hu with
      | 0, hu => cases hu; exact ⟨_, p1, rfl, rfl, SqT.of a1⟩
      | 1, hu => cases hu; exact ⟨_, p2, rfl, rfl, SqT.of a2⟩
      | _ + 2, hu => simp at hu
  have hul : ([.ref p1, .ref p2] ++ (if bb = true then [.ref p3] else []) : List V).length ≤ 3 := by cases bb <;> exact Nat.le_of_ble_eq_true rfl
  generalize ([.ref p1, .ref p2] ++ (if bb = true then [.ref p3] else []) : List V) = us at a7 hpv hul
  clear e3 e4 e5 e6 e7 e8 e9 eS e27 hp1 hp2 hl1 hp3 hl2 hl3 hl4 a1 a2 a3 a4 a5 a6 hb
  refine ⟨fun σ' H' => σ' = [some (.ref p), some (.ref t), some (.ref ta), some (.ref tf), some (nV x), some (nV a), some (nV y), some (nV z), some (nV g), some (.ref l4), none, none] ∧ Same H9 H' ∧ [(a : Int), x, y, z, g].Nodup ∧ (k = lad → bit rs x y = true), ?_, ?_⟩
  · refine ⟨_, rfl, tf, _, rfl, htf, (by show 5 ≤ 1000; decide), fun D S n hD hSS hN => ?_⟩
    have hN : HasN [(a : Int), x, y, z, g] n := hN
    have hle : n ≤ 5 := hN.le
    have e1 := same_new hD (SetO w D S n)
    refine ⟨D, S, n, rfl, upd_same, by omega, _, _, rfl, rfl, _, rfl, ?_⟩
    refine if_dec (fun hlt => ?_) (fun hge => ?_)
    · have := q _ e1
      rw [decide_eq_false (fun nd => by have : n = 5 := hN.full.mpr nd; omega), Bool.false_and] at this
      exact this
    have nd : [(a : Int), x, y, z, g].Nodup := hN.full.mp (by show n = 5; omega)
    refine ⟨_, rfl, ta, _, _, .str k, rfl, rfl, up_t e1 hta, at0, .str k, .str lad, .str k, .str _, hsk, (by decide +kernel), _, rfl, ?_⟩
    rw [eqv_strE]
    refine if_dec (fun h => ?_) (fun h => ⟨rfl, e1, nd, fun z => absurd z h⟩)
    refine ⟨_, rfl, _, rfl, p, _, _, _, rfl, rfl, up_l e1 hS, rowA hlx rfl, _, rfl, _, _, _, rfl, rfl, lineA sq hlx, signA sq hlx hly rfl, rfl, _, rfl, ?_⟩
    rw [cell1 sq hlx hly]
    refine if_nb (fun hb => ?_) (fun hb => ⟨rfl, e1, nd, fun _ => hb⟩)
    have := q _ e1
    rw [decide_eq_true nd, Bool.true_and, show fiveOk rs k a x y z g = false by
      unfold fiveOk
      rw [decide_eq_false (fun z => z h), hb, Bool.false_or, Bool.false_and]] at this
    exact this
  rintro σ' H' ⟨rfl, e1, nd, hlad⟩
  have q5 : ∀ H'', Same H' H'' → Q (.bl (((pairsOf k x y z).map fun p => meets rs a g p.1 p.2).all id)) H'' := fun H'' e => by
    have := q H'' (e1.trans e)
    rw [decide_eq_true nd, Bool.true_and, show fiveOk rs k a x y z g = ((pairsOf k x y z).map fun p => meets rs a g p.1 p.2).all id by
      rw [meets_all]
      unfold fiveOk
      by_cases hk : k = lad
      · rw [hlad hk, Bool.or_true, Bool.true_and]
      · rw [decide_eq_true hk, Bool.true_or, Bool.true_and]] at this
    exact this
  have mp : ∀ p ∈ pairsOf k x y z, p.1 < rs.length ∧ p.2 < rs.length := fun p hp => by
    unfold pairsOf at hp
    split at hp <;> simp at hp <;> rcases hp with rfl | rfl | rfl <;> simp_all
  have a7 := e1 _ _ a7
  have ht := up_t e1 ht
  have t1 := t1.up e1
  have t2 := t2.up e1
  have hpv : PairsV K H' us (pairsOf k x y z) := ⟨hpv.1, fun i u hu => let ⟨p, a, h1, h2, h3⟩ := hpv.2 i u hu; ⟨p, a, h1, h2, up_t e1 h3⟩⟩
  refine ⟨_, rfl, l4, rfl, ⟨_, SqL.of a7⟩, ?_⟩
  refine lc_pairs (fun p => meets rs a g p.1 p.2) (SqL.of a7) hpv (by omega) (fun _ _ => rfl) ?_ ?_
  · intro p H7 hp e7 Q' k'
    obtain ⟨h1, h2⟩ := mp p hp
    have k8 := k' H7 (Same.refl _)
    refine ⟨_, rfl, t, _, _, _, rfl, rfl, up_t e7 ht, at0, _, rfl, ix_row (t1.up e7) L.lo.ok h1 fun pp hpp => ⟨_, rfl, ix_ent hpp (Nat.lt_of_lt_of_eq h2 (L.lo.ok.rlen h1).symm) ⟨_, rfl, rfl, _, rfl, ?_⟩⟩⟩
    change (if decide (nV (lowN rs p.1 p.2) = nV a) = true then _ else _)
    rw [eqN]
    change Q' (.bl (decide (lowN rs p.1 p.2 = a) && decide (upN rs p.1 p.2 = g))) H7 at k8
    refine if_dec (fun h => ?_) (fun h => ?_)
    · refine ⟨_, rfl, t, _, _, _, rfl, rfl, up_t e7 ht, atI_nat (j := 1) rfl, _, rfl, ix_row (t2.up e7) L.up.ok h1 fun pp hpp => ⟨_, rfl, ix_ent hpp (Nat.lt_of_lt_of_eq h2 (L.up.ok.rlen h1).symm) ⟨_, rfl, rfl, ?_⟩⟩⟩
      change Q' (.bl (decide (nV (upN rs p.1 p.2) = nV g))) H7
      rw [eqN]
      rw [decide_eq_true h, Bool.true_and] at k8
      exact k8
    · rw [decide_eq_false h, Bool.false_and] at k8
      exact k8
  · intro H7 D e7 hD7
    exact ⟨D, _, rfl, SqL.of hD7, q5 _ e7⟩
end
end FF
/-! ladder_at, fan_at, find_fault told exactly; _law_has_ladder -/
namespace FF
open PySem PySem.Spec PyProof.Rows L2
def MayX (K : PySem.W.Frag) (H : Hp) (v : V) : Option PyData → Prop
  | none => v = .non
  | some d => Tp K H v d ∧ v ≠ .non
def spLadX (K : PySem.W.Frag) (f : List Str → Nat → Nat → Nat → Option PyData) : Sp := fun vs H Q _ => ∃ (b dx li : Addr) (rs : List Str) (x y z : Nat), vs = [.ref b, nV x, nV y, nV z] ∧ BoardAt K H b dx li rs ∧ x < rs.length ∧ y < rs.length ∧ z < rs.length ∧ ∀ v H', Same H H' → MayX K H' v (f rs x y z) → Q v H'
def spFindX (K : PySem.W.Frag) : Sp := fun vs H Q _ => ∃ (b dx li : Addr) (rs : List Str), vs = [.ref b] ∧ BoardAt K H b dx li rs ∧ ∀ v H', Same H H' → MayX K H' v (findD rs) → Q v H'
def spHasLad (K : PySem.W.Frag) : Sp := fun vs H Q _ => ∃ (p t lo up : Addr) (rs : List Str), vs = [.ref p, .ref t] ∧ SqL K H p (rs.map V.str) ∧ Lat rs ∧ H t = some (.tup [.ref lo, .ref up]) ∧ TabAt H lo (tabT (below rs)) ∧ TabAt H up (tabT (above rs)) ∧ ∀ b H', Same H H' → (b = true ↔ HasLad rs) → Q (.bl b) H'
theorem tp_five {K : PySem.W.Frag} {H : Hp} {a x y z g : Nat} {k : Str} {f p : Addr} (h1 : H f = some (.tup [nV a, nV x, nV y, nV z, nV g])) (h2 : H p = some (.tup [.str k, .ref f])) : MayX K H (.ref p) (some (mkF k a x y z g)) :=
  ⟨.tup (.inl h2) (.cons (.str k) (.cons (.tup (.inl h1) (.cons (.int _) (.cons (.int _) (.cons (.int _) (.cons (.int _) (.cons (.int _) .nil)))))) .nil)), fun z => by cases z⟩
theorem range_take {n i x : Nat} (h : x ∈ (List.range n).take i) : x < i := by
  rw [List.take_range] at h
  have := List.mem_range.mp h
  omega
theorem range_at {n i : Nat} (h : i < n) : (List.range n)[i]? = some i := List.getElem?_range h
section
variable {P : Program} {w : World} {K : PySem.W.Frag} {mg : Str → Option Value} {base : Heap}
theorem ok_ladderX {f : Addr} {fd : FuncData} (F : FunD K "ladder_at" "ladder_at" (defArgs s_ladder_at) (defBody s_ladder_at) (defScope s_ladder_at) [] [] f fd) (hm : mg "ladder_at" = some (.ref f)) (T : Top K mg) : Def P w K mg base "ladder_at" 1 ["board", "one", "other", "last"] (spLadX K ladD) := by
  refine def_mk F hm (F.bindsN fun _ _ _ _ _ _ us hl => match us, hl with | [_, _, _, _], _ => rfl) sc_ladder_at (fun vs H Q E h => ?_) (fun cdv A outer s H vs Q E hr h => ?_)
  · obtain ⟨b, dx, li, rs, x, y, z, rfl, _⟩ := h
    rfl
  obtain ⟨b, dx, li, rs, x, y, z, rfl, hB, hx, hy, hz, q⟩ := h
  obtain ⟨good, lo, up, hb, t1, t2, hli⟩ := id hB
  have L := lat_of good
  have lo_ : ∀ {u v}, u < rs.length → v < rs.length → v < ((tabT (below rs)).getD u []).length := fun h1 h2 => Nat.lt_of_lt_of_eq h2 (L.lo.ok.rlen h1).symm
  have up_ : ∀ {u v}, u < rs.length → v < rs.length → v < ((tabT (above rs)).getD u []).length := fun h1 h2 => Nat.lt_of_lt_of_eq h2 (L.up.ok.rlen h1).symm
  have l1 := L.low_lt hy hz
  have u1 := L.up_lt hx hy
  have l2 := L.up_lt hx l1
  have u2 := L.low_lt u1 hz
  refine ⟨_, (pss_cons (ps_par (i := 4) (j := 5) (by rfl) sc_ladder_at.nd rfl rfl (by decide) rfl rfl (pa_cons (pe_fld (pv 0) rfl) (pa_cons (pe_fld (pv 0) rfl) pa_nil)) (by rfl))
  (pss_cons (ps_par (i := 6) (j := 7) (by rfl) sc_ladder_at.nd rfl rfl (by decide) rfl rfl (pa_cons (pe_ix (ix_listK K) (pe_ix (ix_listK K) (pv 5) (pv 1) (fun _ _ => rfl)) (pe_ix (ix_listK K) (pe_ix (ix_listK K) (pv 4) (pv 2) (fun _ _ => rfl)) (pv 3) (fun _ _ => rfl)) (fun _ _ => rfl)) (pa_cons (pe_ix (ix_listK K) (pe_ix (ix_listK K) (pv 4) (pe_ix (ix_listK K) (pe_ix (ix_listK K) (pv 5) (pv 1) (fun _ _ => rfl)) (pv 2) (fun _ _ => rfl)) (fun _ _ => rfl)) (pv 3) (fun _ _ => rfl)) pa_nil)) (by rfl))
  (pss_cons (ps_if (pt_cmpR op_eq (pv 6) (pv 7) (nomark _))
  (pss_one (ps_ret pe_non))
  pss_nil)
  (pss_one (ps_ret (pe_tup (pa_cons pe_str (pa_cons (pe_tup (pa_cons (pe_ix (ix_listK K) (pe_ix (ix_listK K) (pv 4) (pv 2) (fun _ _ => rfl)) (pv 3) (fun _ _ => rfl)) (pa_cons (pv 6) (pa_cons (pv 7) (pa_cons (pv 2) (pa_cons (pe_ix (ix_listK K) (pe_ix (ix_listK K) (pv 5) (pv 1) (fun _ _ => rfl)) (pv 2) (fun _ _ => rfl)) pa_nil)))))) pa_nil)))))))), ?_⟩
  refine ⟨_, rfl, b, _, dx, _, _, rfl, hb, T.k_Board, T.n_Board_lows, rfl, _, rfl, b, _, dx, _, _, rfl, hb, T.k_Board, T.n_Board_ups, rfl, _, _, rfl, ?_⟩
  refine ⟨_, rfl, _, rfl, ix_row t2 L.up.ok hx fun p1 h1 => ⟨_, rfl, _, rfl, ix_row t1 L.lo.ok hy fun p2 h2 => ⟨_, rfl, ix_ent h2 (lo_ hy hz) (ix_ent h1 (up_ hx l1) ?_)⟩⟩⟩
  refine ⟨_, rfl, _, rfl, _, rfl, ix_row t2 L.up.ok hx fun p3 h3 => ⟨_, rfl, ix_ent h3 (up_ hx hy) (ix_row t1 L.lo.ok u1 fun p4 h4 => ⟨_, rfl, ix_ent h4 (lo_ u1 hz) ?_⟩)⟩⟩
  refine ⟨_, _, rfl, ?_⟩
  refine ⟨_, rfl, _, rfl, rfl, _, rfl, if_int (fun h => q _ _ (Same.refl H) (by unfold ladD; rw [if_pos (show upN rs x (lowN rs y z) = lowN rs (upN rs x y) z from Int.ofNat.inj h)]; rfl)) (fun h => ?_)⟩
  have e9 : ladD rs x y z = _ := if_neg fun z => h (congrArg (fun n : Nat => (n : Int)) z)
  rw [e9] at q
  refine ⟨_, rfl, _, rfl, ix_row t1 L.lo.ok hy fun p5 h5 => ⟨_, rfl, ix_ent h5 (lo_ hy hz) ?_⟩⟩
  refine ⟨_, rfl, _, rfl, _, rfl, _, rfl, _, rfl, ix_row t2 L.up.ok hx fun p6 h6 => ⟨_, rfl, ix_ent h6 (up_ hx hy) ?_⟩⟩
  refine ⟨(by show 5 ≤ sizeLine; decide), fun pf hf => ⟨(by show 2 ≤ sizeLine; decide), fun pa ha => ?_⟩⟩
  have e1 := same_new hf (.tup [nV (lowN rs y z), nV (upN rs x (lowN rs y z)), nV (lowN rs (upN rs x y) z), nV y, nV (upN rs x y)])
  have e2 := same_new ha (.tup [.str lad, .ref pf])
  exact q _ _ (e1.trans e2) (tp_five (e2 _ _ upd_same) upd_same)
theorem ok_fan_atX {f : Addr} {fd : FuncData} (F : FunD K "fan_at" "fan_at" (defArgs s_fan_at) (defBody s_fan_at) (defScope s_fan_at) [] [] f fd) (hm : mg "fan_at" = some (.ref f)) (T : Top K mg) : Def P w K mg base "fan_at" 1 ["board", "one", "other", "last"] (spLadX K fanD) := by
  refine def_mk F hm (F.bindsN fun _ _ _ _ _ _ us hl => match us, hl with | [_, _, _, _], _ => rfl) sc_fan_at (fun vs H Q E h => ?_) (fun cdv A outer s H vs Q E hr h => ?_)
  · obtain ⟨b, dx, li, rs, x, y, z, rfl, _⟩ := h
    rfl
  obtain ⟨b, dx, li, rs, x, y, z, rfl, hB, hx, hy, hz, q⟩ := h
  obtain ⟨good, lo, up, hb, t1, t2, hli⟩ := id hB
  have L := lat_of good
  have lo_ : ∀ {u v}, u < rs.length → v < rs.length → v < ((tabT (below rs)).getD u []).length := fun h1 h2 => Nat.lt_of_lt_of_eq h2 (L.lo.ok.rlen h1).symm
  have up_ : ∀ {u v}, u < rs.length → v < rs.length → v < ((tabT (above rs)).getD u []).length := fun h1 h2 => Nat.lt_of_lt_of_eq h2 (L.up.ok.rlen h1).symm
  have a1 := L.low_lt hx hy
  have a2 := L.low_lt hy hz
  have a3 := L.low_lt hz hx
  have a4 := L.up_lt a1 a2
  have a5 := L.up_lt a4 a3
  have b1 := L.up_lt hx hy
  have b2 := L.up_lt hy hz
  have b3 := L.up_lt hz hx
  have b4 := L.low_lt b1 b2
  have b5 := L.low_lt b4 b3
  refine ⟨_, (pss_cons (ps_asg (pe_tup (pa_cons (pe_fld (pv 0) rfl) (pa_cons (pe_fld (pv 0) rfl) pa_nil))) (pg_tupK K (n := 2) rfl (pgs_cons (pg_name (i := 4) sc_fan_at.nd rfl (Or.inr rfl) (.inl rfl)) (pgs_cons (pg_name (i := 5) sc_fan_at.nd rfl (Or.inr rfl) (.inl rfl)) pgs_nil))))
  (pss_cons (ps_set (i := 6) sc_fan_at.nd rfl (Or.inr rfl) (pe_ix (ix_listK K) (pe_ix (ix_listK K) (pv 5) (pe_ix (ix_listK K) (pe_ix (ix_listK K) (pv 5) (pe_ix (ix_listK K) (pe_ix (ix_listK K) (pv 4) (pv 1) (fun _ _ => rfl)) (pv 2) (fun _ _ => rfl)) (fun _ _ => rfl)) (pe_ix (ix_listK K) (pe_ix (ix_listK K) (pv 4) (pv 2) (fun _ _ => rfl)) (pv 3) (fun _ _ => rfl)) (fun _ _ => rfl)) (fun _ _ => rfl)) (pe_ix (ix_listK K) (pe_ix (ix_listK K) (pv 4) (pv 3) (fun _ _ => rfl)) (pv 1) (fun _ _ => rfl)) (fun _ _ => rfl)))
  (pss_cons (ps_set (i := 7) sc_fan_at.nd rfl (Or.inr rfl) (pe_ix (ix_listK K) (pe_ix (ix_listK K) (pv 4) (pe_ix (ix_listK K) (pe_ix (ix_listK K) (pv 4) (pe_ix (ix_listK K) (pe_ix (ix_listK K) (pv 5) (pv 1) (fun _ _ => rfl)) (pv 2) (fun _ _ => rfl)) (fun _ _ => rfl)) (pe_ix (ix_listK K) (pe_ix (ix_listK K) (pv 5) (pv 2) (fun _ _ => rfl)) (pv 3) (fun _ _ => rfl)) (fun _ _ => rfl)) (fun _ _ => rfl)) (pe_ix (ix_listK K) (pe_ix (ix_listK K) (pv 5) (pv 3) (fun _ _ => rfl)) (pv 1) (fun _ _ => rfl)) (fun _ _ => rfl)))
  (pss_cons (ps_if (pt_cmpR op_eq (pv 6) (pv 7) (nomark _))
  (pss_one (ps_ret pe_non))
  pss_nil)
  (pss_cons (ps_setLc (i := 8) (own := [("place", 9)]) rfl sc_fan_at.nd rfl rfl (sw_true rfl rfl rfl (by kernel_rfl)) (pi_tupK K (pe_tup (pa_cons (pv 1) (pa_cons (pv 2) (pa_cons (pv 3) pa_nil))))) (blkOk_by (by kernel_rfl)) (fun _ _ _ _ _ => (pg_name (i := 9) sc_fan_at.nd rfl (Or.inl rfl) (.inr rfl))) (fun _ _ _ _ _ => pts_nil) (fun _ _ _ _ _ => (pe_ix (ix_listK K) (pe_ix (ix_listK K) (pv 5) (pe_ix (ix_listK K) (pe_ix (ix_listK K) (pv 4) (pv 9) (fun _ _ => rfl)) (pv 7) (fun _ _ => rfl)) (fun _ _ => rfl)) (pv 6) (fun _ _ => rfl))))
  (pss_one (ps_ret (pe_tup (pa_cons pe_str (pa_cons (pe_tup (pa_cons (pv 6) (StX.pa_star (pv 8) (pa_cons (pv 7) pa_nil)))) pa_nil)))))))))), ?_⟩
  refine ⟨_, rfl, b, _, dx, _, _, rfl, hb, T.k_Board, T.n_Board_lows, rfl, _, rfl, b, _, dx, _, _, rfl, hb, T.k_Board, T.n_Board_ups, rfl, (by show 2 ≤ sizeLine; decide), fun pp hpp => ⟨pp, _, rfl, SqT.of upd_same, rfl, _, _, rfl, _, _, rfl, rfl, ?_⟩⟩
  have e0 := same_new hpp (.tup [.ref lo, .ref up])
  have q := fun v H' e => q v H' (e0.trans e)
  have t1 := t1.up e0
  have t2 := t2.up e0
  generalize upd H pp (.tup [.ref lo, .ref up]) = H0 at e0 q t1 t2 ⊢
  refine ⟨_, rfl, _, rfl, _, rfl, _, rfl, ix_row t1 L.lo.ok hx fun p1 h1 => ⟨_, rfl, ix_ent h1 (lo_ hx hy) (ix_row t2 L.up.ok a1 fun p2 h2 => ⟨_, rfl, _, rfl, ix_row t1 L.lo.ok hy fun p3 h3 => ⟨_, rfl, ix_ent h3 (lo_ hy hz) (ix_ent h2 (up_ a1 a2) (ix_row t2 L.up.ok a4 fun p4 h4 => ⟨_, rfl, _, rfl, ix_row t1 L.lo.ok hz fun p5 h5 => ⟨_, rfl, ix_ent h5 (lo_ hz hx) (ix_ent h4 (up_ a4 a3) ?_)⟩⟩))⟩⟩)⟩⟩
  refine ⟨_, rfl, _, rfl, _, rfl, _, rfl, ix_row t2 L.up.ok hx fun p1 h1 => ⟨_, rfl, ix_ent h1 (up_ hx hy) (ix_row t1 L.lo.ok b1 fun p2 h2 => ⟨_, rfl, _, rfl, ix_row t2 L.up.ok hy fun p3 h3 => ⟨_, rfl, ix_ent h3 (up_ hy hz) (ix_ent h2 (lo_ b1 b2) (ix_row t1 L.lo.ok b4 fun p4 h4 => ⟨_, rfl, _, rfl, ix_row t2 L.up.ok hz fun p5 h5 => ⟨_, rfl, ix_ent h5 (up_ hz hx) (ix_ent h4 (lo_ b4 b3) ?_)⟩⟩))⟩⟩)⟩⟩
  refine ⟨_, rfl, _, rfl, rfl, _, rfl, if_int (fun h => q _ _ (Same.refl _) (by unfold fanD; rw [if_pos (show leastN rs x y z = greatN rs x y z from Int.ofNat.inj h)]; rfl)) (fun h => ?_)⟩
  have e9 : fanD rs x y z = _ := if_neg fun z => h (congrArg (fun n : Nat => (n : Int)) z)
  rw [e9] at q
  change upN rs (upN rs (lowN rs x y) (lowN rs y z)) (lowN rs z x) < rs.length at a5
  change lowN rs (lowN rs (upN rs x y) (upN rs y z)) (upN rs z x) < rs.length at b5
  have hm' : ∀ p ∈ [x, y, z], p < rs.length := by simp [hx, hy, hz]
  refine ⟨_, rfl, _, rfl, _, rfl, (by show 3 ≤ sizeLine; decide), fun pt hpt => ⟨pt, rfl, ⟨_, SqT.of upd_same⟩, fun D hD => ?_⟩⟩
  have e1 := same_new hpt (.tup [nV x, nV y, nV z])
  refine lc_mapT (xs := [nV x, nV y, nV z]) (j := 9) (fun i u _ => ∃ p : Nat, [x, y, z][i]? = some p ∧ u = nV (sideN rs (leastN rs x y z) (greatN rs x y z) p)) (fun _ _ _ _ _ h => h) hD (SqT.of upd_same) (by show 3 ≤ sizeLine; decide) (fun _ => rfl) ?_ ?_
  · intro i u H3 hu e3 Q' k'
    obtain ⟨p, hp, rfl⟩ := map_get (l := [x, y, z]) hu
    have hpl := hm' p (List.mem_of_getElem? hp)
    have c1 := L.low_lt hpl b5
    have e13 := e1.trans e3
    refine ⟨_, rfl, _, rfl, _, rfl, ix_row (t1.up e13) L.lo.ok hpl fun p1 h1 => ⟨_, rfl, ix_ent h1 (lo_ hpl b5) (ix_row (t2.up e13) L.up.ok c1 fun p2 h2 => ⟨_, rfl, ix_ent h2 (up_ c1 a5) (k' _ _ (Same.refl _) ⟨p, hp, rfl⟩)⟩)⟩⟩
  intro H2 ys e2 hD2 hyl hy'
  obtain rfl : ys = [nV (sideN rs (leastN rs x y z) (greatN rs x y z) x), nV (sideN rs (leastN rs x y z) (greatN rs x y z) y), nV (sideN rs (leastN rs x y z) (greatN rs x y z) z)] := by
    match ys, hyl with
    | [y0, y1, y2], _ =>
      obtain ⟨p0, h0, e0⟩ := hy' 0 y0 rfl
      obtain ⟨p1, h1, e1⟩ := hy' 1 y1 rfl
      obtain ⟨p2, h2, e2⟩ := hy' 2 y2 rfl
      cases h0
      cases h1
      cases h2
      rw [e0, e1, e2]
  refine ⟨_, rfl, _, rfl, D, _, rfl, .inr (SqL.of hD2), _, rfl, (by show 5 ≤ sizeLine; decide), fun pf hf => ⟨(by show 2 ≤ sizeLine; decide), fun pa ha => ?_⟩⟩
  have e3 := same_new hf (.tup [nV (upN rs (upN rs (lowN rs x y) (lowN rs y z)) (lowN rs z x)), nV (sideN rs (leastN rs x y z) (greatN rs x y z) x), nV (sideN rs (leastN rs x y z) (greatN rs x y z) y), nV (sideN rs (leastN rs x y z) (greatN rs x y z) z), nV (lowN rs (lowN rs (upN rs x y) (upN rs y z)) (upN rs z x))])
  have e4 := same_new ha (.tup [.str fanS, .ref pf])
  exact q _ _ (e1.trans (e2.trans (e3.trans e4))) (tp_five (e4 _ _ upd_same) upd_same)
theorem fn_findX {f : Addr} {fd : FuncData} (F : FunD K "find_fault" "find_fault" (defArgs s_find_fault) (defBody s_find_fault) (defScope s_find_fault) [] [] f fd) (T : Top K mg)
    (D_Board___len__ : MethD P w K mg base "Board" "__len__" 1 ["self"] (spLenB K)) (D_Board_is_below : MethX P w K mg base "Board" "is_below" 5 ["self", "one", "other"] (spBelow K))
    (D_ladder_at : Def P w K mg base "ladder_at" 1 ["board", "one", "other", "last"] (spLadX K ladD)) (D_fan_at : Def P w K mg base "fan_at" 1 ["board", "one", "other", "last"] (spLadX K fanD)) : FnOk P w K mg base CX0 6 f fd ["board"] (spFindX K) := by
  refine fn_mk F sc_find_fault (fun vs H Q E h => ?_) (fun cdv A outer s H vs Q E hr h => ?_)
  · obtain ⟨b, dx, li, rs, rfl, _⟩ := h
    rfl
  obtain ⟨b, dx, li, rs, rfl, hB, q⟩ := h
  have L := lat_of hB.1
  have sq := L.sq
  have n60 := sq.le
  refine ⟨_, (pss_cons (ps_set (i := 1) sc_find_fault.nd rfl (Or.inl rfl) (pe_listRg rfl (by rfl) T.b_list (prg_1 (by rfl) T.b_range (pe_callB (call_lenD D_Board___len__ hr (by first | decide | omega)) (by rfl) T.b_len (by decide +kernel) (pa_cons (pv 0) pa_nil)))))
  (pss_cons (ps_for PassesOwn.never rfl (pi_listK K (pv 1)) (pg_name (i := 2) sc_find_fault.nd rfl (Or.inr rfl) (.inl rfl))
  (pss_one (ps_for PassesOwn.never rfl (pi_listK K (pe_lc (own := [("place", 4)]) rfl sc_find_fault.nd (pi_listK K (pv 1)) (blkOk_by (by kernel_rfl)) (fun _ _ _ _ _ => (pg_name (i := 4) sc_find_fault.nd rfl (Or.inl rfl) (.inr rfl))) (fun _ _ _ _ _ => (pts_one (pt_val (pe_methxNK K D_Board_is_below hr (by first | decide | omega) (pv 0) (pa_cons (pv 2) (pa_cons (pv 4) pa_nil)))))) (fun _ _ _ _ _ => (pv 4)))) (pg_name (i := 3) sc_find_fault.nd rfl (Or.inl rfl) (.inl rfl))
  (pss_one (ps_for PassesOwn.never rfl (pi_listK K (pv 1)) (pg_name (i := 5) sc_find_fault.nd rfl (Or.inl rfl) (.inl rfl))
  (pss_cons (ps_set (i := 6) sc_find_fault.nd rfl (Or.inl rfl) (pe_def D_ladder_at hr (by first | decide | omega) (pa_cons (pv 0) (pa_cons (pv 2) (pa_cons (pv 5) (pa_cons (pv 3) pa_nil))))))
  (pss_one (ps_if (pt_cmp (pc_notN (pv 6)) (by rfl))
  (pss_one (ps_ret (pv 6)))
  pss_nil))))))))
  (pss_cons (ps_for PassesOwn.never rfl (pi_listK K (pv 1)) (pg_name (i := 2) sc_find_fault.nd rfl (Or.inr rfl) (.inl rfl))
  (pss_one (ps_for PassesOwn.never rfl (pi_range1 (by rfl) T.b_range (pa_cons (pv 2) pa_nil)) (pg_name (i := 5) sc_find_fault.nd rfl (Or.inl rfl) (.inl rfl))
  (pss_one (ps_for PassesOwn.never rfl (pi_range1 (by rfl) T.b_range (pa_cons (pv 5) pa_nil)) (pg_name (i := 3) sc_find_fault.nd rfl (Or.inl rfl) (.inl rfl))
  (pss_cons (ps_set (i := 6) sc_find_fault.nd rfl (Or.inl rfl) (pe_def D_fan_at hr (by first | decide | omega) (pa_cons (pv 0) (pa_cons (pv 2) (pa_cons (pv 5) (pa_cons (pv 3) pa_nil))))))
  (pss_one (ps_if (pt_cmp (pc_notN (pv 6)) (by rfl))
  (pss_one (ps_ret (pv 6)))
  pss_nil))))))))
  (pss_one (ps_ret pe_non))))), ?_⟩
  obtain ⟨bl, bu, hb, _⟩ := id hB.2
  refine ⟨_, rfl, b, dx, _, rfl, hb, ⟨b, dx, li, rs, rfl, hB.lines, rs.length, rfl, by omega, _, rfl, RgOk.of_le (by omega) (by omega) (by omega) (by omega), fun ev hev => ?_⟩⟩
  rw [rgV_nat]
  have e1 := same_new hev (.lst ((List.range rs.length).map nV))
  have hE1 : SqL K (upd H ev (.lst ((List.range rs.length).map nV))) ev ((List.range rs.length).map nV) := SqL.of upd_same
  generalize upd H ev (.lst ((List.range rs.length).map nV)) = H1 at e1 hE1 ⊢
  have hB1 := hB.up e1
  have hb1 := e1 _ _ hb
  have q := fun v H' e => q v H' (e1.trans e)
  clear hB hb e1 hev
  have row : ∀ {i : Nat} {x : V}, ((List.range rs.length).map nV)[i]? = some x → i < rs.length ∧ x = nV i := fun {i x} h => by
    obtain ⟨z, hz, rfl⟩ := map_get h
    have hi := (List.getElem?_eq_some_iff.mp hz).1
    rw [List.length_range] at hi
    rw [List.getElem?_range hi] at hz
    cases hz
    exact ⟨hi, rfl⟩
  refine ⟨_, rfl, ev, rfl, ⟨_, hE1⟩, ?_⟩
  refine for_list (K := K) (a := ev) (xs := (List.range rs.length).map nV) (fun i σ H' => (∃ o2 o3 o4 o5 o6, σ = [some (.ref b), some (.ref ev), o2, o3, o4, o5, o6]) ∧ Same H1 H' ∧ ∀ x' < i, (((List.range rs.length).filter fun z => bit rs x' z).findSome? fun z => (List.range rs.length).findSome? fun y => ladD rs x' y z) = none) ⟨⟨_, _, _, _, _, rfl⟩, Same.refl _, fun x' h => absurd h (Nat.not_lt_zero _)⟩ (fun i σ H' _ h => up_l h.2.1 hE1) ?_ ?_
  · rintro x u σ H2 hu ⟨⟨o2, o3, o4, o5, o6, rfl⟩, e2, no1⟩
    obtain ⟨hx, rfl⟩ := row hu
    refine ⟨_, rfl, ev, rfl, ⟨_, up_l e2 hE1⟩, fun D hD => ?_⟩
    refine lc_filtX (j := 4) (f := nV) (l := List.range rs.length) (fun z => bit rs x z) nV_inj hD (up_l e2 hE1) (by rw [List.length_range]; omega) (fun _ => rfl) ?_ (fun v H3 Q' k => ⟨_, rfl, k⟩) ?_
    · intro z H3 hz e3 Qb k
      have e23 := e2.trans e3
      refine ⟨_, rfl, b, dx, _, rfl, e23 _ _ hb1, rfl, _, rfl, _, rfl, ?_⟩
      dsimp only [tNil]
      exact below_ok (hB1.up e23).lines sq hx (List.mem_range.mp hz) fun H4 e4 => ⟨_, rfl, k H4 e4⟩
    intro H3 e3 hD3
    have e13 := e2.trans e3
    refine ⟨D, rfl, ⟨_, SqL.of hD3⟩, ?_⟩
    refine for_list (K := K) (a := D) (xs := ((List.range rs.length).filter fun z => bit rs x z).map nV) (fun j σ H' => (∃ o3 o4 o5 o6, σ = [some (.ref b), some (.ref ev), some (nV x), o3, o4, o5, o6]) ∧ Same H3 H' ∧ ∀ z' ∈ ((List.range rs.length).filter fun z => bit rs x z).take j, ((List.range rs.length).findSome? fun y => ladD rs x y z') = none) ⟨⟨_, _, _, _, rfl⟩, Same.refl _, fun z' h => by cases h⟩ (fun i σ H' _ h => up_l h.2.1 (SqL.of hD3)) ?_ ?_
    · rintro j u σ H4 hu ⟨⟨o3, o4, o5, o6, rfl⟩, e4, no2⟩
      obtain ⟨z, hz, rfl⟩ := map_get hu
      have hzz := hz
      have hz : z < rs.length := List.mem_range.mp (List.mem_filter.mp (List.mem_of_getElem? hz)).1
      have e14 := e13.trans e4
      refine ⟨_, rfl, ev, rfl, ⟨_, up_l e14 hE1⟩, ?_⟩
      refine for_list (K := K) (a := ev) (xs := (List.range rs.length).map nV) (fun k σ H' => (∃ o4 o5 o6, σ = [some (.ref b), some (.ref ev), some (nV x), some (nV z), o4, o5, o6]) ∧ Same H4 H' ∧ ∀ y' < k, ladD rs x y' z = none) ⟨⟨_, _, _, rfl⟩, Same.refl _, fun y' h => absurd h (Nat.not_lt_zero _)⟩ (fun i σ H' _ h => up_l (e14.trans h.2.1) hE1) ?_ ?_
      · rintro y u σ H5 hu ⟨⟨o4, o5, o6, rfl⟩, e5, no3⟩
        obtain ⟨hy, rfl⟩ := row hu
        have e15 := e14.trans e5
        refine ⟨_, rfl, _, rfl, _, rfl, _, rfl, b, dx, li, rs, x, y, z, rfl, hB1.up e15, hx, hy, hz, fun v H6 e6 hv => ?_⟩
        refine ⟨_, rfl, _, rfl, ?_⟩
        cases hl : ladD rs x y z with
        | none =>
          rw [hl] at hv
          obtain rfl := hv
          refine ⟨⟨_, _, _, rfl⟩, e5.trans e6, fun y' hy' => ?_⟩
          by_cases e : y' = y
          · subst e; exact hl
          · exact no3 y' (by omega)
        | some d =>
          rw [hl] at hv
          rw [decide_eq_false hv.2]
          refine ⟨_, rfl, q _ _ (e15.trans e6) ?_⟩
          have a1 : ((List.range rs.length).findSome? fun y => ladD rs x y z) = some d := first_at (range_at hy) (fun y' h => no3 y' (range_take h)) hl
          have a2 : (((List.range rs.length).filter fun z => bit rs x z).findSome? fun z => (List.range rs.length).findSome? fun y => ladD rs x y z) = some d := first_at hzz no2 a1
          have a3 : ladsD rs = some d := first_at (range_at hx) (fun x' h => no1 x' (range_take h)) a2
          unfold findD
          rw [a3]
          exact hv
      · rintro σ H5 ⟨⟨o4, o5, o6, rfl⟩, e5, no3⟩
        refine ⟨⟨_, _, _, _, rfl⟩, e4.trans e5, fun z' hz' => ?_⟩
        rw [List.take_add_one, hzz] at hz'
        rcases List.mem_append.mp hz' with h | h
        · exact no2 z' h
        · obtain rfl : z' = z := by simpa using h
          exact first_no fun y' h => no3 y' (by rw [List.length_map, List.length_range]; exact List.mem_range.mp h)
    · rintro σ H4 ⟨⟨o3, o4, o5, o6, rfl⟩, e4, no2⟩
      refine ⟨⟨_, _, _, _, _, rfl⟩, e13.trans e4, fun x' hx' => ?_⟩
      by_cases e : x' = x
      · subst e
        rw [List.length_map, List.take_length] at no2
        exact first_no no2
      · exact no1 x' (by omega)
  rintro σ H2 ⟨⟨o2, o3, o4, o5, o6, rfl⟩, e2, no1⟩
  have l0 : ladsD rs = none := first_no fun x' h => no1 x' (by rw [List.length_map, List.length_range]; exact List.mem_range.mp h)
  have fd : findD rs = fansD rs := by unfold findD; rw [l0]
  clear no1
  refine ⟨_, rfl, ev, rfl, ⟨_, up_l e2 hE1⟩, ?_⟩
  refine for_list (K := K) (a := ev) (xs := (List.range rs.length).map nV) (fun i σ H' => (∃ o2 o3 o4 o5 o6, σ = [some (.ref b), some (.ref ev), o2, o3, o4, o5, o6]) ∧ Same H1 H' ∧ ∀ x' < i, ((List.range x').findSome? fun y => (List.range y).findSome? fun z => fanD rs x' y z) = none) ⟨⟨_, _, _, _, _, rfl⟩, e2, fun x' h => absurd h (Nat.not_lt_zero _)⟩ (fun i σ H' _ h => up_l h.2.1 hE1) ?_ ?_
  · rintro x u σ H3 hu ⟨⟨o2, o3, o4, o5, o6, rfl⟩, e3, no1⟩
    obtain ⟨hx, rfl⟩ := row hu
    refine ⟨_, rfl, x, rfl, by omega, by omega, ?_⟩
    refine for_range (lo := 0) (n := x) (fun i σ H' => (∃ o3 o4 o5 o6, σ = [some (.ref b), some (.ref ev), some (nV x), o3, o4, o5, o6]) ∧ Same H3 H' ∧ ∀ y' < i, ((List.range y').findSome? fun z => fanD rs x y' z) = none) ⟨⟨_, _, _, _, rfl⟩, Same.refl _, fun y' h => absurd h (Nat.not_lt_zero _)⟩ ?_ ?_
    · rintro y σ H4 hy ⟨⟨o3, o4, o5, o6, rfl⟩, e4, no2⟩
      rw [Int.zero_add]
      refine ⟨_, rfl, y, rfl, by omega, by omega, ?_⟩
      refine for_range (lo := 0) (n := y) (fun i σ H' => (∃ o3 o4 o6, σ = [some (.ref b), some (.ref ev), some (nV x), o3, o4, some (nV y), o6]) ∧ Same H4 H' ∧ ∀ z' < i, fanD rs x y z' = none) ⟨⟨_, _, _, rfl⟩, Same.refl _, fun z' h => absurd h (Nat.not_lt_zero _)⟩ ?_ ?_
      · rintro z σ H5 hz ⟨⟨o3, o4, o6, rfl⟩, e5, no3⟩
        rw [Int.zero_add]
        have e15 := e3.trans (e4.trans e5)
        refine ⟨_, rfl, _, rfl, _, rfl, _, rfl, b, dx, li, rs, x, y, z, rfl, hB1.up e15, hx, by omega, by omega, fun v H6 e6 hv => ?_⟩
        refine ⟨_, rfl, _, rfl, ?_⟩
        cases hl : fanD rs x y z with
        | none =>
          rw [hl] at hv
          obtain rfl := hv
          refine ⟨⟨_, _, _, rfl⟩, e5.trans e6, fun z' hz' => ?_⟩
          by_cases e : z' = z
          · subst e; exact hl
          · exact no3 z' (by omega)
        | some d =>
          rw [hl] at hv
          rw [decide_eq_false hv.2]
          refine ⟨_, rfl, q _ _ (e15.trans e6) ?_⟩
          have a1 : ((List.range y).findSome? fun z => fanD rs x y z) = some d := first_at (range_at hz) (fun z' h => no3 z' (range_take h)) hl
          have a2 : ((List.range x).findSome? fun y => (List.range y).findSome? fun z => fanD rs x y z) = some d := first_at (range_at hy) (fun y' h => no2 y' (range_take h)) a1
          have a3 : fansD rs = some d := first_at (range_at hx) (fun x' h => no1 x' (range_take h)) a2
          rw [fd, a3]
          exact hv
      · rintro σ H5 ⟨⟨o3, o4, o6, rfl⟩, e5, no3⟩
        refine ⟨⟨_, _, _, _, rfl⟩, e4.trans e5, fun y' hy' => ?_⟩
        by_cases e : y' = y
        · subst e
          exact first_no fun z' h => no3 z' (List.mem_range.mp h)
        · exact no2 y' (by omega)
    · rintro σ H4 ⟨⟨o3, o4, o5, o6, rfl⟩, e4, no2⟩
      refine ⟨⟨_, _, _, _, _, rfl⟩, e3.trans e4, fun x' hx' => ?_⟩
      by_cases e : x' = x
      · subst e
        exact first_no fun y' h => no2 y' (List.mem_range.mp h)
      · exact no1 x' (by omega)
  rintro σ H3 ⟨_, e3, no1⟩
  refine q _ _ e3 ?_
  rw [fd, show fansD rs = none from first_no fun x' h => no1 x' (by rw [List.length_map, List.length_range]; exact List.mem_range.mp h)]
  rfl
theorem ok_findX {f : Addr} {fd : FuncData} (F : FunD K "find_fault" "find_fault" (defArgs s_find_fault) (defBody s_find_fault) (defScope s_find_fault) [] [] f fd) (hm : mg "find_fault" = some (.ref f)) (T : Top K mg)
    (D_Board___len__ : MethD P w K mg base "Board" "__len__" 1 ["self"] (spLenB K)) (D_Board_is_below : MethX P w K mg base "Board" "is_below" 5 ["self", "one", "other"] (spBelow K))
    (D_ladder_at : Def P w K mg base "ladder_at" 1 ["board", "one", "other", "last"] (spLadX K ladD)) (D_fan_at : Def P w K mg base "fan_at" 1 ["board", "one", "other", "last"] (spLadX K fanD)) : Def P w K mg base "find_fault" 6 ["board"] (spFindX K) :=
  ⟨f, fd, fn_findX F T D_Board___len__ D_Board_is_below D_ladder_at D_fan_at, hm, F.kp, F.bindsN fun _ _ _ _ _ _ us hl => match us, hl with | [_], _ => rfl⟩
theorem ok_hasLad {f : Addr} {fd : FuncData} (F : FunD K "_law_has_ladder" "_law_has_ladder" (defArgs s_law_has_ladder) (defBody s_law_has_ladder) (defScope s_law_has_ladder) [] [] f fd) (hm : mg "_law_has_ladder" = some (.ref f)) (T : Top K mg) : Def P w K mg base "_law_has_ladder" 1 ["_law_rows_here", "_law_tables_here"] (spHasLad K) := by
  refine def_mk F hm (F.bindsN fun _ _ _ _ _ _ us hl => match us, hl with | [_, _], _ => rfl) sc_law_has_ladder (fun vs H Q E h => ?_) (fun cdv A outer s0 H vs Q E hr h => ?_)
  · obtain ⟨p, t, lo, up, rs, rfl, _⟩ := h
    rfl
  obtain ⟨p, t, lo, up, rs, rfl, hp, L, ht, t1, t2, q⟩ := h
  have sq := L.sq
  have n60 := sq.le
  refine ⟨_, (pss_cons (ps_asg (pv 1) (pg_tupK K (n := 2) rfl (pgs_cons (pg_name (i := 2) sc_law_has_ladder.nd rfl (Or.inr rfl) (.inl rfl)) (pgs_cons (pg_name (i := 3) sc_law_has_ladder.nd rfl (Or.inr rfl) (.inl rfl)) pgs_nil))))
  (pss_cons (ps_set (i := 4) sc_law_has_ladder.nd rfl (Or.inl rfl) (pe_listRg rfl (by rfl) T.b_list (prg_1 (by rfl) T.b_range (pe_callB (call_lenK K) (by rfl) T.b_len (by decide +kernel) (pa_cons (pv 0) pa_nil)))))
  (pss_cons (ps_for PassesOwn.never rfl (pi_listK K (pv 4)) (pg_name (i := 5) sc_law_has_ladder.nd rfl (Or.inr rfl) (.inl rfl))
  (pss_one (ps_for PassesOwn.never rfl (pi_listK K (pe_lc (own := [("_law_y", 6)]) rfl sc_law_has_ladder.nd (pi_listK K (pv 4)) (blkOk_by (by kernel_rfl)) (fun _ _ _ _ _ => (pg_name (i := 6) sc_law_has_ladder.nd rfl (Or.inl rfl) (.inr rfl))) (fun _ _ _ _ _ => (pts_one (PW.pt (pw_and (pt_cmpR op_eq (pe_ix ix_str (pe_ix (ix_listK K) (pv 0) (pv 5) (fun _ _ => rfl)) (pv 6) (fun _ _ => rfl)) pe_str (nomark _)) (pw_and1 (pt_cmpR op_ne (pv 5) (pv 6) (nomark _))))))) (fun _ _ _ _ _ => (pv 6)))) (pg_name (i := 6) sc_law_has_ladder.nd rfl (Or.inr rfl) (.inl rfl))
  (pss_one (ps_if (pt_val (pe_callB (cr_anyK K rfl) (by rfl) T.b_any (by decide +kernel) (pa_cons (pe_lc (own := [("_law_z", 7)]) rfl sc_law_has_ladder.nd (pi_listK K (pv 4)) (blkOk_by (by kernel_rfl)) (fun _ _ _ _ _ => (pg_name (i := 7) sc_law_has_ladder.nd rfl (Or.inl rfl) (.inr rfl))) (fun _ _ _ _ _ => pts_nil) (fun _ _ _ _ _ => (pe_and (pe_cmpR op_eq (pe_ix (ix_listK K) (pe_ix (ix_listK K) (pv 2) (pv 5) (fun _ _ => rfl)) (pv 7) (fun _ _ => rfl)) (pe_ix (ix_listK K) (pe_ix (ix_listK K) (pv 2) (pv 6) (fun _ _ => rfl)) (pv 7) (fun _ _ => rfl)) (nomark _)) (pe_one (pe_cmpR op_eq (pe_ix (ix_listK K) (pe_ix (ix_listK K) (pv 3) (pv 5) (fun _ _ => rfl)) (pv 7) (fun _ _ => rfl)) (pe_ix (ix_listK K) (pe_ix (ix_listK K) (pv 3) (pv 6) (fun _ _ => rfl)) (pv 7) (fun _ _ => rfl)) (nomark _)))))) pa_nil)))
  (pss_one (ps_ret pe_bl))
  pss_nil)))))
  (pss_one (ps_ret pe_bl))))), ?_⟩
  refine ⟨_, rfl, t, _, rfl, SqT.of ht, rfl, _, _, rfl, _, _, rfl, rfl, ?_⟩
  refine ⟨_, rfl, .ref p, rs.length, rfl, .inl ⟨_, hp, (List.length_map _).symm⟩, _, rfl, RgOk.of_le (by omega) (by omega) (by omega) (by omega), fun ev hev => ?_⟩
  rw [rgV_nat]
  have e1 := same_new hev (.lst ((List.range rs.length).map nV))
  have hE1 : SqL K (upd H ev (.lst ((List.range rs.length).map nV))) ev ((List.range rs.length).map nV) := SqL.of upd_same
  generalize upd H ev (.lst ((List.range rs.length).map nV)) = H1 at e1 hE1 ⊢
  have t1 := t1.up e1
  have t2 := t2.up e1
  have hp := up_l e1 hp
  have q := fun b H' e => q b H' (e1.trans e)
  clear ht e1 hev
  have row : ∀ {i : Nat} {x : V}, ((List.range rs.length).map nV)[i]? = some x → i < rs.length ∧ x = nV i := fun {i x} h => by
    obtain ⟨z, hz, rfl⟩ := map_get h
    have hi := (List.getElem?_eq_some_iff.mp hz).1
    rw [List.length_range] at hi
    rw [List.getElem?_range hi] at hz
    cases hz
    exact ⟨hi, rfl⟩
  let bad : Nat → Nat → Bool := fun x y => (List.range rs.length).any fun z => decide (lowN rs x z = lowN rs y z) && decide (upN rs x z = upN rs y z)
  refine ⟨_, rfl, ev, rfl, ⟨_, hE1⟩, ?_⟩
  refine for_list (K := K) (a := ev) (xs := (List.range rs.length).map nV) (fun i σ H' => (∃ o5 o6 o7, σ = [some (.ref p), some (.ref t), some (.ref lo), some (.ref up), some (.ref ev), o5, o6, o7]) ∧ Same H1 H' ∧ ∀ x' < i, ∀ y < rs.length, bit rs x' y = true → x' ≠ y → bad x' y = false) ⟨⟨_, _, _, rfl⟩, Same.refl _, fun x' h => absurd h (Nat.not_lt_zero _)⟩ (fun i σ H' _ h => up_l h.2.1 hE1) ?_ ?_
  · rintro x u σ H2 hu ⟨⟨o5, o6, o7, rfl⟩, e2, no1⟩
    obtain ⟨hx, rfl⟩ := row hu
    refine ⟨_, rfl, ev, rfl, ⟨_, up_l e2 hE1⟩, fun D hD => ?_⟩
    refine lc_filtX (j := 6) (f := nV) (l := List.range rs.length) (fun y => bit rs x y && decide (x ≠ y)) nV_inj hD (up_l e2 hE1) (by rw [List.length_range]; omega) (fun _ => rfl) ?_ (fun v H3 Q' k => ⟨_, rfl, k⟩) ?_
    · intro y H3 hy e3 Qb k
      have hy := List.mem_range.mp hy
      have e23 := e2.trans e3
      have k := k H3 (Same.refl _)
      refine ⟨_, rfl, _, rfl, p, _, _, _, rfl, rfl, up_l e23 hp, rowA hx rfl, _, rfl, _, _, _, rfl, rfl, lineA sq hx, signA sq hx hy rfl, rfl, _, rfl, ?_⟩
      refine if_bb (cell1 sq hx hy) (fun b1 => ?_) (fun b1 => ?_)
      · refine ⟨_, rfl, _, rfl, rfl, _, rfl, ?_⟩
        rw [b1, Bool.true_and] at k
        have e : (!decide (nV x = nV y)) = decide (x ≠ y) := by
          by_cases h : x = y
          · subst h; simp
          · rw [decide_eq_true (show x ≠ y from h), decide_eq_false (fun z => h (nV_inj _ _ z))] <;> rfl
        rw [e]
        exact k
      · rw [b1, Bool.false_and] at k
        exact k
    intro H3 e3 hD3
    have e13 := e2.trans e3
    refine ⟨D, rfl, ⟨_, SqL.of hD3⟩, ?_⟩
    refine for_list (K := K) (a := D) (xs := ((List.range rs.length).filter fun y => bit rs x y && decide (x ≠ y)).map nV) (fun j σ H' => (∃ o6 o7, σ = [some (.ref p), some (.ref t), some (.ref lo), some (.ref up), some (.ref ev), some (nV x), o6, o7]) ∧ Same H3 H' ∧ ∀ y ∈ ((List.range rs.length).filter fun y => bit rs x y && decide (x ≠ y)).take j, bad x y = false) ⟨⟨_, _, rfl⟩, Same.refl _, fun y h => by cases h⟩ (fun i σ H' _ h => up_l h.2.1 (SqL.of hD3)) ?_ ?_
    · rintro j u σ H4 hu ⟨⟨o6, o7, rfl⟩, e4, no2⟩
      obtain ⟨y, hyy, rfl⟩ := map_get hu
      obtain ⟨hy, hxy⟩ := List.mem_filter.mp (List.mem_of_getElem? hyy)
      have hy := List.mem_range.mp hy
      obtain ⟨hb, hn⟩ := Bool.and_eq_true_iff.mp hxy
      have hn := of_decide_eq_true hn
      have e14 := e13.trans e4
      refine ⟨_, rfl, ev, rfl, ⟨_, up_l e14 hE1⟩, fun D2 hD2 => ?_⟩
      refine lc_mapX (j := 7) (f := nV) (l := List.range rs.length) (fun z => .bl (decide (lowN rs x z = lowN rs y z) && decide (upN rs x z = upN rs y z))) hD2 (up_l e14 hE1) (by rw [List.length_range]; omega) (fun _ => rfl) ?_ ?_
      · intro z H5 hz e5 Q' k
        have hz := List.mem_range.mp hz
        have e15 := e14.trans e5
        have k := k H5 (Same.refl _)
        refine and_both (b1 := decide (lowN rs x z = lowN rs y z)) (b2 := decide (upN rs x z = upN rs y z)) (fun Q' k => ?_) (fun Q' k => ?_) k
        · refine ⟨_, rfl, _, rfl, ix_row (t1.up e15) L.lo.ok hx fun r1 h1 => ⟨_, rfl, ix_ent h1 (Nat.lt_of_lt_of_eq hz (L.lo.ok.rlen hx).symm) ?_⟩⟩
          refine ⟨_, rfl, _, rfl, ix_row (t1.up e15) L.lo.ok hy fun r2 h2 => ⟨_, rfl, ix_ent h2 (Nat.lt_of_lt_of_eq hz (L.lo.ok.rlen hy).symm) ⟨rfl, ?_⟩⟩⟩
          exact (eqN ▸ k : Q' (.bl (decide (nV (lowN rs x z) = nV (lowN rs y z)))) H5)
        · refine ⟨_, rfl, _, rfl, ix_row (t2.up e15) L.up.ok hx fun r1 h1 => ⟨_, rfl, ix_ent h1 (Nat.lt_of_lt_of_eq hz (L.up.ok.rlen hx).symm) ?_⟩⟩
          refine ⟨_, rfl, _, rfl, ix_row (t2.up e15) L.up.ok hy fun r2 h2 => ⟨_, rfl, ix_ent h2 (Nat.lt_of_lt_of_eq hz (L.up.ok.rlen hy).symm) ⟨rfl, ?_⟩⟩⟩
          exact (eqN ▸ k : Q' (.bl (decide (nV (upN rs x z) = nV (upN rs y z)))) H5)
      intro H5 e5 hD5
      rw [show (List.range rs.length).map (fun z => V.bl (decide (lowN rs x z = lowN rs y z) && decide (upN rs x z = upN rs y z))) = ((List.range rs.length).map fun z => decide (lowN rs x z = lowN rs y z) && decide (upN rs x z = upN rs y z)).map V.bl by rw [List.map_map] <;> rfl] at hD5
      refine ⟨D2, _, rfl, SqL.of hD5, _, rfl, ?_⟩
      rw [List.any_map]
      refine if_bb (b := bad x y) rfl (fun h => ?_) (fun h => ?_)
      · refine q true H5 (e14.trans e5) ⟨fun _ => ?_, fun _ => rfl⟩
        obtain ⟨z, hz, hzz⟩ := List.any_eq_true.mp h
        obtain ⟨h1, h2⟩ := Bool.and_eq_true_iff.mp hzz
        exact ⟨x, y, z, hx, hy, List.mem_range.mp hz, hb, hn, of_decide_eq_true h1, of_decide_eq_true h2⟩
      · refine ⟨⟨_, _, rfl⟩, e4.trans e5, fun y' hy' => ?_⟩
        rw [List.take_add_one, hyy] at hy'
        rcases List.mem_append.mp hy' with h' | h'
        · exact no2 y' h'
        · obtain rfl : y' = y := by simpa using h'
          exact h
    · rintro σ H4 ⟨⟨o6, o7, rfl⟩, e4, no2⟩
      rw [List.length_map, List.take_length] at no2
      refine ⟨⟨_, _, _, rfl⟩, e13.trans e4, fun x' hx' y hy hb hn => ?_⟩
      by_cases e : x' = x
      · subst e
        exact no2 y (List.mem_filter.mpr ⟨List.mem_range.mpr hy, by rw [hb, decide_eq_true hn] <;> rfl⟩)
      · exact no1 x' (by omega) y hy hb hn
  · rintro σ H2 ⟨⟨o5, o6, o7, rfl⟩, e2, no1⟩
    rw [List.length_map, List.length_range] at no1
    refine q false H2 e2 ⟨fun h => (by cases h), fun ⟨x, y, z, hx, hy, hz, hb, hn, h1, h2⟩ => ?_⟩
    have := no1 x hx y hy hb hn
    have h3 : bad x y = true := List.any_eq_true.mpr ⟨z, List.mem_range.mpr hz, by rw [decide_eq_true h1, decide_eq_true h2] <;> rfl⟩
    rw [h3] at this
    cases this
end
end FF
namespace FF
open PySem PySem.Spec PyProof.Rows L2
def spLaw (K : PySem.W.Frag) : Sp := fun vs H Q _ => ∃ (a : Addr) (ns : List Int), vs = [.ref a] ∧ SqL K H a (ns.map V.int) ∧ ∀ H', Q (.bl true) H'
/-- a board whose class is told -/
structure Brd (K : PySem.W.Frag) (H : Hp) (b dx li bl bu : Addr) (rs : List Str) : Prop where
  brd : BoardAt K H b dx li rs
  ins : H b = some (.ins (He.ga K "Board") dx (brdF bl bu li (botN rs) (topN rs)))
theorem Brd.up_ {K : PySem.W.Frag} {H H' : Hp} {b dx li bl bu : Addr} {rs : List Str} (h : Brd K H b dx li bl bu rs) (e : Same H H') : Brd K H' b dx li bl bu rs := ⟨h.brd.up e, e _ _ h.ins⟩
theorem brd_of {K : PySem.W.Frag} {H : Hp} {b dx li : Addr} {rs : List Str} (h : BoardAt K H b dx li rs) : ∃ bl bu, Brd K H b dx li bl bu rs := by
  obtain ⟨_, bl, bu, hb, _⟩ := id h
  exact ⟨bl, bu, h, hb⟩
theorem spr_ok {K : PySem.W.Frag} {H : Hp} {b dx li : Addr} {rs : List Str} {Q : VK} {E : XK} (hB : BoardAt K H b dx li rs) (k : ∀ H', Same H H' → Q (.bl (spreadsB rs)) H') : spSpr K [.ref b] H Q E := ⟨b, dx, li, rs, rfl, hB, k⟩
theorem fan_bit {n x y : Nat} (hx : x < n + 2) (hy : y < n + 2) : bit (fanR n) x y = decide (x = y ∨ x = 0 ∨ y = n + 1) := by
  have hr : (fanR n)[x]? = some (digRow (n + 2) fun y => decide (x = y ∨ x = 0 ∨ y = n + 1)) := by
    unfold fanR
    rw [List.getElem?_map, List.getElem?_range hx] <;> rfl
  rw [bit_at hr]
  show ((((List.range (n + 2)).map fun y => if decide (x = y ∨ x = 0 ∨ y = n + 1) = true then 49 else 48).toArray.toList)[y]? == some 49) = _
  rw [List.toList_toArray, List.getElem?_map, List.getElem?_range hy, Option.map_some]
  generalize decide (x = y ∨ x = 0 ∨ y = n + 1) = q
  cases q <;> rfl
theorem fan_nolad {n : Nat} (h2 : n ≤ 58) : ¬ HasLad (fanR n) := by
  rintro ⟨x, y, z, hx, hy, hz, hb, hn, h1, h2'⟩
  have L := lat_of (fan_board h2)
  have T := L.ltc
  have e := fan_len' n
  have le0 : ∀ w, w < (fanR n).length → bit (fanR n) 0 w = true := fun w hw => by rw [fan_bit (by omega) (by omega)]; exact decide_eq_true (.inr (.inl rfl))
  have leT : ∀ w, w < (fanR n).length → bit (fanR n) w (n + 1) = true := fun w hw => by rw [fan_bit (by omega) (by omega)]; exact decide_eq_true (.inr (.inr rfl))
  rw [fan_bit (by omega) (by omega)] at hb
  rcases of_decide_eq_true hb with h | h | h
  · exact hn h
  · subst h
    have m : loP L ⟨0, hx⟩ ⟨z, hz⟩ = ⟨0, hx⟩ := T.me (le0 z hz)
    have j : upP L ⟨0, hx⟩ ⟨z, hz⟩ = ⟨z, hz⟩ := T.je (le0 z hz)
    have hyz : leP (fanR n) ⟨y, hy⟩ ⟨z, hz⟩ := by
      have : upP L ⟨y, hy⟩ ⟨z, hz⟩ = ⟨z, hz⟩ := (Subtype.ext h2'.symm).trans j
      exact this ▸ T.jl
    have : loP L ⟨y, hy⟩ ⟨z, hz⟩ = ⟨0, hx⟩ := (Subtype.ext h1.symm).trans m
    exact hn (congrArg Subtype.val (this.symm.trans (T.me hyz)))
  · subst h
    have m : loP L ⟨n + 1, hy⟩ ⟨z, hz⟩ = ⟨z, hz⟩ := by rw [T.mc]; exact T.me (leT z hz)
    have j : upP L ⟨n + 1, hy⟩ ⟨z, hz⟩ = ⟨n + 1, hy⟩ := by rw [T.jc]; exact T.je (leT z hz)
    have hzx : leP (fanR n) ⟨z, hz⟩ ⟨x, hx⟩ := by
      have : loP L ⟨x, hx⟩ ⟨z, hz⟩ = ⟨z, hz⟩ := (Subtype.ext h1).trans m
      exact this ▸ T.ml
    have : upP L ⟨x, hx⟩ ⟨z, hz⟩ = ⟨n + 1, hy⟩ := (Subtype.ext h2').trans j
    rw [T.jc, T.je hzx] at this
    exact hn (congrArg Subtype.val this)
theorem fan20 : spreadsB (fanR 20) = false := by
  have h : sprAt (fanR 20) 1 2 3 = false := by decide +kernel
  refine spr_false (x := 1) (y := 2) (z := 3) (by rw [fan_len']; decide) (by rw [fan_len']; decide) (by rw [fan_len']; decide) fun z => ?_
  unfold sprAt at h
  rw [z] at h
  simp at h
theorem mkF_nice {k : Str} {a x y z g : Nat} (hk : k = lad ∨ k = fanS) : Nice 10 (mkF k a x y z g) := by
  have hs : Nice 0 (.str k) := by rcases hk with rfl | rfl <;> exact ⟨by decide +kernel, by rw [PyData.depth]; exact Nat.le_refl _⟩
  have h5 : Nice 1 (.tuple [.int (a : Int), .int (x : Int), .int (y : Int), .int (z : Int), .int (g : Int)]) := Nice.tuple (by show 5 ≤ 20000; decide) fun d hd => by
    simp only [List.mem_cons, List.not_mem_nil, or_false] at hd
    rcases hd with rfl | rfl | rfl | rfl | rfl <;> exact ⟨rfl, by rw [PyData.depth]; exact Nat.le_refl _⟩
  refine (Nice.tuple (n := 1) (by show 2 ≤ 20000; decide) fun d hd => ?_).mono (by decide : 2 ≤ 10)
  simp only [List.mem_cons, List.not_mem_nil, or_false] at hd
  rcases hd with rfl | rfl
  · exact hs.mono (by decide)
  · exact h5
theorem tup_of {K : PySem.W.Frag} {H : Hp} {v : V} {k : Str} {a x y z g : Nat} (h : Tp K H v (mkF k a x y z g)) : ∃ p f, v = .ref p ∧ SqT K H p [.str k, f] := by
  unfold mkF at h
  cases h with
  | tup ht ha =>
  cases ha with
  | cons h1 h2 =>
  cases h1 with
  | str _ =>
  cases h2 with
  | cons h3 h4 =>
  cases h4 with
  | nil => exact ⟨_, _, rfl, ht.sqT⟩
section
variable {P : Program} {w : World} {K : PySem.W.Frag} {mg : Str → Option Value} {base : Heap}
set_option maxHeartbeats 8000000 in
theorem ok_law {f fF : Addr} {fd fdF : FuncData} (F : FunD K "law" "law" (defArgs s_law) (defBody s_law) (defScope s_law) [] [] f fd) (T : Top K mg)
    (FFF0 : FunD K "find_fault" "find_fault" (defArgs s_find_fault) (defBody s_find_fault) (defScope s_find_fault) [] [] fF fdF) (hmFF : mg "find_fault" = some (.ref fF)) (D_find_fault : Def P w K mg base "find_fault" 6 ["board"] (spFindX K)) (FFF : FnOk P w K mg base CX0 6 fF fdF ["board"] (spFindX K))
    (M_Board : MakeX P w K mg base "Board" 4 ["self", "rows"] (spBoard K)) (D_Board_product : MethX P w K mg base "Board" "product" 6 ["self", "other"] (spProd K)) (D_Board_spreads : MethD P w K mg base "Board" "spreads" 1 ["self"] (spSpr K)) (D_Board_rows : MethD P w K mg base "Board" "rows" 1 ["self"] (spRowsB K))
    (D_Board_chain : ClsX P w K mg base "Board" "chain" 6 (spChain K)) (D_Board_cube : ClsX P w K mg base "Board" "cube" 6 (spCube K)) (D_Board_fan : StatX P w K mg base "Board" "fan" 6 ["size"] (spFan K))
    (D_law_source : Def P w K mg base "_law_source" 1 ["_law_script"] (spSource K)) (D_law_take : Def P w K mg base "_law_take" 1 ["_law_source_here", "_law_many"] spTake) (D_law_pick : Def P w K mg base "_law_pick" 2 ["_law_source_here", "_law_row"] (spPick K))
    (D_law_some_rows : Def P w K mg base "_law_some_rows" 4 ["_law_source_here"] (spSomeV K)) (D_law_tables : Def P w K mg base "_law_tables" 2 ["_law_rows_here"] (spTables K)) (D_law_spreads : Def P w K mg base "_law_spreads" 1 ["_law_tables_here"] (spSprL K))
    (D_law_fault_right : Def P w K mg base "_law_fault_right" 2 ["_law_rows_here", "_law_tables_here", "_law_fault"] (spRight K)) (D_law_has_ladder : Def P w K mg base "_law_has_ladder" 1 ["_law_rows_here", "_law_tables_here"] (spHasLad K)) :
    FnOk P w K mg base CX0 42 f fd ["_law_script"] (spLaw K) := by
  have kFF : KBn K fdF ["board"] 0 ["board"] (fun us ws => us ++ ws) (fun vs zs => vs ++ zs) := kb_plain FFF0 fun kV doc pm an cdv ct us ws l1 l2 => match us, ws, l1, l2 with
    | [], [_], _, _ => rfl
  refine fn_mk F sc_law (fun vs H Q E h => ?_) (fun cdv A outer s0 H vs Q E hr h => ?_)
  · obtain ⟨a, ns, rfl, _⟩ := h
    rfl
  obtain ⟨a, ns, rfl, hS, q⟩ := h
  refine ⟨_, (pss_cons (ps_set (i := 1) sc_law.nd rfl (Or.inl rfl) (pe_def D_law_source hr (by first | decide | omega) (pa_cons (pv 0) pa_nil)))
  (pss_cons (ps_for PassesOwn.never rfl (pi_range1 (by rfl) T.b_range (pa_cons pe_int pa_nil)) (pg_name (i := 2) sc_law.nd rfl (Or.inl rfl) (.inl rfl))
  (pss_cons (ps_set (i := 3) sc_law.nd rfl (Or.inl rfl) (pe_def D_law_some_rows hr (by first | decide | omega) (pa_cons (pv 1) pa_nil)))
  (pss_cons (ps_set (i := 4) sc_law.nd rfl (Or.inl rfl) (pe_mkxN M_Board hr (by first | decide | omega) (pa_cons (pv 3) pa_nil)))
  (C8.pss_cut (ps_if (PW.pt (pw_and (pt_cmpR op_lt (pe_callB (call_lenK K) (by rfl) T.b_len (by decide +kernel) (pa_cons (pv 3) pa_nil)) pe_int (nomark _)) (pw_and1 (pt_cmpR op_eq (pe_def D_law_take hr (by first | decide | omega) (pa_cons (pv 1) (pa_cons pe_int pa_nil))) pe_int (nomark _)))))
  (pss_cons (ps_set (i := 4) sc_law.nd rfl (Or.inl rfl) (pe_methxN D_Board_product hr (by first | decide | omega) (pv 4) (pa_cons (pe_def D_law_pick hr (by first | decide | omega) (pa_cons (pv 1) (pa_cons (pe_lst (pa_cons (pe_clsN D_Board_chain T.c_Board hr (by first | decide | omega) (pa_cons pe_int pa_nil)) (pa_cons (pe_clsN D_Board_chain T.c_Board hr (by first | decide | omega) (pa_cons pe_int pa_nil)) (pa_cons (pe_clsN D_Board_cube T.c_Board hr (by first | decide | omega) (pa_cons pe_int pa_nil)) pa_nil)))) pa_nil))) pa_nil)))
  (pss_one (ps_set (i := 3) sc_law.nd rfl (Or.inl rfl) (pe_methd0 D_Board_rows hr (by first | decide | omega) (pv 4)))))
  pss_nil)
  (pss_cons (ps_set (i := 5) sc_law.nd rfl (Or.inl rfl) (pe_def D_law_tables hr (by first | decide | omega) (pa_cons (pv 3) pa_nil)))
  (pss_cons (ps_set (i := 6) sc_law.nd rfl (Or.inl rfl) (pe_def D_find_fault hr (by first | decide | omega) (pa_cons (pv 4) pa_nil)))
  (pss_cons (ps_if (PW.pt (pw_or (pt_cmpR op_ne (pe_cmp (pc_isN (pv 6)) (by rfl)) (pe_def D_law_spreads hr (by first | decide | omega) (pa_cons (pv 5) pa_nil)) (nomark _)) (pw_or1 (pt_cmpR op_ne (pe_cmp (pc_isN (pv 6)) (by rfl)) (pe_methd0 D_Board_spreads hr (by first | decide | omega) (pv 4)) (nomark _)))))
  (pss_one (ps_ret pe_bl))
  pss_nil)
  (C8.pss_cut (ps_if (pt_cmp (pc_notN (pv 6)) (by rfl))
  (pss_one (ps_if (PW.pt (pw_or (pt_not (pt_val (pe_def D_law_fault_right hr (by first | decide | omega) (pa_cons (pv 3) (pa_cons (pv 5) (pa_cons (pv 6) pa_nil)))))) (pw_or1 (pt_cmpR op_ne (pe_cmpR op_eq (pe_ix (ix_tupK K) (pv 6) pe_int (fun _ _ => rfl)) pe_str (nomark _)) (pe_def D_law_has_ladder hr (by first | decide | omega) (pa_cons (pv 3) (pa_cons (pv 5) pa_nil))) (nomark _)))))
  (pss_one (ps_ret pe_bl))
  pss_nil))
  pss_nil)
  (pss_one (ps_if (pt_cmpR (op_neK K hr.units) (pe_callN0 FFF (hr.mono (by decide)) rfl hmFF FFF0.kp kFF pass0 (pk_cons (pv 4) pk_nil)) (pv 6) (nomark _))
  (pss_one (ps_ret pe_bl))
  pss_nil))))))))))
  (pss_one (ps_ret (pe_and (pe_cmpR (op_eqK K hr.units) (pe_ix (ix_tupK K) (pe_def D_find_fault hr (by first | decide | omega) (pa_cons (pe_statN D_Board_fan hr (by first | decide | omega) (pa_cons pe_int pa_nil)) pa_nil)) pe_int (fun _ _ => rfl)) pe_str (nomark _)) (pe_one (pe_cmp (pc_isN (pe_def D_find_fault hr (by first | decide | omega) (pa_cons (pe_clsN D_Board_cube T.c_Board hr (by first | decide | omega) (pa_cons pe_int pa_nil)) pa_nil))) (by rfl)))))))), ?_⟩
  refine ⟨_, rfl, a, ns, rfl, hS, fun s H1 e1 hs1 => ?_⟩
  clear hS e1
  refine ⟨2, rfl, by omega, by omega, ?_⟩
  refine for_range (lo := 0) (n := 2) (fun i σ H' => (∃ o2 o3 o4 o5 o6, σ = [some (.ref a), some (.ref s), o2, o3, o4, o5, o6]) ∧ Src H' s) ⟨⟨_, _, _, _, _, rfl⟩, hs1⟩ ?_ ?_
  · clear hs1
    rintro i σ H1 hi ⟨⟨o2, o3, o4, o5, o6, rfl⟩, hs⟩
    refine ⟨_, rfl, s, rfl, hs, fun p rs H2 _ e2 hp good r8 => ?_⟩
    refine ⟨_, rfl, accept good (SqL.of hp) fun b dx li H3 _ _ e3 hB => ?_⟩
    obtain ⟨bl, bu, B⟩ := brd_of hB
    have hs := (hs.up e2).up e3
    have hp := e3 _ _ hp
    clear e2 e3
    refine ⟨fun σ' H' => ∃ (p b dx li bl bu : Addr) (rs : List Str), σ' = [some (.ref a), some (.ref s), some (.int (0 + i)), some (.ref p), some (.ref b), o5, o6] ∧ Src H' s ∧ H' p = some (.lst (rs.map V.str)) ∧ Brd K H' b dx li bl bu rs, ?_, ?_⟩
    · refine ⟨_, rfl, .ref p, rs.length, rfl, .inl ⟨_, SqL.of hp, (List.length_map _).symm⟩, _, _, rfl, rfl, _, rfl, ?_⟩
      refine if_dec (fun h6 => ?_) (fun _ => iteF ⟨p, b, dx, li, bl, bu, rs, rfl, hs, hp, B⟩)
      refine ⟨_, rfl, s, 3, rfl, by omega, by omega, hs, fun n n0 n1 => ⟨rfl, _, rfl, ?_⟩⟩
      refine if_int (fun _ => ?_) (fun _ => ⟨p, b, dx, li, bl, bu, rs, rfl, hs, hp, B⟩)
      refine ⟨_, rfl, b, dx, _, rfl, B.ins, rfl, _, rfl, 2, rfl, fun m em _ _ b1 dx1 li1 H4 e4 hB1 => ?_, fun z => absurd ⟨by decide, by decide⟩ z⟩
      obtain rfl : m = 2 := by omega
      refine ⟨1, rfl, fun m em _ _ b2 dx2 li2 H5 e5 hB2 => ?_, fun z => absurd ⟨by decide, by decide⟩ z⟩
      obtain rfl : m = 1 := by omega
      refine ⟨1, rfl, fun m em _ _ b3 dx3 li3 H6 e6 hB3 => ⟨(by show 3 ≤ sizeLine; decide), fun l hl => ?_⟩, fun z => absurd ⟨by decide, by decide⟩ z⟩
      obtain rfl : m = 1 := by omega
      have e7 := same_new hl (.lst [.ref b1, .ref b2, .ref b3])
      have e := e4.trans (e5.trans (e6.trans e7))
      refine ⟨s, l, _, rfl, hs.up e, SqL.of upd_same, by simp, by simp, fun o ho => ?_⟩
      obtain ⟨c, dy, lj, ts, rfl, hC, t2⟩ : ∃ (c dy lj : Addr) (ts : List Str), o = .ref c ∧ BoardAt K (upd H6 l (.lst [.ref b1, .ref b2, .ref b3])) c dy lj ts ∧ ts.length ≤ 2 := by
        simp only [List.mem_cons, List.not_mem_nil, or_false] at ho
        rcases ho with rfl | rfl | rfl
        · exact ⟨b1, dx1, li1, _, rfl, ((hB1.up e5).up e6).up e7, by rw [chain_len']; exact Nat.le_refl _⟩
        · exact ⟨b2, dx2, li2, _, rfl, (hB2.up e6).up e7, by rw [chain_len']; decide⟩
        · exact ⟨b3, dx3, li3, _, rfl, hB3.up e7, by rw [cube_len']; decide⟩
      have hs := hs.up e
      have B := B.up_ e
      generalize upd H6 l (.lst [.ref b1, .ref b2, .ref b3]) = H7 at hC hs B ⊢
      clear hB1 hB2 hB3 e4 e5 e6 e7 e hl ho
      have m60 : rs.length * ts.length ≤ 60 := Nat.le_trans (Nat.mul_le_mul (show rs.length ≤ 5 by omega) t2) (by decide)
      dsimp only [tNil]
      refine ⟨b, dx, li, c, dy, lj, rs, ts, rfl, B.brd, hC, fun _ b4 dx4 li4 H8 e8 hB4 => ?_, fun h => absurd m60 h⟩
      obtain ⟨bl4, bu4, B4⟩ := brd_of hB4
      refine ⟨_, rfl, b4, dx4, _, rfl, B4.ins, rfl, ?_⟩
      dsimp only [tNil]
      refine ⟨b4, dx4, li4, _, rfl, hB4.lines, fun p1 hp1 => ?_⟩
      have e9 := same_new hp1 (.lst ((prodR rs ts).map V.str))
      exact ⟨p1, b4, dx4, li4, bl4, bu4, _, rfl, (hs.up e8).up e9, upd_same, B4.up_ e9⟩
    clear hs hp B hB good r8
    rintro σ H4 ⟨p, b, dx, li, bl, bu, rs, rfl, hs, hp, B⟩
    have L := lat_of B.brd.1
    refine ⟨_, rfl, p, rs, rfl, SqL.of hp, L, fun t lo up H5 e5 ht T1 T2 => ?_⟩
    have hs := hs.up e5
    have hp := e5 _ _ hp
    have B := B.up_ e5
    refine ⟨_, rfl, b, dx, li, rs, rfl, B.brd, fun v H6 e6 hv => ?_⟩
    have hs := hs.up e6
    have hp := e6 _ _ hp
    have B := B.up_ e6
    have ht := e6 _ _ ht
    have T1 := T1.up e6
    have T2 := T2.up e6
    clear e5 e6
    have hsp : decide (v = V.non) = spreadsB rs := by
      cases hf : findD rs with
      | none =>
        rw [hf] at hv
        rw [find_none L hf]
        exact decide_eq_true hv
      | some d =>
        rw [hf] at hv
        rw [(find_some L hf).2.2]
        exact decide_eq_false hv.2
    refine ⟨_, rfl, _, rfl, t, lo, up, rs, rfl, ht, L, T1, T2, fun H7 e7 => ⟨rfl, _, rfl, ?_⟩⟩
    rw [hsp, decide_eq_true rfl]
    refine iteF ?_
    have B7 := B.up_ e7
    refine ⟨_, rfl, _, rfl, b, dx, _, rfl, B7.ins, rfl, ?_⟩
    dsimp only [tNil]
    refine spr_ok B7.brd fun H8 e8 => ⟨rfl, _, rfl, ?_⟩
    rw [hsp, decide_eq_true rfl]
    refine iteF ?_
    have e78 := e7.trans e8
    have hs := hs.up e78
    have hp := e78 _ _ hp
    have B := B.up_ e78
    have ht := e78 _ _ ht
    have T1 := T1.up e78
    have T2 := T2.up e78
    have hv : MayX K H8 v (findD rs) := by
      cases hf : findD rs with
      | none => rw [hf] at hv; exact hv
      | some d => rw [hf] at hv; exact ⟨hv.1.up (Same.T e78), hv.2⟩
    clear e7 e8 e78 B7 hsp
    refine ⟨fun σ' H' => σ' = [some (.ref a), some (.ref s), some (.int (0 + i)), some (.ref p), some (.ref b), some (.ref t), some v] ∧ Src H' s ∧ Brd K H' b dx li bl bu rs ∧ MayX K H' v (findD rs), ?_, ?_⟩
    · refine ⟨_, rfl, _, rfl, ?_⟩
      cases hf : findD rs with
      | none =>
        rw [hf] at hv
        obtain rfl := hv
        exact ⟨rfl, hs, B, rfl⟩
      | some d =>
        rw [hf] at hv
        obtain ⟨⟨k, fa, fx, fy, fz, fg, rfl, _, _, _, _, _, hk, hkl⟩, hfd, _⟩ := find_some L hf
        rw [decide_eq_false hv.2]
        refine ⟨_, rfl, _, rfl, _, rfl, p, t, lo, up, rs, v, _, rfl, SqL.of hp, L, SqT.of ht, T1, T2, hv.1.dp, mkF_nice hk, fun H9 e9 => ⟨_, rfl, ?_⟩⟩
        rw [hfd]
        refine iteF ?_
        have hv9 := hv.1.up (Same.T e9)
        obtain ⟨pa, pf, rfl, hpa⟩ := tup_of hv9
        refine ⟨_, rfl, pa, _, _, _, rfl, rfl, hpa, at0, rfl, _, rfl, _, rfl, p, t, lo, up, rs, rfl, SqL.of (e9 _ _ hp), L, e9 _ _ ht, T1.up e9, T2.up e9, fun bb H10 e10 hbb => ⟨rfl, _, rfl, ?_⟩⟩
        have eb : decide (V.str k = V.str ("ladder" : Str)) = bb := by
          rw [Bool.eq_iff_iff, decide_eq_true_eq, hbb, ← hkl]
          exact ⟨fun h => V.str.inj h, fun h => congrArg V.str h⟩
        rw [eb, decide_eq_true rfl]
        refine iteF ?_
        have e910 := e9.trans e10
        exact ⟨rfl, hs.up e910, B.up_ e910, hv9.up (Same.T e10), hv.2⟩
    clear hs hp B ht T1 T2 hv
    rintro σ H9 ⟨rfl, hs, B, hv⟩
    refine ⟨_, rfl, rfl, b, dx, li, rs, rfl, B.brd, fun v' H10 e10 hv' => ?_⟩
    refine ⟨_, rfl, ?_⟩
    cases hf : findD rs with
    | none =>
      rw [hf] at hv hv'
      obtain rfl := hv
      obtain rfl := hv'
      refine ⟨.none, .none, .non, .non, by decide +kernel, by decide +kernel, _, rfl, ?_⟩
      rw [SeqAt.eqv_refl _ (by decide +kernel)]
      exact iteF ⟨⟨_, _, _, _, _, rfl⟩, hs.up e10⟩
    | some d =>
      rw [hf] at hv hv'
      obtain ⟨⟨k, fa, fx, fy, fz, fg, rfl, _, _, _, _, _, hk, _⟩, _, _⟩ := find_some L hf
      have nf := mkF_nice (a := fa) (x := fx) (y := fy) (z := fz) (g := fg) hk
      refine ⟨_, _, hv'.1.dp, (hv.1.up (Same.T e10)).dp, nf.shaped, nf.shaped, _, rfl, ?_⟩
      rw [SeqAt.eqv_refl _ (nice_lay _ nf.ok)]
      exact iteF ⟨⟨_, _, _, _, _, rfl⟩, hs.up e10⟩
  · clear hs1
    rintro σ H1 ⟨⟨o2, o3, o4, o5, o6, rfl⟩, hs⟩
    refine ⟨20, rfl, fun m em _ _ b dx li H2 e2 hB => ?_, fun z => absurd ⟨by decide, by decide⟩ z⟩
    obtain rfl : m = 20 := by omega
    refine ⟨b, dx, li, _, rfl, hB, fun v H3 e3 hv => ?_⟩
    have L := lat_of hB.1
    cases hf : findD (fanR 20) with
    | none => exact absurd ((find_none L hf).symm.trans fan20) (by decide)
    | some d =>
      rw [hf] at hv
      obtain ⟨⟨k, fa, fx, fy, fz, fg, rfl, _, _, _, _, _, hk, hkl⟩, _, _⟩ := find_some L hf
      have hk : k = fanS := hk.resolve_left fun h => fan_nolad (by decide) (hkl.mp h)
      subst hk
      obtain ⟨pa, pf, rfl, hpa⟩ := tup_of hv.1
      refine ⟨pa, _, 0, _, rfl, rfl, hpa, at0, ?_⟩
      refine ⟨.str fanS, .str fanS, .str _, .str _, by decide +kernel, by decide +kernel, _, rfl, ?_⟩
      rw [SeqAt.eqv_refl _ (by decide +kernel)]
      refine iteT ?_
      refine ⟨3, rfl, fun m em _ _ b2 dx2 li2 H4 e4 hB2 => ?_, fun z => absurd ⟨by decide, by decide⟩ z⟩
      obtain rfl : m = 3 := by omega
      refine ⟨b2, dx2, li2, _, rfl, hB2, fun v2 H5 e5 hv2 => ?_⟩
      have L2' := lat_of hB2.1
      cases hf2 : findD (cubeR 3) with
      | some d2 => exact absurd ((cube_spr (n := 3) (by decide)).symm.trans (find_some L2' hf2).2.2) (by decide)
      | none =>
        rw [hf2] at hv2
        obtain rfl := hv2
        exact q _
end
end FF
namespace FF
open PySem PySem.Spec PyProof.Rows L2
def d_wall : He.DefD := ⟨("_wall", none), "_wall", "_wall", defArgs s_wall, defBody s_wall, defScope s_wall, [], []⟩
def d_ladder_at : He.DefD := ⟨("ladder_at", none), "ladder_at", "ladder_at", defArgs s_ladder_at, defBody s_ladder_at, defScope s_ladder_at, [], []⟩
def d_fan_at : He.DefD := ⟨("fan_at", none), "fan_at", "fan_at", defArgs s_fan_at, defBody s_fan_at, defScope s_fan_at, [], []⟩
def d_find_fault : He.DefD := ⟨("find_fault", none), "find_fault", "find_fault", defArgs s_find_fault, defBody s_find_fault, defScope s_find_fault, [], []⟩
def d_is_letter : He.DefD := ⟨("is_letter", none), "is_letter", "is_letter", defArgs s_is_letter, defBody s_is_letter, defScope s_is_letter, [], []⟩
def d_measured : He.DefD := ⟨("measured", none), "measured", "measured", defArgs s_measured, defBody s_measured, defScope s_measured, [], []⟩
def d_is_term : He.DefD := ⟨("is_term", none), "is_term", "is_term", defArgs s_is_term, defBody s_is_term, defScope s_is_term, [], [("max_depth", .int 5), ("max_size", .int 24)]⟩
def d_is_long_term : He.DefD := ⟨("is_long_term", none), "is_long_term", "is_long_term", defArgs s_is_long_term, defBody s_is_long_term, defScope s_is_long_term, [], []⟩
def d_need_long_term : He.DefD := ⟨("need_long_term", none), "need_long_term", "need_long_term", defArgs s_need_long_term, defBody s_need_long_term, defScope s_need_long_term, [], []⟩
def d_parts_of : He.DefD := ⟨("parts_of", none), "parts_of", "parts_of", defArgs s_parts_of, defBody s_parts_of, defScope s_parts_of, [], []⟩
def d_walked : He.DefD := ⟨("walked", none), "walked", "walked", defArgs s_walked, defBody s_walked, defScope s_walked, [], []⟩
def d_letters_in : He.DefD := ⟨("letters_in", none), "letters_in", "letters_in", defArgs s_letters_in, defBody s_letters_in, defScope s_letters_in, [], []⟩
def d_turned_rows : He.DefD := ⟨("turned_rows", none), "turned_rows", "turned_rows", defArgs s_turned_rows, defBody s_turned_rows, defScope s_turned_rows, [], []⟩
def d_mask_of : He.DefD := ⟨("mask_of", none), "mask_of", "mask_of", defArgs s_mask_of, defBody s_mask_of, defScope s_mask_of, [], []⟩
def d_is_square : He.DefD := ⟨("is_square", none), "is_square", "is_square", defArgs s_is_square, defBody s_is_square, defScope s_is_square, [], []⟩
def d_is_order : He.DefD := ⟨("is_order", none), "is_order", "is_order", defArgs s_is_order, defBody s_is_order, defScope s_is_order, [], []⟩
def d_meeting_places : He.DefD := ⟨("meeting_places", none), "meeting_places", "meeting_places", defArgs s_meeting_places, defBody s_meeting_places, defScope s_meeting_places, [], []⟩
def d_gathered : He.DefD := ⟨("gathered", none), "gathered", "gathered", defArgs s_gathered, defBody s_gathered, defScope s_gathered, [], []⟩
def d_law_source : He.DefD := ⟨("_law_source", none), "_law_source", "_law_source", defArgs s_law_source, defBody s_law_source, defScope s_law_source, [], []⟩
def d_law_take : He.DefD := ⟨("_law_take", none), "_law_take", "_law_take", defArgs s_law_take, defBody s_law_take, defScope s_law_take, [], []⟩
def d_law_pick : He.DefD := ⟨("_law_pick", none), "_law_pick", "_law_pick", defArgs s_law_pick, defBody s_law_pick, defScope s_law_pick, [], []⟩
def d_law_mixed : He.DefD := ⟨("_law_mixed", none), "_law_mixed", "_law_mixed", defArgs s_law_mixed, defBody s_law_mixed, defScope s_law_mixed, [], []⟩
def d_law_copied : He.DefD := ⟨("_law_copied", none), "_law_copied", "_law_copied", defArgs s_law_copied, defBody s_law_copied, defScope s_law_copied, [], []⟩
def d_law_index : He.DefD := ⟨("_law_index", none), "_law_index", "_law_index", defArgs s_law_index, defBody s_law_index, defScope s_law_index, [], []⟩
def d_law_family : He.DefD := ⟨("_law_family", none), "_law_family", "_law_family", defArgs s_law_family, defBody s_law_family, defScope s_law_family, [], []⟩
def d_law_rows : He.DefD := ⟨("_law_rows", none), "_law_rows", "_law_rows", defArgs s_law_rows, defBody s_law_rows, defScope s_law_rows, [], []⟩
def d_law_some_rows : He.DefD := ⟨("_law_some_rows", none), "_law_some_rows", "_law_some_rows", defArgs s_law_some_rows, defBody s_law_some_rows, defScope s_law_some_rows, [], []⟩
def d_law_low : He.DefD := ⟨("_law_low", none), "_law_low", "_law_low", defArgs s_law_low, defBody s_law_low, defScope s_law_low, [], []⟩
def d_law_up : He.DefD := ⟨("_law_up", none), "_law_up", "_law_up", defArgs s_law_up, defBody s_law_up, defScope s_law_up, [], []⟩
def d_law_tables : He.DefD := ⟨("_law_tables", none), "_law_tables", "_law_tables", defArgs s_law_tables, defBody s_law_tables, defScope s_law_tables, [], []⟩
def d_law_spreads : He.DefD := ⟨("_law_spreads", none), "_law_spreads", "_law_spreads", defArgs s_law_spreads, defBody s_law_spreads, defScope s_law_spreads, [], []⟩
def d_law_fault_right : He.DefD := ⟨("_law_fault_right", none), "_law_fault_right", "_law_fault_right", defArgs s_law_fault_right, defBody s_law_fault_right, defScope s_law_fault_right, [], []⟩
def d_law_has_ladder : He.DefD := ⟨("_law_has_ladder", none), "_law_has_ladder", "_law_has_ladder", defArgs s_law_has_ladder, defBody s_law_has_ladder, defScope s_law_has_ladder, [], []⟩
def d_law : He.DefD := ⟨("law", none), "law", "law", defArgs s_law, defBody s_law, defScope s_law, [], []⟩
def d_FaultError_init : He.DefD := ⟨("FaultError", some "__init__"), "__init__", "FaultError.__init__", defArgs s_FaultError_init, defBody s_FaultError_init, defScope s_FaultError_init, [], []⟩
def d_InvalidBoard_init : He.DefD := ⟨("InvalidBoard", some "__init__"), "__init__", "InvalidBoard.__init__", defArgs s_InvalidBoard_init, defBody s_InvalidBoard_init, defScope s_InvalidBoard_init, [], []⟩
def d_InvalidPlace_init : He.DefD := ⟨("InvalidPlace", some "__init__"), "__init__", "InvalidPlace.__init__", defArgs s_InvalidPlace_init, defBody s_InvalidPlace_init, defScope s_InvalidPlace_init, [], []⟩
def d_TooManyPlaces_init : He.DefD := ⟨("TooManyPlaces", some "__init__"), "__init__", "TooManyPlaces.__init__", defArgs s_TooManyPlaces_init, defBody s_TooManyPlaces_init, defScope s_TooManyPlaces_init, [], []⟩
def d_Board___init__ : He.DefD := ⟨("Board", some "__init__"), "__init__", "Board.__init__", defArgs s_Board___init__, defBody s_Board___init__, defScope s_Board___init__, [], []⟩
def d_Board_rows : He.DefD := ⟨("Board", some "rows"), "rows", "Board.rows", defArgs s_Board_rows, defBody s_Board_rows, defScope s_Board_rows, [], []⟩
def d_Board_is_place : He.DefD := ⟨("Board", some "is_place"), "is_place", "Board.is_place", defArgs s_Board_is_place, defBody s_Board_is_place, defScope s_Board_is_place, [], []⟩
def d_Board_need_places : He.DefD := ⟨("Board", some "need_places"), "need_places", "Board.need_places", defArgs s_Board_need_places, defBody s_Board_need_places, defScope s_Board_need_places, [], []⟩
def d_Board_is_below : He.DefD := ⟨("Board", some "is_below"), "is_below", "Board.is_below", defArgs s_Board_is_below, defBody s_Board_is_below, defScope s_Board_is_below, [], []⟩
def d_Board_spreads : He.DefD := ⟨("Board", some "spreads"), "spreads", "Board.spreads", defArgs s_Board_spreads, defBody s_Board_spreads, defScope s_Board_spreads, [], []⟩
def d_Board_product : He.DefD := ⟨("Board", some "product"), "product", "Board.product", defArgs s_Board_product, defBody s_Board_product, defScope s_Board_product, [], []⟩
def d_Board___len__ : He.DefD := ⟨("Board", some "__len__"), "__len__", "Board.__len__", defArgs s_Board___len__, defBody s_Board___len__, defScope s_Board___len__, [], []⟩
def g_Board_chain : GetD := ⟨"classmethod", "Board", "chain", ⟨("Board", some "chain"), "chain", "Board.chain", defArgs s_Board_chain, defBody s_Board_chain, defScope s_Board_chain, [], []⟩⟩
def g_Board_cube : GetD := ⟨"classmethod", "Board", "cube", ⟨("Board", some "cube"), "cube", "Board.cube", defArgs s_Board_cube, defBody s_Board_cube, defScope s_Board_cube, [], []⟩⟩
def g_Board_fan : GetD := ⟨"staticmethod", "Board", "fan", ⟨("Board", some "fan"), "fan", "Board.fan", defArgs s_Board_fan, defBody s_Board_fan, defScope s_Board_fan, [], []⟩⟩
def fp : List GetD := [g_Board_chain, g_Board_cube, g_Board_fan]
def fn : List He.DefD := [d_wall, d_ladder_at, d_fan_at, d_find_fault, d_is_letter, d_measured, d_is_term, d_is_long_term, d_need_long_term, d_parts_of, d_walked, d_letters_in, d_turned_rows, d_mask_of, d_is_square, d_is_order, d_meeting_places, d_gathered, d_law_source, d_law_take, d_law_pick, d_law_mixed, d_law_copied, d_law_index, d_law_family, d_law_rows, d_law_some_rows, d_law_low, d_law_up, d_law_tables, d_law_spreads, d_law_fault_right, d_law_has_ladder, d_law, d_FaultError_init, d_InvalidBoard_init, d_InvalidPlace_init, d_TooManyPlaces_init, d_Board___init__, d_Board_rows, d_Board_is_place, d_Board_need_places, d_Board_is_below, d_Board_spreads, d_Board_product, d_Board___len__]
def fa : List He.Fa := [.free "ValueError", .free "all", .free "any", .free "bool", .free "classmethod", .free "enumerate", .free "int", .free "isinstance", .free "len", .free "list", .free "property", .free "range", .free "set", .free "sorted", .free "staticmethod", .free "str", .free "sum", .free "tuple", .str "LETTERS" "abcdefgh", .glo "OPERATORS", .int "MAX_DEPTH" 5, .int "MAX_SIZE" 24, .int "LONG_DEPTH" 9, .int "LONG_SIZE" 600, .str "DIGITS" "01", .glo "FaultError", .glo "InvalidTerm", .glo "InvalidBoard", .glo "InvalidPlace", .glo "InvalidReading", .glo "TooManyPlaces", .glo "Board", .noat "Board" "lines", .noat "Board" "lows", .noat "Board" "ups", .noat "Board" "least", .noat "Board" "greatest", .noat "InvalidPlace" "place", .noat "TooManyPlaces" "limit", .cls "Board", .mkr "Board", .meth "Board" "rows", .meth "Board" "is_place", .meth "Board" "need_places", .meth "Board" "is_below", .meth "Board" "spreads", .meth "Board" "product", .meth "Board" "__len__", .glo "_wall", .glo "ladder_at", .glo "fan_at", .glo "find_fault", .glo "is_letter", .glo "measured", .glo "is_term", .glo "is_long_term", .glo "need_long_term", .glo "parts_of", .glo "walked", .glo "letters_in", .glo "turned_rows", .glo "mask_of", .glo "is_square", .glo "is_order", .glo "meeting_places", .glo "gathered", .glo "_law_source", .glo "_law_take", .glo "_law_pick", .glo "_law_mixed", .glo "_law_copied", .glo "_law_index", .glo "_law_family", .glo "_law_rows", .glo "_law_some_rows", .glo "_law_low", .glo "_law_up", .glo "_law_tables", .glo "_law_spreads", .glo "_law_fault_right", .glo "_law_has_ladder", .glo "law"]
def ex (K : PySem.W.Frag) : Bool := He.tupB K "OPERATORS" [.str "&", .str "|"] && ownXB K "InvalidBoard" "FaultError" && ownXB K "InvalidPlace" "FaultError" && ownXB K "TooManyPlaces" "FaultError" && readB K "Board" && clsB K "Board" "chain" && clsB K "Board" "cube" && statB K "Board" "fan" && cvalB K "Board" "MAX_PLACES" 60 && feCB K "FaultError"
theorem top_of {K : PySem.W.Frag} {h : Heap} {mg : Str → Option Value} (X : K.In h) (G : h.Ns mainGlobals mg) (c : He.SaysD fa fn K) (e : ex K = true) : Top K mg where
  b_ValueError := He.free_ok X G (c.fact 0 (f := .free "ValueError") rfl)
  b_all := He.free_ok X G (c.fact 1 (f := .free "all") rfl)
  b_any := He.free_ok X G (c.fact 2 (f := .free "any") rfl)
  b_bool := He.free_ok X G (c.fact 3 (f := .free "bool") rfl)
  b_classmethod := He.free_ok X G (c.fact 4 (f := .free "classmethod") rfl)
  b_enumerate := He.free_ok X G (c.fact 5 (f := .free "enumerate") rfl)
  b_int := He.free_ok X G (c.fact 6 (f := .free "int") rfl)
  b_isinstance := He.free_ok X G (c.fact 7 (f := .free "isinstance") rfl)
  b_len := He.free_ok X G (c.fact 8 (f := .free "len") rfl)
  b_list := He.free_ok X G (c.fact 9 (f := .free "list") rfl)
  b_property := He.free_ok X G (c.fact 10 (f := .free "property") rfl)
  b_range := He.free_ok X G (c.fact 11 (f := .free "range") rfl)
  b_set := He.free_ok X G (c.fact 12 (f := .free "set") rfl)
  b_sorted := He.free_ok X G (c.fact 13 (f := .free "sorted") rfl)
  b_staticmethod := He.free_ok X G (c.fact 14 (f := .free "staticmethod") rfl)
  b_str := He.free_ok X G (c.fact 15 (f := .free "str") rfl)
  b_sum := He.free_ok X G (c.fact 16 (f := .free "sum") rfl)
  b_tuple := He.free_ok X G (c.fact 17 (f := .free "tuple") rfl)
  g_LETTERS := He.str_ok X G (c.fact 18 (f := .str "LETTERS" "abcdefgh") rfl)
  g_OPERATORS := He.glo_ok X G (c.fact 19 (f := .glo "OPERATORS") rfl)
  t_OPERATORS := fun H => He.tupB_ok (vs := [.str "&", .str "|"]) (by simp only [ex, Bool.and_eq_true] at e; simp only [e]) H
  g_MAX_DEPTH := He.int_ok X G (c.fact 20 (f := .int "MAX_DEPTH" 5) rfl)
  g_MAX_SIZE := He.int_ok X G (c.fact 21 (f := .int "MAX_SIZE" 24) rfl)
  g_LONG_DEPTH := He.int_ok X G (c.fact 22 (f := .int "LONG_DEPTH" 9) rfl)
  g_LONG_SIZE := He.int_ok X G (c.fact 23 (f := .int "LONG_SIZE" 600) rfl)
  g_DIGITS := He.str_ok X G (c.fact 24 (f := .str "DIGITS" "01") rfl)
  c_FaultError := He.glo_ok X G (c.fact 25 (f := .glo "FaultError") rfl)
  c_InvalidTerm := He.glo_ok X G (c.fact 26 (f := .glo "InvalidTerm") rfl)
  c_InvalidBoard := He.glo_ok X G (c.fact 27 (f := .glo "InvalidBoard") rfl)
  c_InvalidPlace := He.glo_ok X G (c.fact 28 (f := .glo "InvalidPlace") rfl)
  c_InvalidReading := He.glo_ok X G (c.fact 29 (f := .glo "InvalidReading") rfl)
  c_TooManyPlaces := He.glo_ok X G (c.fact 30 (f := .glo "TooManyPlaces") rfl)
  c_Board := He.glo_ok X G (c.fact 31 (f := .glo "Board") rfl)
  x_InvalidBoard := ownXB_ok (by simp only [ex, Bool.and_eq_true] at e; simp only [e])
  x_InvalidPlace := ownXB_ok (by simp only [ex, Bool.and_eq_true] at e; simp only [e])
  x_TooManyPlaces := ownXB_ok (by simp only [ex, Bool.and_eq_true] at e; simp only [e])
  n_Board_lines := He.noat_ok (c.fact 32 (f := .noat "Board" "lines") rfl)
  n_Board_lows := He.noat_ok (c.fact 33 (f := .noat "Board" "lows") rfl)
  n_Board_ups := He.noat_ok (c.fact 34 (f := .noat "Board" "ups") rfl)
  n_Board_least := He.noat_ok (c.fact 35 (f := .noat "Board" "least") rfl)
  n_Board_greatest := He.noat_ok (c.fact 36 (f := .noat "Board" "greatest") rfl)
  n_InvalidPlace_place := He.noat_ok (c.fact 37 (f := .noat "InvalidPlace" "place") rfl)
  n_TooManyPlaces_limit := He.noat_ok (c.fact 38 (f := .noat "TooManyPlaces" "limit") rfl)
  k_Board := He.cls_ok (c.fact 39 (f := .cls "Board") rfl)
  mk_Board := He.mkr_ok (c.fact 40 (f := .mkr "Board") rfl)
  r_Board := readB_ok (by simp only [ex, Bool.and_eq_true] at e; simp only [e])
  m_Board_chain := clsB_ok (by simp only [ex, Bool.and_eq_true] at e; simp only [e])
  m_Board_cube := clsB_ok (by simp only [ex, Bool.and_eq_true] at e; simp only [e])
  s_Board_fan := statB_ok (by simp only [ex, Bool.and_eq_true] at e; simp only [e])
  m_Board_rows := He.meth_ok (c.fact 41 (f := .meth "Board" "rows") rfl)
  m_Board_is_place := He.meth_ok (c.fact 42 (f := .meth "Board" "is_place") rfl)
  m_Board_need_places := He.meth_ok (c.fact 43 (f := .meth "Board" "need_places") rfl)
  m_Board_is_below := He.meth_ok (c.fact 44 (f := .meth "Board" "is_below") rfl)
  m_Board_spreads := He.meth_ok (c.fact 45 (f := .meth "Board" "spreads") rfl)
  m_Board_product := He.meth_ok (c.fact 46 (f := .meth "Board" "product") rfl)
  m_Board___len__ := He.meth_ok (c.fact 47 (f := .meth "Board" "__len__") rfl)
  v_Board_MAX_PLACES := cvalB_ok (by simp only [ex, Bool.and_eq_true] at e; simp only [e])
  fe := feCB_ok (by simp only [ex, Bool.and_eq_true] at e; simp only [e])
def loose : List PySem.Str := [("_wall" : PySem.Str), ("ladder_at" : PySem.Str), ("fan_at" : PySem.Str), ("find_fault" : PySem.Str), ("FaultError" : PySem.Str), ("InvalidTerm" : PySem.Str), ("InvalidBoard" : PySem.Str), ("InvalidPlace" : PySem.Str), ("InvalidReading" : PySem.Str), ("TooManyPlaces" : PySem.Str), ("LETTERS" : PySem.Str), ("OPERATORS" : PySem.Str), ("MAX_DEPTH" : PySem.Str), ("MAX_SIZE" : PySem.Str), ("LONG_DEPTH" : PySem.Str), ("LONG_SIZE" : PySem.Str), ("is_letter" : PySem.Str), ("measured" : PySem.Str), ("is_term" : PySem.Str), ("is_long_term" : PySem.Str), ("need_long_term" : PySem.Str), ("parts_of" : PySem.Str), ("walked" : PySem.Str), ("letters_in" : PySem.Str), ("DIGITS" : PySem.Str), ("turned_rows" : PySem.Str), ("mask_of" : PySem.Str), ("is_square" : PySem.Str), ("is_order" : PySem.Str), ("meeting_places" : PySem.Str), ("gathered" : PySem.Str), ("Board" : PySem.Str), ("_law_source" : PySem.Str), ("_law_take" : PySem.Str), ("_law_pick" : PySem.Str), ("_law_mixed" : PySem.Str), ("_law_copied" : PySem.Str), ("_law_index" : PySem.Str), ("_law_family" : PySem.Str), ("_law_rows" : PySem.Str), ("_law_some_rows" : PySem.Str), ("_law_low" : PySem.Str), ("_law_up" : PySem.Str), ("_law_tables" : PySem.Str), ("_law_spreads" : PySem.Str), ("_law_fault_right" : PySem.Str), ("_law_has_ladder" : PySem.Str)]
abbrev R : PySem.W.OpenRow := PySem.W.OpenLaw.row PySem.Challenge.rw_fivefault_k36_whole_boards_spread_or_hav
abbrev hk : PySem.W.Hook := hookZ 5 fa fn fp [] ex
def ob (s : PySem.W.SharedT) : AlZ := obsZ 5 fa fn fp [] ex (HandSHeadRun.getT s)
theorem ob_eq (s : PySem.W.SharedT) : ob s = hk.obs s.abs := obsZ_eq (HandSHeadRun.getT_eq s)
theorem run (w : World) : HandSHeadRun.RunEq R (PySem.W.view R.prog [52]) hk ob 20000 loose w := by
  intro os
  kernel_rfl
end FF

namespace FF
open PySem PySem.Spec PyProof.Rows L2
theorem facts {P : Program} {w : World} {K : PySem.W.Frag} {h : Heap} {mg : Str → Option Value} {f : Addr} (X : K.In h) (G : h.Ns mainGlobals mg) (hfa : mg ("law" : Str) = some (.ref f)) (cx : SaysZ fa fn fp [] ex w h K) :
    ∃ fd : FuncData, (∀ (s : Shared) (v : Value), BindsTo s fd ⟨[v], []⟩ [("_law_script", v)]) ∧ ∀ base : Heap, K.In base → base.Ns mainGlobals mg → FnOk P w K mg base CX0 42 f fd ["_law_script"] (spLaw K) := by
  have c := cx.x.t.d
  have T := top_of X G c cx.x.more
  obtain ⟨fd_wall, F_wall⟩ := c.def_ 0 (d := d_wall) rfl
  have m_wall := He.glo_ok X G (c.fact 48 (f := .glo "_wall") rfl)
  obtain ⟨fd_ladder_at, F_ladder_at⟩ := c.def_ 1 (d := d_ladder_at) rfl
  have m_ladder_at := He.glo_ok X G (c.fact 49 (f := .glo "ladder_at") rfl)
  obtain ⟨fd_fan_at, F_fan_at⟩ := c.def_ 2 (d := d_fan_at) rfl
  have m_fan_at := He.glo_ok X G (c.fact 50 (f := .glo "fan_at") rfl)
  obtain ⟨fd_find_fault, F_find_fault⟩ := c.def_ 3 (d := d_find_fault) rfl
  have m_find_fault := He.glo_ok X G (c.fact 51 (f := .glo "find_fault") rfl)
  obtain ⟨fd_is_letter, F_is_letter⟩ := c.def_ 4 (d := d_is_letter) rfl
  have m_is_letter := He.glo_ok X G (c.fact 52 (f := .glo "is_letter") rfl)
  obtain ⟨fd_measured, F_measured⟩ := c.def_ 5 (d := d_measured) rfl
  have m_measured := He.glo_ok X G (c.fact 53 (f := .glo "measured") rfl)
  obtain ⟨fd_is_term, F_is_term⟩ := c.def_ 6 (d := d_is_term) rfl
  have m_is_term := He.glo_ok X G (c.fact 54 (f := .glo "is_term") rfl)
  obtain ⟨fd_is_long_term, F_is_long_term⟩ := c.def_ 7 (d := d_is_long_term) rfl
  have m_is_long_term := He.glo_ok X G (c.fact 55 (f := .glo "is_long_term") rfl)
  obtain ⟨fd_need_long_term, F_need_long_term⟩ := c.def_ 8 (d := d_need_long_term) rfl
  have m_need_long_term := He.glo_ok X G (c.fact 56 (f := .glo "need_long_term") rfl)
  obtain ⟨fd_parts_of, F_parts_of⟩ := c.def_ 9 (d := d_parts_of) rfl
  have m_parts_of := He.glo_ok X G (c.fact 57 (f := .glo "parts_of") rfl)
  obtain ⟨fd_walked, F_walked⟩ := c.def_ 10 (d := d_walked) rfl
  have m_walked := He.glo_ok X G (c.fact 58 (f := .glo "walked") rfl)
  obtain ⟨fd_letters_in, F_letters_in⟩ := c.def_ 11 (d := d_letters_in) rfl
  have m_letters_in := He.glo_ok X G (c.fact 59 (f := .glo "letters_in") rfl)
  obtain ⟨fd_turned_rows, F_turned_rows⟩ := c.def_ 12 (d := d_turned_rows) rfl
  have m_turned_rows := He.glo_ok X G (c.fact 60 (f := .glo "turned_rows") rfl)
  obtain ⟨fd_mask_of, F_mask_of⟩ := c.def_ 13 (d := d_mask_of) rfl
  have m_mask_of := He.glo_ok X G (c.fact 61 (f := .glo "mask_of") rfl)
  obtain ⟨fd_is_square, F_is_square⟩ := c.def_ 14 (d := d_is_square) rfl
  have m_is_square := He.glo_ok X G (c.fact 62 (f := .glo "is_square") rfl)
  obtain ⟨fd_is_order, F_is_order⟩ := c.def_ 15 (d := d_is_order) rfl
  have m_is_order := He.glo_ok X G (c.fact 63 (f := .glo "is_order") rfl)
  obtain ⟨fd_meeting_places, F_meeting_places⟩ := c.def_ 16 (d := d_meeting_places) rfl
  have m_meeting_places := He.glo_ok X G (c.fact 64 (f := .glo "meeting_places") rfl)
  obtain ⟨fd_gathered, F_gathered⟩ := c.def_ 17 (d := d_gathered) rfl
  have m_gathered := He.glo_ok X G (c.fact 65 (f := .glo "gathered") rfl)
  obtain ⟨fd_law_source, F_law_source⟩ := c.def_ 18 (d := d_law_source) rfl
  have m_law_source := He.glo_ok X G (c.fact 66 (f := .glo "_law_source") rfl)
  obtain ⟨fd_law_take, F_law_take⟩ := c.def_ 19 (d := d_law_take) rfl
  have m_law_take := He.glo_ok X G (c.fact 67 (f := .glo "_law_take") rfl)
  obtain ⟨fd_law_pick, F_law_pick⟩ := c.def_ 20 (d := d_law_pick) rfl
  have m_law_pick := He.glo_ok X G (c.fact 68 (f := .glo "_law_pick") rfl)
  obtain ⟨fd_law_mixed, F_law_mixed⟩ := c.def_ 21 (d := d_law_mixed) rfl
  have m_law_mixed := He.glo_ok X G (c.fact 69 (f := .glo "_law_mixed") rfl)
  obtain ⟨fd_law_copied, F_law_copied⟩ := c.def_ 22 (d := d_law_copied) rfl
  have m_law_copied := He.glo_ok X G (c.fact 70 (f := .glo "_law_copied") rfl)
  obtain ⟨fd_law_index, F_law_index⟩ := c.def_ 23 (d := d_law_index) rfl
  have m_law_index := He.glo_ok X G (c.fact 71 (f := .glo "_law_index") rfl)
  obtain ⟨fd_law_family, F_law_family⟩ := c.def_ 24 (d := d_law_family) rfl
  have m_law_family := He.glo_ok X G (c.fact 72 (f := .glo "_law_family") rfl)
  obtain ⟨fd_law_rows, F_law_rows⟩ := c.def_ 25 (d := d_law_rows) rfl
  have m_law_rows := He.glo_ok X G (c.fact 73 (f := .glo "_law_rows") rfl)
  obtain ⟨fd_law_some_rows, F_law_some_rows⟩ := c.def_ 26 (d := d_law_some_rows) rfl
  have m_law_some_rows := He.glo_ok X G (c.fact 74 (f := .glo "_law_some_rows") rfl)
  obtain ⟨fd_law_low, F_law_low⟩ := c.def_ 27 (d := d_law_low) rfl
  have m_law_low := He.glo_ok X G (c.fact 75 (f := .glo "_law_low") rfl)
  obtain ⟨fd_law_up, F_law_up⟩ := c.def_ 28 (d := d_law_up) rfl
  have m_law_up := He.glo_ok X G (c.fact 76 (f := .glo "_law_up") rfl)
  obtain ⟨fd_law_tables, F_law_tables⟩ := c.def_ 29 (d := d_law_tables) rfl
  have m_law_tables := He.glo_ok X G (c.fact 77 (f := .glo "_law_tables") rfl)
  obtain ⟨fd_law_spreads, F_law_spreads⟩ := c.def_ 30 (d := d_law_spreads) rfl
  have m_law_spreads := He.glo_ok X G (c.fact 78 (f := .glo "_law_spreads") rfl)
  obtain ⟨fd_law_fault_right, F_law_fault_right⟩ := c.def_ 31 (d := d_law_fault_right) rfl
  have m_law_fault_right := He.glo_ok X G (c.fact 79 (f := .glo "_law_fault_right") rfl)
  obtain ⟨fd_law_has_ladder, F_law_has_ladder⟩ := c.def_ 32 (d := d_law_has_ladder) rfl
  have m_law_has_ladder := He.glo_ok X G (c.fact 80 (f := .glo "_law_has_ladder") rfl)
  obtain ⟨fd_law, F_law⟩ := c.def_ 33 (d := d_law) rfl
  have m_law := He.glo_ok X G (c.fact 81 (f := .glo "law") rfl)
  obtain ⟨fd_FaultError_init, F_FaultError_init⟩ := c.def_ 34 (d := d_FaultError_init) rfl
  obtain ⟨fd_InvalidBoard_init, F_InvalidBoard_init⟩ := c.def_ 35 (d := d_InvalidBoard_init) rfl
  obtain ⟨fd_InvalidPlace_init, F_InvalidPlace_init⟩ := c.def_ 36 (d := d_InvalidPlace_init) rfl
  obtain ⟨fd_TooManyPlaces_init, F_TooManyPlaces_init⟩ := c.def_ 37 (d := d_TooManyPlaces_init) rfl
  obtain ⟨fd_Board_chain, F_Board_chain⟩ := cx.get 0 (g := g_Board_chain) rfl
  obtain ⟨fd_Board_cube, F_Board_cube⟩ := cx.get 1 (g := g_Board_cube) rfl
  obtain ⟨fd_Board_fan, F_Board_fan⟩ := cx.get 2 (g := g_Board_fan) rfl
  obtain ⟨fd_Board___init__, F_Board___init__⟩ := c.def_ 38 (d := d_Board___init__) rfl
  obtain ⟨fd_Board_rows, F_Board_rows⟩ := c.def_ 39 (d := d_Board_rows) rfl
  obtain ⟨fd_Board_is_place, F_Board_is_place⟩ := c.def_ 40 (d := d_Board_is_place) rfl
  obtain ⟨fd_Board_need_places, F_Board_need_places⟩ := c.def_ 41 (d := d_Board_need_places) rfl
  obtain ⟨fd_Board_is_below, F_Board_is_below⟩ := c.def_ 42 (d := d_Board_is_below) rfl
  obtain ⟨fd_Board_spreads, F_Board_spreads⟩ := c.def_ 43 (d := d_Board_spreads) rfl
  obtain ⟨fd_Board_product, F_Board_product⟩ := c.def_ 44 (d := d_Board_product) rfl
  obtain ⟨fd_Board___len__, F_Board___len__⟩ := c.def_ 45 (d := d_Board___len__) rfl
  have e := hfa.symm.trans m_law
  cases e
  have b := FunD.bindsA (ps := ["_law_script"]) F_law fun _ _ _ _ _ _ us hl => match us, hl with | [_], _ => rfl
  refine ⟨fd_law, fun s v => b s [v] rfl, fun base _ _ => ?_⟩
  have D_take : Def P w K mg base "_law_take" 1 ["_law_source_here", "_law_many"] spTake := take_hid (ok_take F_law_take m_law_take T)
  have D_source : Def P w K mg base "_law_source" 1 ["_law_script"] (spSource K) := ok_source F_law_source m_law_source T
  have D_pick : Def P w K mg base "_law_pick" 2 ["_law_source_here", "_law_row"] (spPick K) := ok_pick F_law_pick m_law_pick T D_take
  have D_mixed : Def P w K mg base "_law_mixed" 2 ["_law_source_here", "_law_row"] (spMixed K) := ok_mixed F_law_mixed m_law_mixed T D_take
  have b_fe : Binds K fd_FaultError_init ["self", "code"] [] := F_FaultError_init.bindsN fun _ _ _ _ _ _ us hl => match us, hl with | [_, _], _ => rfl
  have FE : FnOk P w K mg base CX0 1 (He.ma K (He.ga K "FaultError") "__init__") fd_FaultError_init ["self", "code"] (spFE K) := fn_fe F_FaultError_init T
  have R_ib : RaiseD P w K mg base "InvalidBoard" "FaultError" 2 "InvalidBoard" := ⟨T.x_InvalidBoard, T.c_InvalidBoard, fd_InvalidBoard_init, fn_InvalidBoard F_InvalidBoard_init T FE b_fe, F_InvalidBoard_init.bindsN fun _ _ _ _ _ _ us hl => match us, hl with | [_], _ => rfl⟩
  have R_ip : RaiseD1 P w K mg base "InvalidPlace" "FaultError" 2 "InvalidPlace" "place" := ⟨T.x_InvalidPlace, T.n_InvalidPlace_place, T.c_InvalidPlace, fd_InvalidPlace_init, fn_InvalidPlace F_InvalidPlace_init T FE b_fe, F_InvalidPlace_init.bindsN fun _ _ _ _ _ _ us hl => match us, hl with | [_, _], _ => rfl⟩
  have R_tm : RaiseD1 P w K mg base "TooManyPlaces" "FaultError" 2 "TooManyPlaces" "limit" := ⟨T.x_TooManyPlaces, T.n_TooManyPlaces_limit, T.c_TooManyPlaces, fd_TooManyPlaces_init, fn_TooManyPlaces F_TooManyPlaces_init T FE b_fe, F_TooManyPlaces_init.bindsN fun _ _ _ _ _ _ us hl => match us, hl with | [_, _], _ => rfl⟩
  have D_ga := ok_gathered (P := P) (w := w) (base := base) F_gathered m_gathered T
  have FB := ok_board_init (P := P) (w := w) (base := base) F_Board___init__ T (ok_square F_is_square m_is_square T) (ok_mask F_mask_of m_mask_of T) (ok_turned F_turned_rows m_turned_rows T) (ok_order F_is_order m_is_order T) (ok_meet F_meeting_places m_meeting_places T) D_ga R_ib
  have M_Board : MakeX P w K mg base "Board" 4 ["self", "rows"] (spBoard K) := ⟨⟨fd_Board___init__, FB, F_Board___init__.bindsN fun _ _ _ _ _ _ us hl => match us, hl with | [_, _], _ => rfl⟩, T.mk_Board, T.c_Board⟩
  have D_np := ok_needPl (P := P) (w := w) (base := base) F_Board_need_places T (ok_isPlace F_Board_is_place T) R_ip
  have D_be := ok_below (P := P) (w := w) (base := base) F_Board_is_below T D_np
  have D_copied := ok_copied (P := P) (w := w) (base := base) F_law_copied m_law_copied T
  have D_rowsV := ok_rowsV (P := P) (w := w) (base := base) F_law_rows m_law_rows T
  have C_chain : ClsX P w K mg base "Board" "chain" 6 (spChain K) := clsx_of (fn_chain (P := P) (w := w) (base := base) F_Board_chain T M_Board R_ib) (F_Board_chain.bindsN fun _ _ _ _ _ _ us hl => match us, hl with | [_, _], _ => rfl) T.r_Board T.m_Board_chain
  have C_cube : ClsX P w K mg base "Board" "cube" 6 (spCube K) := clsx_of (fn_cube (P := P) (w := w) (base := base) F_Board_cube T M_Board R_ib) (F_Board_cube.bindsN fun _ _ _ _ _ _ us hl => match us, hl with | [_, _], _ => rfl) T.r_Board T.m_Board_cube
  have D_ln := ok_lenB (P := P) (w := w) (base := base) F_Board___len__ T
  have D_la := ok_ladderX (P := P) (w := w) (base := base) F_ladder_at m_ladder_at T
  have D_fa := ok_fan_atX (P := P) (w := w) (base := base) F_fan_at m_fan_at T
  exact ok_law F_law T F_find_fault m_find_fault (ok_findX F_find_fault m_find_fault T D_ln D_be D_la D_fa) (fn_findX F_find_fault T D_ln D_be D_la D_fa) M_Board (ok_prod F_Board_product T M_Board R_tm) (ok_spr F_Board_spreads T) (ok_rowsB F_Board_rows T)
    C_chain C_cube (ok_fan F_Board_fan T M_Board R_ib) D_source D_take D_pick (ok_some_rowsV F_law_some_rows m_law_some_rows T D_take D_mixed D_rowsV (ok_familyV F_law_family m_law_family T D_take D_copied D_mixed))
    (ok_tables F_law_tables m_law_tables T (ok_lowL F_law_low m_law_low T) (ok_upL F_law_up m_law_up T)) (ok_sprL F_law_spreads m_law_spreads T) (ok_right F_law_fault_right m_law_fault_right T (ok_idx F_law_index m_law_index T)) (ok_hasLad F_law_has_ladder m_law_has_ladder T)
end FF
open PySem PySem.W PySem.Calls PyProof.Rows
set_option maxRecDepth 100000 in
set_option maxHeartbeats 0 in
theorem PySem.Challenge.cw_fivefault_k36_whole_boards_spread_or_hav_holds : PySem.Challenge.rw_fivefault_k36_whole_boards_spread_or_hav.Holds := by
  w_on; o_law
  refine HandSHeadRun.head_any (r := PySem.W.OpenLaw.row PySem.Challenge.rw_fivefault_k36_whole_boards_spread_or_hav) (q := PySem.W.view (PySem.W.OpenLaw.row PySem.Challenge.rw_fivefault_k36_whole_boards_spread_or_hav).prog [52]) (H := FF.hk) (ob := FF.ob) (M := 20000) (loose := FF.loose) (d := HandSHeadRun.topDef (PySem.W.OpenLaw.row PySem.Challenge.rw_fivefault_k36_whole_boards_spread_or_hav).prog 52) (kwd := []) FF.ob_eq
    (by kernel_rfl) (fun s => by kernel_rfl) FF.run (by kernel_rfl) (by kernel_rfl) (by kernel_rfl) (by rfl) (by first | assumption | decide +kernel) (by decide +kernel) ⟨rfl, rfl, rfl, rfl, rfl, by decide +kernel⟩ ?hw ?hc
  case hw => w_witness2
  case hc =>
    refine L2.walk_ofE (l := PySem.Challenge.rw_fivefault_k36_whole_boards_spread_or_hav) (n := 63) (k := 42) (x := "_law_script") (CX := L2.CX0) rfl (by decide) (by kernel_rfl) ⟨rfl, by decide, by decide⟩ ?F (fun _ _ _ _ z => z)
    intro w mg fa h Y G hmg0
    obtain ⟨K, KX, c⟩ := Y
    have hmg : mg ("law" : PySem.Str) = some (.ref fa) := by
      have e : (HandSHeadRun.topDef (PySem.W.OpenLaw.row PySem.Challenge.rw_fivefault_k36_whole_boards_spread_or_hav).prog 52).name = ("law" : PySem.Str) := by kernel_rfl
      rw [← e]
      exact hmg0
    obtain ⟨fd, hb, hF⟩ := FF.facts (P := (PySem.Challenge.rw_fivefault_k36_whole_boards_spread_or_hav).prog) (w := w) KX G hmg c
    exact ⟨K, fd, FF.spLaw K, KX, hb, fun H a ns hl _ hS => ⟨a, ns, rfl, hS, fun _ => rfl⟩, hF⟩

