import PyProof.Rows.All
import Wide.All
import OpenK.AllK
import Wide.FinOn
import HandS.ForMost
import HandS.ForExc
import HandS.Codes
import HandS.IsInst
import HandS.Replace
import HandS.EndBits
import HandS.Wide
import KE.IntTextLaws
import HandS.Nested
import HandS.ExcInit
import HandS.ExcField
import HandS.CallSlots
import HandS.Finally
import KE.KExcSuper
import HandS.RaiseMore
import PyProof.FitsInt
import HandS.WrittenGet
import KE.KIndexOf
import HandS.TupAny
import HandS.NoneIn
import PySem.Challenge.RW_beatsbounded_k87_instructions_there_and
set_option Elab.async false
set_option linter.all false
set_option maxRecDepth 100000
namespace BB
open PySem PySem.Spec PyProof.Rows L2 SX

/-- a def of the top, under its name -/
structure Def (K : PySem.W.Frag) (mg : Str → Option Value) (x : Str) (ps : List Str) (st : Stmt) : Prop where
  ex : ∃ (f : Addr) (fd : FuncData), L2.Fun K x x st f fd ∧ mg x = some (.ref f) ∧ Binds K fd ps []
theorem def_mk {K : PySem.W.Frag} {mg : Str → Option Value} {x : Str} {ps : List Str} {st : Stmt} {f : Addr} {fd : FuncData} (F : L2.Fun K x x st f fd) (m : mg x = some (.ref f))
    (h : ∀ (kV doc pm : Value) (an : Option Addr) (cdv ct : Value) (us : List Value), us.length = ps.length → bindArgs (PySem.W.fnOf x x (defArgs st) (defBody st) (defScope st) .none kV doc pm an cdv ct) ⟨us, []⟩ = pure (ps.zip us)) : Def K mg x ps st :=
  ⟨f, fd, F, m, F.binds h⟩

/-- a def that may be called by its name; errors may leave it -/
structure Cal (P : Program) (w : World) (K : PySem.W.Frag) (mg : Str → Option Value) (base : Heap) (k : Nat) (x : Str) (ps : List Str) (sp : Sp) : Prop where
  ex : ∃ (f : Addr) (fd : FuncData), FnOk P w K mg base (L2.CX P w) k f fd ps sp ∧ mg x = some (.ref f) ∧ PySem.W.keepIn K (.ref f) = true ∧ Binds K fd ps []

section
variable {P : Program} {w : World} {K : PySem.W.Frag} {mg : Str → Option Value} {base : Heap}
theorem ok0 {x : Str} {st : Stmt} {N ps : List Str} {k : Nat} {sp : Sp} {f : Addr} {fd : FuncData} (F : L2.Fun K x x st f fd) (S : FnScope N ps (defScope st)) (len : ∀ vs H Q E, sp vs H Q E → vs.length = ps.length)
    (hbody : ∀ (f : Addr) (cdv : Value) (A : Around) (outer : List Env) (s : Shared) (H : Hp) (vs : List V) (Q : VK) (E : XK), Room k (A.deeper (envOfC x (defScope st) s.heap.objs.size f cdv)) → sp vs H Q E →
      ∃ t, PSs (cxOf (L2.CX P w) P w K mg base N x (defScope st) f cdv A outer s H E).nox (defBody st) t ∧ t { nx := fun _ H' => Q .non H', rt := Q } (start N vs) H) : FnOk P w K mg base (L2.CX P w) (k + 1) f fd ps sp := by
  refine L2.Fun.okX F S len fun cdv A outer s H vs Q E hr hsp => ?_
  obtain ⟨t, h, q⟩ := hbody f cdv A outer s H vs Q E hr hsp
  exact ⟨t, h.nox, q⟩
/-- by its body, where nothing is raised out -/
theorem cal0 {x : Str} {st : Stmt} {N ps : List Str} {k : Nat} {sp : Sp} (D : Def K mg x ps st) (S : FnScope N ps (defScope st)) (len : ∀ vs H Q E, sp vs H Q E → vs.length = ps.length)
    (hbody : ∀ (f : Addr) (cdv : Value) (A : Around) (outer : List Env) (s : Shared) (H : Hp) (vs : List V) (Q : VK) (E : XK), Room k (A.deeper (envOfC x (defScope st) s.heap.objs.size f cdv)) → sp vs H Q E →
      ∃ t, PSs (cxOf (L2.CX P w) P w K mg base N x (defScope st) f cdv A outer s H E).nox (defBody st) t ∧ t { nx := fun _ H' => Q .non H', rt := Q } (start N vs) H) : Cal P w K mg base (k + 1) x ps sp := by
  obtain ⟨f, fd, F, m, b⟩ := D.ex
  refine ⟨f, fd, ?_, m, F.kp, b⟩
  refine L2.Fun.okX F S len fun cdv A outer s H vs Q E hr hsp => ?_
  obtain ⟨t, h, q⟩ := hbody f cdv A outer s H vs Q E hr hsp
  exact ⟨t, h.nox, q⟩
/-- by its body, where an error may leave -/
theorem calX {x : Str} {st : Stmt} {N ps : List Str} {k : Nat} {sp : Sp} (D : Def K mg x ps st) (S : FnScope N ps (defScope st)) (len : ∀ vs H Q E, sp vs H Q E → vs.length = ps.length)
    (hbody : ∀ (f : Addr) (cdv : Value) (A : Around) (outer : List Env) (s : Shared) (H : Hp) (vs : List V) (Q : VK) (E : XK), Room k (A.deeper (envOfC x (defScope st) s.heap.objs.size f cdv)) → sp vs H Q E →
      ∃ t, PSs (cxOf (L2.CX P w) P w K mg base N x (defScope st) f cdv A outer s H E) (defBody st) t ∧ t { nx := fun _ H' => Q .non H', rt := Q } (start N vs) H) : Cal P w K mg base (k + 1) x ps sp := by
  obtain ⟨f, fd, F, m, b⟩ := D.ex
  refine ⟨f, fd, ?_, m, F.kp, b⟩
  exact L2.Fun.okX F S len fun cdv A outer s H vs Q E hr hsp => hbody f cdv A outer s H vs Q E hr hsp
end
section
variable {X : Cx} {k j : Nat} {x : Str} {ps : List Str} {sp : Sp} {p pos : Pos} {e : Expr} {es : List Expr} {t : TA}
/-- f(e, ..), nothing raised -/
theorem pe_c (c : Cal X.prog X.w X.K X.mg X.base k x ps sp) (hr : Room j X.A) (hk : k ≤ j) (hg : Gl X x) (ha : PA X (e :: es) t)
    (hdb : (x == ("__debug__" : Str)) = false := by decide) (he : starEach (e :: es) X.env = (false, eval e X.env) :: starEach es X.env := by rfl) (hpl : (backTo pos (starEach es X.env)).any (·.1) = false := by rfl) :
    PE X (.Call (.Name x p) (e :: es) [] pos) (tCall sp [] L2.E0 t) := by
  obtain ⟨f, fd, F, hm, kp, b⟩ := c.ex
  exact pe_call F (hr.mono hk) hg hm kp b .nil passL ha hdb he hpl
end
/-- a name of the module, by its value -/
theorem pe_gc {X : Cx} {x : Str} {v : V} {pos : Pos} (hg : Gl X x) (h : ∃ u, X.mg x = some u ∧ RelV v u) (hd : (x == ("__debug__" : Str)) = false := by decide) : PE X (.Name x pos) (tC v) := by
  obtain ⟨u, hm, r⟩ := h
  exact pe_glob hg hm r hd

/-! ### loops by what is left to come -/
theorem forR_list {K : PySem.W.Frag} {a : Addr} {xs : List V} {g : TG} {tb : TS} {D : Ends} {σ : L2.St} {H : Hp} (Pv : List V → L2.St → Hp → Prop) (h0 : Pv xs σ H) (hl : ∀ r σ H, Pv r σ H → SqL K H a xs)
    (hs : ∀ x r σ H, x ∈ xs → Pv (x :: r) σ H → g x σ H fun σ2 H2 => tb { D with nx := Pv r, ct := Pv r, bk := D.nx } σ2 H2) (hd : ∀ σ H, Pv [] σ H → D.nx σ H) :
    ∃ W : Nat → Nat → L2.St → Hp → Prop, (∃ m, W 0 m σ H) ∧ ∀ i m σ H, W i m σ H →
      ((Itl K a).stop i H ∧ D.nx σ H) ∨ ((Itl K a).go i H ∧ ∃ N : L2.St → Hp → Prop, (∀ σ' H', N σ' H' → ∃ m', m' < m ∧ W (i + 1) m' σ' H') ∧ ∀ x H', (Itl K a).yld i H x H' → g x σ H' fun σ2 H2 => tb { D with nx := N, ct := N, bk := D.nx } σ2 H2) := by
  refine for_list (K := K) (a := a) (xs := xs) (fun i σ H => Pv (xs.drop i) σ H) h0 (fun i σ H _ h => hl _ _ _ h) (fun i x σ H hx h => ?_) fun σ H h => ?_
  · have e : xs.drop i = x :: xs.drop (i + 1) := by
      obtain ⟨hi, hv⟩ := List.getElem?_eq_some_iff.mp hx
      rw [List.drop_eq_getElem_cons hi, hv]
    have h' : Pv (x :: xs.drop (i + 1)) σ H := by rw [← e]; exact h
    exact hs x _ σ H (List.mem_of_getElem? hx) h'
  · have e : xs.drop xs.length = [] := List.drop_length
    have h' : Pv [] σ H := by rw [← e]; exact h
    exact hd σ H h'
theorem forR_tup {K : PySem.W.Frag} {a : Addr} {xs : List V} {g : TG} {tb : TS} {D : Ends} {σ : L2.St} {H : Hp} (Pv : List V → L2.St → Hp → Prop) (h0 : Pv xs σ H) (hl : ∀ r σ H, Pv r σ H → SqT K H a xs)
    (hs : ∀ x r σ H, x ∈ xs → Pv (x :: r) σ H → g x σ H fun σ2 H2 => tb { D with nx := Pv r, ct := Pv r, bk := D.nx } σ2 H2) (hd : ∀ σ H, Pv [] σ H → D.nx σ H) :
    ∃ W : Nat → Nat → L2.St → Hp → Prop, (∃ m, W 0 m σ H) ∧ ∀ i m σ H, W i m σ H →
      ((Itt K a).stop i H ∧ D.nx σ H) ∨ ((Itt K a).go i H ∧ ∃ N : L2.St → Hp → Prop, (∀ σ' H', N σ' H' → ∃ m', m' < m ∧ W (i + 1) m' σ' H') ∧ ∀ x H', (Itt K a).yld i H x H' → g x σ H' fun σ2 H2 => tb { D with nx := N, ct := N, bk := D.nx } σ2 H2) := by
  refine for_tup (K := K) (a := a) (xs := xs) (fun i σ H => Pv (xs.drop i) σ H) h0 (fun i σ H _ h => hl _ _ _ h) (fun i x σ H hx h => ?_) fun σ H h => ?_
  · have e : xs.drop i = x :: xs.drop (i + 1) := by
      obtain ⟨hi, hv⟩ := List.getElem?_eq_some_iff.mp hx
      rw [List.drop_eq_getElem_cons hi, hv]
    have h' : Pv (x :: xs.drop (i + 1)) σ H := by rw [← e]; exact h
    exact hs x _ σ H (List.mem_of_getElem? hx) h'
  · have e : xs.drop xs.length = [] := List.drop_length
    have h' : Pv [] σ H := by rw [← e]; exact h
    exact hd σ H h'
/-- over a text's signs -/
theorem forR_str {l : List Nat} {g : TG} {tb : TS} {D : Ends} {σ : L2.St} {H : Hp} (Pv : List Nat → L2.St → Hp → Prop) (h0 : Pv l σ H)
    (hs : ∀ c r σ H, c ∈ l → Pv (c :: r) σ H → g (.str (S [c])) σ H fun σ2 H2 => tb { D with nx := Pv r, ct := Pv r, bk := D.nx } σ2 H2) (hd : ∀ σ H, Pv [] σ H → D.nx σ H) :
    ∃ W : Nat → Nat → L2.St → Hp → Prop, (∃ m, W 0 m σ H) ∧ ∀ i m σ H, W i m σ H →
      ((Its (S l)).stop i H ∧ D.nx σ H) ∨ ((Its (S l)).go i H ∧ ∃ N : L2.St → Hp → Prop, (∀ σ' H', N σ' H' → ∃ m', m' < m ∧ W (i + 1) m' σ' H') ∧ ∀ x H', (Its (S l)).yld i H x H' → g x σ H' fun σ2 H2 => tb { D with nx := N, ct := N, bk := D.nx } σ2 H2) := by
  have sz : (S l).cps.size = l.length := by simp
  refine ⟨fun i m σ H => m = l.length - i ∧ i ≤ l.length ∧ Pv (l.drop i) σ H, ⟨l.length, by simp, Nat.zero_le _, h0⟩, ?_⟩
  rintro i m σ H ⟨rfl, hi, p⟩
  by_cases hlt : i < l.length
  · refine .inr ⟨by show i < (S l).cps.size; rw [sz]; exact hlt, fun σ H => Pv (l.drop (i + 1)) σ H, fun σ' H' p' => ⟨l.length - (i + 1), by omega, rfl, hlt, p'⟩, fun x H' y => ?_⟩
    obtain ⟨e, c, hc, ex⟩ := y
    subst e
    subst ex
    have hc' : l[i]? = some c := by simpa using hc
    have ed : l.drop i = c :: l.drop (i + 1) := by
      obtain ⟨h1, hv⟩ := List.getElem?_eq_some_iff.mp hc'
      rw [List.drop_eq_getElem_cons h1, hv]
    have p' : Pv (c :: l.drop (i + 1)) σ H' := by rw [← ed]; exact p
    exact hs c _ σ H' (List.mem_of_getElem? hc') p'
  · have e : i = l.length := by omega
    subst e
    have e2 : l.drop l.length = [] := List.drop_length
    have p' : Pv [] σ H := by rw [← e2]; exact p
    exact .inl ⟨by show (S l).cps.size ≤ l.length; rw [sz]; exact Nat.le_refl _, hd σ H p'⟩

/-! ### heaps that only grow -/
theorem same_new {H : Hp} {p : Addr} {o : HO} (h : H p = Option.none) : Same H (upd H p o) := fun b u e => by
  rw [upd_ne (ne_of_none e h)]
  exact e
theorem same_tup {K : PySem.W.Frag} {H H' : Hp} {a : Addr} {xs : List V} (e : Same H H') (h : SqT K H a xs) : SqT K H' a xs := by
  rcases h with (h | ⟨o, h⟩) | h
  · exact .inl (.inl (e _ _ h))
  · exact .inl (.inr ⟨o, e _ _ h⟩)
  · exact .inr h
theorem new_tup {K : PySem.W.Frag} {H : Hp} {p : Addr} {xs : List V} : SqT K (upd H p (.tup xs)) p xs := SqT.of upd_same
theorem new_lst {K : PySem.W.Frag} {H : Hp} {p : Addr} {xs : List V} : SqL K (upd H p (.lst xs)) p xs := SqL.of upd_same
/-- a tuple stands also where a list is changed -/
theorem put_tup {K : PySem.W.Frag} {H : Hp} {a l : Addr} {xs ys zs : List V} (hl : H l = some (.lst ys)) (h : SqT K H a xs) : SqT K (upd H l (.lst zs)) a xs := by
  rcases h with (h | ⟨o, h⟩) | h
  · exact .inl (.inl (by rw [upd_ne (ne_of h hl (by intro z; cases z))]; exact h))
  · exact .inl (.inr ⟨o, by rw [upd_ne (ne_of h hl (by intro z; cases z))]; exact h⟩)
  · exact .inr h
theorem tupType {K : PySem.W.Frag} {H : Hp} {a : Addr} {xs : List V} (h : SqT K H a xs) : TyX K H (.ref a) (.type "tuple") := by
  rcases h with (h | ⟨o, h⟩) | ⟨o, its, n, h, c, _⟩
  · exact .base (.tup h)
  · exact .fTuple h
  · exact .kTuple h c

/-! ### texts by their codes -/
theorem tlS (l : List Nat) : (S l).cps.toList = l := rfl
theorem cutS_S (l : List Nat) (lo hi : Option Int) : cutS (S l) lo hi = S ((l.drop (HT.sIx l.length 0 lo)).take (HT.sIx l.length l.length hi - HT.sIx l.length 0 lo)) := by
  unfold cutS
  rw [S_len]
theorem sIx_nat (n d k : Nat) : HT.sIx n d (some (k : Int)) = min k n := by
  unfold HT.sIx
  simp only [if_neg (show ¬ ((k : Int) < 0) by omega), Int.toNat_natCast]
theorem sIx_none (n d : Nat) : HT.sIx n d none = d := rfl
theorem cut_from (l : List Nat) (k : Nat) : cutS (S l) (some (k : Int)) none = S (l.drop k) := by
  rw [cutS_S, sIx_nat, sIx_none]
  congr 1
  by_cases h : k ≤ l.length
  · rw [Nat.min_eq_left h, List.take_of_length_le (by rw [List.length_drop]; exact Nat.le_refl _)]
  · rw [Nat.min_eq_right (by omega), List.drop_length, List.take_nil, List.drop_of_length_le (by omega)]
theorem cut_to (l : List Nat) (k : Nat) : cutS (S l) none (some (k : Int)) = S (l.take k) := by
  rw [cutS_S, sIx_nat, sIx_none, List.drop_zero, Nat.sub_zero]
  congr 1
  by_cases h : k ≤ l.length
  · rw [Nat.min_eq_left h]
  · rw [Nat.min_eq_right (by omega), List.take_length, List.take_of_length_le (by omega)]

/-! ### the end of a law's row -/
theorem walkB {l : PySem.W.OpenLaw} {k : Nat} {q : Program} {loose : List Str} {XP : (Str → Option Value) → Heap → Prop} {YP : World → Heap → Prop} {d : DefRec} {K : Params → PySem.W.Frag} {sp : PySem.W.Frag → Sp}
    (hn : l.most = some 63) (hdf : d.params.defaults = []) (hr : Room k callerA) (hY : ∀ (w : World) (h : Heap), YP w h → (K w.params).In h)
    (F : ∀ (w : World) (mg : Str → Option Value) (fa : Addr) (h : Heap), (K w.params).In h → h.Ns mainGlobals mg → mg d.name = some (.ref fa) →
      ∃ fd : FuncData, (∀ (s : Shared) (u : Value), BindsTo s fd ⟨[u], []⟩ [("script", u)]) ∧
        ∀ base : Heap, (K w.params).In base → base.Ns mainGlobals mg → FnOk l.prog w (K w.params) mg base (L2.CX l.prog w) k fa fd ["script"] (sp (K w.params)))
    (hsp : ∀ (K : PySem.W.Frag) (H : Hp) (a : Addr) (ns : List Int), ns.length ≤ 63 → (∀ z ∈ ns, Builtin.Int.intBits z ≤ 1048576) → Only H → SqL K H a (ns.map V.int) → sp K [.ref a] H (fun v _ => v = .bl true) fun _ _ _ => False) :
    PySem.W.WalkO q loose XP YP l.row.toRowW d [] (fun f vs => PySem.call f vs) :=
  walk_ofB (K := K) (CX := fun w => L2.CX l.prog w) (sp := fun w => sp (K w.params)) hn (by decide) hdf hr hY F (fun w H a ns h1 h2 h3 h4 => hsp (K w.params) H a ns h1 h2 h3 h4) fun w H s e s' h => by
    obtain ⟨_, _, _, _, _, _, _, _, _, _, _, _, z⟩ := h
    exact z.elim

/-- a cell of the script -/
def cell (ns : List Int) (k : Nat) : Int := ns.getD k 0
theorem atI_of {α : Type} {xs : List α} {j : Nat} {v : α} (h : xs[j]? = some v) : atI xs (j : Int) = some v := atI_nat h
end BB
set_option maxHeartbeats 4000000
/-! super().__init__(e); self.f = x: an own error's __init__ -/
namespace BS
open PySem PySem.Spec PySem.Calls PyProof.Rows L2 SX BB NdefX

/-- what the written part says of an error class C that takes its __init__ from D -/
structure SupC (K : PySem.W.Frag) (D C : Addr) (fld : Str) : Prop where
  oex : OexC K C
  mro : PySem.W.mroIn K C (.ref D) = some true
  sup : PySem.W.ks_superIn K C D "__init__" = some (some (.builtin "ValueError.__init__"))
  sub : PySem.W.subIn K (.ref C) (.type "ValueError") = some true
  no : PySem.W.findIn K (.ref C) fld = some none

def spSup (K : PySem.W.Frag) (D : Addr) (fld : Str) (ta : TA) : Sp := fun vs H Q _ => ∃ (a C : Addr) (v : V), vs = [.ref a, v] ∧ SupC K D C fld ∧ H a = some (exo a C none) ∧
  ta [some (.ref a), some v, some (.ref D)] H (fun ws H1 => ws.length ≤ 1000 ∧ H1 = H) ∧
  ∀ dx, H dx = none → dx ≠ a → Q .non (upd (upd H dx (exd dx [(fld, v)])) a (exo a C (some dx)))

section
variable {prog : Program} {w : World} {A : Around} {E : Value → Shared → Prop} {h : Heap} {g : Array GenState} {d : Drawn} {t : Nat} {os : OsState} {bmB : List Value} {B i newId : String}
variable {nm q : Str} {C N : Addr} {bs bm : List Value} {hdct : Bool} {sn : List Str} {sub : List Value} {ab : Bool} {col : Option Bool} {dd : Option Addr} {k0 k1 k2 k3 k5 : Option Value}
theorem call_mw {u e t0 : Addr} {rest : List Value} {Q : Value → Shared → Prop} (FB : ExcBaseFacts B newId i bmB)
    (hC : h.get? C = some (excClassObj nm q C N bs bm hdct sn sub ab col dd k0 k1 k2 k3 k5 newId)) (he : h.get? e = some (PySem.W.excObj C t0 none .none)) (hu : h.get? u = some (PySem.W.kxs_mw i e)) (hz : rest.length ≤ sizeLine)
    (fin : ∀ h', (∀ b o, b ≠ e → h.get? b = some o → h'.get? b = some o) → h'.get? e = some (PySem.W.excObj C h.objs.size none .none) → Q .none ⟨h', g, d, t, os⟩) :
    wpAny (model prog w) A (call (.ref u) rest) Q E ⟨h, g, d, t, os⟩ := by
  refine wpAny_call (codeAny_of_tree ?_)
  show wpAny _ A.in1 (callAny (.ref u) ⟨rest, []⟩) _ _ _
  simp only [callAny]
  refine wpAny_bind (wpAny_load hu ?_)
  simp only [PySem.W.kxs_mw, show (Value.type "method-wrapper" == Value.type "method" || Value.type "method-wrapper" == Value.type "builtin_function_or_method" || Value.type "method-wrapper" == Value.type "method-wrapper") = true by decide, if_true]
  refine PySem.W.KFB.if_so (by decide) ?_
  refine wpAny_bind (PySem.W.check_bound_init FB.toExcCallFacts hC he rfl ?_)
  refine wpAny_bind (wpAny_pure (wpAny_pure ?_))
  refine ⟨plainId_quiet FB.init.plain _, codeAny_builtin FB.initEntry ?_⟩
  exact PySem.W.exc_init_tree (cls := .ref C) (t0 := t0) (dv := none) (c2 := .none) (c3 := .none) (b4 := .bool false) he hz fun h' k e' _ => fin h' k e'
end

section
variable {CX : CXT} {P : Program} {w : World} {K : PySem.W.Frag} {mg : Str → Option Value} {base : Heap} {fI D cc cda : Addr} {qual x fld : Str} {params : Arguments} {scope : Scope} {kV doc pm ct oc ccl cl : Value} {an od cdd cld : Option Addr} {osl ccs csl : Array (Option Value)}
  {e : Expr} {p0 p1 p2 p3 p4 p5 p6 p7 p8 : Pos} {ta : TA} {ar : Arg} {vs : Array Value} {file : Str} {tf : Tok} {cdD : ClassData}
abbrev supBody (e : Expr) (x fld : Str) (p0 p1 p2 p3 p4 p5 p6 p7 p8 : Pos) : List Stmt :=
  [.Expr (.Call (.Attribute (.Call (.Name "super" p0) [] [] p1) "__init__" p2) [e] [] p3) p4, .Assign [.Attribute (.Name "self" p5) fld p6] (.Name x p7) p8]
abbrev nfS (qual : Str) (params : Arguments) (body : List Stmt) (scope : Scope) (cc cda : Addr) : NF := ⟨"__init__", qual, params, body, scope, [("__class__", cc)], cda⟩
theorem one_look {y : Str} {c : Addr} (h : ([("__class__", cc)] : List (Str × Addr)).lookup y = some c) : y = "__class__" ∧ c = cc := by
  by_cases e : y = "__class__"
  · subst e
    have z : some cc = some c := by
      rw [← h]
      simp [List.lookup]
    exact ⟨rfl, (Option.some.inj z).symm⟩
  · have q : (y == ("__class__" : Str)) = false := beq_eq_false_iff_ne.mpr e
    simp [List.lookup, q] at h
theorem sup_body {X : Cx} {a C : Addr} {v : V} {H : Hp} {s : Shared} {D0 : Ends} {fd : FuncData} {body : List Stmt} (I : Inv X [] [some (.ref a), some v, some (.ref D)] H s) (hN : X.N = ([("self" : Str), x, "__class__"] : List Str))
    (lk : X.K.lookup fI = some ⟨oc, od, .func fd, osl⟩) (hfu : X.env.func = some fI) (hec : X.env.code = .ref cda) (hcl : X.env.cells.lookup ("__class__" : Str) = some cc)
    (hp : (fd.params.posonlyargs ++ fd.params.args).head? = some ar) (har : ar.arg = "self")
    (hco : X.K.lookup cda = some ⟨ccl, cdd, .fields vs, ccs⟩) (hvs : vs[2]? = some (.str file tf)) (hfile : ((X.prog.main.file : Str) == file) = true) (htop : (X.prog.main.scope.names.lookup ("super" : Str)).isSome = false)
    (hcell : X.K.lookup cc = some ⟨cl, cld, .cell (some (.ref D)), csl⟩) (hD : PySem.W.clsIn X.K D = some cdD) (hsup : X.mg "super" = none) (hopq : PySem.W.nsIn X.K cStatics "thirdparty.any" = some none)
    (hks : X.env.kindOf "super" = some .globalImplicit) (hkc : X.env.kindOf "__class__" = some .free) (hself : X.env.kindOf "self" = some .local) (hkx : X.env.kindOf x = some .local) (hx1 : (x == ("__debug__" : Str)) = false) (hx2 : (x == ("__classdict__" : Str)) = false)
    (ha : PA X [e] ta) (hsw : swapsWith (.Call (.Attribute (.Call (.Name "super" p0) [] [] p1) "__init__" p2) [e] [] p3) none p4.line X.env = pure false)
    (hsta : starEach [e] X.env = [(false, eval e X.env)])
    (hev : eval (.Call (.Attribute (.Call (.Name "super" p0) [] [] p1) "__init__" p2) [e] [] p3) X.env = (do
      let ov ← attributeBase (.Call (.Name "super" p0) [] [] p1) "__init__" X.env (eval (.Call (.Name "super" p0) [] [] p1) X.env)
      standAt p2.atName
      let (f, first) ← holding [ov] (getMethod ov "__init__" (pure false))
      callWith p3 f first (backTo p3 (starEach [e] X.env)) []))
    (SC : SupC X.K D C fld) (hao : H a = some (exo a C none)) (hta : ta [some (.ref a), some v, some (.ref D)] H fun ws H1 => ws.length ≤ 1000 ∧ H1 = H)
    (q : ∀ dx, H dx = none → dx ≠ a → D0.nx [some (.ref a), some v, some (.ref D)] (upd (upd H dx (exd dx [(fld, v)])) a (exo a C (some dx)))) :
    PySem.wpAt (model X.prog X.w) X.A (.func body X.env) (execs (supBody e x fld p0 p1 p2 p3 p4 p5 p6 p7 p8) X.env) (SP X [] D0) X.xe s := by
  obtain ⟨nm, qn, N, bs, bm, sn, sub, ab, col, dd, k0, k1, k2, k3, k5, hC, hbm⟩ := SC.oex.cls
  have hcls : PySem.W.clsIn X.K C = some { name := nm, bases := bs, mro := .ref C :: bm, ns := N, qualname := qn, hasDict := true, slotNames := sn, subclasses := sub, abstract := ab, collection := col, hasDel := false } := by unfold PySem.W.clsIn; rw [hC] <;> rfl
  have eH : upd H a (exo a C none) = H := by
    funext b
    by_cases hb : b = a
    · rw [hb, upd_same, hao]
    · rw [upd_ne hb]
  refine ks_wpAt_execs_cons (ks_wpAt_Expr_any ?_ I.quiet hsw)
  refine ks_wpAt_MethodCall (pl := pure false) ?_ hev
  have KX := I.kIn
  obtain ⟨oD, hD1, hD2⟩ : ∃ oD, s.heap.get? D = some oD ∧ oD.data = .cls cdD := by
    unfold PySem.W.clsIn at hD
    split at hD
    · rename_i c d cd' sl ho
      cases hD
      exact ⟨_, KX _ _ ho, rfl⟩
    · cases hD
  refine ks_wpAt_super_base hks hkc (by decide) hfu (KX _ _ lk) rfl hp hec (KX _ _ hco) rfl hvs hfile htop ?_
  obtain ⟨mb, hb1, hb2⟩ := I.mod.blt
  refine PySem.W.ks_loadName_global I.ok.kind hks (loadGlobal_builtin (by rw [I.ok.glob]; exact I.mod.glob.keeps I.bk) hsup (by rw [I.ok.blt]; exact hb1.keeps I.bk) ((hb2 _ (by decide)).trans (by decide +kernel)) ⟨rfl, ?_⟩)
  refine wpAny_loadName_free I.ok.kind hkc hcl ⟨_, KX _ _ hcell, rfl⟩ ?_
  rw [har]
  obtain ⟨m, hn, hl⟩ := I.loc
  obtain ⟨us, ru, lu⟩ := hl 0 "self" (.ref a) (by rw [hN] <;> rfl) rfl (.inl hself)
  obtain rfl : us = Value.ref a := ru
  have hms : m "self" = some (.ref a) := by
    rcases lu with ⟨_, z⟩ | ⟨z, _⟩
    · exact z
    · rw [hself] at z
      rcases z with z | z <;> cases z
  refine wpAny_loadName_local I.ok.kind hself hn hms ?_
  obtain ⟨hh, g, d, t, os⟩ := s
  obtain ⟨t1, ho⟩ := exo_at I.hok hao
  refine ks_wpAny_isType_cls hD1 hD2 ⟨rfl, ?_⟩
  refine ks_wpAny_call_super hD1 hD2 ho rfl (fun c z => nomatch z) (PySem.W.looks_mroIn KX SC.mro) (fun h1 eso k1 => ?_)
  have I1 : Inv X [] [some (.ref a), some v, some (.ref D)] H ⟨h1, g, d, t, os⟩ := I.kept (t' := t) k1
  obtain ⟨t2, ho1⟩ := exo_at I1.hok hao
  have IA : PySem.W.InstAt h1 a ({ cls := .ref C, dict := none, data := .fields #[.ref t2, .none, .none, .none, .bool false, .none] } : Obj) C none := ⟨ho1, rfl, rfl, trivial⟩
  have hsupI := SC.sup
  unfold PySem.W.ks_superIn at hsupI
  rw [hcls] at hsupI
  refine PySem.W.kxs_getMethod PySem.W.kxs_ValueError eso (PySem.W.looks_opaque I1.kIn hopq) (l₀ := .ref C :: bm) (fun A Q E s k q => wpAny_bind ((PySem.W.looks_clsIn I1.kIn hcls) A _ E s k (wpAny_pure q))) rfl I1.kIn hsupI (IA.type.andThen (PySem.W.looks_subIn I1.kIn SC.sub)) (PySem.W.ks_ne I1.kIn IA hcls) (by decide) ?_
  have I2 : Inv X [] [some (.ref a), some v, some (.ref D)] H ⟨h1.push (PySem.W.kxs_mw "ValueError.__init__" a), g, d, t + 1, os⟩ := I1.kept (t' := t + 1) fun b o z => Heap.get?_push_of_some _ z
  have nu : H h1.objs.size = none := I1.hok.fresh (Nat.le_refl _)
  obtain ⟨_, fu1, fu2, _⟩ := I1.fpOk (b := h1.objs.size) (Nat.le_refl _) nu
  have hmw : (h1.push (PySem.W.kxs_mw "ValueError.__init__" a)).get? h1.objs.size = some (PySem.W.kxs_mw "ValueError.__init__" a) := Heap.get?_push_at rfl rfl
  have I3 : Inv X [(h1.objs.size, PySem.W.kxs_mw "ValueError.__init__" a)] [some (.ref a), some v, some (.ref D)] H ⟨h1.push (PySem.W.kxs_mw "ValueError.__init__" a), g, d, t + 1, os⟩ := I2.pins_of fun p hp => by
    have e := List.mem_singleton.mp hp
    subst e
    exact ⟨hmw, nu, fu1, fu2, fun v z => nomatch z⟩
  have hargs := ha.run p3 _ _ _ _ _ I3 hta
  rw [hsta] at hargs
  show wpAny _ _ (callWith p3 (.ref h1.objs.size) [] (backTo p3 (starEach [e] X.env)) []) _ _ _
  rw [hsta]
  refine PySem.W.kxs_callWith (i := "ValueError.__init__") (x := a) rfl (evalArgs_plain (thn hargs fun us s2 ⟨ws, H2, I4, rv, hlen, eH2⟩ => ?_))
  subst eH2
  have hpin := (I4.pin (h1.objs.size, PySem.W.kxs_mw "ValueError.__init__" a) (List.mem_append_right _ List.mem_cons_self)).1
  refine ⟨hpin, ?_⟩
  obtain ⟨t3, ho4⟩ := exo_at I4.hok hao
  obtain ⟨h4, g4, d4, tk4, os4⟩ := s2
  refine call_mw PySem.F.excBase_ValueError (I4.kIn _ _ hC) ho4 hpin (show us.length ≤ sizeLine by rw [← rv.length]; exact Nat.le_trans hlen (by decide)) fun h5 k5 e5 => ?_
  have I5 := I4.write (h' := h5) (t' := tk4) (x := a) (e := a) (o := exo a C none) (by rw [hao]; exact True.intro) (.inl rfl) k5 ⟨_, e5⟩ (exo_ok e5)
  rw [eH] at I5
  have I6 : Inv X [] [some (.ref a), some v, some (.ref D)] _ _ := Inv.unpinned (pins := []) I5
  refine wpAt_of_wpAny ?_
  have P2 : PSs X [.Assign [.Attribute (.Name "self" p5) fld p6] (.Name x p7) p8] (tOst X.K fld (tVar 0) (tVar 1)) :=
    pss_one (ps_ost (pe_var (i := 0) (by rw [hN] <;> rfl) (.inl hself)) (pe_var (i := 1) (by rw [hN] <;> rfl) (.inl hkx) hx1 hx2))
  exact P2.run [] _ _ _ _ I6 ⟨v, rfl, .ref a, rfl, a, C, rfl, SC.oex, SC.no, .inl ⟨hao, q⟩⟩
theorem ok_sup {body : List Stmt} (lk : K.lookup fI = some ⟨oc, od, .func (PySem.W.ksFn "__init__" qual params body scope .none kV doc pm an (.ref cda) ct cc), osl⟩) (hbd : body = supBody e x fld p0 p1 p2 p3 p4 p5 p6 p7 p8)
    (hcdi : PySem.W.codeIn K (.ref cda) qual = true) (S : NScope ["self", x, "__class__"] ["self", x] ["__class__"] scope)
    (hp : (params.posonlyargs ++ params.args).head? = some ar) (har : ar.arg = "self")
    (hco : K.lookup cda = some ⟨ccl, cdd, .fields vs, ccs⟩) (hvs : vs[2]? = some (.str file tf)) (hfile : ((P.main.file : Str) == file) = true) (htop : (P.main.scope.names.lookup ("super" : Str)).isSome = false)
    (hcell : K.lookup cc = some ⟨cl, cld, .cell (some (.ref D)), csl⟩) (hD : PySem.W.clsIn K D = some cdD) (hsup : mg "super" = none) (hopq : PySem.W.nsIn K cStatics "thirdparty.any" = some none)
    (hks : scope.names.lookup ("super" : Str) = some .globalImplicit) (hx1 : (x == ("__debug__" : Str)) = false) (hx2 : (x == ("__classdict__" : Str)) = false)
    (ha : ∀ (A : Around) (outer : List Env) (s : Shared) (H : Hp) (E : XK), PA (ncx CX P w K mg base ["self", x, "__class__"] (nfS qual params body scope cc cda) fI A outer s H E) [e] ta)
    (hsw : ∀ env, swapsWith (.Call (.Attribute (.Call (.Name "super" p0) [] [] p1) "__init__" p2) [e] [] p3) none p4.line env = pure false)
    (hsta : ∀ env, starEach [e] env = [(false, eval e env)])
    (hev : ∀ env : Env, eval (.Call (.Attribute (.Call (.Name "super" p0) [] [] p1) "__init__" p2) [e] [] p3) env = (do
      let ov ← attributeBase (.Call (.Name "super" p0) [] [] p1) "__init__" env (eval (.Call (.Name "super" p0) [] [] p1) env)
      standAt p2.atName
      let (f, first) ← holding [ov] (getMethod ov "__init__" (pure false))
      callWith p3 f first (backTo p3 (starEach [e] env)) [])) :
    FnOk P w K mg base CX 1 fI (PySem.W.ksFn "__init__" qual params body scope .none kV doc pm an (.ref cda) ct cc) ["self", x] (spSup K D fld ta) := by
  subst hbd
  refine ⟨fun vs H Q E h => ?_, fun A outer s H args us vs Q E hr e0 hb r hsp => ?_⟩
  · obtain ⟨a, C, v, rfl, _⟩ := h
    rfl
  obtain ⟨a, C, v, rfl, SC, hao, hta, q⟩ := hsp
  have KX : K.In s.heap := e0.mod.kin.keeps fun b o e => (e0.bs b o e).1
  have lim : s.heap.NoLimit := e0.mod.nolimit.keeps fun b o e => (e0.bs b o e).1
  have hbind : ∀ y ∈ (["self", x] : List Str).zip us, scope.names.lookup y.1 = some .local := fun ⟨n, _⟩ hy => S.par n (List.of_mem_zip hy).1
  have cb : base.get? cc = some ⟨cl, cld, .cell (some (.ref D)), csl⟩ := e0.mod.kin cc _ hcell
  have C0 : CellsAt [("__class__", cc)] ["__class__"] [some (.ref D)] s.heap H := {
    len := rfl
    all := fun y c e => by
      obtain ⟨_, rfl⟩ := one_look e
      exact ⟨(e0.bs _ _ cb).2, some (.ref D), ⟨_, (e0.bs _ _ cb).1, rfl⟩⟩
    inj := fun y z c e1 e2 => (one_look e1).1.trans (one_look e2).1.symm
    has := fun i y e => by
      match i, e with
      | 0, e =>
        have e : ("__class__" : Str) = y := Option.some.inj e
        subst e
        refine ⟨cc, by simp [List.lookup], fun v hv => ⟨.ref D, ?_, ⟨_, (e0.bs _ _ cb).1, rfl⟩⟩⟩
        have hv : V.ref D = v := Option.some.inj (Option.some.inj hv)
        subst hv
        rfl }
  refine ks_codeAny_call_defAt (fd := PySem.W.ksFn "__init__" qual params (supBody e x fld p0 p1 p2 p3 p4 p5 p6 p7 p8) scope .none kV doc pm an (.ref cda) ct cc) (body := supBody e x fld p0 p1 p2 p3 p4 p5 p6 p7 p8) (binds := (["self", x] : List Str).zip us)
    hr.depth (KX _ _ lk) rfl lim (PySem.W.codeRec_of KX hcdi) rfl hb S.nocell hbind (fun h1 hns kp => ?_) S.co S.gen S.kind
  have I : Inv (ncx CX P w K mg base ["self", x, "__class__"] (nfS qual params (supBody e x fld p0 p1 p2 p3 p4 p5 p6 p7 p8) scope cc cda) fI A outer s H E) [] (startF ["self", x, "__class__"] [.ref a, v] [some (.ref D)]) H { s with heap := h1, toks := s.toks + ((["self", x] : List Str).zip us).length } :=
    inv_startN S hr.hd e0 rfl r C0 hns kp
  have main := sup_body (p5 := p5) (p6 := p6) (p7 := p7) (p8 := p8) (X := ncx CX P w K mg base ["self", x, "__class__"] (nfS qual params (supBody e x fld p0 p1 p2 p3 p4 p5 p6 p7 p8) scope cc cda) fI A outer s H E) (D0 := { nx := fun _ H' => Q .non H', rt := Q }) (body := supBody e x fld p0 p1 p2 p3 p4 p5 p6 p7 p8)
    I rfl lk rfl rfl (by simp [ncx, List.lookup]) hp har hco hvs hfile htop hcell hD hsup hopq hks (S.frk _ List.mem_cons_self) (S.par _ List.mem_cons_self) (S.par _ (List.mem_cons_of_mem _ List.mem_cons_self)) hx1 hx2 (ha A outer s H E) (hsw _) (hsta _) (hev _) SC hao hta q
  refine ks_wpAt_mono main (fun fl s' hs => ?_) fun e s' hs => hs
  have fin : ∀ {σ' : L2.St} {H' : Hp} {v : V} {u : Value}, Inv (ncx CX P w K mg base ["self", x, "__class__"] (nfS qual params (supBody e x fld p0 p1 p2 p3 p4 p5 p6 p7 p8) scope cc cda) fI A outer s H E) [] σ' H' s' → L2.RelV v u → Q v H' → CE outer P w H s Q u s' :=
    fun {σ' H' v u} J rv q => ⟨v, H', J.os, J.bare, J.base, J.hok, rv, q⟩
  cases fl with
  | ret u =>
    obtain ⟨v, σ', H', J, rv, q⟩ := hs
    exact fin J rv q
  | next =>
    obtain ⟨σ', H', J, q⟩ := hs
    exact fin (v := V.non) (u := Value.none) J rfl q
  | brk =>
    obtain ⟨_, _, _, q⟩ := hs
    exact False.elim q
  | cont =>
    obtain ⟨_, _, _, q⟩ := hs
    exact False.elim q
end
end BS
set_option maxHeartbeats 4000000
/-! own errors with one value: raised, caught, read -/
namespace BE
open PySem PySem.Spec PySem.Calls PyProof.Rows L2 SX BB BS NdefX

/-- what str takes here -/
inductive OkArg : V → Prop where
  | int {i : Int} (h : i.natAbs.log2 < 1920) : OkArg (.int i)
  | str {s : Str} (h : s.length ≤ 100000) : OkArg (.str s)
theorem OkArg.small {i : Int} (h : i.natAbs < 2 ^ 64) : OkArg (.int i) := .int (by
  by_cases e : i.natAbs = 0
  · rw [e]; decide
  · exact (Nat.log2_lt e).mpr (Nat.lt_trans h (by decide +kernel)))
def taE : TA := fun σ H Q => ∃ v, σ[1]? = some (some v) ∧ OkArg v ∧ ∀ s, Q [.str s] H
theorem cs_str {X : Cx} : CallR X (.type "str") (fun xs H Q => ∃ v, xs = [v] ∧ OkArg v ∧ ∀ s : Str, s.length ≤ 200000 → Q (.str s) H) := by
  intro pins s σ H xs us Q I r h
  obtain ⟨v, rfl, ok, q⟩ := h
  cases ok with
  | @int i hz =>
    refine call_str_int pins s σ H _ us Q I r ⟨i, rfl, hz, q _ ?_⟩
    have e := int_text_length_le (k := 1920) (by decide) hz
    show (Str.ofString (toString i)).length ≤ _
    rw [PySem.ofString_length]
    exact Nat.le_trans e (by decide)
  | @str x hz => exact SkE.call_str_str pins s σ H _ us Q I r ⟨x, rfl, q _ (Nat.le_trans hz (by decide))⟩
theorem pa_imp {X : Cx} {es : List Expr} {t t' : TA} (h : PA X es t) (w : ∀ σ H Q, t' σ H Q → t σ H Q) : PA X es t' := ⟨fun pos pins s σ H Q I q => h.run pos pins s σ H Q I (w σ H Q q)⟩
theorem pa_err {X : Cx} {lit x : Str} {k : Nat} {q0 q1 q2 q3 q4 : Pos} (hN : X.N[1]? = some x) (hv : Vis X.env.scope x) (hx1 : (x == ("__debug__" : Str)) = false) (hx2 : (x == ("__classdict__" : Str)) = false)
    (hg : Gl X "str") (hm : X.mg "str" = none) (hl : lit.length ≤ 1000) :
    PA X [.BinOp (.Constant (.str lit) k q0) .Add (.Call (.Name "str" q1) [.Name x q2] [] q3) q4] taE := by
  refine pa_imp (pa_cons (pe_op op_add_str pe_str (pe_callTy (T := "str") cs_str hg hm (by decide +kernel) (pa_cons (pe_var hN hv hx1 hx2) pa_nil))) pa_nil) fun σ H Q h => ?_
  obtain ⟨v, e, ok, q⟩ := h
  refine ⟨v, e, v, rfl, ok, fun s hs => ⟨lit, s, rfl, rfl, ?_, q _⟩⟩
  rw [sizeLine_eq]
  omega

/-- an error class x at C, its __init__ (of D, the def at fI) keeps its value as fld -/
structure ErrF (K : PySem.W.Frag) (mg : Str → Option Value) (x : Str) (C D fI : Addr) (fld : Str) : Prop where
  sup : SupC K D C fld
  iC : PySem.W.findIn K (.ref C) "__init__" = some (some (.ref fI))
  tI : PySem.W.typeIn K (.ref fI) = some (.type "function")
  hm : mg x = some (.ref C)
  xf : XfC K C
  exm : PySem.W.exmOne K (.ref C) (.ref C) = some true
structure Err (P : Program) (w : World) (K : PySem.W.Frag) (mg : Str → Option Value) (base : Heap) (x : Str) (C : Addr) (fld : Str) : Prop where
  ex : ∃ (D fI : Addr) (fd : FuncData) (y : Str), ErrF K mg x C D fI fld ∧ FnOk P w K mg base (L2.CX P w) 1 fI fd ["self", y] (spSup K D fld taE) ∧ Binds K fd ["self", y] []
/-- a reading that may be weakened -/
def tM (te : TE) : TE := fun σ H Q => ∃ R : VK, te σ H R ∧ ∀ v H1, R v H1 → Q v H1
theorem pe_mono {X : Cx} {e : Expr} {te : TE} (h : PE X e te) : PE X e (tM te) := ⟨fun pins s σ H Q I q => by
  obtain ⟨R, q, w⟩ := q
  refine wpAny_mono (h.run pins s σ H R I q) (fun v s1 hv => ?_) fun _ _ x => x
  obtain ⟨x, H1, I1, r, q1⟩ := hv
  exact ⟨x, H1, I1, r, w _ _ q1⟩⟩
def tErr (C : Addr) (fld : Str) (te : TE) : L2.St → Hp → XK → Prop := fun σ H Q => te σ H fun v H1 => OkArg v ∧ ∀ d H2, Same H1 H2 → H2 d = some (.xd [(fld, v)]) → Q (.ref C) (some d) H2
theorem pmk_err {X : Cx} {x : Str} {C : Addr} {fld : Str} {e : Expr} {te : TE} {p pos : Pos} {j : Nat} (T : Err X.prog X.w X.K X.mg X.base x C fld) (hr : Room j X.A) (hj : 2 ≤ j) (hg : Gl X x) (he : PE X e te)
    (hdb : (x == ("__debug__" : Str)) = false := by decide) (hs : starEach [e] X.env = (false, eval e X.env) :: starEach [] X.env := by rfl) (hpl : (backTo pos (starEach [] X.env)).any (·.1) = false := by rfl) :
    PMk X (.Call (.Name x p) [e] [] pos) (tErr C fld te) := by
  obtain ⟨D, fI, fd, y, F, F1, b⟩ := T.ex
  intro pins s σ H Q I h
  refine pmk_oex F.sup.oex F.iC F.tI F1 (hr.mono hj) b .nil passL hg F.hm (pa_cons (pe_mono he) pa_nil hs) hdb hs hpl pins s σ H Q I ?_
  refine ⟨_, h, fun v H1 hh => ⟨(by show 1 ≤ 1000; decide), fun a na => ?_⟩⟩
  obtain ⟨ok, q⟩ := hh
  refine ⟨a, C, v, rfl, F.sup, upd_same, ⟨v, rfl, ok, fun s => ⟨(by show 1 ≤ 1000; decide), rfl⟩⟩, fun dx nd ne => ?_⟩
  have nd1 : H1 dx = none := by rw [upd_ne ne] at nd; exact nd
  refine ⟨rfl, dx, _, upd_same, by rw [upd_ne ne, upd_same], nd1, q _ _ (fun b u eb => ?_) upd_same⟩
  have ba : b ≠ a := fun z => by rw [z, na] at eb; cases eb
  have bd : b ≠ dx := fun z => by rw [z, nd1] at eb; cases eb
  rw [upd_ne bd, del_ne ba, upd_ne ba, upd_ne bd, upd_ne ba]
  exact eb

section
variable {P : Program} {w : World} {K : PySem.W.Frag} {mg : Str → Option Value} {base : Heap} {C D fI cc cda N : Addr} {st : Stmt} {x y fld qual lit nm q : Str} {bs bm sub : List Value} {sn : List Str} {ab : Bool} {col : Option Bool} {dd : Option Addr} {k0 k1 k2 k3 k5 : Option Value}
  {kV doc pm ct oc od' ccl cl : Value} {an od cdd cld : Option Addr} {osl ccs csl : Array (Option Value)} {k : Nat} {q0 q1 q2 q3 q4 p0 p1 p2 p3 p4 p5 p6 p7 p8 : Pos} {ar : Arg} {vs : Array Value} {file : Str} {tf : Tok} {cdD : ClassData}
/-- the e of super().__init__(e) -/
abbrev litOf (lit y : Str) (k : Nat) (q0 q1 q2 q3 q4 : Pos) : Expr := .BinOp (.Constant (.str lit) k q0) .Add (.Call (.Name "str" q1) [.Name y q2] [] q3) q4
theorem err_mk (aC : mg x = some (.ref C)) (lC : K.lookup C = some (excClassObj nm q C N bs bm true sn sub ab col dd k0 k1 k2 k3 k5 "ValueError.__new__")) (hbm : PySem.HandSPX.refsVE bm = true)
    (sa : PySem.W.findIn K (.ref C) "__setattr__" = some (some (.builtin "object.__setattr__"))) (exC : PySem.W.subIn K (.ref C) (.type "BaseException") = some true) (tyC : PySem.W.typeIn K (.ref C) = some (.type "type")) (kC : PySem.W.keepIn K (.ref C) = true)
    (mro : PySem.W.mroIn K C (.ref D) = some true) (ksup : PySem.W.ks_superIn K C D "__init__" = some (some (.builtin "ValueError.__init__"))) (subV : PySem.W.subIn K (.ref C) (.type "ValueError") = some true) (no : PySem.W.findIn K (.ref C) fld = some none)
    (iC : PySem.W.findIn K (.ref C) "__init__" = some (some (.ref fI))) (tI : PySem.W.typeIn K (.ref fI) = some (.type "function"))
    (lk : K.lookup fI = some ⟨oc, od, .func (PySem.W.ksFn "__init__" qual (defArgs st) (defBody st) (defScope st) .none kV doc pm an (.ref cda) ct cc), osl⟩)
    (hbd : defBody st = supBody (litOf lit y k q0 q1 q2 q3 q4) y fld p0 p1 p2 p3 p4 p5 p6 p7 p8) (hcdi : PySem.W.codeIn K (.ref cda) qual = true) (S : NScope ["self", y, "__class__"] ["self", y] ["__class__"] (defScope st))
    (hp : ((defArgs st).posonlyargs ++ (defArgs st).args).head? = some ar) (har : ar.arg = "self") (hco : K.lookup cda = some ⟨ccl, cdd, .fields vs, ccs⟩) (hvs : vs[2]? = some (.str file tf)) (hfile : ((P.main.file : Str) == file) = true)
    (htop : (P.main.scope.names.lookup ("super" : Str)).isSome = false) (hcell : K.lookup cc = some ⟨cl, cld, .cell (some (.ref D)), csl⟩) (hD : PySem.W.clsIn K D = some cdD) (hsup : mg "super" = none) (hopq : PySem.W.nsIn K cStatics "thirdparty.any" = some none)
    (hks : (defScope st).names.lookup ("super" : Str) = some .globalImplicit) (hkstr : (defScope st).names.lookup ("str" : Str) = some .globalImplicit) (hstr : mg "str" = none) (hl : lit.length ≤ 1000) (hx1 : (y == ("__debug__" : Str)) = false) (hx2 : (y == ("__classdict__" : Str)) = false)
    (hsw : ∀ env, swapsWith (.Call (.Attribute (.Call (.Name "super" p0) [] [] p1) "__init__" p2) [litOf lit y k q0 q1 q2 q3 q4] [] p3) none p4.line env = pure false)
    (hev : ∀ env : Env, eval (.Call (.Attribute (.Call (.Name "super" p0) [] [] p1) "__init__" p2) [litOf lit y k q0 q1 q2 q3 q4] [] p3) env = (do
      let ov ← attributeBase (.Call (.Name "super" p0) [] [] p1) "__init__" env (eval (.Call (.Name "super" p0) [] [] p1) env)
      standAt p2.atName
      let (f, first) ← holding [ov] (getMethod ov "__init__" (pure false))
      callWith p3 f first (backTo p3 (starEach [litOf lit y k q0 q1 q2 q3 q4] env)) []))
    (ga : PySem.W.findIn K (.ref C) "__getattribute__" = some (some (.builtin "BaseException.__getattribute__"))) (gg : PySem.W.findIn K (.ref C) "__getattr__" = some none) (hdC : PySem.W.hasDictIn K C = true) (exm : PySem.W.exmOne K (.ref C) (.ref C) = some true)
    (hbi : ∀ us : List Value, us.length = 2 → bindArgs (PySem.W.ksFn "__init__" qual (defArgs st) (defBody st) (defScope st) .none kV doc pm an (.ref cda) ct cc) ⟨us, []⟩ = pure ((["self", y] : List Str).zip us)) : Err P w K mg base x C fld := by
  refine ⟨D, fI, _, y, ⟨⟨⟨⟨nm, q, N, bs, bm, sn, sub, ab, col, dd, k0, k1, k2, k3, k5, lC, hbm⟩, sa, exC, tyC, kC⟩, mro, ksup, subV, no⟩, iC, tI, aC, ⟨ga, gg, exC, hdC⟩, exm⟩, ?_, Binds.all hbi⟩
  refine ok_sup lk hbd hcdi S hp har hco hvs hfile htop hcell hD hsup hopq hks hx1 hx2 (fun A outer s H E => ?_) hsw (fun _ => rfl) hev
  exact pa_err (x := y) rfl (.inl (S.par _ (List.mem_cons_of_mem _ List.mem_cons_self))) hx1 hx2 hkstr hstr hl
end

theorem Err.hm {P : Program} {w : World} {K : PySem.W.Frag} {mg : Str → Option Value} {base : Heap} {x : Str} {C : Addr} {fld : Str} (E : Err P w K mg base x C fld) : mg x = some (.ref C) := by
  obtain ⟨_, _, _, _, F, _⟩ := E.ex
  exact F.hm
theorem Err.xf {P : Program} {w : World} {K : PySem.W.Frag} {mg : Str → Option Value} {base : Heap} {x : Str} {C : Addr} {fld : Str} (E : Err P w K mg base x C fld) : XfC K C := by
  obtain ⟨_, _, _, _, F, _⟩ := E.ex
  exact F.xf
theorem Err.no {P : Program} {w : World} {K : PySem.W.Frag} {mg : Str → Option Value} {base : Heap} {x : Str} {C : Addr} {fld : Str} (E : Err P w K mg base x C fld) : PySem.W.findIn K (.ref C) fld = some none := by
  obtain ⟨_, _, _, _, F, _⟩ := E.ex
  exact F.sup.no
theorem Err.exm {P : Program} {w : World} {K : PySem.W.Frag} {mg : Str → Option Value} {base : Heap} {x : Str} {C : Addr} {fld : Str} (E : Err P w K mg base x C fld) : PySem.W.exmOne K (.ref C) (.ref C) = some true := by
  obtain ⟨_, _, _, _, F, _⟩ := E.ex
  exact F.exm
end BE
set_option maxHeartbeats 4000000
/-! written dicts of the top with text keys -/
namespace BD
open PySem PySem.Spec PyProof.Rows L2 SX BB
structure STab (K : PySem.W.Frag) (w : World) (a : Addr) (f : Str → Option V) : Prop where
  ex : ∃ es n, KDict K w a es n ∧ ∀ x, ∃ r, PySem.W.nsIn K a x = some r ∧ RelO (f x) r
def DRel (P : Params) : List DictEntry → List (Str × V) → Prop
  | [], [] => True
  | e :: r, p :: q => (∃ t, e.key = .str p.1 t) ∧ e.hash = PyData.keyHash P p.1 ∧ RelV p.2 e.val ∧ DRel P r q
  | _, _ => False
theorem drel_lit {P : Params} : ∀ {l : List DictEntry} {q : List (Str × V)}, DRel P l q → PySem.W.KeysLit P l
  | [], _, _ => trivial
  | e :: r, [], h => h.elim
  | e :: r, p :: q, h => ⟨by obtain ⟨t, e1⟩ := h.1; exact ⟨p.1, t, e1, h.2.1⟩, drel_lit h.2.2.2⟩
theorem drel_any {P : Params} : ∀ {l : List DictEntry} {q : List (Str × V)}, DRel P l q → l.any (·.refKey) = false
  | [], _, _ => rfl
  | e :: r, [], h => h.elim
  | e :: r, p :: q, h => by
    obtain ⟨t, e1⟩ := h.1
    have := drel_any h.2.2.2
    rw [List.any_cons, this, Bool.or_false]
    unfold DictEntry.refKey
    rw [e1]
theorem drel_find {P : Params} (x : Str) : ∀ {l : List DictEntry} {q : List (Str × V)}, DRel P l q → RelO (q.lookup x) ((l.find? (·.key.isStr x)).map (·.val))
  | [], [], _ => trivial
  | [], _ :: _, h => h.elim
  | e :: r, [], h => h.elim
  | e :: r, (a, b) :: q, h => by
    obtain ⟨⟨t, e1⟩, e2, e3, e4⟩ := h
    rw [List.find?_cons, e1]
    have er : (Value.str a t).isStr x = decide (a = x) := by
      rw [PySem.W.isStr_of]
      rfl
    rw [er]
    by_cases hx : a = x
    · subst hx
      simp [List.lookup]
      exact e3
    · have q1 : (x == a) = false := beq_eq_false_iff_ne.mpr (Ne.symm hx)
      rw [decide_eq_false hx]
      simp only [List.lookup, q1]
      exact drel_find x e4
theorem stab_of {K : PySem.W.Frag} {w : World} {a : Addr} {es : Array DictEntry} {n : Nat} {q : List (Str × V)} (l : K.lookup a = some ⟨.type "dict", none, .dict es n, #[]⟩) (low : (a == sysModules) = false) (h : DRel w.params es.toList q) : STab K w a (fun x => q.lookup x) := by
  refine ⟨es, n, ⟨l, drel_lit h, low⟩, fun x => ⟨(es.toList.find? (·.key.isStr x)).map (·.val), ?_, drel_find x h⟩⟩
  unfold PySem.W.nsIn
  rw [l]
  dsimp only
  cases e : es.toList.find? (·.key.isStr x) with
  | none => simp [drel_any h]
  | some e => rfl
section
variable {X : Cx}
def rTab (K : PySem.W.Frag) (w : World) : R2 := fun x y H Q => ∃ a f z v, x = .ref a ∧ y = .str z ∧ STab K w a f ∧ f z = some v ∧ Q v H
theorem ix_tab : IxR X (rTab X.K X.w) := by
  intro value slice pins s σ H x y v u Q I rx ry h hs
  obtain ⟨a, f, z, r, rfl, rfl, ⟨es, n, D, g⟩, e, q⟩ := h
  obtain ⟨o, e1, e2⟩ := g z
  rw [e] at e2
  cases o with
  | none => exact e2.elim
  | some u0 => exact ix_kdict value slice pins s σ H _ _ v u Q I rx ry ⟨a, z, r, rfl, rfl, ⟨es, n, u0, D.at_, D.lit, e1, e2⟩, q⟩ hs
variable {o e f : Expr} {apos cpos : Pos} {td ty tx : TE}
def tTabGet (K : PySem.W.Frag) (w : World) (td ty tx : TE) : TE := fun σ H Q => td σ H fun x H1 => ∃ a f, x = .ref a ∧ STab K w a f ∧ ty σ H1 fun y H2 => tx σ H2 fun z H3 => ∃ k, y = .str k ∧ Q ((f k).getD z) H3
theorem pe_tget2 (ho : PE X o td) (he : PE X e ty) (hf : PE X f tx) (m : M2 X o "get" apos e f cpos) : PE X (.Call (.Attribute o "get" apos) [e, f] [] cpos) (tTabGet X.K X.w td ty tx) := by
  refine ⟨fun pins s σ H Q I h => ?_⟩
  refine wpAny_Call_method m.base m.few m.line PySem.F.plainAttrs_dict PySem.F.slot_dict_get PySem.F.type_dict_get (thn (ho.run pins s σ H _ I h) fun u s1 ⟨x, H1, I1, rx, a, g, ex, T, q1⟩ => ?_)
  subst ex
  obtain rfl : u = Value.ref a := rx
  obtain ⟨es, n, D, gg⟩ := T.ex
  have hm := PySem.W.mapOf_K (prog := X.prog) (w := X.w) I1.kIn D.at_ D.lit
  refine ⟨hm.typeIs, fun b z => ?_, ?_⟩
  · cases z
    exact ⟨_, I1.kIn _ _ D.at_, rfl⟩
  rw [m.trees]
  refine Calls.callWith_builtin rfl (Calls.evalArgs_plain (Calls.spliced_cons (thn (he.run pins s1 σ H1 _ I1 q1) fun iv s2 ⟨y, H2, I2, ry, q2⟩ =>
    Calls.spliced_cons (thn (hf.run pins s2 σ H2 _ I2 q2) fun fv s3 ⟨z, H3, I3, rz, k, ey, q3⟩ => Calls.spliced_nil ?_))))
  subst ey
  obtain ⟨t, rfl⟩ := ry
  obtain ⟨r, e1, e2⟩ := gg k
  have hm3 := PySem.W.mapOf_K (prog := X.prog) (w := X.w) I3.kIn D.at_ D.lit
  refine call_meetsIn PySem.F.slot_dict_get hm3.typeIs PySem.F.entry_dict_get (PySem.F.args_dict_get_3 _ _ _) (meets_dict_get_default (strKind X.prog X.w) a (strKind_is X.prog X.w k t) D.low fv) ⟨_, hm3, ?_⟩
  rw [PySem.W.find_K D.at_ e1]
  exact ⟨_, H3, I3.tok _, e2.getD rz, q3⟩
end
end BD
set_option maxHeartbeats 4000000
/-! lists and tuples alike; index of a text; comprehensions that make objects -/
namespace BQ
open PySem PySem.Spec PyProof.Rows L2 SX BB
/-! ### t.index(x), xs.index(x) of texts -/
theorem none_of {H H' : Hp} {p : Addr} (s : Same H H') (h : H' p = Option.none) : H p = Option.none := by
  cases e : H p with
  | none => rfl
  | some u => rw [s _ _ e] at h; cases h
theorem slot_tuple_index : Slot "tuple" "index" "tuple.index" :=
  .of (owner := "tuple") (n := "index") (by rw [typeLookup_type, builtinLookup_eq_fast]; kernel_rfl) (by decide +kernel) (by decide +kernel) (by decide +kernel)
    (by first | exact .inl (by decide +kernel) | exact .inr (by decide +kernel)) (by rw [isSubtype_type]; kernel_rfl)
theorem type_tuple_index : typeOf (.builtin "tuple.index") = pure (.type "method_descriptor") := by show builtinType _ = _; rw [builtinType_eq_fast]; kernel_rfl
theorem strs_are : ∀ {ss : List Str} {us : List Value}, Vals (ss.map V.str) us → StrsAre us ss
  | [], _, h => by
    cases h
    exact .nil
  | s :: r, _, h => by
    cases h with
    | cons h1 h2 =>
      obtain ⟨t, e⟩ := h1
      subst e
      exact .cons s t (strs_are h2)
section
variable {X : Cx}
def rIdxT (K : PySem.W.Frag) : V → List V → Hp → VK → Prop := fun x xs H Q => ∃ (a : Addr) (ss : List Str) (k : Str), x = .ref a ∧ xs = [.str k] ∧ SqT K H a (ss.map V.str) ∧ k ∈ ss ∧ Q (.int (ss.idxOf k : Nat)) H
def rIdxL (K : PySem.W.Frag) : V → List V → Hp → VK → Prop := fun x xs H Q => ∃ (a : Addr) (ss : List Str) (k : Str), x = .ref a ∧ xs = [.str k] ∧ SqL K H a (ss.map V.str) ∧ k ∈ ss ∧ Q (.int (ss.idxOf k : Nat)) H
theorem mt_tidx : MtR X "tuple.index" (rIdxT X.K) := by
  intro pins s σ H x xs v us Q I rx rxs h
  obtain ⟨a, ss, k, rfl, rfl, hs, hk, q⟩ := h
  cases rx
  cases rxs with
  | cons ry rt =>
    cases rt
    obtain ⟨t, rfl⟩ := ry
    obtain ⟨its, rv, ht, hz⟩ := I.tuple hs
    exact PySem.SeqAt.tuple_index_strs ht (strs_are rv) hk ⟨.int _, H, I.tok _, ⟨_, rfl⟩, q⟩
theorem mt_lidx : MtR X "list.index" (rIdxL X.K) := by
  intro pins s σ H x xs v us Q I rx rxs h
  obtain ⟨a, ss, k, rfl, rfl, hs, hk, q⟩ := h
  cases rx
  cases rxs with
  | cons ry rt =>
    cases rt
    obtain ⟨t, rfl⟩ := ry
    obtain ⟨its, rv, pl, hz⟩ := I.list hs
    exact PySem.SeqAt.list_index_strs pl.isList (strs_are rv) (by rw [← List.length_map (f := V.str)]; exact hz) hk ⟨.int _, H, I.tok _, ⟨_, rfl⟩, q⟩
end
/-! ### a list or a tuple -/
def SqA (K : PySem.W.Frag) (H : Hp) (a : Addr) (xs : List V) : Prop := SqL K H a xs ∨ SqT K H a xs
theorem same_lst {K : PySem.W.Frag} {H H' : Hp} {a : Addr} {xs : List V} (e : Same H H') (h : SqL K H a xs) : SqL K H' a xs := by
  rcases h with (h | ⟨o, h⟩) | h
  · exact .inl (.inl (e _ _ h))
  · exact .inl (.inr ⟨o, e _ _ h⟩)
  · exact .inr h
theorem same_sqa {K : PySem.W.Frag} {H H' : Hp} {a : Addr} {xs : List V} (e : Same H H') (h : SqA K H a xs) : SqA K H' a xs := h.elim (fun h => .inl (same_lst e h)) fun h => .inr (same_tup e h)
section
variable {X : Cx}
theorem ix_sqa : IxR X (fun x y H Q => ∃ p xs i v, x = .ref p ∧ y = .int i ∧ SqA X.K H p xs ∧ atI xs i = some v ∧ Q v H) := by
  intro value slice pins s σ H x y v u Q I rx ry h hs
  obtain ⟨p, xs, i, r, rfl, rfl, S, e, q⟩ := h
  rcases S with S | S
  · exact ix_list value slice pins s σ H _ _ v u Q I rx ry ⟨p, xs, i, r, rfl, rfl, S, e, q⟩ hs
  · exact ix_tup value slice pins s σ H _ _ v u Q I rx ry ⟨p, xs, i, r, rfl, rfl, S, e, q⟩ hs
/-- tuple(xs[i:j]) of either -/
theorem sl_sqa : SlR X (fun x lo hi H Q => rSlL X.K x lo hi H Q ∨ rSlA X.K x lo hi H Q) := SlR.or sl_list sl_tupA
end
/-! ### comprehensions that make objects -/
/-- as it was, but at D -/
def SB (D : Addr) (H H' : Hp) : Prop := ∀ b u, b ≠ D → H b = some u → H' b = some u
structure Src (J : It) (xs : List V) (ok : Hp → Prop) : Prop where
  go : ∀ i H, ok H → i < xs.length → J.go i H
  yld : ∀ i H x H', ok H → J.yld i H x H' → i < xs.length → H' = H ∧ xs[i]? = some x
  stop : ∀ H, ok H → J.stop xs.length H
theorem src_list {K : PySem.W.Frag} {a : Addr} {xs : List V} : Src (Itl K a) xs (fun H => SqL K H a xs) where
  go := fun i H h hi => ⟨xs, xs[i], h, by simp [hi]⟩
  yld := fun i H x H' h y _ => ⟨y.1, y.2 xs h⟩
  stop := fun H h => ⟨xs, h, Nat.le_refl _⟩
theorem src_tup {K : PySem.W.Frag} {a : Addr} {xs : List V} : Src (Itt K a) xs (fun H => SqT K H a xs) where
  go := fun i H h hi => ⟨xs, xs[i], h, by simp [hi]⟩
  yld := fun i H x H' h y _ => ⟨y.1, y.2 xs h⟩
  stop := fun H h => ⟨xs, h, Nat.le_refl _⟩
theorem src_range {lo : Int} {n : Nat} : Src (Itr lo n) ((List.range n).map fun k => V.int (lo + (k : Nat))) (fun _ => True) where
  go := fun i H h hi => by show i < n; simpa using hi
  yld := fun i H x H' h y hi => ⟨y.1, by
    have hi : i < n := by simpa using hi
    rw [List.getElem?_map, List.getElem?_range hi, y.2]
    rfl⟩
  stop := fun H h => by simp [Itr]
theorem paired_snoc_filter {α β : Type} {F : α → β → Prop} {keep : α → Bool} {l : List α} {ys : List β} {x : α} {y : β} (h : Paired F (l.filter keep) ys) (k : keep x = true) (f : F x y) : Paired F ((l ++ [x]).filter keep) (ys ++ [y]) := by
  rw [List.filter_append, List.filter_cons_of_pos k]
  exact h.snoc f
theorem lcG {J : It} {xs : List V} {ok : Hp → Prop} {g : TG} {tt : TT} {te : TE} {vs : List Nat} {σ : L2.St} {H1 : Hp} {D : Addr} {Qd : Hp → Prop} (S : Src J xs ok) (nD : H1 D = none) (sz : xs.length < 1000000) (keep : V → Bool) (Rel : V → V → Hp → Prop)
    (hok : ∀ H, Same H1 H → ok H) (mono : ∀ x y H H', SB D H H' → (∃ zs, H D = some (.lst zs)) → Rel x y H → Rel x y H')
    (hs : ∀ x, x ∈ xs → ∀ (H : Hp) (Qy : V → Hp → Prop) (Qn : Hp → Prop), Same H1 H → (∀ y H4, Same H H4 → keep x = true → Rel x y H4 → Qy y H4) → (∀ H4, Same H H4 → keep x = false → Qn H4) →
      g x (wipe σ vs) H fun σ2 H2 => wipe σ2 vs = wipe σ vs ∧ tt σ2 H2 fun b H3 => if b = true then te σ2 H3 Qy else Qn H3)
    (hd : ∀ H ys, Same H1 H → H D = some (.lst ys) → Paired (fun x y => Rel x y H) (xs.filter keep) ys → Qd H) :
    ∃ W : Nat → Nat → Hp → Prop, (∃ m, W 0 m (upd H1 D (.lst []))) ∧ ∀ i m H, W i m H →
      (J.stop i H ∧ Qd H) ∨ (J.go i H ∧ ∃ Nx : Hp → Prop, (∀ H', Nx H' → ∃ m', m' < m ∧ W (i + 1) m' H') ∧ ∀ x H', J.yld i H x H' → g x (wipe σ vs) H' fun σ2 H2 => wipe σ2 vs = wipe σ vs ∧ tt σ2 H2 fun b H3 =>
        if b = true then te σ2 H3 fun y H4 => ∃ acc, H4 D = some (.lst acc) ∧ acc.length < sizeLine ∧ Nx (upd H4 D (.lst (acc ++ [y]))) else Nx H3) := by
  let Pv : Nat → Hp → Prop := fun i H => Same H1 H ∧ ∃ ys, H D = some (.lst ys) ∧ ys.length ≤ i ∧ Paired (fun x y => Rel x y H) ((xs.take i).filter keep) ys
  refine ⟨fun i m H => m = xs.length - i ∧ i ≤ xs.length ∧ Pv i H, ⟨xs.length, by simp, Nat.zero_le _, same_new nD, [], upd_same, Nat.le_refl _, .nil⟩, ?_⟩
  rintro i m H ⟨rfl, hi, sm, ys, hD, hl, hp⟩
  by_cases hlt : i < xs.length
  · refine .inr ⟨S.go i H (hok H sm) hlt, Pv (i + 1), fun H' p' => ⟨xs.length - (i + 1), by omega, rfl, hlt, p'⟩, fun x H' y => ?_⟩
    obtain ⟨e, hx⟩ := S.yld i H x H' (hok H sm) y hlt
    subst e
    have et : xs.take (i + 1) = xs.take i ++ [x] := by
      obtain ⟨h1, h2⟩ := List.getElem?_eq_some_iff.mp hx
      rw [List.take_succ_eq_append_getElem h1, h2]
    refine hs x (List.mem_of_getElem? hx) _ _ _ sm (fun y H4 s4 k r => ?_) fun H4 s4 k => ?_
    · refine ⟨ys, s4 _ _ hD, Nat.lt_of_le_of_lt (Nat.le_trans hl hi) (Nat.lt_trans sz (by rw [sizeLine_eq]; decide)), fun b u eb => ?_, ys ++ [y], upd_same, by rw [List.length_append]; exact Nat.add_le_add_right hl 1, ?_⟩
      · have nb : b ≠ D := fun z => by rw [z, nD] at eb; cases eb
        rw [upd_ne nb]
        exact s4 _ _ (sm _ _ eb)
      · have sb : SB D H4 (upd H4 D (.lst (ys ++ [y]))) := fun b u nb eb => by rw [upd_ne nb]; exact eb
        rw [et]
        refine paired_snoc_filter (hp.mono fun a b h => mono a b _ _ sb ⟨ys, s4 _ _ hD⟩ (mono a b _ _ (fun b u _ eb => s4 b u eb) ⟨ys, hD⟩ h)) k (mono _ _ _ _ sb ⟨ys, s4 _ _ hD⟩ r)
    · refine ⟨fun b u eb => s4 _ _ (sm _ _ eb), ys, s4 _ _ hD, Nat.le_succ_of_le hl, ?_⟩
      rw [et, List.filter_append, List.filter_cons_of_neg (by rw [k]; decide), List.filter_nil, List.append_nil]
      exact hp.mono fun a b h => mono a b _ _ (fun b u _ eb => s4 b u eb) ⟨ys, hD⟩ h
  · have e : i = xs.length := by omega
    subst e
    refine .inl ⟨S.stop H (hok H sm), hd H ys sm hD ?_⟩
    rw [List.take_length] at hp
    exact hp
/-- plain values: no object is spoken of -/
theorem paired_map {α : Type} {l : List α} {f : α → V} {ys : List V} (h : Paired (fun x y => y = f x) l ys) : ys = l.map f := by
  induction h with
  | nil => rfl
  | cons h1 _ ih => rw [List.map_cons, ← ih, h1]
theorem new_sqa {K : PySem.W.Frag} {H : Hp} {p : Addr} {xs : List V} : SqA K (upd H p (.lst xs)) p xs := .inl new_lst
theorem cutV_whole {xs : List V} {lo hi : Option Int} (h : HT.sIx xs.length 0 lo = 0 ∧ HT.sIx xs.length xs.length hi = xs.length) : cutV xs lo hi = xs := by
  unfold cutV
  rw [h.1, h.2, List.drop_zero, Nat.sub_zero, List.take_length]
section
variable {X : Cx}
/-- xs[i:j] of a list or a tuple, of its own kind -/
def rSlQ (K : PySem.W.Frag) : V → Option Int → Option Int → Hp → VK → Prop := fun x lo hi H Q => ∃ a xs, x = .ref a ∧ ((SqL K H a xs ∧ ∀ p H', Same H H' → H' p = some (.lst (cutV xs lo hi)) → Q (.ref p) H') ∨ (SqT K H a xs ∧ ∀ p H', Same H H' → SqT K H' p (cutV xs lo hi) → Q (.ref p) H'))
theorem sl_any : SlR X (rSlQ X.K) := by
  intro pins s σ H x v vl vu lo hi sl Q I rx hs pl pu h
  obtain ⟨a, xs, rfl, h⟩ := h
  refine sl_sqa pins s σ H (.ref a) v vl vu lo hi sl Q I rx hs pl pu ?_
  rcases h with ⟨h, q⟩ | ⟨h, q⟩
  · exact .inl ⟨a, xs, rfl, h, fun p hp => q p _ (same_new hp) upd_same⟩
  · refine .inr ⟨a, xs, rfl, h, fun w => q a H (Same.refl _) (by rw [cutV_whole w]; exact h), fun _ p hp => q p _ (same_new hp) new_tup⟩
theorem rSlQ_any {K : PySem.W.Frag} {x : V} {lo hi : Option Int} {H : Hp} {Q : VK} {a : Addr} {xs : List V} (e : x = .ref a) (h : SqA K H a xs) (q : ∀ p H', Same H H' → SqA K H' p (cutV xs lo hi) → Q (.ref p) H') : rSlQ K x lo hi H Q :=
  ⟨a, xs, e, h.elim (fun h => .inl ⟨h, fun p H' s g => q p H' s (.inl (.of g))⟩) fun h => .inr ⟨h, fun p H' s g => q p H' s (.inr g)⟩⟩
/-- tuple(x) -/
theorem cs_tuple : CallR X (.type "tuple") (fun xs H Q => ∃ a ys, xs = [.ref a] ∧ SqA X.K H a ys ∧ ∀ p H', Same H H' → SqT X.K H' p ys → Q (.ref p) H') := by
  intro pins s σ H xs us Q I r h
  obtain ⟨a, ys, rfl, h, q⟩ := h
  rcases h with h | h
  · exact call_tuple_of pins s σ H _ us Q I r ⟨a, ys, rfl, .inl ⟨h, fun l hl => q l _ (same_new hl) new_tup⟩⟩
  · exact call_tuple_of pins s σ H _ us Q I r ⟨a, ys, rfl, .inr ⟨h, q a H (Same.refl _) h⟩⟩
/-- a + b of tuples -/
theorem op_catTup : OpR X (binaryOp .Add) (fun x y H Q => ∃ a b xs ys, x = .ref a ∧ y = .ref b ∧ SqT X.K H a xs ∧ SqT X.K H b ys ∧ xs.length + ys.length ≤ sizeLine ∧ ∀ p H', Same H H' → SqT X.K H' p (xs ++ ys) → Q (.ref p) H') := by
  intro pins s σ H x y v u Q I rx ry h
  obtain ⟨a, b, xs, ys, rfl, rfl, ha, hb, hz, q⟩ := h
  refine op_catA pins s σ H _ _ v u Q I rx ry ⟨a, b, xs, ys, rfl, rfl, ha, hb, hz, fun e => q b H (Same.refl _) ?_, fun _ e => q a H (Same.refl _) ?_, fun _ _ p hp => q p _ (same_new hp) new_tup⟩
  · rw [e, List.nil_append]; exact hb
  · rw [e, List.append_nil]; exact ha
end
section
variable {X : Cx} {k j : Nat} {x : Str} {ps : List Str} {sp : Sp} {p pos : Pos} {e : Expr} {es : List Expr} {t : TA}
/-- f(), nothing raised -/
theorem pe_c0 (c : Cal X.prog X.w X.K X.mg X.base k x ps sp) (hr : Room j X.A) (hk : k ≤ j) (hg : Gl X x) (hdb : (x == ("__debug__" : Str)) = false := by decide) : PE X (.Call (.Name x p) [] [] pos) (tCall sp [] L2.E0 tNil) := by
  obtain ⟨f, fd, F, hm, kp, b⟩ := c.ex
  exact pe_call0 F (hr.mono hk) hg hm kp b .nil passL hdb
/-- f(e, ..), what it raises goes to W -/
theorem pe_cS {W : WX} (c : Cal X.prog X.w X.K X.mg X.base k x ps sp) (hr : Room j X.A) (hk : k ≤ j) (hg : Gl X x) (tk : Takes X W) (ha : PA X (e :: es) t)
    (hdb : (x == ("__debug__" : Str)) = false := by decide) (he : starEach (e :: es) X.env = (false, eval e X.env) :: starEach es X.env := by rfl) (hpl : (backTo pos (starEach es X.env)).any (·.1) = false := by rfl) :
    PE X (.Call (.Name x p) (e :: es) [] pos) (tCallS sp (WE W) t) := by
  obtain ⟨f, fd, F, hm, kp, b⟩ := c.ex
  exact pe_callS F (hr.mono hk) hg hm kp b (fun σ => passAt tk σ) ha hdb he hpl
end
/-- an atom, an index from the end -/
theorem atI_last {α : Type} {xs : List α} {v : α} (h : xs.getLast? = some v) : atI xs (-1) = some v := by
  have ne : xs ≠ [] := fun z => by rw [z] at h; cases h
  have hl : 0 < xs.length := List.length_pos_iff.mpr ne
  have e : ixN xs.length (-1) = some (xs.length - 1) := by
    unfold ixN
    rw [if_neg (by decide), if_pos (by omega)]
    congr 1
    omega
  unfold atI
  rw [e]
  show xs[xs.length - 1]? = some v
  rw [← List.getLast?_eq_getElem?, h]
end BQ
set_option maxHeartbeats 4000000
/-! instructions, plainly -/
namespace PN
open PySem PySem.Spec PyProof.Rows L2 SX BB BD BQ
abbrev LO : Int := -9223372036854775808
abbrev HI : Int := 9223372036854775807
def isW (n : Int) : Bool := decide (LO ≤ n) && decide (n ≤ HI)
def kindL : List Str := ["halt", "const", "copy", "add", "sub", "mul", "addc", "load", "store", "get", "put", "out", "jump", "less", "same", "call", "back", "watch"]
def kindS (j : Nat) : Str := kindL.getD j ""
/-- r 114, k 107, b 98, n 110, f 102, c 99, p 112 -/
def letL : List (List Nat) := [[], [114, 107], [114, 114], [114, 114, 114], [114, 114, 114], [114, 114, 114], [114, 114, 107], [114, 114, 98, 110, 102], [114, 114, 98, 110, 102], [114, 99], [99, 114], [114], [112], [114, 114, 112], [114, 114, 112], [112], [], [114, 102]]
def lets (j : Nat) : List Nat := letL.getD j []
def opsS : List (Str × Str) := [("halt", ""), ("const", "rk"), ("copy", "rr"), ("add", "rrr"), ("sub", "rrr"), ("mul", "rrr"), ("addc", "rrk"), ("load", "rrbnf"), ("store", "rrbnf"), ("get", "rc"), ("put", "cr"), ("out", "r"), ("jump", "p"), ("less", "rrp"), ("same", "rrp"), ("call", "p"), ("back", ""), ("watch", "rf")]
def rowL : List Str := ["", "rk", "rr", "rrr", "rrr", "rrr", "rrk", "rrbnf", "rrbnf", "rc", "cr", "r", "p", "rrp", "rrp", "p", "", "rf"]
theorem kind_len : kindL.length = 18 := rfl
theorem ops_at : ∀ j, j < 18 → opsS.lookup (kindS j) = some (S (lets j)) := by decide +kernel
theorem row_at : ∀ j, j < 18 → rowL[j]? = some (S (lets j)) := by decide +kernel
theorem kind_at : ∀ j, j < 18 → kindL[j]? = some (kindS j) := by decide +kernel
theorem kind_idx : ∀ j, j < 18 → kindL.idxOf (kindS j) = j := by decide +kernel
theorem kind_mem : ∀ j, j < 18 → kindS j ∈ kindL := by decide +kernel
theorem kind_inj : ∀ i, i < 18 → ∀ j, j < 18 → kindS i = kindS j → i = j := by decide +kernel
theorem let_short : ∀ j, j < 18 → (lets j).length ≤ 5 := by decide +kernel
theorem let_in : ∀ j, j < 18 → ∀ c ∈ lets j, c ∈ [114, 107, 99, 112, 98, 110, 102] := by decide +kernel
theorem let_n : ∀ j, j < 18 → ∀ k, k < 5 → (lets j)[k]? = some 110 → 0 < k ∧ (lets j)[k - 1]? = some 98 := by decide +kernel
theorem let_b : ∀ j, j < 18 → ∀ k, k < 5 → (lets j)[k]? = some 98 → (lets j)[k + 1]? = some 110 := by decide +kernel
theorem lookup_map {ps : List (Str × Str)} {x : Str} : (ps.map fun p => (p.1, V.str p.2)).lookup x = (ps.lookup x).map V.str := by
  induction ps with
  | nil => rfl
  | cons p r ih =>
    obtain ⟨a, b⟩ := p
    simp only [List.map_cons, List.lookup]
    cases h : (x == a)
    · exact ih
    · rfl
/-- an operand within its bounds -/
def fitsZ (c : Nat) (o b T R C : Int) : Bool :=
  if c = 114 then decide (0 ≤ o) && decide (o < R) else if c = 107 then isW o else if c = 99 then decide (0 ≤ o) && decide (o < C) else if c = 112 then decide (0 ≤ o) && decide (o < T)
  else if c = 98 then decide (0 ≤ o) && (decide (1 ≤ b) && decide (o + b ≤ C)) else if c = 102 then decide (1 ≤ o) && decide (o ≤ 9999) else true
def Fit (ls : List Nat) (ops : List Int) (T R C : Int) : Prop := ∀ k, k < ls.length → fitsZ (ls.getD k 0) (ops.getD k 0) (ops.getD (k + 1) 0) T R C = true
instance (ls : List Nat) (ops : List Int) (T R C : Int) : Decidable (Fit ls ops T R C) := by unfold Fit; exact inferInstance
/-- decode -/
def decZ (xs : List Int) (place R C : Int) : Option (Nat × List Int) :=
  if 0 ≤ place ∧ place < xs.length ∧ 1 ≤ xs.getD place.toNat 0 ∧ xs.getD place.toNat 0 ≤ 18 then
    if ((xs.drop (place.toNat + 1)).take (lets (xs.getD place.toNat 0 - 1).toNat).length).length = (lets (xs.getD place.toNat 0 - 1).toNat).length ∧
        Fit (lets (xs.getD place.toNat 0 - 1).toNat) ((xs.drop (place.toNat + 1)).take (lets (xs.getD place.toNat 0 - 1).toNat).length) xs.length R C
    then some ((xs.getD place.toNat 0 - 1).toNat, (xs.drop (place.toNat + 1)).take (lets (xs.getD place.toNat 0 - 1).toNat).length) else none
  else none
/-- an instruction as slots -/
def enc (j : Nat) (ops : List Int) : List Int := ((j : Int) + 1) :: ops
/-- its tuple -/
def insV (j : Nat) (ops : List Int) : List V := .str (kindS j) :: ops.map V.int
structure Good (j : Nat) (ops : List Int) (T R C : Int) : Prop where
  jl : j < 18
  len : ops.length = (lets j).length
  fit : Fit (lets j) ops T R C
theorem getD_mid {pre post : List Int} {x : Int} {ops : List Int} : (pre ++ (x :: ops) ++ post).getD pre.length 0 = x := by
  simp [List.getD]
theorem drop_mid {pre post : List Int} {x : Int} {ops : List Int} : ((pre ++ (x :: ops) ++ post).drop (pre.length + 1)).take ops.length = ops := by
  rw [List.append_assoc, ← List.drop_drop, List.drop_left]
  simp
theorem dec_good {pre post : List Int} {j : Nat} {ops : List Int} {R C : Int} (g : Good j ops (pre ++ enc j ops ++ post).length R C) : decZ (pre ++ enc j ops ++ post) pre.length R C = some (j, ops) := by
  have h0 : (pre ++ enc j ops ++ post).getD pre.length 0 = (j : Int) + 1 := getD_mid
  have hj := g.jl
  unfold decZ
  rw [show ((pre.length : Nat) : Int).toNat = pre.length by omega, h0]
  have e1 : ((j : Int) + 1 - 1).toNat = j := by omega
  rw [e1, ← g.len]
  have hd : ((pre ++ enc j ops ++ post).drop (pre.length + 1)).take ops.length = ops := drop_mid
  rw [hd]
  have hl : pre.length < (pre ++ enc j ops ++ post).length := by simp [enc]
  rw [if_pos ⟨by omega, by exact_mod_cast hl, by omega, by omega⟩, if_pos ⟨rfl, g.fit⟩]
theorem dec_bad {pre post : List Int} {j : Nat} {ops : List Int} {R C : Int} (hj : j < 18) (hl : ops.length = (lets j).length) (g : ¬ Fit (lets j) ops (pre ++ enc j ops ++ post).length R C) : decZ (pre ++ enc j ops ++ post) pre.length R C = none := by
  have h0 : (pre ++ enc j ops ++ post).getD pre.length 0 = (j : Int) + 1 := getD_mid
  unfold decZ
  rw [show ((pre.length : Nat) : Int).toNat = pre.length by omega, h0]
  have e1 : ((j : Int) + 1 - 1).toNat = j := by omega
  rw [e1, ← hl]
  have hd : ((pre ++ enc j ops ++ post).drop (pre.length + 1)).take ops.length = ops := drop_mid
  rw [hd]
  by_cases h : 0 ≤ (pre.length : Int) ∧ (pre.length : Int) < (pre ++ enc j ops ++ post).length ∧ 1 ≤ (j : Int) + 1 ∧ (j : Int) + 1 ≤ 18
  · rw [if_pos h, if_neg (fun z => g z.2)]
  · rw [if_neg h]
theorem dec_op {xs : List Int} {place : Nat} {R C : Int} (h : xs.getD place 0 < 1 ∨ 18 < xs.getD place 0) : decZ xs place R C = none := by
  unfold decZ
  rw [show ((place : Nat) : Int).toNat = place by omega, if_neg (fun z => by omega)]
theorem dec_out {xs : List Int} {place : Int} {R C : Int} (h : place < 0 ∨ (xs.length : Int) ≤ place) : decZ xs place R C = none := by
  unfold decZ
  rw [if_neg (fun z => by omega)]
/-- a slot short -/
theorem dec_cut {pre : List Int} {j : Nat} {ops : List Int} {R C : Int} (hl : ops.length + 1 = (lets j).length) : decZ (pre ++ enc j ops) pre.length R C = none := by
  have h0 : (pre ++ enc j ops).getD pre.length 0 = (j : Int) + 1 := by simp [enc, List.getD]
  unfold decZ
  rw [show ((pre.length : Nat) : Int).toNat = pre.length by omega, h0]
  have e1 : ((j : Int) + 1 - 1).toNat = j := by omega
  rw [e1]
  have hd : ((pre ++ enc j ops).drop (pre.length + 1)).take (lets j).length = ops := by
    rw [← hl, ← List.drop_drop, List.drop_left]
    show ops.take (ops.length + 1) = ops
    exact List.take_of_length_le (by omega)
  rw [hd]
  by_cases h : 0 ≤ (pre.length : Int) ∧ (pre.length : Int) < (pre ++ enc j ops).length ∧ 1 ≤ (j : Int) + 1 ∧ (j : Int) + 1 ≤ 18
  · rw [if_pos h, if_neg (fun z => by omega)]
  · rw [if_neg h]
end PN
namespace PN
open PySem PySem.Spec PyProof.Rows L2 SX BB BD BQ
theorem lets_size {j : Nat} (hj : j < 18) : (S (lets j)).length ≤ sizeLine := by
  have := let_short j hj
  rw [S_len, sizeLine_eq]
  omega
def srcL : List (List Nat) := [[], [], [2], [2, 3], [2, 3], [2, 3], [2], [2], [1, 2], [], [2], [1], [], [1, 2], [1, 2], [], [], [1]]
/-- the places of an instruction's tuple that it reads -/
def srcOf (j : Nat) : List Nat := srcL.getD j []
def tgtL : List Str := ["const", "copy", "add", "sub", "mul", "addc", "load", "get", "watch"]
def accL : List Str := ["load", "store", "get", "put"]
def hasT (j : Nat) : Bool := [1, 2, 3, 4, 5, 6, 7, 9, 17].contains j
def isAcc (j : Nat) : Bool := [7, 8, 9, 10].contains j
theorem tgt_in : ∀ j, j < 18 → inV (.str (kindS j)) (tgtL.map V.str) = hasT j := by decide +kernel
theorem acc_in : ∀ j, j < 18 → inV (.str (kindS j)) (accL.map V.str) = isAcc j := by decide +kernel
theorem src_ok : ∀ j, j < 18 → ∀ k ∈ srcOf j, 1 ≤ k ∧ k ≤ (lets j).length := by decide +kernel
theorem tgt_ok : ∀ j, j < 18 → hasT j = true → 0 < (lets j).length := by decide +kernel
end PN
namespace PN
open PySem PySem.Spec PyProof.Rows L2 SX BB BD BQ
theorem cutV_nat (xs : List V) (a b : Nat) : cutV xs (some (a : Int)) (some (b : Int)) = (xs.drop a).take (b - a) := by
  unfold cutV
  rw [sIx_nat, sIx_nat]
  by_cases h : a ≤ xs.length
  · rw [Nat.min_eq_left h]
    by_cases h2 : b ≤ xs.length
    · rw [Nat.min_eq_left h2]
    · rw [Nat.min_eq_right (by omega), List.take_of_length_le (by rw [List.length_drop]; omega), List.take_of_length_le (by rw [List.length_drop]; omega)]
  · rw [Nat.min_eq_right (show xs.length ≤ a by omega), List.drop_length, List.drop_of_length_le (by omega), List.take_nil, List.take_nil]
theorem cutV_from (xs : List V) (a : Nat) : cutV xs (some (a : Int)) none = xs.drop a := by
  unfold cutV
  rw [sIx_nat, sIx_none]
  by_cases h : a ≤ xs.length
  · rw [Nat.min_eq_left h, List.take_of_length_le (by rw [List.length_drop]; omega)]
  · rw [Nat.min_eq_right (by omega), List.drop_length, List.drop_of_length_le (by omega), List.take_nil]
theorem cutV_to (xs : List V) (b : Nat) : cutV xs none (some (b : Int)) = xs.take b := by
  unfold cutV
  rw [sIx_nat, sIx_none, List.drop_zero, Nat.sub_zero]
  by_cases h : b ≤ xs.length
  · rw [Nat.min_eq_left h]
  · rw [Nat.min_eq_right (by omega), List.take_length, List.take_of_length_le (by omega)]
/-- an item of a list of numbers -/
theorem at_ints {xs : List Int} {k : Nat} (h : k < xs.length) : (xs.map V.int)[k]? = some (.int (xs.getD k 0)) := by
  simp [List.getD, h]
theorem dec_none {xs : List Int} {n j : Nat} {R C : Int} (ho : xs.getD n 0 = (j : Int) + 1) (h : ¬ (((xs.drop (n + 1)).take (lets j).length).length = (lets j).length ∧ Fit (lets j) ((xs.drop (n + 1)).take (lets j).length) xs.length R C)) : decZ xs n R C = none := by
  unfold decZ
  rw [show ((n : Nat) : Int).toNat = n by omega, ho, show ((j : Int) + 1 - 1).toNat = j by omega]
  by_cases q : 0 ≤ (n : Int) ∧ (n : Int) < xs.length ∧ 1 ≤ (j : Int) + 1 ∧ (j : Int) + 1 ≤ 18
  · rw [if_pos q, if_neg h]
  · rw [if_neg q]
theorem dec_some {xs : List Int} {n j : Nat} {R C : Int} (ho : xs.getD n 0 = (j : Int) + 1) (hn : n < xs.length) (hj : j < 18) (h1 : ((xs.drop (n + 1)).take (lets j).length).length = (lets j).length) (h2 : Fit (lets j) ((xs.drop (n + 1)).take (lets j).length) xs.length R C) :
    decZ xs n R C = some (j, (xs.drop (n + 1)).take (lets j).length) := by
  unfold decZ
  rw [show ((n : Nat) : Int).toNat = n by omega, ho, show ((j : Int) + 1 - 1).toNat = j by omega]
  rw [if_pos ⟨by omega, by omega, by omega, by omega⟩, if_pos ⟨h1, h2⟩]
end PN
namespace PN
theorem isW_of {n : Int} (h : LO ≤ n) (h' : n ≤ HI) : isW n = true := by
  unfold isW
  rw [decide_eq_true h, decide_eq_true h']
  rfl
end PN
set_option maxHeartbeats 4000000
/-! operands made one by one; edges -/
namespace PN
open PySem PySem.Spec PyProof.Rows L2 SX BB BD BQ
def valOk (T R C : Int) (c : Nat) (prev o : Int) : Prop :=
  (c = 114 → 0 ≤ o ∧ o < R) ∧ (c = 107 → isW o = true) ∧ (c = 99 → 0 ≤ o ∧ o < C) ∧ (c = 98 → 0 ≤ o ∧ o < C) ∧ (c = 110 → 1 ≤ o ∧ prev + o ≤ C) ∧ (c = 112 → 0 ≤ o ∧ o < T) ∧ (c = 102 → 1 ≤ o ∧ o ≤ 9999)
def prevOf (os : List Int) (k : Nat) : Int := if k = 0 then 0 else os.getD (k - 1) 0
inductive Mk (T R C : Int) : List Nat → List Int → Prop
  | nil : Mk T R C [] []
  | snoc {d : List Nat} {os : List Int} {c : Nat} {o : Int} : Mk T R C d os → valOk T R C c (prevOf os os.length) o → Mk T R C (d ++ [c]) (os ++ [o])
theorem Mk.length {T R C : Int} {d : List Nat} {os : List Int} (h : Mk T R C d os) : os.length = d.length := by
  induction h with
  | nil => rfl
  | snoc _ _ ih => simp [ih]
theorem getD_left {α : Type} {xs ys : List α} {k : Nat} {z : α} (h : k < xs.length) : (xs ++ ys).getD k z = xs.getD k z := by
  simp only [List.getD]
  rw [List.getElem?_append_left h]
theorem getD_last {α : Type} {xs : List α} {x z : α} : (xs ++ [x]).getD xs.length z = x := by
  simp [List.getD]
theorem prev_left {xs ys : List Int} {k : Nat} (h : k ≤ xs.length) : prevOf (xs ++ ys) k = prevOf xs k := by
  unfold prevOf
  by_cases h0 : k = 0
  · rw [if_pos h0, if_pos h0]
  · rw [if_neg h0, if_neg h0, getD_left (by omega)]
theorem Mk.at {T R C : Int} {d : List Nat} {os : List Int} (h : Mk T R C d os) : ∀ k, k < d.length → valOk T R C (d.getD k 0) (prevOf os k) (os.getD k 0) := by
  induction h with
  | nil => intro k hk; exact absurd hk (Nat.not_lt_zero _)
  | @snoc d os c o h1 h2 ih =>
    intro k hk
    have hl := h1.length
    have hk : k < d.length + 1 := by simpa using hk
    by_cases e : k = d.length
    · subst e
      rw [getD_last, show (os ++ [o]).getD d.length 0 = o by rw [← hl]; exact getD_last, prev_left (by omega), ← hl]
      exact h2
    · rw [getD_left (by omega), getD_left (by omega), prev_left (by omega)]
      exact ih k (by omega)
theorem getD_at {α : Type} {xs : List α} {k : Nat} {z : α} (h : k < xs.length) : xs[k]? = some (xs.getD k z) := by
  simp [List.getD, h]
/-- the whole row: within its bounds -/
theorem mk_good {T R C : Int} {j : Nat} {os : List Int} (hj : j < 18) (h : Mk T R C (lets j) os) : Good j os T R C := by
  have hl := h.length
  have h5 := let_short j hj
  refine ⟨hj, hl, fun k hk => ?_⟩
  have v := h.at k hk
  have hc := let_in j hj ((lets j).getD k 0) (by rw [List.getD, List.getElem?_eq_getElem hk]; exact List.getElem_mem hk)
  generalize ec : (lets j).getD k 0 = c at v hc
  have e? : (lets j)[k]? = some c := by rw [getD_at (z := 0) hk, ec]
  have hw : (lets j)[k + 1]? = some 110 → 1 ≤ os.getD (k + 1) 0 ∧ os.getD k 0 + os.getD (k + 1) 0 ≤ C := fun e1 => by
    obtain ⟨h1, e2⟩ := List.getElem?_eq_some_iff.mp e1
    have w := h.at (k + 1) h1
    rw [show (lets j).getD (k + 1) 0 = 110 by rw [List.getD, e1]; rfl] at w
    have w := w.2.2.2.2.1 rfl
    have ep : prevOf os (k + 1) = os.getD k 0 := by unfold prevOf; rw [if_neg (by omega)]; rfl
    rw [ep] at w
    exact w
  generalize os.getD k 0 = o at v hw ⊢
  generalize os.getD (k + 1) 0 = b at hw ⊢
  obtain ⟨v1, v2, v3, v4, v5, v6, v7⟩ := v
  simp only [List.mem_cons, List.mem_nil_iff, or_false] at hc
  rcases hc with rfl | rfl | rfl | rfl | rfl | rfl | rfl
  · have := v1 rfl
    simp [fitsZ, this.1, this.2]
  · simp [fitsZ, v2 rfl]
  · have := v3 rfl
    simp [fitsZ, this.1, this.2]
  · have := v6 rfl
    simp [fitsZ, this.1, this.2]
  · have := v4 rfl
    have w := hw (let_b j hj k (by omega) e?)
    simp [fitsZ, this.1, w.1, w.2]
  · rfl
  · have := v7 rfl
    simp [fitsZ, this.1, this.2]
end PN
namespace PN
open PySem PySem.Spec PyProof.Rows L2 SX BB BD BQ
def edg (c : Nat) (prev next T R C : Int) : List Int × List Int :=
  if c = 114 then ([0, R - 1], [-1, R]) else if c = 107 then ([LO, HI], [-9223372036854775809, 9223372036854775808]) else if c = 99 then ([0, C - 1], [-1, C]) else if c = 98 then ([0, C - next], [-1, C - next + 1])
  else if c = 110 then ([1, C - prev], [0, C - prev + 1]) else if c = 112 then ([0, T - 1], [-1, T]) else ([1, 9999], [0, 10000])
theorem getD_set {ops : List Int} {k i : Nat} {v : Int} (hk : k < ops.length) : (ops.set k v).getD i 0 = if i = k then v else ops.getD i 0 := by
  simp only [List.getD]
  rw [List.getElem?_set]
  by_cases h : k = i
  · subst h
    rw [if_pos rfl, if_pos hk, if_pos rfl]
    rfl
  · rw [if_neg h, if_neg (fun z => h z.symm)]
theorem fits_behind {c : Nat} {o b b' T R C : Int} (h : c ≠ 98) : fitsZ c o b T R C = fitsZ c o b' T R C := by
  unfold fitsZ
  rw [if_neg h, if_neg h]
theorem fits_b {o b T R C : Int} : fitsZ 98 o b T R C = true ↔ 0 ≤ o ∧ 1 ≤ b ∧ o + b ≤ C := by
  simp [fitsZ]
/-- where a letter is r, k, c, p or f: its own bounds alone -/
theorem fit_set {j : Nat} {ops : List Int} {T R C v : Int} {k : Nat} (g : Good j ops T R C) (hk : k < ops.length) (own : (lets j).getD k 0 ≠ 110 → fitsZ ((lets j).getD k 0) v (ops.getD (k + 1) 0) T R C = true)
    (two : (lets j).getD k 0 = 110 → 1 ≤ v ∧ ops.getD (k - 1) 0 + v ≤ C) : Good j (ops.set k v) T R C := by
  have hj := g.jl
  have hl := g.len
  have h5 := let_short j hj
  refine ⟨hj, by rw [List.length_set]; exact hl, fun i hi => ?_⟩
  rw [getD_set hk, getD_set hk]
  have F := g.fit i hi
  have ei : (lets j)[i]? = some ((lets j).getD i 0) := getD_at hi
  by_cases h : i = k
  · subst h
    rw [if_pos rfl, if_neg (by omega)]
    by_cases c1 : (lets j).getD i 0 = 110
    · rw [c1]; rfl
    · exact own c1
  · rw [if_neg h]
    by_cases h2 : i + 1 = k
    · subst h2
      rw [if_pos rfl]
      by_cases c1 : (lets j).getD i 0 = 98
      · have e1 := let_b j hj i (by omega) (by rw [ei, c1])
        have t := two (by rw [List.getD, e1]; rfl)
        rw [c1] at F ⊢
        have F := fits_b.mp F
        exact fits_b.mpr ⟨F.1, t.1, t.2⟩
      · rw [fits_behind c1 (b' := ops.getD (i + 1) 0)]
        exact F
    · rw [if_neg h2]
      exact F
theorem let_getD {j k : Nat} (hj : j < 18) (hk : k < (lets j).length) : (lets j).getD k 0 ∈ [114, 107, 99, 112, 98, 110, 102] := let_in j hj _ (by rw [List.getD, List.getElem?_eq_getElem hk]; exact List.getElem_mem hk)
theorem n_behind {j k : Nat} {ops : List Int} {T R C : Int} (g : Good j ops T R C) (hk : k < ops.length) (e : (lets j).getD k 0 = 110) : 0 < k ∧ (lets j).getD (k - 1) 0 = 98 ∧ 0 ≤ ops.getD (k - 1) 0 ∧ 1 ≤ ops.getD k 0 ∧ ops.getD (k - 1) 0 + ops.getD k 0 ≤ C := by
  have hj := g.jl
  have hl := g.len
  have h5 := let_short j hj
  obtain ⟨h0, h1⟩ := let_n j hj k (by omega) (by rw [getD_at (z := 0) (by omega), e])
  have e98 : (lets j).getD (k - 1) 0 = 98 := by rw [List.getD, h1]; rfl
  have F := g.fit (k - 1) (by omega)
  rw [e98, show k - 1 + 1 = k by omega] at F
  have F := fits_b.mp F
  exact ⟨h0, e98, F⟩
theorem two {v a b : Int} (h : v ∈ [a, b]) : v = a ∨ v = b := by simpa using h
theorem edg_good {j : Nat} {ops : List Int} {T R C v : Int} {k : Nat} (g : Good j ops T R C) (hT : 1 ≤ T) (hR : 1 ≤ R) (hk : k < ops.length) (hv : v ∈ (edg ((lets j).getD k 0) (ops.getD (k - 1) 0) (ops.getD (k + 1) 0) T R C).1) : Good j (ops.set k v) T R C := by
  have F := g.fit k (by rw [← g.len]; exact hk)
  have hc := let_getD g.jl (show k < (lets j).length by rw [← g.len]; exact hk)
  refine fit_set g hk (fun c1 => ?_) (fun c1 => ?_)
  · generalize ops.getD (k - 1) 0 = prev at hv
    generalize (lets j).getD k 0 = c at hc hv F c1 ⊢
    generalize ops.getD (k + 1) 0 = next at hv F ⊢
    generalize ops.getD k 0 = o at F
    simp only [List.mem_cons, List.mem_nil_iff, or_false] at hc
    rcases hc with rfl | rfl | rfl | rfl | rfl | rfl | rfl
    · rcases two (a := 0) (b := R - 1) hv with rfl | rfl <;> simp [fitsZ] <;> omega
    · rcases two (a := LO) (b := HI) hv with rfl | rfl <;> rfl
    · simp [fitsZ] at F
      rcases two (a := 0) (b := C - 1) hv with rfl | rfl <;> simp [fitsZ] <;> omega
    · rcases two (a := 0) (b := T - 1) hv with rfl | rfl <;> simp [fitsZ] <;> omega
    · have F := fits_b.mp F
      rcases two (a := 0) (b := C - next) hv with rfl | rfl <;> simp [fitsZ] <;> omega
    · exact absurd rfl c1
    · rcases two (a := 1) (b := 9999) hv with rfl | rfl <;> rfl
  · obtain ⟨_, _, h1, h2, h3⟩ := n_behind g hk c1
    rw [c1] at hv
    generalize ops.getD (k - 1) 0 = prev at *
    rcases two (a := 1) (b := C - prev) hv with hv | hv
    · subst hv; omega
    · subst hv; omega
theorem edg_bad {j : Nat} {ops : List Int} {T R C v : Int} {k : Nat} (g : Good j ops T R C) (hk : k < ops.length) (hv : v ∈ (edg ((lets j).getD k 0) (ops.getD (k - 1) 0) (ops.getD (k + 1) 0) T R C).2) : ¬ Fit (lets j) (ops.set k v) T R C := by
  intro G
  have hkl : k < (lets j).length := by rw [← g.len]; exact hk
  have hc := let_getD g.jl hkl
  by_cases c1 : (lets j).getD k 0 = 110
  · obtain ⟨h0, e98, h1, h2, h3⟩ := n_behind g hk c1
    have G := G (k - 1) (by omega)
    rw [getD_set hk, getD_set hk, if_neg (by omega), if_pos (by omega), e98] at G
    have G := fits_b.mp G
    rw [c1] at hv
    generalize ops.getD (k - 1) 0 = prev at *
    rcases two (a := 0) (b := C - prev + 1) hv with hv | hv
    · subst hv; omega
    · subst hv; omega
  · have G := G k hkl
    rw [getD_set hk, getD_set hk, if_pos rfl, if_neg (by omega)] at G
    generalize ops.getD (k - 1) 0 = prev at hv
    generalize (lets j).getD k 0 = c at hc hv G c1
    generalize ops.getD (k + 1) 0 = next at hv G
    simp only [List.mem_cons, List.mem_nil_iff, or_false] at hc
    rcases hc with rfl | rfl | rfl | rfl | rfl | rfl | rfl
    · rcases two (a := -1) (b := R) hv with rfl | rfl <;> simp [fitsZ] at G <;> omega
    · rcases two (a := -9223372036854775809) (b := 9223372036854775808) hv with rfl | rfl <;> cases (show false = true from G)
    · rcases two (a := -1) (b := C) hv with rfl | rfl <;> simp [fitsZ] at G <;> omega
    · rcases two (a := -1) (b := T) hv with rfl | rfl <;> simp [fitsZ] at G <;> omega
    · have G := fits_b.mp G
      rcases two (a := -1) (b := C - next + 1) hv with rfl | rfl <;> omega
    · exact absurd rfl c1
    · rcases two (a := 0) (b := 10000) hv with rfl | rfl <;> simp [fitsZ] at G <;> omega
end PN
namespace PN
theorem prev_last {ops : List Int} : prevOf ops ops.length = ops.getLastD 0 := by
  unfold prevOf
  by_cases h : ops.length = 0
  · rw [if_pos h, List.eq_nil_of_length_eq_zero h]
    rfl
  · rw [if_neg h, List.getLastD_eq_getLast?, List.getLast?_eq_getElem?, List.getD]
end PN
namespace PN
open PySem PySem.Spec PyProof.Rows L2 SX BB BD BQ
theorem let_acc : ∀ j, j < 18 → isAcc j = false → ∀ c ∈ lets j, c ∉ [99, 98] := by decide +kernel
theorem mk_prev {T R C : Int} {j : Nat} {d r : List Nat} {ops : List Int} (hj : j < 18) (el : lets j = d ++ 110 :: r) (mk : Mk T R C d ops) : ∃ prev, (insV j ops).getLast? = some (.int prev) ∧ prevOf ops ops.length = prev ∧ 0 ≤ prev ∧ prev < C := by
  have hl := mk.length
  have h5 := let_short j hj
  have hd : (lets j)[d.length]? = some 110 := by rw [el]; simp
  have hdl : d.length < 5 := by
    have := (List.getElem?_eq_some_iff.mp hd).1
    omega
  obtain ⟨h0, h1⟩ := let_n j hj _ hdl hd
  have h98 : d.getD (d.length - 1) 0 = 98 := by
    rw [el, List.getElem?_append_left (by omega)] at h1
    rw [List.getD, h1]
    rfl
  have v := mk.at (d.length - 1) (by omega)
  rw [h98] at v
  have v := v.2.2.2.1 rfl
  have ep : prevOf ops ops.length = ops.getD (d.length - 1) 0 := by
    unfold prevOf
    rw [if_neg (by omega), hl]
  refine ⟨_, ?_, ep, v⟩
  unfold insV
  rw [List.getLast?_cons, List.getLast?_eq_getElem?, List.length_map, ← hl]
  rw [at_ints (by omega)]
  rfl
end PN
namespace PN
open PySem PySem.Spec PyProof.Rows L2 SX BB BD BQ
def rdL : List Str := ["store", "out", "less", "same", "watch"]
def rdr (j : Nat) : Bool := [8, 11, 13, 14, 17].contains j
def rol (j k : Nat) : Bool := decide ((lets j).getD k 0 = 114) && (decide (0 < k) || rdr j)
theorem rd_in : ∀ j, j < 18 → inV (.str (kindS j)) (rdL.map V.str) = rdr j := by decide +kernel
theorem rol_src : ∀ j, j < 18 → ((List.range (lets j).length).filter (rol j)).map (· + 1) = srcOf j := by decide +kernel
def wrL : List Str := ["store", "out", "less", "same"]
def wrr (j : Nat) : Bool := [8, 11, 13, 14].contains j
theorem wr_in : ∀ j, j < 18 → inV (.str (kindS j)) (wrL.map V.str) = wrr j := by decide +kernel
theorem wr_tgt : ∀ j, j < 18 → (decide ((lets j).take 1 = [114]) && !wrr j) = hasT j := by decide +kernel
theorem acc4_in : ∀ j, j < 18 → inV (.str (kindS j)) (accL.map V.str) = isAcc j := acc_in
end PN
namespace PN
open PySem PySem.Spec PyProof.Rows L2 SX BB BD BQ
theorem S_inj {l m : List Nat} (h : S l = S m) : l = m := by
  have : (S l).cps.toList = (S m).cps.toList := by rw [h]
  rw [tlS, tlS] at this
  exact this
theorem str_ne {l m : List Nat} (h : l ≠ m) : decide (V.str (S l) = V.str (S m)) = false := decide_eq_false fun z => h (S_inj (V.str.inj z))
theorem sgn_ne {c d : Nat} (h : c ≠ d) : decide (V.str (S [c]) = V.str (S [d])) = false := str_ne fun z => h (List.cons.inj z).1
end PN
namespace PN
open PySem PySem.Spec PyProof.Rows L2 SX BB BD BQ
theorem set_slot {pre post : List Int} {j : Nat} {ops : List Int} {i : Nat} {v : Int} (h : i < ops.length) : (pre ++ enc j ops ++ post).set (pre.length + 1 + i) v = pre ++ enc j (ops.set i v) ++ post := by
  rw [List.append_assoc, List.set_append_right _ _ (by omega), show pre.length + 1 + i - pre.length = i + 1 by omega, List.set_append_left _ _ (by simp [enc]; omega)]
  rw [List.append_assoc]
  rfl
theorem set_op {pre post : List Int} {j : Nat} {ops : List Int} {v : Int} : ((pre ++ enc j ops ++ post).set pre.length v).getD pre.length 0 = v := by
  rw [List.getD, List.getElem?_set_self (by simp [enc])]
  rfl
theorem len_enc {pre post : List Int} {j : Nat} {ops ops' : List Int} (h : ops'.length = ops.length) : (pre ++ enc j ops' ++ post).length = (pre ++ enc j ops ++ post).length := by
  simp [enc, h]
theorem dec_good' {pre post : List Int} {j : Nat} {ops ops' : List Int} {R C : Int} (h : ops'.length = ops.length) (g : Good j ops' (pre ++ enc j ops ++ post).length R C) : decZ (pre ++ enc j ops' ++ post) pre.length R C = some (j, ops') := by
  refine dec_good ?_
  rw [len_enc h]
  exact g
theorem dec_bad' {pre post : List Int} {j : Nat} {ops ops' : List Int} {R C : Int} (hj : j < 18) (hl : ops'.length = (lets j).length) (h : ops'.length = ops.length) (g : ¬ Fit (lets j) ops' (pre ++ enc j ops ++ post).length R C) : decZ (pre ++ enc j ops' ++ post) pre.length R C = none := by
  refine dec_bad hj hl ?_
  rw [len_enc h]
  exact g
theorem dec_short {pre post : List Int} {j : Nat} {ops : List Int} {R C : Int} (hl : ops.length = (lets j).length) : decZ ((pre ++ enc j ops ++ post).take (pre.length + ops.length)) pre.length R C = none := by
  have e : (pre ++ enc j ops ++ post).take (pre.length + ops.length) = pre ++ (enc j ops).take ops.length := by
    rw [List.append_assoc, List.take_append, List.take_of_length_le (by omega), show pre.length + ops.length - pre.length = ops.length by omega, List.take_append_of_le_length (by simp [enc])]
  rw [e]
  by_cases h : ops.length = 0
  · rw [h, List.take_zero, List.append_nil]
    exact dec_out (.inr (by omega))
  · have e2 : (enc j ops).take ops.length = enc j (ops.take (ops.length - 1)) := by
      obtain ⟨n, hn⟩ : ∃ n, ops.length = n + 1 := ⟨ops.length - 1, by omega⟩
      rw [hn]
      rfl
    rw [e2]
    exact dec_cut (by rw [List.length_take]; omega)
theorem insV_set {j : Nat} {ops : List Int} {i : Nat} {v : Int} (h : i < ops.length) : (insV j ops).take (i + 1) ++ [V.int v] ++ (insV j ops).drop (i + 2) = insV j (ops.set i v) := by
  unfold insV
  rw [List.take_succ_cons, show i + 2 = (i + 1) + 1 from rfl, List.drop_succ_cons, List.set_eq_take_append_cons_drop, if_pos h, List.map_append, List.map_cons, List.map_take, List.map_drop]
  simp
theorem ixN_nat {n k : Nat} (h : k < n) : ixN n (k : Int) = some k := by
  unfold ixN
  rw [if_pos (by omega), if_pos (by omega)]
  congr 1
theorem set_ints {xs : List Int} {k : Nat} {v : Int} : (xs.map V.int).set k (.int v) = (xs.set k v).map V.int := by
  rw [List.map_set]
end PN
namespace PN
open PySem PySem.Spec PyProof.Rows L2 SX BB BD BQ
theorem paired_choose {α β γ : Type} {G : α → γ → Prop} {F : γ → β → Prop} {xs : List α} {ys : List β} (h : Paired (fun x y => ∃ r, G x r ∧ F r y) xs ys) : ∃ rs, Paired G xs rs ∧ Paired F rs ys := by
  induction h with
  | nil => exact ⟨[], .nil, .nil⟩
  | cons h1 _ ih =>
    obtain ⟨r, g, f⟩ := h1
    obtain ⟨rs, gs, fs⟩ := ih
    exact ⟨r :: rs, .cons g gs, .cons f fs⟩
theorem paired_mapL {α β γ : Type} {F : α → β → Prop} {f : γ → α} : ∀ {xs : List γ} {ys : List β}, Paired F (xs.map f) ys → Paired (fun x y => F (f x) y) xs ys
  | [], _, h => by
    cases h
    exact .nil
  | x :: xs, _, h => by
    cases h with
    | cons h1 h2 => exact .cons h1 (paired_mapL h2)
theorem paired_at {α β : Type} {F : α → β → Prop} {xs : List α} {ys : List β} (h : Paired F xs ys) : ∀ {i : Nat} {y : β}, ys[i]? = some y → ∃ x, xs[i]? = some x ∧ F x y := by
  induction h with
  | nil =>
    intro i y e
    cases e
  | @cons a b l1 l2 h1 _ ih =>
    intro i y e
    cases i with
    | zero =>
      cases e
      exact ⟨a, rfl, h1⟩
    | succ i => exact ih (i := i) e
/-- the slots of a row of instructions -/
def flat (rs : List (Nat × List Int)) : List Int := rs.flatMap fun r => enc r.1 r.2
def off (rs : List (Nat × List Int)) (k : Nat) : Nat := (flat (rs.take k)).length
theorem flat_split {rs : List (Nat × List Int)} {k : Nat} {r : Nat × List Int} (h : rs[k]? = some r) : flat rs = flat (rs.take k) ++ enc r.1 r.2 ++ flat (rs.drop (k + 1)) := by
  obtain ⟨hk, e⟩ := List.getElem?_eq_some_iff.mp h
  unfold flat
  conv => lhs; rw [← List.take_append_drop k rs]
  rw [List.flatMap_append, List.drop_eq_getElem_cons hk, e, List.flatMap_cons, List.append_assoc]
theorem flat_take {rs : List (Nat × List Int)} {k : Nat} {r : Nat × List Int} (h : rs[k]? = some r) : flat (rs.take (k + 1)) = flat (rs.take k) ++ enc r.1 r.2 := by
  obtain ⟨hk, e⟩ := List.getElem?_eq_some_iff.mp h
  unfold flat
  rw [List.take_succ_eq_append_getElem hk, List.flatMap_append, e]
  simp
theorem flat_len : ∀ {rs : List (Nat × List Int)}, (∀ r ∈ rs, r.2.length = (lets r.1).length) → ((flat rs).length : Int) = ((rs.map fun r => (1 : Int) + ((lets r.1).length : Nat))).sum
  | [], _ => rfl
  | r :: rs, h => by
    have ih := flat_len (rs := rs) fun x hx => h x (List.mem_cons_of_mem _ hx)
    have h1 := h r List.mem_cons_self
    unfold flat at ih ⊢
    rw [List.flatMap_cons, List.length_append, List.map_cons, List.sum_cons, ← ih]
    have e1 : (enc r.1 r.2).length = r.2.length + 1 := rfl
    omega
theorem kinds_ok : ∀ x ∈ kindL, PyData.strOk x = true := by decide +kernel
end PN
namespace PN
open PySem PySem.Spec PyProof.Rows L2 SX BB BD BQ
theorem paired_vals {α β : Type} {f : β → V} {xs : List α} {ys : List V} {P : α → β → Prop} (h : Paired (fun x y => ∃ z, y = f z ∧ P x z) xs ys) : ∃ zs : List β, ys = zs.map f ∧ Paired P xs zs := by
  induction h with
  | nil => exact ⟨[], rfl, .nil⟩
  | cons h1 _ ih =>
    obtain ⟨z, rfl, p⟩ := h1
    obtain ⟨zs, rfl, q⟩ := ih
    exact ⟨z :: zs, rfl, .cons p q⟩
theorem filter_true {α : Type} {l : List α} : l.filter (fun _ => true) = l := List.filter_eq_self.mpr fun _ _ => rfl
end PN
namespace PN
open PySem PySem.Spec PyProof.Rows L2 SX BB BD BQ
theorem sb_tup {K : PySem.W.Frag} {D p : Addr} {H H' : Hp} {xs : List V} (s : SB D H H') (d : ∃ zs, H D = some (.lst zs)) (h : SqT K H p xs) : SqT K H' p xs := by
  obtain ⟨zs, d⟩ := d
  rcases h with (h | ⟨o, h⟩) | h
  · exact .inl (.inl (s _ _ (ne_of h d (by intro z; cases z)) h))
  · exact .inl (.inr ⟨o, s _ _ (ne_of h d (by intro z; cases z)) h⟩)
  · exact .inr h
theorem sums_of {js : List Nat} (hj : ∀ j ∈ js, j < 18) : ∀ {zs : List Int}, Paired (fun (x : V) (z : Int) => ∀ j, j < 18 → x = V.str (kindS j) → z = 1 + ((lets j).length : Nat)) (js.map fun j => V.str (kindS j)) zs → zs = js.map fun j => (1 : Int) + ((lets j).length : Nat) := by
  induction js with
  | nil =>
    intro zs h
    cases h
    rfl
  | cons j js ih =>
    intro zs h
    cases h with
    | cons h1 h2 =>
      rw [List.map_cons, h1 j (hj j List.mem_cons_self) rfl, ih (fun x hx => hj x (List.mem_cons_of_mem _ hx)) h2]
theorem recs_of {js : List Nat} {G : Nat → List Int → Prop} {rs : List (Nat × List Int)} (h : Paired (fun (x : V) (r : Nat × List Int) => ∀ k : Nat, x = V.int (0 + (k : Int)) → js[k]? = some r.1 ∧ G r.1 r.2) ((List.range js.length).map fun k => V.int (0 + (k : Nat))) rs) : rs.map (·.1) = js ∧ ∀ r ∈ rs, G r.1 r.2 := by
  have hl := h.length
  rw [List.length_map, List.length_range] at hl
  have h2 := paired_mapL h
  have at_ : ∀ (k : Nat) (r : Nat × List Int), rs[k]? = some r → js[k]? = some r.1 ∧ G r.1 r.2 := fun k r e => by
    obtain ⟨x, hx, f⟩ := paired_at h2 e
    have hk : k < js.length := by
      have := (List.getElem?_eq_some_iff.mp e).1
      omega
    rw [List.getElem?_range hk] at hx
    cases hx
    exact f k rfl
  refine ⟨List.ext_getElem? fun k => ?_, fun r hr => ?_⟩
  · rw [List.getElem?_map]
    cases e : rs[k]? with
    | none =>
      have := List.getElem?_eq_none_iff.mp e
      rw [Option.map_none, List.getElem?_eq_none (by omega)]
    | some r =>
      rw [(at_ k r e).1]
      rfl
  · obtain ⟨k, hk⟩ := List.getElem?_of_mem hr
    exact (at_ k r hk).2
end PN
namespace PN
open PySem PySem.Spec PyProof.Rows L2 SX BB BD BQ
theorem flat_le : ∀ {rs : List (Nat × List Int)}, (∀ r ∈ rs, r.2.length ≤ 5) → (flat rs).length ≤ 6 * rs.length
  | [], _ => Nat.le_refl _
  | r :: rs, h => by
    have ih := flat_le (rs := rs) fun x hx => h x (List.mem_cons_of_mem _ hx)
    have h1 := h r List.mem_cons_self
    unfold flat at ih ⊢
    rw [List.flatMap_cons, List.length_append, List.length_cons]
    have e1 : (enc r.1 r.2).length = r.2.length + 1 := rfl
    omega
theorem range_snoc {f : Nat → V} {i : Nat} : ((List.range i).map f) ++ [f i] = (List.range (i + 1)).map f := by
  rw [List.range_succ, List.map_append]
  rfl
theorem put_ne {H : Hp} {a l : Addr} {xs ys zs : List V} (hl : H l = some (.lst ys)) (n : a ≠ l) (h : H a = some (.lst xs)) : upd H l (.lst zs) a = some (.lst xs) := by rw [upd_ne n]; exact h
end PN
set_option maxHeartbeats 4000000
/-! == of nested data that is the same -/
namespace BZ
open PySem PySem.Spec PyProof.Rows L2 SX BB BQ
def Sh (n : Nat) (d : PyData) : Prop := d.canLay0 = true ∧ d.depth ≤ n
theorem Sh.mono {n m : Nat} {d : PyData} (h : Sh n d) (l : n ≤ m) : Sh m d := ⟨h.1, Nat.le_trans h.2 l⟩
theorem sh_all {n : Nat} : ∀ {ds : List PyData}, (∀ d ∈ ds, Sh n d) → PyData.canLayAll0 ds = true ∧ PyData.depthAll ds ≤ n
  | [], _ => ⟨by rw [PyData.canLayAll0], by rw [PyData.depthAll]; exact Nat.zero_le _⟩
  | d :: ds, h => by
    have h1 := h d List.mem_cons_self
    have h2 := sh_all fun x hx => h x (List.mem_cons_of_mem _ hx)
    refine ⟨?_, ?_⟩
    · rw [PyData.canLayAll0, h1.1, h2.1]; rfl
    · rw [PyData.depthAll]
      exact Nat.max_le.mpr ⟨h1.2, h2.2⟩
theorem Sh.list {n : Nat} {ds : List PyData} (h : ∀ d ∈ ds, Sh n d) : Sh (n + 1) (.list ds) := ⟨by rw [PyData.canLay0]; exact (sh_all h).1, by rw [PyData.depth]; exact Nat.succ_le_succ (sh_all h).2⟩
theorem Sh.tuple {n : Nat} {ds : List PyData} (h : ∀ d ∈ ds, Sh n d) : Sh (n + 1) (.tuple ds) := ⟨by rw [PyData.canLay0]; exact (sh_all h).1, by rw [PyData.depth]; exact Nat.succ_le_succ (sh_all h).2⟩
theorem Sh.int {n : Nat} {i : Int} : Sh n (.int i) := ⟨by rw [PyData.canLay0], by rw [PyData.depth]; exact Nat.zero_le _⟩
theorem Sh.bl {n : Nat} {i : Bool} : Sh n (.bool i) := ⟨by rw [PyData.canLay0], by rw [PyData.depth]; exact Nat.zero_le _⟩
theorem Sh.non {n : Nat} : Sh n .none := ⟨by rw [PyData.canLay0], by rw [PyData.depth]; exact Nat.zero_le _⟩
theorem Sh.str {n : Nat} {x : Str} (h : PyData.strOk x = true) : Sh n (.str x) := ⟨by rw [PyData.canLay0]; exact h, by rw [PyData.depth]; exact Nat.zero_le _⟩
theorem Sh.shaped {d : PyData} (h : Sh 64 d) : SeqAt.shaped d = true := by
  show (d.canLay0 && decide (d.depth ≤ 64)) = true
  rw [h.1, decide_eq_true h.2]
  rfl
theorem Sh.refl {n : Nat} {d : PyData} (h : Sh n d) : PyData.eqv d d = true := PySem.SeqAt.eqv_refl d h.1
section
variable {K : PySem.W.Frag} {H : Hp} {x y : V} {d e : PyData} {Q : VK}
theorem ne_same (h1 : Dp K H x d) (h2 : Dp K H y d) (s : Sh 64 d) (q : Q (.bl false) H) : rNeD K x y H Q := ⟨d, d, h1, h2, s.shaped, s.shaped, by rw [s.refl]; exact q⟩
theorem eq_same (h1 : Dp K H x d) (h2 : Dp K H y d) (s : Sh 64 d) (q : Q (.bl true) H) : rEqD K x y H Q := ⟨d, d, h1, h2, s.shaped, s.shaped, by rw [s.refl]; exact q⟩
theorem dpAll {α : Type} {f : α → V} {g : α → PyData} : ∀ {xs : List α}, (∀ x ∈ xs, Dp K H (f x) (g x)) → DpAll K H (xs.map f) (xs.map g)
  | [], _ => .nil
  | x :: xs, h => .cons (h x List.mem_cons_self) (dpAll fun y hy => h y (List.mem_cons_of_mem _ hy))
theorem dpPaired {F : V → PyData → Prop} {vs : List V} {ds : List PyData} (h : Paired F vs ds) (w : ∀ v d, F v d → Dp K H v d) : DpAll K H vs ds := by
  induction h with
  | nil => exact .nil
  | cons h1 _ ih => exact .cons (w _ _ h1) ih
abbrev dInts (xs : List Int) : PyData := .list (xs.map .int)
abbrev dStrs (xs : List Str) : PyData := .list (xs.map .str)
theorem dp_ints {a : Addr} {xs : List Int} (h : SqL K H a (xs.map V.int)) : Dp K H (.ref a) (dInts xs) := .lst h (dpAll fun x _ => .int x)
theorem dp_strs {a : Addr} {xs : List Str} (h : SqL K H a (xs.map V.str)) : Dp K H (.ref a) (dStrs xs) := .lst h (dpAll fun x _ => .str x)
theorem sh_ints {n : Nat} {xs : List Int} : Sh (n + 1) (dInts xs) := .list fun d hd => by
  obtain ⟨x, _, rfl⟩ := List.mem_map.mp hd
  exact .int
theorem sh_strs {n : Nat} {xs : List Str} (h : ∀ x ∈ xs, PyData.strOk x = true) : Sh (n + 1) (dStrs xs) := .list fun d hd => by
  obtain ⟨x, hx, rfl⟩ := List.mem_map.mp hd
  exact .str (h x hx)
theorem ne_ints {a b : Addr} {xs : List Int} (h1 : SqL K H a (xs.map V.int)) (h2 : SqL K H b (xs.map V.int)) (q : Q (.bl false) H) : rNeD K (.ref a) (.ref b) H Q := ne_same (dp_ints h1) (dp_ints h2) sh_ints q
theorem eq_ints {a b : Addr} {xs : List Int} (h1 : SqL K H a (xs.map V.int)) (h2 : SqL K H b (xs.map V.int)) (q : Q (.bl true) H) : rEqD K (.ref a) (.ref b) H Q := eq_same (dp_ints h1) (dp_ints h2) sh_ints q
end
end BZ
set_option maxHeartbeats 4000000
set_option pp.deepTerms false
set_option pp.deepTerms.threshold 3
namespace K87
open PySem PySem.Spec PyProof.Rows L2 SX BB BD BQ BS BE PN
def topS (i : Nat) : Stmt := PySem.Challenge.pw_beatsbounded_k87_instructions_there_and.main.body.getD i (.Pass ⟨0, 0, 0, 0⟩)
theorem iteN {k : Bool} {A B : Prop} (h : k = false) (b : B) : if k = true then A else B := by rw [h]; exact iteF b
theorem iteY {k : Bool} {A B : Prop} (h : k = true) (a : A) : if k = true then A else B := by rw [h]; exact iteT a
/-- where the tables of the top stand -/
structure Top where
  (aK aO aS aT aA : Addr)
structure Txt (K : PySem.W.Frag) (w : World) (mg : Str → Option Value) (X : Top) : Prop where
  b_len : mg "len" = none
  b_int : mg "int" = none
  b_bool : mg "bool" = none
  b_str : mg "str" = none
  b_list : mg "list" = none
  b_tuple : mg "tuple" = none
  b_abs : mg "abs" = none
  b_min : mg "min" = none
  b_sum : mg "sum" = none
  b_range : mg "range" = none
  b_isinstance : mg "isinstance" = none
  c_LOW : ∃ u, mg "LOW" = some u ∧ RelV (.int (-9223372036854775808)) u
  c_HIGH : ∃ u, mg "HIGH" = some u ∧ RelV (.int 9223372036854775807) u
  c_MOST_CODE : ∃ u, mg "MOST_CODE" = some u ∧ RelV (.int 9999) u
  c_KINDS : ∃ u, mg "KINDS" = some u ∧ RelV (.ref X.aK) u
  c_OPERANDS : ∃ u, mg "OPERANDS" = some u ∧ RelV (.ref X.aO) u
  c_SOURCES : ∃ u, mg "SOURCES" = some u ∧ RelV (.ref X.aS) u
  c_TARGETS : ∃ u, mg "TARGETS" = some u ∧ RelV (.ref X.aT) u
  c_ACCESSES : ∃ u, mg "ACCESSES" = some u ∧ RelV (.ref X.aA) u
  kinds : ∀ H, SqT K H X.aK (kindL.map V.str)
  kindsK : ∃ o, K.lookup X.aK = some o ∧ o.cls = .type "tuple" ∧ o.dict = none
  ops : STab K w X.aO (fun x => (opsS.map fun p => (p.1, V.str p.2)).lookup x)
  srcs : ∃ f, STab K w X.aS f ∧ ∀ j, j < 18 → (srcOf j = [] ∧ f (kindS j) = none) ∨ ∃ p, f (kindS j) = some (.ref p) ∧ ∀ H, SqT K H p ((srcOf j).map fun k => .int ((k : Nat) : Int))
  tgts : ∀ H, SqT K H X.aT (tgtL.map V.str)
  accs : ∀ H, SqT K H X.aA (accL.map V.str)
local macro_rules | `(tactic| walk_at "side") => `(tactic| (try dsimp only) <;> (first | decide | omega | assumption | (unfold CMul; omega) | (unfold CDiv; omega)))
local macro_rules | `(tactic| walk_at "sq") => `(tactic| first
  | assumption
  | exact new_tup
  | exact same_tup (by assumption) (by assumption)
  | (refine same_tup (same_new (by assumption)) ?_; walk_at "sq"))
local macro_rules | `(tactic| walk_at "rd") => `(tactic| first
  | refine ⟨_, rfl, ?_⟩
  | refine ⟨_, _, _, _, rfl, rfl, (by walk_at "sq"), atI_of (j := 0) rfl, ?_⟩
  | refine ⟨_, _, _, _, rfl, rfl, (by walk_at "sq"), atI_of (j := 1) rfl, ?_⟩
  | refine ⟨_, _, rfl, rfl, ?_⟩
  | refine ⟨_, _, rfl, ?_⟩
  | refine And.intro rfl ?_
  | refine And.intro (by walk_at "side") ?_
  | refine Or.inl ⟨_, rfl, ?_⟩)
local macro_rules | `(tactic| walk_at "no") => `(tactic| refine ⟨_, rfl, rfl, _, rfl, iteN (by decide +kernel) ?_⟩)
local macro_rules | `(tactic| walk_at "yes") => `(tactic| refine ⟨_, rfl, rfl, _, rfl, iteY (by decide +kernel) ?_⟩)
local macro_rules | `(tactic| walk_at "rds") => `(tactic| repeat (walk_at "rd"))
section
variable {P : Program} {w : World} {K : PySem.W.Frag} {mg : Str → Option Value} {base : Heap} {X : Top} {eB : Addr}

abbrev s_is_word : Stmt := topS 7
abbrev N_is_word : List Str := ["n"]
abbrev P_is_word : List Str := ["n"]
theorem sc_is_word : FnScope N_is_word P_is_word (defScope s_is_word) := ⟨rfl, rfl, rfl, by decide +kernel, rfl, by decide +kernel, by decide +kernel⟩
-- slots: n=0
def spIsW : Sp := fun vs H Q _ => ∃ n : Int, vs = [.int n] ∧ Q (.bl (isW n)) H
theorem cal_is_word (T : Txt K w mg X) (D : Def K mg "is_word" P_is_word s_is_word) : Cal P w K mg base 1 "is_word" P_is_word spIsW := by
  refine cal0 D sc_is_word (fun vs H Q E h => ?_) (fun f cdv A outer s H vs Q E hr h => ?_)
  · obtain ⟨n, rfl, _⟩ := h; rfl
  · obtain ⟨n, rfl, q⟩ := h
    have nd := sc_is_word.nd
    refine ⟨_, (pss_one (ps_ret (pe_chain op_le op_le (pe_gc rfl T.c_LOW) (pv 0) (pe_gc rfl T.c_HIGH)))), ?_⟩
    walk_at "rds"
    unfold isW at q
    refine ite2 (fun h => ?_) (fun h => ?_)
    · rw [h, Bool.true_and] at q
      walk_at "rds"
      exact q
    · have h : decide (LO ≤ n) = false := by simpa using h
      rw [h, Bool.false_and] at q
      exact q

abbrev s_size : Stmt := topS 15
abbrev N_size : List Str := ["kind"]
abbrev P_size : List Str := ["kind"]
theorem sc_size : FnScope N_size P_size (defScope s_size) := ⟨rfl, rfl, rfl, by decide +kernel, rfl, by decide +kernel, by decide +kernel⟩
-- slots: kind=0
def spSize : Sp := fun vs H Q _ => ∃ j : Nat, vs = [.str (kindS j)] ∧ j < 18 ∧ Q (.int (1 + ((lets j).length : Nat))) H
theorem cal_size (T : Txt K w mg X) (D : Def K mg "size" P_size s_size) : Cal P w K mg base 1 "size" P_size spSize := by
  refine cal0 D sc_size (fun vs H Q E h => ?_) (fun f cdv A outer s H vs Q E hr h => ?_)
  · obtain ⟨j, rfl, _⟩ := h; rfl
  · obtain ⟨j, rfl, hj, q⟩ := h
    have nd := sc_size.nd
    refine ⟨_, (pss_one (ps_ret (pe_op op_add pe_int (pe_callB call_len_str (by rfl) T.b_len PySem.boot_len (pa_cons (pe_ix ix_tab (pe_gc rfl T.c_OPERANDS) (pv 0) (fun _ _ => rfl)) pa_nil))))), ?_⟩
    refine ⟨_, rfl, X.aO, _, kindS j, .str (S (lets j)), rfl, rfl, T.ops, by rw [lookup_map, ops_at j hj]; rfl, ?_⟩
    refine ⟨_, rfl, lets_size hj, _, _, rfl, rfl, ?_⟩
    rw [S_len]
    exact q

abbrev s_sources : Stmt := topS 16
abbrev N_sources : List Str := ["instruction", "k"]
abbrev P_sources : List Str := ["instruction"]
theorem sc_sources : FnScope N_sources P_sources (defScope s_sources) := ⟨rfl, rfl, rfl, by decide +kernel, rfl, by decide +kernel, by decide +kernel⟩
-- slots: instruction=0 k=1
def spSrc (K : PySem.W.Frag) : Sp := fun vs H Q _ => ∃ (p : Addr) (j : Nat) (ops : List Int), vs = [.ref p] ∧ j < 18 ∧ ops.length = (lets j).length ∧ SqT K H p (insV j ops) ∧ ∀ p H', Same H H' → SqT K H' p ((srcOf j).map fun k => .int (ops.getD (k - 1) 0)) → Q (.ref p) H'
theorem cal_sources (T : Txt K w mg X) (D : Def K mg "sources" P_sources s_sources) : Cal P w K mg base 1 "sources" P_sources (spSrc K) := by
  refine cal0 D sc_sources (fun vs H Q E h => ?_) (fun f cdv A outer s H vs Q E hr h => ?_)
  · obtain ⟨p, j, ops, rfl, _⟩ := h; rfl
  · obtain ⟨p, j, ops, rfl, hj, hl, hp, q⟩ := h
    have nd := sc_sources.nd
    refine ⟨_, (pss_one (ps_ret (pe_callTy cs_tuple (by rfl) T.b_tuple (by decide +kernel) (pa_cons (pe_lc (own := [("k", 1)]) (g := gName 1) (tt := tYes) rfl nd (pi_tup (pe_tget2 (pe_gc rfl T.c_SOURCES) (pe_ix ix_tup (pv 0) pe_int (fun _ _ => rfl)) (pe_tup pa_nil) ⟨rfl, rfl, rfl, rfl⟩)) (blkOk_by (own := [("k", 1)]) (N := N_sources) (sc := defScope s_sources) (by decide +kernel)) (fun _ _ _ _ _ => (pg_name (i := 1) nd rfl (.inl rfl))) (fun _ _ _ _ _ => pts_nil) (fun _ _ _ _ _ => (pe_ix (r := rIxT K) ix_tup (pv 0) (pv 1) (fun _ _ => rfl)))) pa_nil)))), ?_⟩
    obtain ⟨f, hS, hf⟩ := T.srcs
    unfold insV at hp
    refine ⟨X.aS, f, rfl, hS, ?_⟩
    refine ⟨_, rfl, _, _, _, _, rfl, rfl, hp, atI_of (j := 0) rfl, by show 0 ≤ sizeLine; decide, fun pz nz => ⟨kindS j, rfl, ?_⟩⟩
    have key : ∃ a2, (f (kindS j)).getD (.ref pz) = .ref a2 ∧ SqT K (upd H pz (.tup [])) a2 ((srcOf j).map fun k => .int ((k : Nat) : Int)) := by
      rcases hf j hj with ⟨e1, e2⟩ | ⟨p2, e1, e2⟩
      · exact ⟨pz, by rw [e2]; rfl, by rw [e1]; exact new_tup⟩
      · exact ⟨p2, by rw [e1]; rfl, e2 _⟩
    obtain ⟨a2, ea, sa⟩ := key
    have hp2 : SqT K (upd H pz (.tup [])) p _ := same_tup (same_new nz) hp
    refine ⟨a2, ea, ⟨_, sa⟩, fun D hD => ?_⟩
    refine lcG src_tup hD ?_ (fun _ => true) (fun x y _ => y = match x with | .int i => .int (ops.getD (i.toNat - 1) 0) | _ => .non) (fun H s => same_tup s sa) (fun _ _ _ _ _ _ h => h) (fun x hx H4 Qy Qn s4 qy _ => ?_) (fun H5 ys s5 hDy pr => ?_)
    · have := List.length_filter_le (fun _ => true) (srcOf j)
      have : ∀ j, j < 18 → (srcOf j).length < 1000000 := by decide +kernel
      rw [List.length_map]
      exact this j hj
    · obtain ⟨k, hk, rfl⟩ := List.mem_map.mp hx
      obtain ⟨k1, k2⟩ := src_ok j hj k hk
      refine ⟨rfl, ?_⟩
      refine iteT (B := Qn H4) ?_
      refine ⟨_, rfl, _, rfl, _, _, _, .int (ops.getD (k - 1) 0), rfl, rfl, same_tup s4 hp2, atI_of (j := k) ?_, qy _ _ (Same.refl _) rfl ?_⟩
      · obtain ⟨k, rfl⟩ : ∃ k', k = k' + 1 := ⟨k - 1, by omega⟩
        have hlt : k < ops.length := by omega
        show (ops.map V.int)[k]? = _
        simp [List.getD, List.getElem?_eq_getElem hlt]
      · simp
    · rw [List.filter_eq_self.mpr (fun _ _ => rfl)] at pr
      have e := paired_map (f := fun (x : V) => match x with | V.int i => V.int (ops.getD (i.toNat - 1) 0) | _ => V.non) pr
      subst e
      refine ⟨D, _, rfl, .inl (SqL.of hDy), fun p' H6 s6 h6 => q p' H6 (((same_new nz).trans s5).trans s6) ?_⟩
      rw [List.map_map] at h6
      exact h6

abbrev s_target : Stmt := topS 17
abbrev N_target : List Str := ["instruction"]
abbrev P_target : List Str := ["instruction"]
theorem sc_target : FnScope N_target P_target (defScope s_target) := ⟨rfl, rfl, rfl, by decide +kernel, rfl, by decide +kernel, by decide +kernel⟩
-- slots: instruction=0
def tgtV (j : Nat) (ops : List Int) : V := if hasT j then .int (ops.getD 0 0) else .non
def spTgt (K : PySem.W.Frag) : Sp := fun vs H Q _ => ∃ (p : Addr) (j : Nat) (ops : List Int), vs = [.ref p] ∧ j < 18 ∧ ops.length = (lets j).length ∧ SqT K H p (insV j ops) ∧ Q (tgtV j ops) H
theorem cal_target (T : Txt K w mg X) (D : Def K mg "target" P_target s_target) : Cal P w K mg base 1 "target" P_target (spTgt K) := by
  refine cal0 D sc_target (fun vs H Q E h => ?_) (fun f cdv A outer s H vs Q E hr h => ?_)
  · obtain ⟨p, j, ops, rfl, _⟩ := h; rfl
  · obtain ⟨p, j, ops, rfl, hj, hl, hp, q⟩ := h
    have nd := sc_target.nd
    refine ⟨_, (pss_cons (ps_if (pt_cmpR op_in_seq (pe_ix ix_tup (pv 0) pe_int (fun _ _ => rfl)) (pe_gc rfl T.c_TARGETS) rfl) (pss_one (ps_ret (pe_ix ix_tup (pv 0) pe_int (fun _ _ => rfl)))) pss_nil)
    (pss_one (ps_ret pe_non))), ?_⟩
    unfold insV at hp
    refine ⟨_, rfl, _, _, _, _, rfl, rfl, hp, atI_of (j := 0) rfl, X.aT, _, rfl, .inr (T.tgts _), rfl, by decide +kernel, ?_⟩
    rw [tgt_in j hj]
    unfold tgtV at q
    cases ht : hasT j
    · rw [ht] at q
      exact ⟨_, rfl, iteF q⟩
    · have := tgt_ok j hj ht
      rw [ht] at q
      refine ⟨_, rfl, iteT ⟨_, rfl, _, _, _, _, rfl, rfl, hp, atI_of (j := 1) (v := .int (ops.getD 0 0)) ?_, q⟩⟩
      have hlt : 0 < ops.length := by omega
      show (ops.map V.int)[0]? = _
      simp [List.getD, List.getElem?_eq_getElem hlt]

abbrev s_accesses : Stmt := topS 18
abbrev N_accesses : List Str := ["instruction"]
abbrev P_accesses : List Str := ["instruction"]
theorem sc_accesses : FnScope N_accesses P_accesses (defScope s_accesses) := ⟨rfl, rfl, rfl, by decide +kernel, rfl, by decide +kernel, by decide +kernel⟩
-- slots: instruction=0
def spAcc (K : PySem.W.Frag) : Sp := fun vs H Q _ => ∃ (p : Addr) (j : Nat) (ops : List Int), vs = [.ref p] ∧ j < 18 ∧ ops.length = (lets j).length ∧ SqT K H p (insV j ops) ∧ Q (.bl (isAcc j)) H
theorem cal_accesses (T : Txt K w mg X) (D : Def K mg "accesses" P_accesses s_accesses) : Cal P w K mg base 1 "accesses" P_accesses (spAcc K) := by
  refine cal0 D sc_accesses (fun vs H Q E h => ?_) (fun f cdv A outer s H vs Q E hr h => ?_)
  · obtain ⟨p, j, ops, rfl, _⟩ := h; rfl
  · obtain ⟨p, j, ops, rfl, hj, hl, hp, q⟩ := h
    have nd := sc_accesses.nd
    refine ⟨_, (pss_one (ps_ret (pe_cmpR op_in_seq (pe_ix ix_tup (pv 0) pe_int (fun _ _ => rfl)) (pe_gc rfl T.c_ACCESSES) rfl))), ?_⟩
    unfold insV at hp
    refine ⟨_, rfl, _, _, _, _, rfl, rfl, hp, atI_of (j := 0) rfl, X.aA, _, rfl, .inr (T.accs _), rfl, by decide +kernel, ?_⟩
    rw [acc_in j hj]
    exact q

abbrev s_encode : Stmt := topS 19
abbrev N_encode : List Str := ["instruction"]
abbrev P_encode : List Str := ["instruction"]
theorem sc_encode : FnScope N_encode P_encode (defScope s_encode) := ⟨rfl, rfl, rfl, by decide +kernel, rfl, by decide +kernel, by decide +kernel⟩
-- slots: instruction=0
def spEnc (K : PySem.W.Frag) : Sp := fun vs H Q _ => ∃ (p : Addr) (j : Nat) (ops : List Int), vs = [.ref p] ∧ j < 18 ∧ ops.length = (lets j).length ∧ SqT K H p (insV j ops) ∧ ∀ p H', H p = none → Same H H' → H' p = some (.lst ((enc j ops).map V.int)) → Q (.ref p) H'
theorem cal_encode (T : Txt K w mg X) (D : Def K mg "encode" P_encode s_encode) : Cal P w K mg base 1 "encode" P_encode (spEnc K) := by
  refine cal0 D sc_encode (fun vs H Q E h => ?_) (fun f cdv A outer s H vs Q E hr h => ?_)
  · obtain ⟨p, j, ops, rfl, _⟩ := h; rfl
  · obtain ⟨p, j, ops, rfl, hj, hl, hp, q⟩ := h
    have nd := sc_encode.nd
    refine ⟨_, (pss_one (ps_ret (pe_op op_cat (pe_lst (pa_cons (pe_op op_add (pe_bm PySem.F.plainAttrs_tuple slot_tuple_index type_tuple_index mt_tidx (pe_gc rfl T.c_KINDS) (pa_cons (pe_ix ix_tup (pv 0) pe_int (fun _ _ => rfl)) pa_nil)) pe_int) pa_nil)) (pe_callTy call_list_of (by rfl) T.b_list (by decide +kernel) (pa_cons (pe_slice sl_any (pv 0) (po_some pe_int) po_none) pa_nil))))), ?_⟩
    unfold insV at hp
    refine ⟨.inr (.inl ⟨rfl, T.kindsK⟩), _, rfl, _, _, _, _, rfl, rfl, hp, atI_of (j := 0) rfl, _, kindL, kindS j, rfl, rfl, T.kinds _, kind_mem j hj, ?_⟩
    rw [kind_idx j hj]
    refine ⟨_, _, rfl, rfl, by show 1 ≤ sizeLine; decide, fun p1 n1 => ?_⟩
    refine ⟨_, rfl, _, rfl, _, _, rfl, .inr ⟨same_tup (same_new n1) hp, fun p2 H2 s2 g2 => ?_⟩⟩
    refine ⟨p2, _, rfl, .inr g2, fun l hl2 => ?_⟩
    have hs := let_short j hj
    refine ⟨p1, l, [.int ((j : Nat) + 1)], ops.map V.int, rfl, rfl, same_new hl2 _ _ (s2 _ _ upd_same), ?_, ?_, fun p np => q p _ (none_of (((same_new n1).trans s2).trans (same_new hl2)) np) (((same_new n1).trans s2).trans ((same_new hl2).trans (same_new np))) ?_⟩
    · show upd H2 l _ l = _
      rw [upd_same]
      congr 2
      show cutV _ (some ((1 : Nat) : Int)) none = _
      unfold cutV
      rw [sIx_nat, sIx_none]
      simp
      exact List.take_of_length_le (by rw [List.length_map]; exact Nat.le_refl _)
    · rw [List.length_map, sizeLine_eq]
      simp
      omega
    · rw [upd_same]
      simp [enc]

abbrev s_fits : Stmt := topS 20
abbrev N_fits : List Str := ["letter", "operand", "behind", "bounds", "slots", "registers", "cells"]
abbrev P_fits : List Str := ["letter", "operand", "behind", "bounds"]
theorem sc_fits : FnScope N_fits P_fits (defScope s_fits) := ⟨rfl, rfl, rfl, by decide +kernel, rfl, by decide +kernel, by decide +kernel⟩
-- slots: letter=0 operand=1 behind=2 bounds=3 slots=4 registers=5 cells=6
def spFits (K : PySem.W.Frag) : Sp := fun vs H Q _ => ∃ (c : Nat) (a b T R C : Int) (p : Addr), vs = [.str (S [c]), .int a, .int b, .ref p] ∧ c ∈ [114, 107, 99, 112, 98, 110, 102] ∧ SqT K H p [.int T, .int R, .int C] ∧ Q (.bl (fitsZ c a b T R C)) H
theorem cal_fits (T : Txt K w mg X) (D : Def K mg "fits" P_fits s_fits) (c_is_word : Cal P w K mg base 1 "is_word" P_is_word spIsW) : Cal P w K mg base 2 "fits" P_fits (spFits K) := by
  refine cal0 D sc_fits (fun vs H Q E h => ?_) (fun f cdv A outer s H vs Q E hr h => ?_)
  · obtain ⟨c, a, b, tt, rr, cc, p, rfl, _⟩ := h; rfl
  · obtain ⟨c, a, b, tt, rr, cc, p, rfl, hc, hp, q⟩ := h
    have nd := sc_fits.nd
    refine ⟨_, (pss_cons (ps_asg (pv 3) (pg_tup rfl (pgs_cons (pg_name (i := 4) nd rfl (.inl rfl)) (pgs_cons (pg_name (i := 5) nd rfl (.inl rfl)) (pgs_cons (pg_name (i := 6) nd rfl (.inl rfl)) pgs_nil)))))
    (pss_cons (ps_if (pt_cmpR op_eq (pv 0) pe_str (nomark _)) (pss_one (ps_ret (pe_chain op_le op_lt pe_int (pv 1) (pv 5)))) pss_nil)
    (pss_cons (ps_if (pt_cmpR op_eq (pv 0) pe_str (nomark _)) (pss_one (ps_ret (pe_c c_is_word hr (by decide) rfl (pa_cons (pv 1) pa_nil)))) pss_nil)
    (pss_cons (ps_if (pt_cmpR op_eq (pv 0) pe_str (nomark _)) (pss_one (ps_ret (pe_chain op_le op_lt pe_int (pv 1) (pv 6)))) pss_nil)
    (pss_cons (ps_if (pt_cmpR op_eq (pv 0) pe_str (nomark _)) (pss_one (ps_ret (pe_chain op_le op_lt pe_int (pv 1) (pv 4)))) pss_nil)
    (pss_cons (ps_if (pt_cmpR op_eq (pv 0) pe_str (nomark _)) (pss_one (ps_ret (pe_and (pe_cmpR op_le pe_int (pv 1) (nomark _)) (pe_and (pe_cmpR op_le pe_int (pv 2) (nomark _)) (pe_one (pe_cmpR op_le (pe_op op_add (pv 1) (pv 2)) (pv 6) (nomark _))))))) pss_nil)
    (pss_cons (ps_if (pt_cmpR op_eq (pv 0) pe_str (nomark _)) (pss_one (ps_ret (pe_chain op_le op_le pe_int (pv 1) (pe_gc rfl T.c_MOST_CODE)))) pss_nil)
    (pss_one (ps_ret pe_bl))))))))), ?_⟩
    refine ⟨_, rfl, p, _, rfl, hp, rfl, ?_⟩
    simp only [List.mem_cons, List.mem_nil_iff, or_false] at hc
    rcases hc with rfl | rfl | rfl | rfl | rfl | rfl | rfl
    all_goals refine ⟨_, _, rfl, _, _, rfl, _, _, rfl, rfl, ?_⟩
    · walk_at "yes"
      have q : Q (.bl (decide (0 ≤ a) && decide (a < rr))) H := q
      walk_at "rds"
      refine ite2 (fun h => ?_) (fun h => ?_)
      · rw [h, Bool.true_and] at q
        walk_at "rds"
        exact q
      · have h : decide (0 ≤ a) = false := by simpa using h
        rw [h, Bool.false_and] at q
        exact q
    · walk_at "no"; walk_at "yes"
      exact ⟨_, rfl, _, rfl, q⟩
    · walk_at "no"; walk_at "no"; walk_at "yes"
      have q : Q (.bl (decide (0 ≤ a) && decide (a < cc))) H := q
      walk_at "rds"
      refine ite2 (fun h => ?_) (fun h => ?_)
      · rw [h, Bool.true_and] at q
        walk_at "rds"
        exact q
      · have h : decide (0 ≤ a) = false := by simpa using h
        rw [h, Bool.false_and] at q
        exact q
    · walk_at "no"; walk_at "no"; walk_at "no"; walk_at "yes"
      have q : Q (.bl (decide (0 ≤ a) && decide (a < tt))) H := q
      walk_at "rds"
      refine ite2 (fun h => ?_) (fun h => ?_)
      · rw [h, Bool.true_and] at q
        walk_at "rds"
        exact q
      · have h : decide (0 ≤ a) = false := by simpa using h
        rw [h, Bool.false_and] at q
        exact q
    · walk_at "no"; walk_at "no"; walk_at "no"; walk_at "no"; walk_at "yes"
      have q : Q (.bl (decide (0 ≤ a) && (decide (1 ≤ b) && decide (a + b ≤ cc)))) H := q
      walk_at "rds"
      refine ite2 (fun h => ?_) (fun h => ?_)
      · rw [h, Bool.true_and] at q
        walk_at "rds"
        refine ite2 (fun h => ?_) (fun h => ?_)
        · rw [h, Bool.true_and] at q
          walk_at "rds"
          exact q
        · have h : decide (1 ≤ b) = false := by simpa using h
          rw [h, Bool.false_and] at q
          exact q
      · have h : decide (0 ≤ a) = false := by simpa using h
        rw [h, Bool.false_and] at q
        exact q
    · walk_at "no"; walk_at "no"; walk_at "no"; walk_at "no"; walk_at "no"; walk_at "no"
      exact q
    · walk_at "no"; walk_at "no"; walk_at "no"; walk_at "no"; walk_at "no"; walk_at "yes"
      have q : Q (.bl (decide (1 ≤ a) && decide (a ≤ 9999))) H := q
      walk_at "rds"
      refine ite2 (fun h => ?_) (fun h => ?_)
      · rw [h, Bool.true_and] at q
        walk_at "rds"
        exact q
      · have h : decide (1 ≤ a) = false := by simpa using h
        rw [h, Bool.false_and] at q
        exact q

abbrev s_decode : Stmt := topS 21
abbrev N_decode : List Str := ["slots", "place", "registers", "cells", "op", "kind", "letters", "operands", "bounds", "k", "behind"]
abbrev P_decode : List Str := ["slots", "place", "registers", "cells"]
theorem sc_decode : FnScope N_decode P_decode (defScope s_decode) := ⟨rfl, rfl, rfl, by decide +kernel, rfl, by decide +kernel, by decide +kernel⟩
-- slots: slots=0 place=1 registers=2 cells=3 op=4 kind=5 letters=6 operands=7 bounds=8 k=9 behind=10
def spDec (K : PySem.W.Frag) (eB : Addr) : Sp := fun vs H Q E => ∃ (a : Addr) (xs : List Int) (place R C : Int), vs = [.ref a, .int place, .int R, .int C] ∧ SqA K H a (xs.map V.int) ∧ place.natAbs < 2 ^ 64 ∧ xs.length ≤ 1000000 ∧
  (∀ j ops, decZ xs place R C = some (j, ops) → j < 18 → ∀ p H', Same H H' → SqT K H' p (insV j ops) → Q (.ref p) H') ∧ (decZ xs place R C = none → ∀ d H', Same H H' → H' d = some (.xd [("place", .int place)]) → E (.ref eB) (some d) H')
theorem cal_decode (T : Txt K w mg X) (D : Def K mg "decode" P_decode s_decode) (E_BadImage : Err P w K mg base "BadImage" eB "place") (c_fits : Cal P w K mg base 2 "fits" P_fits (spFits K)) : Cal P w K mg base 3 "decode" P_decode (spDec K eB) := by
  refine calX D sc_decode (fun vs H Q E h => ?_) (fun f cdv A outer s H vs Q E hr h => ?_)
  · obtain ⟨a, xs, place, rr, cc, rfl, _⟩ := h; rfl
  · obtain ⟨a, xs, place, rr, cc, rfl, hs, hb, hx, q, e⟩ := h
    have nd := sc_decode.nd
    refine ⟨_, (pss_cons (ps_if (pt_not (pt_chain op_le op_lt pe_int (pv 1) (pe_callB call_len_seq (by rfl) T.b_len PySem.boot_len (pa_cons (pv 0) pa_nil)))) (pss_one (ps_raise rfl (takes_of rfl rfl rfl rfl) (pmk_err E_BadImage hr (by decide) rfl (pv 1)))) pss_nil)
    (pss_cons (ps_set (i := 4) nd rfl (.inl rfl) (pe_ix ix_sqa (pv 0) (pv 1) (fun _ _ => rfl)))
    (pss_cons (ps_if (pt_not (pt_chain op_le op_le pe_int (pv 4) (pe_callB call_len_seq (by rfl) T.b_len PySem.boot_len (pa_cons (pe_gc rfl T.c_KINDS) pa_nil)))) (pss_one (ps_raise rfl (takes_of rfl rfl rfl rfl) (pmk_err E_BadImage hr (by decide) rfl (pv 1)))) pss_nil)
    (pss_cons (ps_set (i := 5) nd rfl (.inl rfl) (pe_ix ix_tup (pe_gc rfl T.c_KINDS) (pe_op op_sub (pv 4) pe_int) (fun _ _ => rfl)))
    (pss_cons (ps_set (i := 6) nd rfl (.inl rfl) (pe_ix ix_tab (pe_gc rfl T.c_OPERANDS) (pv 5) (fun _ _ => rfl)))
    (pss_cons (ps_set (i := 7) nd rfl (.inl rfl) (pe_callTy cs_tuple (by rfl) T.b_tuple (by decide +kernel) (pa_cons (pe_slice sl_any (pv 0) (po_some (pe_op op_add (pv 1) pe_int)) (po_some (pe_op op_add (pe_op op_add (pv 1) pe_int) (pe_callB call_len_str (by rfl) T.b_len PySem.boot_len (pa_cons (pv 6) pa_nil))))) pa_nil)))
    (pss_cons (ps_if (pt_cmpR op_lt (pe_callB call_len_seq (by rfl) T.b_len PySem.boot_len (pa_cons (pv 7) pa_nil)) (pe_callB call_len_str (by rfl) T.b_len PySem.boot_len (pa_cons (pv 6) pa_nil)) (nomark _)) (pss_one (ps_raise rfl (takes_of rfl rfl rfl rfl) (pmk_err E_BadImage hr (by decide) rfl (pv 1)))) pss_nil)
    (pss_cons (ps_set (i := 8) nd rfl (.inl rfl) (pe_tup (pa_cons (pe_callB call_len_seq (by rfl) T.b_len PySem.boot_len (pa_cons (pv 0) pa_nil)) (pa_cons (pv 2) (pa_cons (pv 3) pa_nil)))))
    (pss_cons (ps_for (passes_of rfl) rfl (pi_range1 (by rfl) T.b_range (pa_cons (pe_callB call_len_str (by rfl) T.b_len PySem.boot_len (pa_cons (pv 6) pa_nil)) pa_nil)) (pg_name (i := 9) nd rfl (.inl rfl))
      (C8.pss_cut (ps_set (i := 10) nd rfl (.inl rfl) (pe_ifExp (pt_cmpR op_lt (pe_op op_add (pv 9) pe_int) (pe_callB call_len_seq (by rfl) T.b_len PySem.boot_len (pa_cons (pv 7) pa_nil)) (nomark _)) (pe_ix ix_tup (pv 7) (pe_op op_add (pv 9) pe_int) (fun _ _ => rfl)) pe_int))
    (pss_one (ps_if (pt_not (pt_val (pe_c c_fits hr (by decide) rfl (pa_cons (pe_ix ix_str (pv 6) (pv 9) (fun _ _ => rfl)) (pa_cons (pe_ix ix_tup (pv 7) (pv 9) (fun _ _ => rfl)) (pa_cons (pv 10) (pa_cons (pv 8) pa_nil))))))) (pss_one (ps_raise rfl (takes_of rfl rfl rfl rfl) (pmk_err E_BadImage hr (by decide) rfl (pv 1)))) pss_nil))))
    (pss_one (ps_ret (pe_op op_catTup (pe_tup (pa_cons (pv 5) pa_nil)) (pv 7))))))))))))), ?_⟩
    have rz : ∀ H1, Same H H1 → decZ xs place rr cc = none → ∀ v, v = V.int place → OkArg v ∧ ∀ d H2, Same H1 H2 → H2 d = some (.xd [("place", v)]) → E (.ref eB) (some d) H2 := fun H1 s1 h v ev => by
      subst ev
      exact ⟨.small hb, fun d H2 s2 g => e h d H2 (s1.trans s2) g⟩
    have sl : ∀ H1, Same H H1 → SqA K H1 a (xs.map V.int) := fun H1 s => same_sqa s hs
    have ln : ((xs.map V.int).length : Int) = xs.length := by rw [List.length_map]
    have hsz : xs.length ≤ sizeLine := by rw [sizeLine_eq]; omega
    refine ⟨_, rfl, _, _, rfl, rfl, _, rfl, ?_⟩
    refine ite2 (fun h0 => ?_) (fun h0 => ?_)
    rotate_left
    · refine ⟨_, rfl, ?_⟩
      refine iteT ?_
      refine ⟨_, rfl, rz _ (Same.refl _) (dec_out (.inl ?_)) _ rfl⟩
      have : ¬ (0 ≤ place) := fun z => h0 (decide_eq_true z)
      omega
    have h0 := of_decide_eq_true h0
    refine ⟨_, rfl, a, _, rfl, hs, _, _, rfl, rfl, _, rfl, ?_⟩
    rw [ln]
    cases h1 : decide (place < xs.length)
    · refine iteT ?_
      refine ⟨_, rfl, rz _ (Same.refl _) (dec_out (.inr ?_)) _ rfl⟩
      have := of_decide_eq_false h1
      omega
    have h1 := of_decide_eq_true h1
    refine iteF ?_
    obtain ⟨n, rfl⟩ : ∃ n : Nat, place = n := ⟨place.toNat, by omega⟩
    have hn : n < xs.length := by omega
    refine ⟨_, rfl, _, rfl, a, _, _, .int (xs.getD n 0), rfl, rfl, hs, atI_of (j := n) (at_ints hn), ?_⟩
    generalize eop : xs.getD n 0 = op
    refine ⟨_, rfl, _, _, rfl, rfl, _, rfl, ?_⟩
    refine ite2 (fun h2 => ?_) (fun h2 => ?_)
    rotate_left
    · refine ⟨_, rfl, ?_⟩
      refine iteT ?_
      refine ⟨_, rfl, rz _ (Same.refl _) (dec_op (.inl ?_)) _ rfl⟩
      have : ¬ (1 ≤ op) := fun z => h2 (decide_eq_true z)
      omega
    have h2 := of_decide_eq_true h2
    refine ⟨X.aK, _, rfl, .inr (T.kinds _), _, _, rfl, rfl, _, rfl, ?_⟩
    cases h3 : decide (op ≤ ((kindL.map V.str).length : Nat))
    · refine iteT ?_
      refine ⟨_, rfl, rz _ (Same.refl _) (dec_op (.inr ?_)) _ rfl⟩
      have h3 : ¬ (op ≤ ((18 : Nat) : Int)) := of_decide_eq_false h3
      omega
    have h3 : op ≤ ((18 : Nat) : Int) := of_decide_eq_true h3
    refine iteF ?_
    obtain ⟨j, rfl⟩ : ∃ j : Nat, op = (j : Int) + 1 := ⟨(op - 1).toNat, by omega⟩
    have hj : j < 18 := by omega
    refine ⟨_, rfl, _, _, rfl, rfl, _, _, _, .str (kindS j), rfl, rfl, T.kinds _, ?_, ?_⟩
    · rw [show (j : Int) + 1 - 1 = (j : Nat) by omega]
      exact atI_of (by rw [List.getElem?_map, kind_at j hj]; rfl)
    refine ⟨_, rfl, X.aO, _, kindS j, .str (S (lets j)), rfl, rfl, T.ops, by rw [lookup_map, ops_at j hj]; rfl, ?_⟩
    have hlt := let_short j hj
    refine ⟨_, rfl, _, rfl, _, _, rfl, rfl, _, rfl, _, rfl, _, _, rfl, rfl, _, rfl, _, rfl, lets_size hj, _, _, rfl, rfl, _, rfl, ?_⟩
    rw [S_len]
    refine rSlQ_any rfl hs fun p1 H1 s1 g1 => ⟨p1, _, rfl, g1, fun p2 H2 s2 g2 => ?_⟩
    rw [show (n : Int) + 1 = ((n + 1 : Nat) : Int) by omega, show ((n + 1 : Nat) : Int) + ((lets j).length : Nat) = ((n + 1 + (lets j).length : Nat) : Int) by omega, cutV_nat, show n + 1 + (lets j).length - (n + 1) = (lets j).length by omega, ← List.map_drop, ← List.map_take] at g2
    have s02 := s1.trans s2
    generalize eops : (xs.drop (n + 1)).take (lets j).length = ops at g2
    have hops : ops.length ≤ (lets j).length := by rw [← eops, List.length_take]; omega
    refine ⟨_, rfl, p2, _, rfl, .inr g2, _, rfl, _, rfl, lets_size hj, _, _, rfl, rfl, _, rfl, ?_⟩
    rw [S_len, List.length_map]
    cases h4 : decide ((ops.length : Int) < ((lets j).length : Nat))
    rotate_left
    · refine iteT ?_
      have h4 := of_decide_eq_true h4
      exact ⟨_, rfl, rz _ s02 (dec_none eop (by rw [eops]; omega)) _ rfl⟩
    have h4 := of_decide_eq_false h4
    have hol : ops.length = (lets j).length := by omega
    refine iteF ?_
    refine ⟨_, rfl, a, _, rfl, sl _ s02, _, rfl, _, rfl, by show 3 ≤ sizeLine; decide, fun pb nb => ?_⟩
    rw [ln]
    have gb : SqT K (upd H2 pb (.tup [.int xs.length, .int rr, .int cc])) pb [.int xs.length, .int rr, .int cc] := new_tup
    have g3 : SqT K (upd H2 pb (.tup [.int xs.length, .int rr, .int cc])) p2 (ops.map V.int) := same_tup (same_new nb) g2
    have s03 : Same H (upd H2 pb (.tup [.int xs.length, .int rr, .int cc])) := s02.trans (same_new nb)
    generalize upd H2 pb (.tup [.int xs.length, .int rr, .int cc]) = H3 at gb g3 s03
    let fr : V → V → L2.St := fun x y => [some (.ref a), some (.int n), some (.int rr), some (.int cc), some (.int ((j : Int) + 1)), some (.str (kindS j)), some (.str (S (lets j))), some (.ref p2), some (.ref pb), some x, some y]
    refine ⟨_, rfl, _, rfl, lets_size hj, _, rfl, ?_⟩
    rw [S_len]
    refine ⟨by omega, by omega, for_range (lo := 0) (n := (lets j).length) (fun i σ H' => H3 = H' ∧ (∀ k, k < i → fitsZ ((lets j).getD k 0) (ops.getD k 0) (ops.getD (k + 1) 0) xs.length rr cc = true) ∧ σ.length = 11 ∧ σ.take 9 = [some (.ref a), some (.int n), some (.int rr), some (.int cc), some (.int ((j : Int) + 1)), some (.str (kindS j)), some (.str (S (lets j))), some (.ref p2), some (.ref pb)]) ⟨rfl, fun k hk => absurd hk (Nat.not_lt_zero _), rfl, rfl⟩ (fun i σ H' hi h => ?_) (fun σ H' h => ?_)⟩
    · obtain ⟨rfl, hf, hl, ht⟩ := h
      obtain ⟨x, y, rfl⟩ : ∃ x y, σ = [some (.ref a), some (.int n), some (.int rr), some (.int cc), some (.int ((j : Int) + 1)), some (.str (kindS j)), some (.str (S (lets j))), some (.ref p2), some (.ref pb), x, y] := by
        match σ, hl with
        | [_, _, _, _, _, _, _, _, _, x, y], _ => exact ⟨x, y, by simpa using ht⟩
      refine ⟨fun σ H4 => H3 = H4 ∧ σ = [some (.ref a), some (.int n), some (.int rr), some (.int cc), some (.int ((j : Int) + 1)), some (.str (kindS j)), some (.str (S (lets j))), some (.ref p2), some (.ref pb), some (.int (0 + (i : Int))), some (.int (ops.getD (i + 1) 0))], ?_, ?_⟩
      · refine ⟨_, rfl, _, _, rfl, rfl, _, rfl, p2, _, rfl, .inr g3, _, _, rfl, rfl, _, rfl, ?_⟩
        rw [List.length_map]
        refine ite2 (fun h => ?_) (fun h => ?_)
        · have h := of_decide_eq_true h
          refine ⟨_, rfl, _, rfl, _, _, rfl, rfl, _, _, _, .int (ops.getD (i + 1) 0), rfl, rfl, g3, ?_, rfl, rfl⟩
          rw [show (0 : Int) + (i : Int) + 1 = ((i + 1 : Nat) : Int) by omega]
          exact atI_of (at_ints (by omega))
        · have h : ¬ ((0 : Int) + (i : Int) + 1 < ops.length) := fun z => h (decide_eq_true z)
          refine ⟨rfl, ?_⟩
          rw [show ops.getD (i + 1) 0 = 0 by simp [List.getD, List.getElem?_eq_none (show ops.length ≤ i + 1 by omega)]]
          rfl
      · rintro σ H4 ⟨rfl, rfl⟩
        have hio : i < ops.length := by omega
        refine ⟨_, rfl, _, rfl, _, _, ((lets j).getD i 0), rfl, rfl, lets_size hj, ?_, _, rfl, _, rfl, _, _, _, .int (ops.getD i 0), rfl, rfl, g3, ?_, _, rfl, _, rfl, ?_⟩
        · rw [show (0 : Int) + (i : Int) = ((i : Nat) : Int) by omega]
          exact atI_of (by rw [tlS]; simp [List.getD, hi])
        · rw [show (0 : Int) + (i : Int) = ((i : Nat) : Int) by omega]
          exact atI_of (at_ints hio)
        refine ⟨(lets j).getD i 0, ops.getD i 0, ops.getD (i + 1) 0, xs.length, rr, cc, pb, rfl, ?_, gb, ?_⟩
        · have e : (lets j).getD i 0 = (lets j)[i] := by simp [List.getD, hi]
          rw [e]
          exact let_in j hj _ (List.getElem_mem hi)
        refine ⟨_, rfl, ?_⟩
        cases hfi : fitsZ ((lets j).getD i 0) (ops.getD i 0) (ops.getD (i + 1) 0) xs.length rr cc
        · refine iteT ?_
          refine ⟨_, rfl, rz _ s03 (dec_none eop fun z => ?_) _ rfl⟩
          rw [eops] at z
          have := z.2 i hi
          rw [hfi] at this
          cases this
        · refine iteF ⟨rfl, fun k hk => ?_, rfl, rfl⟩
          rcases Nat.lt_succ_iff_lt_or_eq.mp hk with z | z
          · exact hf k z
          · rw [z]
            exact hfi
    · obtain ⟨rfl, hf, hl, ht⟩ := h
      obtain ⟨x, y, rfl⟩ : ∃ x y, σ = [some (.ref a), some (.int n), some (.int rr), some (.int cc), some (.int ((j : Int) + 1)), some (.str (kindS j)), some (.str (S (lets j))), some (.ref p2), some (.ref pb), x, y] := by
        match σ, hl with
        | [_, _, _, _, _, _, _, _, _, x, y], _ => exact ⟨x, y, by simpa using ht⟩
      refine ⟨_, rfl, by show 1 ≤ sizeLine; decide, fun pk nk => ⟨_, rfl, pk, p2, _, _, rfl, rfl, new_tup, same_tup (same_new nk) g3, ?_, fun p H5 s5 g5 => q j ops ?_ hj p H5 (s03.trans ((same_new nk).trans s5)) g5⟩⟩
      · rw [List.length_map, sizeLine_eq]
        simp
        omega
      · rw [← eops]
        exact dec_some eop hn hj (by rw [eops]; exact hol) (by rw [eops]; exact hf)

end
end K87
set_option maxHeartbeats 4000000
set_option pp.deepTerms false
set_option pp.deepTerms.threshold 3
namespace K87
open PySem PySem.Spec PyProof.Rows L2 SX BB BD BQ BS BE PN BZ
local macro_rules | `(tactic| walk_at "side") => `(tactic| (try dsimp only) <;> (first | decide | omega | assumption | (unfold CMul; omega) | (unfold CDiv; omega)))
local macro_rules | `(tactic| walk_at "sq") => `(tactic| first
  | assumption
  | exact new_tup
  | exact same_tup (by assumption) (by assumption)
  | (refine same_tup (same_new (by assumption)) ?_; walk_at "sq"))
local macro_rules | `(tactic| walk_at "rd") => `(tactic| first
  | refine ⟨_, rfl, ?_⟩
  | refine ⟨_, _, _, _, rfl, rfl, (by walk_at "sq"), atI_of (j := 0) rfl, ?_⟩
  | refine ⟨_, _, _, _, rfl, rfl, (by walk_at "sq"), atI_of (j := 1) rfl, ?_⟩
  | refine ⟨_, _, rfl, rfl, ?_⟩
  | refine ⟨_, _, rfl, ?_⟩
  | refine And.intro rfl ?_
  | refine And.intro (by walk_at "side") ?_
  | refine Or.inl ⟨_, rfl, ?_⟩)
local macro_rules | `(tactic| walk_at "no") => `(tactic| refine ⟨_, rfl, rfl, _, rfl, iteN (by decide +kernel) ?_⟩)
local macro_rules | `(tactic| walk_at "yes") => `(tactic| refine ⟨_, rfl, rfl, _, rfl, iteY (by decide +kernel) ?_⟩)
local macro_rules | `(tactic| walk_at "rds") => `(tactic| repeat (walk_at "rd"))
section
variable {P : Program} {w : World} {K : PySem.W.Frag} {mg : Str → Option Value} {base : Heap} {X : Top} {eB : Addr}

abbrev s_law_cell : Stmt := topS 23
abbrev N_law_cell : List Str := ["script", "k"]
abbrev P_law_cell : List Str := ["script", "k"]
theorem sc_law_cell : FnScope N_law_cell P_law_cell (defScope s_law_cell) := ⟨rfl, rfl, rfl, by decide +kernel, rfl, by decide +kernel, by decide +kernel⟩
-- slots: script=0 k=1
def spCell (K : PySem.W.Frag) : Sp := fun vs H Q _ => ∃ (a : Addr) (ns : List Int) (k : Nat), vs = [.ref a, .int (k : Int)] ∧ SqL K H a (ns.map V.int) ∧ Q (.int (cell ns k)) H
theorem cal_law_cell (T : Txt K w mg X) (D : Def K mg "_law_cell" P_law_cell s_law_cell) : Cal P w K mg base 1 "_law_cell" P_law_cell (spCell K) := by
  refine cal0 D sc_law_cell (fun vs H Q E h => ?_) (fun f cdv A outer s H vs Q E hr h => ?_)
  · obtain ⟨a, ns, k, rfl, _⟩ := h; rfl
  · obtain ⟨a, ns, k, rfl, hS, q⟩ := h
    have nd := sc_law_cell.nd
    refine ⟨_, (pss_cons (ps_if (pt_cmpR op_lt (pv 1) (pe_callB call_len_seq (by rfl) T.b_len PySem.boot_len (pa_cons (pv 0) pa_nil)) (nomark _)) (pss_one (ps_ret (pe_callTy call_int1 (by rfl) T.b_int (by decide +kernel) (pa_cons (pe_ix ix_list (pv 0) (pv 1) (fun _ _ => rfl)) pa_nil)))) pss_nil)
    (pss_one (ps_ret pe_int))), ?_⟩
    refine ⟨_, rfl, _, rfl, _, _, rfl, .inl hS, ?_⟩
    walk_at "rds"
    refine ite2 (fun h => ?_) (fun h => ?_)
    · have hk : k < ns.length := by
        have h := of_decide_eq_true h
        rw [List.length_map] at h
        omega
      refine ⟨_, rfl, _, rfl, _, _, _, V.int (cell ns k), rfl, rfl, hS, atI_of ?_, Or.inl ⟨_, rfl, q⟩⟩
      unfold cell
      rw [List.getElem?_map, List.getD_eq_getElem?_getD, List.getElem?_eq_getElem hk]
      rfl
    · have hk : ¬ k < ns.length := fun z => h (decide_eq_true (by rw [List.length_map]; omega))
      have e : cell ns k = 0 := by
        unfold cell
        rw [List.getD_eq_getElem?_getD, List.getElem?_eq_none (by omega)]
        rfl
      rw [e] at q
      exact q

abbrev s_law_kinds : Stmt := topS 24
abbrev N_law_kinds : List Str := []
abbrev P_law_kinds : List Str := []
theorem sc_law_kinds : FnScope N_law_kinds P_law_kinds (defScope s_law_kinds) := ⟨rfl, rfl, rfl, by decide +kernel, rfl, by decide +kernel, by decide +kernel⟩
-- slots: 
def spKs : Sp := fun vs H Q _ => vs = [] ∧ ∀ p H', Same H H' → H' p = some (.lst (kindL.map V.str)) → Q (.ref p) H'
theorem cal_law_kinds (T : Txt K w mg X) (D : Def K mg "_law_kinds" P_law_kinds s_law_kinds) : Cal P w K mg base 1 "_law_kinds" P_law_kinds spKs := by
  refine cal0 D sc_law_kinds (fun vs H Q E h => ?_) (fun f cdv A outer s H vs Q E hr h => ?_)
  · obtain ⟨rfl, _⟩ := h; rfl
  · obtain ⟨rfl, q⟩ := h
    have nd := sc_law_kinds.nd
    refine ⟨_, (pss_one (ps_ret (pe_lst (pa_cons pe_str (pa_cons pe_str (pa_cons pe_str (pa_cons pe_str (pa_cons pe_str (pa_cons pe_str (pa_cons pe_str (pa_cons pe_str (pa_cons pe_str (pa_cons pe_str (pa_cons pe_str (pa_cons pe_str (pa_cons pe_str (pa_cons pe_str (pa_cons pe_str (pa_cons pe_str (pa_cons pe_str (pa_cons pe_str pa_nil))))))))))))))))))))), ?_⟩
    exact ⟨by show 18 ≤ sizeLine; decide, fun p hp => q p _ (same_new hp) upd_same⟩

abbrev s_law_letters : Stmt := topS 25
abbrev N_law_letters : List Str := ["kind", "rows"]
abbrev P_law_letters : List Str := ["kind"]
theorem sc_law_letters : FnScope N_law_letters P_law_letters (defScope s_law_letters) := ⟨rfl, rfl, rfl, by decide +kernel, rfl, by decide +kernel, by decide +kernel⟩
-- slots: kind=0 rows=1
def spLet : Sp := fun vs H Q _ => ∃ j : Nat, vs = [.str (kindS j)] ∧ j < 18 ∧ ∀ H', Same H H' → Q (.str (S (lets j))) H'
theorem cal_law_letters (T : Txt K w mg X) (D : Def K mg "_law_letters" P_law_letters s_law_letters) (c_law_kinds : Cal P w K mg base 1 "_law_kinds" P_law_kinds spKs) : Cal P w K mg base 2 "_law_letters" P_law_letters spLet := by
  refine cal0 D sc_law_letters (fun vs H Q E h => ?_) (fun f cdv A outer s H vs Q E hr h => ?_)
  · obtain ⟨j, rfl, _⟩ := h; rfl
  · obtain ⟨j, rfl, hj, q⟩ := h
    have nd := sc_law_letters.nd
    refine ⟨_, (pss_cons (ps_set (i := 1) nd rfl (.inl rfl) (pe_lst (pa_cons pe_str (pa_cons pe_str (pa_cons pe_str (pa_cons pe_str (pa_cons pe_str (pa_cons pe_str (pa_cons pe_str (pa_cons pe_str (pa_cons pe_str (pa_cons pe_str (pa_cons pe_str (pa_cons pe_str (pa_cons pe_str (pa_cons pe_str (pa_cons pe_str (pa_cons pe_str (pa_cons pe_str (pa_cons pe_str pa_nil))))))))))))))))))))
    (pss_one (ps_ret (pe_ix ix_list (pv 1) (pe_bm PySem.F.plainAttrs_list PySem.F.slot_list_index PySem.F.type_list_index mt_lidx (pe_c0 c_law_kinds hr (by decide) rfl) (pa_cons (pv 0) pa_nil)) (fun _ _ => rfl))))), ?_⟩
    refine ⟨by show 18 ≤ sizeLine; decide, fun p1 n1 => ?_⟩
    refine ⟨_, rfl, rfl, fun p2 H2 s2 g2 => ?_⟩
    refine ⟨.inl ⟨rfl, _, SqL.of g2⟩, _, rfl, p2, kindL, kindS j, rfl, rfl, SqL.of g2, kind_mem j hj, ?_⟩
    rw [kind_idx j hj]
    exact ⟨p1, rowL.map V.str, _, .str (S (lets j)), rfl, rfl, SqL.of (s2 _ _ upd_same), atI_of (by rw [List.getElem?_map, row_at j hj]; rfl), q _ ((same_new n1).trans s2)⟩

abbrev s_law_word : Stmt := topS 26
abbrev N_law_word : List Str := ["cell"]
abbrev P_law_word : List Str := ["cell"]
theorem sc_law_word : FnScope N_law_word P_law_word (defScope s_law_word) := ⟨rfl, rfl, rfl, by decide +kernel, rfl, by decide +kernel, by decide +kernel⟩
-- slots: cell=0
def spWord : Sp := fun vs H Q _ => ∃ c : Int, vs = [.int c] ∧ ∀ n, isW n = true → Q (.int n) H
theorem cal_law_word (T : Txt K w mg X) (D : Def K mg "_law_word" P_law_word s_law_word) : Cal P w K mg base 1 "_law_word" P_law_word spWord := by
  refine cal0 D sc_law_word (fun vs H Q E h => ?_) (fun f cdv A outer s H vs Q E hr h => ?_)
  · obtain ⟨c, rfl, _⟩ := h; rfl
  · obtain ⟨c, rfl, q⟩ := h
    have nd := sc_law_word.nd
    refine ⟨_, (pss_cons (ps_if (pt_cmpR op_eq (pe_op op_mod (pv 0) pe_int) pe_int (nomark _)) (pss_one (ps_ret (pe_op op_sub (pe_op op_mod (pe_op op_fdiv (pv 0) pe_int) pe_int) pe_int))) pss_nil)
    (pss_one (ps_ret (pe_op op_sub (pe_op op_mod (pe_callTy call_int1 (by rfl) T.b_int (by decide +kernel) (pa_cons (pe_op op_add (pe_op op_mul (pe_op op_fdiv (pv 0) pe_int) pe_int) pe_int) pa_nil)) pe_int) pe_int)))), ?_⟩
    walk_at "rds"
    refine ite2 (fun h => ?_) (fun h => ?_)
    · walk_at "rds"
      exact q _ (isW_of (by show (-9223372036854775808 : Int) ≤ _; omega) (by show _ ≤ (9223372036854775807 : Int); omega))
    · walk_at "rds"
      exact q _ (isW_of (by show (-9223372036854775808 : Int) ≤ _; omega) (by show _ ≤ (9223372036854775807 : Int); omega))

abbrev s_law_made : Stmt := topS 27
abbrev N_law_made : List Str := ["kind", "cell", "bounds", "total", "registers", "cells", "told", "rest", "letter"]
abbrev P_law_made : List Str := ["kind", "cell", "bounds"]
theorem sc_law_made : FnScope N_law_made P_law_made (defScope s_law_made) := ⟨rfl, rfl, rfl, by decide +kernel, rfl, by decide +kernel, by decide +kernel⟩
-- slots: kind=0 cell=1 bounds=2 total=3 registers=4 cells=5 told=6 rest=7 letter=8
def spMade (K : PySem.W.Frag) : Sp := fun vs H Q _ => ∃ (j : Nat) (c T R C : Int) (b : Addr), vs = [.str (kindS j), .int c, .ref b] ∧ j < 18 ∧ SqT K H b [.int T, .int R, .int C] ∧ 1 ≤ T ∧ 1 ≤ R ∧ 0 ≤ C ∧ (C = 0 → isAcc j = false) ∧ ∀ p H' ops, Same H H' → Good j ops T R C → SqT K H' p (insV j ops) → Q (.ref p) H'
theorem cal_law_made (T : Txt K w mg X) (D : Def K mg "_law_made" P_law_made s_law_made) (c_law_letters : Cal P w K mg base 2 "_law_letters" P_law_letters spLet) (c_law_word : Cal P w K mg base 1 "_law_word" P_law_word spWord) : Cal P w K mg base 3 "_law_made" P_law_made (spMade K) := by
  refine cal0 D sc_law_made (fun vs H Q E h => ?_) (fun f cdv A outer s H vs Q E hr h => ?_)
  · obtain ⟨j, c, tt, rr, cc, b, rfl, _⟩ := h; rfl
  · obtain ⟨j, c, tt, rr, cc, b, rfl, hj, hb, t1, r1, c0, ca, q⟩ := h
    have nd := sc_law_made.nd
    refine ⟨_, (pss_cons (ps_asg (pv 2) (pg_tup rfl (pgs_cons (pg_name (i := 3) nd rfl (.inl rfl)) (pgs_cons (pg_name (i := 4) nd rfl (.inl rfl)) (pgs_cons (pg_name (i := 5) nd rfl (.inl rfl)) pgs_nil)))))
    (pss_cons (ps_set (i := 6) nd rfl (.inl rfl) (pe_lst (pa_cons (pv 0) pa_nil)))
    (pss_cons (ps_set (i := 7) nd rfl (.inl rfl) (pe_callB call_abs (by rfl) T.b_abs (by decide +kernel) (pa_cons (pv 1) pa_nil)))
    (pss_cons (ps_for PassesOwn.never rfl (pi_str (pe_c c_law_letters hr (by decide) rfl (pa_cons (pv 0) pa_nil))) (pg_name (i := 8) nd rfl (.inl rfl))
      (pss_cons (ps_set (i := 7) nd rfl (.inl rfl) (pe_op op_add (pe_op op_fdiv (pv 7) pe_int) (pe_op op_mod (pe_callTy call_int1 (by rfl) T.b_int (by decide +kernel) (pa_cons (pe_op op_add (pe_op op_mul (pe_op op_mod (pe_callB call_abs (by rfl) T.b_abs (by decide +kernel) (pa_cons (pv 1) pa_nil)) pe_int) pe_int) (pe_op op_mul (pe_callB call_len_seq (by rfl) T.b_len PySem.boot_len (pa_cons (pv 6) pa_nil)) pe_int)) pa_nil)) pe_int)))
    (pss_cons (ps_if (pt_cmpR op_eq (pv 8) pe_str (nomark _)) (pss_one (ps_expr (pe_bm PySem.F.plainAttrs_list PySem.F.slot_list_append PySem.F.type_list_append mt_append (pv 6) (pa_cons (pe_op op_mod (pv 7) (pv 4)) pa_nil)))) pss_nil)
    (pss_cons (ps_if (pt_cmpR op_eq (pv 8) pe_str (nomark _)) (pss_one (ps_expr (pe_bm PySem.F.plainAttrs_list PySem.F.slot_list_append PySem.F.type_list_append mt_append (pv 6) (pa_cons (pe_c c_law_word hr (by decide) rfl (pa_cons (pe_op op_fdiv (pv 1) pe_int) pa_nil)) pa_nil)))) pss_nil)
    (pss_cons (ps_if (PW.pt (pw_or (pt_cmpR op_eq (pv 8) pe_str (nomark _)) (pw_or1 (pt_cmpR op_eq (pv 8) pe_str (nomark _))))) (pss_one (ps_expr (pe_bm PySem.F.plainAttrs_list PySem.F.slot_list_append PySem.F.type_list_append mt_append (pv 6) (pa_cons (pe_op op_mod (pv 7) (pv 5)) pa_nil)))) pss_nil)
    (pss_cons (ps_if (pt_cmpR op_eq (pv 8) pe_str (nomark _)) (pss_one (ps_expr (pe_bm PySem.F.plainAttrs_list PySem.F.slot_list_append PySem.F.type_list_append mt_append (pv 6) (pa_cons (pe_op op_add pe_int (pe_op op_mod (pv 7) (pe_op op_sub (pv 5) (pe_ix ix_list (pv 6) (pe_un un_neg pe_int) (fun _ _ => rfl))))) pa_nil)))) pss_nil)
    (pss_cons (ps_if (pt_cmpR op_eq (pv 8) pe_str (nomark _)) (pss_one (ps_expr (pe_bm PySem.F.plainAttrs_list PySem.F.slot_list_append PySem.F.type_list_append mt_append (pv 6) (pa_cons (pe_op op_mod (pv 7) (pv 3)) pa_nil)))) pss_nil)
    (pss_one (ps_if (pt_cmpR op_eq (pv 8) pe_str (nomark _)) (pss_one (ps_expr (pe_bm PySem.F.plainAttrs_list PySem.F.slot_list_append PySem.F.type_list_append mt_append (pv 6) (pa_cons (pe_op op_add pe_int (pe_op op_mod (pv 7) pe_int)) pa_nil)))) pss_nil)))))))))
    (pss_one (ps_ret (pe_callTy cs_tuple (by rfl) T.b_tuple (by decide +kernel) (pa_cons (pv 6) pa_nil)))))))), ?_⟩
    refine ⟨_, rfl, b, _, rfl, hb, rfl, _, _, rfl, _, _, rfl, _, _, rfl, rfl, ?_⟩
    refine ⟨_, rfl, by show 1 ≤ sizeLine; decide, fun lt nl => ?_⟩
    refine ⟨_, rfl, _, rfl, ?_⟩
    refine ⟨_, rfl, j, rfl, hj, fun H1 s1 => ?_⟩
    refine ⟨_, rfl, forR_str (fun r σ H' => ∃ d ops x y, lets j = d ++ r ∧ Mk tt rr cc d ops ∧ Same H H' ∧ H' lt = some (.lst (insV j ops)) ∧ σ = [some (.str (kindS j)), some (.int c), some (.ref b), some (.int tt), some (.int rr), some (.int cc), some (.ref lt), some (.int x), y]) ⟨[], [], _, _, rfl, .nil, (same_new nl).trans s1, s1 _ _ upd_same, rfl⟩ (fun l r σ H' hc h => ?_) (fun σ H' h => ?_)⟩
    · obtain ⟨d, ops, x, y, el, mk, sm, hlt, rfl⟩ := h
      have hsm : ops.length ≤ 5 := by
        have := mk.length
        have := let_short j hj
        rw [el, List.length_append] at this
        omega
      have hlen : (insV j ops).length < sizeLine := by
        unfold insV
        rw [List.length_cons, List.length_map, sizeLine_eq]
        omega
      have hla : lets j = (d ++ [l]) ++ r := by rw [el]; simp
      have hc := let_in j hj l hc
      have pv : prevOf ops ops.length = ops.getLastD 0 := prev_last
      walk_at "rds"
      refine ⟨lt, _, rfl, .inl (SqL.of hlt), _, _, rfl, rfl, .inr ⟨by decide, by decide⟩, _, _, rfl, rfl, .inl ⟨_, rfl, _, _, rfl, rfl, by show (0 : Int) < 1000003; decide, _, _, rfl, rfl, ?_⟩⟩
      simp only [List.mem_cons, List.mem_nil_iff, or_false] at hc
      have fin : ∀ (o x : Int), valOk tt rr cc l (prevOf ops ops.length) o → ∃ d' ops' x' y', lets j = d' ++ r ∧ Mk tt rr cc d' ops' ∧ Same H (upd H' lt (.lst (insV j ops ++ [.int o]))) ∧ (upd H' lt (.lst (insV j ops ++ [.int o]))) lt = some (.lst (insV j ops')) ∧
          ([some (.str (kindS j)), some (.int c), some (.ref b), some (.int tt), some (.int rr), some (.int cc), some (.ref lt), some (.int x), some (.str (S [l]))] : L2.St) = [some (.str (kindS j)), some (.int c), some (.ref b), some (.int tt), some (.int rr), some (.int cc), some (.ref lt), some (.int x'), y'] := fun o x v =>
        ⟨d ++ [l], ops ++ [o], x, _, hla, mk.snoc v, fun a u ea => by rw [upd_ne (ne_of_none ea nl)]; exact sm _ _ ea, by rw [upd_same]; simp [insV], rfl⟩
      have ccpos : ∀ x : Nat, x ∈ [99, 98] → x = l → 0 < cc := fun x hx e => by
        rcases Int.lt_or_eq_of_le c0 with h | h
        · exact h
        · have := let_acc j hj (ca h.symm) l (by rw [el]; simp)
          subst e
          exact absurd hx this
      rcases hc with rfl | rfl | rfl | rfl | rfl | rfl | rfl
      · walk_at "yes"
        refine ⟨_, rfl, .inl ⟨rfl, _, SqL.of hlt⟩, _, rfl, _, rfl, _, _, rfl, rfl, by show 0 < rr; omega, lt, _, _, rfl, rfl, hlt, hlen, ?_⟩
        walk_at "no"; walk_at "no"; walk_at "no"; walk_at "no"; walk_at "no"; walk_at "no"
        exact fin _ _ ⟨fun _ => ⟨Int.emod_nonneg _ (by omega), Int.emod_lt_of_pos _ (by omega)⟩, nofun, nofun, nofun, nofun, nofun, nofun⟩
      · walk_at "no"; walk_at "yes"
        refine ⟨_, rfl, .inl ⟨rfl, _, SqL.of hlt⟩, _, rfl, _, _, rfl, rfl, ⟨by decide, by decide⟩, _, rfl, fun n hn => ⟨lt, _, _, rfl, rfl, hlt, hlen, ?_⟩⟩
        walk_at "no"; walk_at "no"; walk_at "no"; walk_at "no"; walk_at "no"
        exact fin _ _ ⟨nofun, fun _ => hn, nofun, nofun, nofun, nofun, nofun⟩
      · have hcc : 0 < cc := ccpos _ (by decide) rfl
        walk_at "no"; walk_at "no"; walk_at "yes"
        refine ⟨_, rfl, .inl ⟨rfl, _, SqL.of hlt⟩, _, rfl, _, rfl, _, _, rfl, rfl, hcc, lt, _, _, rfl, rfl, hlt, hlen, ?_⟩
        walk_at "no"; walk_at "no"; walk_at "no"
        exact fin _ _ ⟨nofun, nofun, fun _ => ⟨Int.emod_nonneg _ (by omega), Int.emod_lt_of_pos _ hcc⟩, nofun, nofun, nofun, nofun⟩
      · walk_at "no"; walk_at "no"; walk_at "no"; walk_at "no"; walk_at "no"; walk_at "yes"
        refine ⟨_, rfl, .inl ⟨rfl, _, SqL.of hlt⟩, _, rfl, _, rfl, _, _, rfl, rfl, by show 0 < tt; omega, lt, _, _, rfl, rfl, hlt, hlen, ?_⟩
        walk_at "no"
        exact fin _ _ ⟨nofun, nofun, nofun, nofun, nofun, fun _ => ⟨Int.emod_nonneg _ (by omega), Int.emod_lt_of_pos _ (by omega)⟩, nofun⟩
      · have hcc : 0 < cc := ccpos _ (by decide) rfl
        walk_at "no"; walk_at "no"; walk_at "no"; walk_at "yes"
        refine ⟨_, rfl, .inl ⟨rfl, _, SqL.of hlt⟩, _, rfl, _, rfl, _, _, rfl, rfl, hcc, lt, _, _, rfl, rfl, hlt, hlen, ?_⟩
        walk_at "no"; walk_at "no"; walk_at "no"
        exact fin _ _ ⟨nofun, nofun, nofun, fun _ => ⟨Int.emod_nonneg _ (by omega), Int.emod_lt_of_pos _ hcc⟩, nofun, nofun, nofun⟩
      · obtain ⟨prev, e1, e2, e3⟩ := mk_prev hj el mk
        walk_at "no"; walk_at "no"; walk_at "no"; walk_at "no"; walk_at "yes"
        refine ⟨_, rfl, .inl ⟨rfl, _, SqL.of hlt⟩, _, rfl, _, rfl, _, rfl, _, rfl, _, _, _, .int prev, rfl, rfl, SqL.of hlt, atI_last e1, _, _, rfl, rfl, _, _, rfl, rfl, by show 0 < cc - prev; omega, _, _, rfl, rfl, lt, _, _, rfl, rfl, hlt, hlen, ?_⟩
        walk_at "no"; walk_at "no"
        refine fin _ _ ⟨nofun, nofun, nofun, nofun, fun _ => ?_, nofun, nofun⟩
        rw [e2]
        have h1 := Int.emod_nonneg (x / 7 + (((if c < 0 then -c else c) % 1000003 * 48271 + ((insV j ops).length : Int) * 69621) % 1000003)) (show cc - prev ≠ 0 by omega)
        have h2 := Int.emod_lt_of_pos (x / 7 + (((if c < 0 then -c else c) % 1000003 * 48271 + ((insV j ops).length : Int) * 69621) % 1000003)) (show 0 < cc - prev by omega)
        exact ⟨by omega, by omega⟩
      · walk_at "no"; walk_at "no"; walk_at "no"; walk_at "no"; walk_at "no"; walk_at "no"; walk_at "yes"
        refine ⟨_, rfl, .inl ⟨rfl, _, SqL.of hlt⟩, _, rfl, _, _, rfl, rfl, by show (0 : Int) < 9999; decide, _, _, rfl, rfl, lt, _, _, rfl, rfl, hlt, hlen, ?_⟩
        exact fin _ _ ⟨nofun, nofun, nofun, nofun, nofun, nofun, fun _ => by omega⟩
    · obtain ⟨d, ops, x, y, el, mk, sm, hlt, rfl⟩ := h
      rw [List.append_nil] at el
      subst el
      exact ⟨_, rfl, lt, _, rfl, .inl (SqL.of hlt), fun p H5 s5 g5 => q p H5 ops (sm.trans s5) (mk_good hj mk) g5⟩

abbrev s_law_same : Stmt := topS 28
abbrev N_law_same : List Str := ["actual", "due", "k"]
abbrev P_law_same : List Str := ["actual", "due"]
theorem sc_law_same : FnScope N_law_same P_law_same (defScope s_law_same) := ⟨rfl, rfl, rfl, by decide +kernel, rfl, by decide +kernel, by decide +kernel⟩
-- slots: actual=0 due=1 k=2
def spSame (K : PySem.W.Frag) : Sp := fun vs H Q _ => ∃ (p q : Addr) (j : Nat) (ops : List Int), vs = [.ref p, .ref q] ∧ SqT K H p (insV j ops) ∧ SqT K H q (insV j ops) ∧ ops.length ≤ 100 ∧ Q (.bl true) H
theorem cal_law_same (T : Txt K w mg X) (D : Def K mg "_law_same" P_law_same s_law_same) : Cal P w K mg base 1 "_law_same" P_law_same (spSame K) := by
  refine cal0 D sc_law_same (fun vs H Q E h => ?_) (fun f cdv A outer s H vs Q E hr h => ?_)
  · obtain ⟨p, q, j, ops, rfl, _⟩ := h; rfl
  · obtain ⟨p, q, j, ops, rfl, hp, hq, hl, w⟩ := h
    have nd := sc_law_same.nd
    refine ⟨_, (pss_cons (ps_if (PW.pt (pw_or (pt_not (pt_val (pe_callB call_isi (by rfl) T.b_isinstance (by decide +kernel) (pa_cons (pv 0) (pa_cons (pe_bltn (v := .ty "tuple") (by rfl) T.b_tuple (by decide +kernel) rfl) pa_nil))))) (pw_or (pt_cmpR op_ne (pe_callB call_len_seq (by rfl) T.b_len PySem.boot_len (pa_cons (pv 0) pa_nil)) (pe_callB call_len_seq (by rfl) T.b_len PySem.boot_len (pa_cons (pv 1) pa_nil)) (nomark _)) (pw_or (pt_not (pt_val (pe_callB call_isi (by rfl) T.b_isinstance (by decide +kernel) (pa_cons (pe_ix ix_tup (pv 0) pe_int (fun _ _ => rfl)) (pa_cons (pe_bltn (v := .ty "str") (by rfl) T.b_str (by decide +kernel) rfl) pa_nil))))) (pw_or1 (pt_cmpR op_ne (pe_ix ix_tup (pv 0) pe_int (fun _ _ => rfl)) (pe_ix ix_tup (pv 1) pe_int (fun _ _ => rfl)) (nomark _))))))) (pss_one (ps_ret pe_bl)) pss_nil)
    (pss_cons (ps_for PassesOwn.never rfl (pi_range2 (by rfl) T.b_range (pa_cons pe_int (pa_cons (pe_callB call_len_seq (by rfl) T.b_len PySem.boot_len (pa_cons (pv 1) pa_nil)) pa_nil))) (pg_name (i := 2) nd rfl (.inl rfl))
      (pss_one (ps_if (PW.pt (pw_or (pt_not (pt_val (pe_callB call_isi (by rfl) T.b_isinstance (by decide +kernel) (pa_cons (pe_ix ix_tup (pv 0) (pv 2) (fun _ _ => rfl)) (pa_cons (pe_bltn (v := .ty "int") (by rfl) T.b_int (by decide +kernel) rfl) pa_nil))))) (pw_or (pt_val (pe_callB call_isi (by rfl) T.b_isinstance (by decide +kernel) (pa_cons (pe_ix ix_tup (pv 0) (pv 2) (fun _ _ => rfl)) (pa_cons (pe_bltn (v := .ty "bool") (by rfl) T.b_bool (by decide +kernel) rfl) pa_nil)))) (pw_or1 (pt_cmpR op_ne (pe_ix ix_tup (pv 0) (pv 2) (fun _ _ => rfl)) (pe_ix ix_tup (pv 1) (pv 2) (fun _ _ => rfl)) (nomark _)))))) (pss_one (ps_ret pe_bl)) pss_nil)))
    (pss_one (ps_ret pe_bl)))), ?_⟩
    unfold insV at hp hq
    have hln : (V.str (kindS j) :: ops.map V.int).length = ops.length + 1 := by simp
    refine ⟨_, rfl, _, _, _, _, true, rfl, .ty _, tupType hp, rfl, _, rfl, iteN rfl ?_⟩
    refine ⟨_, rfl, p, _, rfl, .inr hp, _, rfl, q, _, rfl, .inr hq, rfl, _, rfl, iteN (by simp) ?_⟩
    refine ⟨_, rfl, _, _, _, .str (kindS j), rfl, rfl, hp, atI_of (j := 0) rfl, _, _, _, _, true, rfl, .ty _, .base (.str _), rfl, _, rfl, iteN rfl ?_⟩
    refine ⟨_, rfl, _, _, _, .str (kindS j), rfl, rfl, hp, atI_of (j := 0) rfl, _, rfl, _, _, _, .str (kindS j), rfl, rfl, hq, atI_of (j := 0) rfl, rfl, _, rfl, iteN (by simp) ?_⟩
    refine ⟨_, rfl, q, _, rfl, .inr hq, _, _, rfl, ⟨by decide, by decide, by rw [hln]; omega, by rw [hln]; omega⟩, ?_⟩
    rw [hln, show (((ops.length + 1 : Nat) : Int) - 1).toNat = ops.length by omega]
    refine for_range (lo := 1) (n := ops.length) (fun i σ H' => H = H' ∧ ∃ z, σ = [some (.ref p), some (.ref q), z]) ⟨rfl, _, rfl⟩ (fun i σ H' hi h => ?_) (fun σ H' h => ?_)
    · obtain ⟨rfl, z, rfl⟩ := h
      have at1 : atI (V.str (kindS j) :: ops.map V.int) (1 + (i : Int)) = some (.int (ops.getD i 0)) := by
        rw [show (1 : Int) + (i : Int) = ((i + 1 : Nat) : Int) by omega]
        exact atI_of (by show (ops.map V.int)[i]? = _; exact at_ints hi)
      refine ⟨_, rfl, _, rfl, _, _, _, _, rfl, rfl, hp, at1, _, _, _, _, true, rfl, .ty _, .base (.int _), rfl, _, rfl, iteN rfl ?_⟩
      refine ⟨_, rfl, _, rfl, _, _, _, _, rfl, rfl, hp, at1, _, _, _, _, false, rfl, .ty _, .base (.int _), rfl, _, rfl, iteN rfl ?_⟩
      refine ⟨_, rfl, _, rfl, _, _, _, _, rfl, rfl, hp, at1, _, rfl, _, rfl, _, _, _, _, rfl, rfl, hq, at1, rfl, _, rfl, iteN (by simp) ?_⟩
      exact ⟨rfl, _, rfl⟩
    · obtain ⟨rfl, z, rfl⟩ := h
      exact w

abbrev s_law_read : Stmt := topS 29
abbrev N_law_read : List Str := ["slots", "place", "registers", "cells", "e"]
abbrev P_law_read : List Str := ["slots", "place", "registers", "cells"]
theorem sc_law_read : FnScope N_law_read P_law_read (defScope s_law_read) := ⟨rfl, rfl, rfl, by decide +kernel, rfl, by decide +kernel, by decide +kernel⟩
-- slots: slots=0 place=1 registers=2 cells=3 e=4
def ReadAt (K : PySem.W.Frag) (H : Hp) (p : Addr) (place : Int) : Option (Nat × List Int) → Prop
  | some (j, ops) => j < 18 ∧ ∃ q, SqT K H p [.str "read", .ref q] ∧ SqT K H q (insV j ops)
  | none => SqT K H p [.str "refused", .int place]
def spRead (K : PySem.W.Frag) : Sp := fun vs H Q _ => ∃ (a : Addr) (xs : List Int) (place R C : Int), vs = [.ref a, .int place, .int R, .int C] ∧ SqA K H a (xs.map V.int) ∧ place.natAbs < 2 ^ 64 ∧ xs.length ≤ 1000000 ∧ ∀ p H', Same H H' → ReadAt K H' p place (decZ xs place R C) → Q (.ref p) H'
theorem cal_law_read (T : Txt K w mg X) (D : Def K mg "_law_read" P_law_read s_law_read) (E_BadImage : Err P w K mg base "BadImage" eB "place") (c_decode : Cal P w K mg base 3 "decode" P_decode (spDec K eB)) : Cal P w K mg base 4 "_law_read" P_law_read (spRead K) := by
  refine cal0 D sc_law_read (fun vs H Q E h => ?_) (fun f cdv A outer s H vs Q E hr h => ?_)
  · obtain ⟨a, xs, place, rr, cc, rfl, _⟩ := h; rfl
  · obtain ⟨a, xs, place, rr, cc, rfl, hs, hb, hx, q⟩ := h
    have nd := sc_law_read.nd
    refine ⟨_, (pss_one (ps_try_as (i := 4) rfl rfl nd rfl rfl ⟨rfl, by decide, .inl E_BadImage.hm⟩ takes0 (fun W pn xe tk _ =>
      (pss_one (ps_ret (pe_tup (pa_cons pe_str (pa_cons (pe_cS c_decode hr (by decide) rfl tk (pa_cons (pv 0) (pa_cons (pv 1) (pa_cons (pv 2) (pa_cons (pv 3) pa_nil))))) pa_nil)))))) (fun a oe cls d pn hz hf =>
      (pss_one (ps_ret (pe_tup (pa_cons pe_str (pa_cons (pe_xf E_BadImage.xf E_BadImage.no hz hf (pv 4)) pa_nil)))))))), ?_⟩
    refine ⟨_, rfl, _, rfl, _, rfl, _, rfl, a, xs, place, rr, cc, rfl, hs, hb, hx, fun j ops e hj p H1 s1 g1 => ?_, fun e d H1 s1 g1 => ?_⟩
    · refine ⟨by show 2 ≤ sizeLine; decide, fun pr nr => q pr _ (s1.trans (same_new nr)) ?_⟩
      rw [e]
      exact ⟨hj, p, new_tup, same_tup (same_new nr) g1⟩
    · refine ⟨true, E_BadImage.exm, fun _ ae na => ?_, nofun⟩
      refine ⟨_, rfl, rfl, rfl, d, _, _, rfl, g1, rfl, by show 2 ≤ sizeLine; decide, fun pr nr => q pr _ (s1.trans (same_new nr)) ?_⟩
      rw [e]
      exact new_tup

abbrev s_law_refused : Stmt := topS 30
abbrev N_law_refused : List Str := ["told", "place"]
abbrev P_law_refused : List Str := ["told", "place"]
theorem sc_law_refused : FnScope N_law_refused P_law_refused (defScope s_law_refused) := ⟨rfl, rfl, rfl, by decide +kernel, rfl, by decide +kernel, by decide +kernel⟩
-- slots: told=0 place=1
def spRef (K : PySem.W.Frag) : Sp := fun vs H Q _ => ∃ (p : Addr) (z : Int), vs = [.ref p, .int z] ∧ SqT K H p [.str "refused", .int z] ∧ Q (.bl true) H
theorem cal_law_refused (T : Txt K w mg X) (D : Def K mg "_law_refused" P_law_refused s_law_refused) : Cal P w K mg base 1 "_law_refused" P_law_refused (spRef K) := by
  refine cal0 D sc_law_refused (fun vs H Q E h => ?_) (fun f cdv A outer s H vs Q E hr h => ?_)
  · obtain ⟨p, z, rfl, _⟩ := h; rfl
  · obtain ⟨p, z, rfl, hp, q⟩ := h
    have nd := sc_law_refused.nd
    refine ⟨_, (pss_one (ps_ret (pe_and (pe_cmpR op_eq (pe_ix ix_tup (pv 0) pe_int (fun _ _ => rfl)) pe_str (nomark _)) (pe_and (pe_callB call_isi (by rfl) T.b_isinstance (by decide +kernel) (pa_cons (pe_ix ix_tup (pv 0) pe_int (fun _ _ => rfl)) (pa_cons (pe_bltn (v := .ty "int") (by rfl) T.b_int (by decide +kernel) rfl) pa_nil))) (pe_and (pe_not (pe_callB call_isi (by rfl) T.b_isinstance (by decide +kernel) (pa_cons (pe_ix ix_tup (pv 0) pe_int (fun _ _ => rfl)) (pa_cons (pe_bltn (v := .ty "bool") (by rfl) T.b_bool (by decide +kernel) rfl) pa_nil)))) (pe_one (pe_cmpR op_eq (pe_ix ix_tup (pv 0) pe_int (fun _ _ => rfl)) (pv 1) (nomark _)))))))), ?_⟩
    refine ⟨_, rfl, _, _, _, _, rfl, rfl, hp, atI_of (j := 0) rfl, rfl, _, rfl, iteY (by decide +kernel) ?_⟩
    refine ⟨_, rfl, _, _, _, _, rfl, rfl, hp, atI_of (j := 1) rfl, _, _, _, _, true, rfl, .ty _, .base (.int _), rfl, _, rfl, iteT ?_⟩
    refine ⟨_, rfl, _, _, _, _, rfl, rfl, hp, atI_of (j := 1) rfl, _, _, _, _, false, rfl, .ty _, .base (.int _), rfl, _, rfl, _, rfl, iteY rfl ?_⟩
    refine ⟨_, rfl, _, _, _, _, rfl, rfl, hp, atI_of (j := 1) rfl, _, rfl, rfl, ?_⟩
    rw [decide_eq_true rfl]
    exact q

abbrev s_law_roles : Stmt := topS 31
abbrev N_law_roles : List Str := ["one", "letters", "reads", "k", "written", "told"]
abbrev P_law_roles : List Str := ["one"]
theorem sc_law_roles : FnScope N_law_roles P_law_roles (defScope s_law_roles) := ⟨rfl, rfl, rfl, by decide +kernel, rfl, by decide +kernel, by decide +kernel⟩
-- slots: one=0 letters=1 reads=2 k=3 written=4 told=5
def spRol (K : PySem.W.Frag) : Sp := fun vs H Q _ => ∃ (p : Addr) (j : Nat) (ops : List Int), vs = [.ref p] ∧ j < 18 ∧ ops.length = (lets j).length ∧ SqT K H p (insV j ops) ∧ ∀ H', Same H H' → Q (.bl true) H'
theorem cal_law_roles (T : Txt K w mg X) (D : Def K mg "_law_roles" P_law_roles s_law_roles) (c_law_letters : Cal P w K mg base 2 "_law_letters" P_law_letters spLet) (c_sources : Cal P w K mg base 1 "sources" P_sources (spSrc K)) (c_target : Cal P w K mg base 1 "target" P_target (spTgt K)) (c_accesses : Cal P w K mg base 1 "accesses" P_accesses (spAcc K)) : Cal P w K mg base 3 "_law_roles" P_law_roles (spRol K) := by
  refine cal0 D sc_law_roles (fun vs H Q E h => ?_) (fun f cdv A outer s H vs Q E hr h => ?_)
  · obtain ⟨p, j, ops, rfl, _⟩ := h; rfl
  · obtain ⟨p, j, ops, rfl, hj, hl, hp, q⟩ := h
    have nd := sc_law_roles.nd
    refine ⟨_, (pss_cons (ps_set (i := 1) nd rfl (.inl rfl) (pe_c c_law_letters hr (by decide) rfl (pa_cons (pe_ix ix_tup (pv 0) pe_int (fun _ _ => rfl)) pa_nil)))
    (pss_cons (ps_set (i := 2) nd rfl (.inl rfl) (pe_lst pa_nil))
    (pss_cons (ps_for PassesOwn.never rfl (pi_range1 (by rfl) T.b_range (pa_cons (pe_callB call_len_str (by rfl) T.b_len PySem.boot_len (pa_cons (pv 1) pa_nil)) pa_nil)) (pg_name (i := 3) nd rfl (.inl rfl))
      (pss_one (ps_if (PW.pt (pw_and (pt_cmpR op_eq (pe_ix ix_str (pv 1) (pv 3) (fun _ _ => rfl)) pe_str (nomark _)) (pw_and1 (PW.pt (pw_or (pt_cmpR op_gt (pv 3) pe_int (nomark _)) (pw_or1 (pt_cmpR op_in_seq (pe_ix ix_tup (pv 0) pe_int (fun _ _ => rfl)) (pe_lst (pa_cons pe_str (pa_cons pe_str (pa_cons pe_str (pa_cons pe_str (pa_cons pe_str pa_nil)))))) rfl))))))) (pss_one (ps_expr (pe_bm PySem.F.plainAttrs_list PySem.F.slot_list_append PySem.F.type_list_append mt_append (pv 2) (pa_cons (pe_ix ix_tup (pv 0) (pe_op op_add (pv 3) pe_int) (fun _ _ => rfl)) pa_nil)))) pss_nil)))
    (pss_cons (ps_set (i := 4) nd rfl (.inl rfl) pe_non)
    (C8.pss_cut (ps_if (PW.pt (pw_and (pt_cmpR op_eq (pe_slice sl_str (pv 1) po_none (po_some pe_int)) pe_str (nomark _)) (pw_and1 (pt_cmpR op_notIn_seq (pe_ix ix_tup (pv 0) pe_int (fun _ _ => rfl)) (pe_lst (pa_cons pe_str (pa_cons pe_str (pa_cons pe_str (pa_cons pe_str pa_nil))))) rfl)))) (pss_one (ps_set (i := 4) nd rfl (.inl rfl) (pe_ix ix_tup (pv 0) pe_int (fun _ _ => rfl)))) pss_nil)
    (pss_cons (ps_set (i := 5) nd rfl (.inl rfl) (pe_c c_sources hr (by decide) rfl (pa_cons (pv 0) pa_nil)))
    (pss_cons (ps_if (PW.pt (pw_or (pt_not (pt_val (pe_callB call_isi (by rfl) T.b_isinstance (by decide +kernel) (pa_cons (pv 5) (pa_cons (pe_bltn (v := .ty "tuple") (by rfl) T.b_tuple (by decide +kernel) rfl) pa_nil))))) (pw_or (pt_cmpR (op_neD hr.units) (pe_callTy call_list_of (by rfl) T.b_list (by decide +kernel) (pa_cons (pv 5) pa_nil)) (pv 2) (nomark _)) (pw_or1 (pt_cmpR op_ne (pe_cmpR op_isN (pe_c c_target hr (by decide) rfl (pa_cons (pv 0) pa_nil)) pe_non (nomark _)) (pe_cmpR op_isN (pv 4) pe_non (nomark _)) (nomark _)))))) (pss_one (ps_ret pe_bl)) pss_nil)
    (pss_cons (ps_if (PW.pt (pw_and (pt_cmpR op_notN (pv 4) pe_non (nomark _)) (pw_and1 (PW.pt (pw_or (pt_cmpR op_ne (pe_c c_target hr (by decide) rfl (pa_cons (pv 0) pa_nil)) (pv 4) (nomark _)) (pw_or1 (pt_val (pe_callB call_isi (by rfl) T.b_isinstance (by decide +kernel) (pa_cons (pe_c c_target hr (by decide) rfl (pa_cons (pv 0) pa_nil)) (pa_cons (pe_bltn (v := .ty "bool") (by rfl) T.b_bool (by decide +kernel) rfl) pa_nil)))))))))) (pss_one (ps_ret pe_bl)) pss_nil)
    (pss_cons (ps_set (i := 5) nd rfl (.inl rfl) (pe_c c_accesses hr (by decide) rfl (pa_cons (pv 0) pa_nil)))
    (pss_one (ps_ret (pe_and (pe_callB call_isi (by rfl) T.b_isinstance (by decide +kernel) (pa_cons (pv 5) (pa_cons (pe_bltn (v := .ty "bool") (by rfl) T.b_bool (by decide +kernel) rfl) pa_nil))) (pe_one (pe_cmpR op_eq (pv 5) (pe_cmpR op_in_seq (pe_ix ix_tup (pv 0) pe_int (fun _ _ => rfl)) (pe_lst (pa_cons pe_str (pa_cons pe_str (pa_cons pe_str (pa_cons pe_str pa_nil))))) rfl) (nomark _))))))))))))))), ?_⟩
    have hp0 := hp
    unfold insV at hp
    refine ⟨_, rfl, _, _, _, _, rfl, rfl, hp, atI_of (j := 0) rfl, j, rfl, hj, fun H1 s1 => ?_⟩
    refine ⟨by show 0 ≤ sizeLine; decide, fun lr nr => ?_⟩
    refine ⟨_, rfl, _, rfl, lets_size hj, _, rfl, by rw [S_len]; have := let_short j hj; omega, by rw [S_len]; have := let_short j hj; omega, ?_⟩
    rw [S_len]
    refine for_range (lo := 0) (n := (lets j).length) (fun i σ H' => Same H H' ∧ H' lr = some (.lst (((List.range i).filter (rol j)).map fun k => .int (ops.getD k 0))) ∧ ∃ z, σ = [some (.ref p), some (.str (S (lets j))), some (.ref lr), z, none, none]) ⟨s1.trans (same_new nr), upd_same, _, rfl⟩ (fun i σ H' hi h => ?_) (fun σ H' h => ?_)
    · obtain ⟨sm, hlr, z, rfl⟩ := h
      have hp' := same_tup sm hp
      have hzi : (0 : Int) + (i : Int) = ((i : Nat) : Int) := by omega
      have h5 := let_short j hj
      have hsz : (((List.range i).filter (rol j)).map fun k => V.int (ops.getD k 0)).length < sizeLine := by
        have := List.length_filter_le (rol j) (List.range i)
        rw [List.length_range] at this
        rw [List.length_map, sizeLine_eq]
        omega
      have hsr : (List.range (i + 1)).filter (rol j) = (List.range i).filter (rol j) ++ (if rol j i = true then [i] else []) := by
        rw [List.range_succ, List.filter_append]
        congr 1
        cases h : rol j i
        · simp [h]
        · simp [h]
      refine ⟨_, rfl, _, rfl, _, _, (lets j).getD i 0, rfl, rfl, lets_size hj, ?_, rfl, _, rfl, ?_⟩
      · rw [hzi]
        exact atI_of (by rw [tlS]; exact getD_at hi)
      have nope : ∀ H2, Same H' H2 → rol j i = false → Same H H2 ∧ H2 lr = some (.lst (((List.range (i + 1)).filter (rol j)).map fun k => .int (ops.getD k 0))) ∧ ∃ z, ([some (.ref p), some (.str (S (lets j))), some (.ref lr), some (.int (0 + (i : Int))), none, none] : L2.St) = [some (.ref p), some (.str (S (lets j))), some (.ref lr), z, none, none] := fun H2 s2 e => by
        refine ⟨sm.trans s2, ?_, _, rfl⟩
        rw [hsr, e, if_neg (by decide), List.append_nil]
        exact s2 _ _ hlr
      have put : ∀ H2, Same H' H2 → rol j i = true → Same H (upd H2 lr (.lst ((((List.range i).filter (rol j)).map fun k => V.int (ops.getD k 0)) ++ [.int (ops.getD i 0)]))) ∧ upd H2 lr (.lst ((((List.range i).filter (rol j)).map fun k => V.int (ops.getD k 0)) ++ [.int (ops.getD i 0)])) lr = some (.lst (((List.range (i + 1)).filter (rol j)).map fun k => .int (ops.getD k 0))) ∧
          ∃ z, ([some (.ref p), some (.str (S (lets j))), some (.ref lr), some (.int (0 + (i : Int))), none, none] : L2.St) = [some (.ref p), some (.str (S (lets j))), some (.ref lr), z, none, none] := fun H2 s2 e => by
        refine ⟨fun a u ea => by rw [upd_ne (ne_of_none (s1 _ _ ea) nr)]; exact s2 _ _ (sm _ _ ea), ?_, _, rfl⟩
        rw [upd_same, hsr, e, if_pos rfl, List.map_append]
        rfl
      by_cases hr1 : (lets j).getD i 0 = 114
      · refine iteY (by rw [hr1]; rfl) ?_
        refine ⟨_, rfl, _, _, rfl, rfl, _, rfl, ?_⟩
        have rdy : atI (V.str (kindS j) :: ops.map V.int) (0 + (i : Int) + 1) = some (.int (ops.getD i 0)) := by
          rw [show (0 : Int) + (i : Int) + 1 = ((i + 1 : Nat) : Int) by omega]
          exact atI_of (by show (ops.map V.int)[i]? = _; exact at_ints (by omega))
        by_cases hi0 : i = 0
        · subst hi0
          refine iteN (by decide) ?_
          refine ⟨_, rfl, _, _, _, _, rfl, rfl, hp', atI_of (j := 0) rfl, by show 5 ≤ sizeLine; decide, fun pl nl => ⟨pl, rdL.map V.str, rfl, .inl new_lst, rfl, by decide +kernel, _, rfl, ?_⟩⟩
          rw [rd_in j hj]
          cases hrd : rdr j
          · refine iteF ?_
            exact nope _ (same_new nl) (by unfold rol; rw [hr1, hrd]; rfl)
          · refine iteT ?_
            have hl2 := same_new (o := .lst (rdL.map V.str)) nl _ _ hlr
            exact ⟨_, rfl, .inl ⟨rfl, _, SqL.of hl2⟩, _, rfl, _, rfl, _, _, rfl, rfl, _, _, _, .int (ops.getD 0 0), rfl, rfl, same_tup (same_new nl) hp', rdy, lr, _, _, rfl, rfl, hl2, hsz, put _ (same_new nl) (by unfold rol; rw [hr1, hrd]; rfl)⟩
        · refine iteY (decide_eq_true (by omega)) ?_
          have er : rol j i = true := by
            unfold rol
            rw [hr1, decide_eq_true (show 0 < i by omega)]
            rfl
          exact ⟨_, rfl, .inl ⟨rfl, _, SqL.of hlr⟩, _, rfl, _, rfl, _, _, rfl, rfl, _, _, _, .int (ops.getD i 0), rfl, rfl, hp', rdy, lr, _, _, rfl, rfl, hlr, hsz, put _ (Same.refl _) er⟩
      · refine iteN (sgn_ne (d := 114) hr1) ?_
        exact nope _ (Same.refl _) (by unfold rol; rw [decide_eq_false hr1]; rfl)
    · obtain ⟨sm, hlr, z, rfl⟩ := h
      have hp' := same_tup sm hp
      refine ⟨fun σ H2 => Same H H2 ∧ H2 lr = some (.lst (((List.range (lets j).length).filter (rol j)).map fun k => .int (ops.getD k 0))) ∧ σ = [some (.ref p), some (.str (S (lets j))), some (.ref lr), z, some (tgtV j ops), none], ?_, ?_⟩
      · have hw := wr_tgt j hj
        refine ⟨_, rfl, _, rfl, _, rfl, lets_size hj, rfl, _, rfl, ?_⟩
        rw [show (1 : Int) = ((1 : Nat) : Int) from rfl, cut_to]
        by_cases h1 : (lets j).take 1 = [114]
        · refine iteY (by rw [h1]; rfl) ?_
          rw [decide_eq_true h1, Bool.true_and] at hw
          refine ⟨_, rfl, _, _, _, _, rfl, rfl, hp', atI_of (j := 0) rfl, by show 4 ≤ sizeLine; decide, fun pl nl => ⟨pl, wrL.map V.str, rfl, .inl new_lst, rfl, by decide +kernel, _, rfl, ?_⟩⟩
          rw [wr_in j hj]
          have sn := same_new (o := .lst (wrL.map V.str)) nl
          cases hwr : wrr j
          · rw [hwr] at hw
            have ho : 0 < ops.length := by rw [hl]; exact tgt_ok j hj hw.symm
            refine iteT ⟨_, rfl, _, _, _, .int (ops.getD 0 0), rfl, rfl, same_tup sn hp', atI_of (j := 1) (by show (ops.map V.int)[0]? = _; exact at_ints ho), sm.trans sn, sn _ _ hlr, ?_⟩
            unfold tgtV
            rw [← hw]
            rfl
          · rw [hwr] at hw
            refine iteF ⟨sm.trans sn, sn _ _ hlr, ?_⟩
            unfold tgtV
            rw [← hw]
            rfl
        · refine iteN (str_ne h1) ?_
          rw [decide_eq_false h1, Bool.false_and] at hw
          refine ⟨sm, hlr, ?_⟩
          unfold tgtV
          rw [← hw]
          rfl
      · rintro σ H2 ⟨sm, hlr, rfl⟩
        have hp2 := same_tup sm hp0
        refine ⟨_, rfl, p, j, ops, rfl, hj, hl, hp2, fun p2 H3 s3 g3 => ?_⟩
        have hp3 := same_tup s3 hp2
        refine ⟨_, rfl, _, _, _, _, true, rfl, .ty _, tupType g3, rfl, _, rfl, iteN rfl ?_⟩
        refine ⟨_, rfl, p2, _, rfl, .inr g3, fun l nl => ?_⟩
        have sn := same_new (o := .lst ((srcOf j).map fun k => V.int (ops.getD (k - 1) 0))) nl
        have e1 : ((srcOf j).map fun k => V.int (ops.getD (k - 1) 0)) = (((srcOf j).map fun k => ops.getD (k - 1) 0).map V.int) := by rw [List.map_map]; rfl
        have e2 : (((List.range (lets j).length).filter (rol j)).map fun k => V.int (ops.getD k 0)) = (((srcOf j).map fun k => ops.getD (k - 1) 0).map V.int) := by
          rw [← rol_src j hj, List.map_map, List.map_map]
          rfl
        have hlr3 := sn _ _ (s3 _ _ hlr)
        have hp4 := same_tup sn hp3
        have s4 := (sm.trans s3).trans sn
        rw [e2] at hlr3
        refine ⟨_, rfl, ne_ints (xs := (srcOf j).map fun k => ops.getD (k - 1) 0) (.of (by rw [← e1]; exact upd_same)) (.of hlr3) ⟨_, rfl, iteN rfl ?_⟩⟩
        have ht : tgtV j ops = .non ∨ ∃ o, tgtV j ops = .int o := by
          unfold tgtV
          cases hasT j
          · exact .inl rfl
          · exact .inr ⟨_, rfl⟩
        generalize upd H3 l _ = H4 at *
        refine ⟨_, rfl, p, j, ops, rfl, hj, hl, hp4, rfl, _, rfl, rfl, rfl, _, rfl, iteN (by simp) ?_⟩
        rcases ht with e | ⟨o, e⟩ <;> rw [e]
        · refine ⟨_, rfl, rfl, _, rfl, iteN rfl ?_⟩
          refine ⟨_, rfl, p, j, ops, rfl, hj, hl, hp4, ?_⟩
          refine ⟨_, rfl, _, _, _, _, true, rfl, .ty _, .base (.bl _), rfl, _, rfl, iteT ?_⟩
          refine ⟨_, rfl, _, rfl, _, _, _, _, rfl, rfl, same_tup s4 hp, atI_of (j := 0) rfl, by show 4 ≤ sizeLine; decide, fun pl nl2 => ⟨pl, accL.map V.str, rfl, .inl new_lst, rfl, by decide +kernel, rfl, ?_⟩⟩
          rw [acc_in j hj, if_neg (by decide), decide_eq_true rfl]
          exact q _ (s4.trans (same_new nl2))
        · refine ⟨_, rfl, rfl, _, rfl, iteY rfl ?_⟩
          refine ⟨_, rfl, p, j, ops, rfl, hj, hl, hp4, ?_⟩
          rw [e]
          refine ⟨_, rfl, rfl, _, rfl, iteN (by simp) ?_⟩
          refine ⟨_, rfl, p, j, ops, rfl, hj, hl, hp4, ?_⟩
          rw [e]
          refine ⟨_, _, _, _, false, rfl, .ty _, .base (.int _), rfl, _, rfl, iteN rfl ?_⟩
          refine ⟨_, rfl, p, j, ops, rfl, hj, hl, hp4, ?_⟩
          refine ⟨_, rfl, _, _, _, _, true, rfl, .ty _, .base (.bl _), rfl, _, rfl, iteT ?_⟩
          refine ⟨_, rfl, _, rfl, _, _, _, _, rfl, rfl, same_tup s4 hp, atI_of (j := 0) rfl, by show 4 ≤ sizeLine; decide, fun pl nl2 => ⟨pl, accL.map V.str, rfl, .inl new_lst, rfl, by decide +kernel, rfl, ?_⟩⟩
          rw [acc_in j hj, if_neg (by decide), decide_eq_true rfl]
          exact q _ (s4.trans (same_new nl2))

end
end K87
set_option maxHeartbeats 4000000
set_option pp.deepTerms false
set_option pp.deepTerms.threshold 3
namespace K87
open PySem PySem.Spec PyProof.Rows L2 SX BB BD BQ BS BE PN BZ
local macro_rules | `(tactic| walk_at "side") => `(tactic| (try dsimp only) <;> (first | decide | omega | assumption | (unfold CMul; omega) | (unfold CDiv; omega)))
local macro_rules | `(tactic| walk_at "sq") => `(tactic| first
  | assumption
  | exact new_tup
  | exact same_tup (by assumption) (by assumption)
  | (refine same_tup (same_new (by assumption)) ?_; walk_at "sq"))
local macro_rules | `(tactic| walk_at "rd") => `(tactic| first
  | refine ⟨_, rfl, ?_⟩
  | refine ⟨_, _, _, _, rfl, rfl, (by walk_at "sq"), atI_of (j := 0) rfl, ?_⟩
  | refine ⟨_, _, _, _, rfl, rfl, (by walk_at "sq"), atI_of (j := 1) rfl, ?_⟩
  | refine ⟨_, _, rfl, rfl, ?_⟩
  | refine ⟨_, _, rfl, ?_⟩
  | refine And.intro rfl ?_
  | refine And.intro (by walk_at "side") ?_
  | refine Or.inl ⟨_, rfl, ?_⟩)
local macro_rules | `(tactic| walk_at "no") => `(tactic| refine ⟨_, rfl, rfl, _, rfl, iteN (by decide +kernel) ?_⟩)
local macro_rules | `(tactic| walk_at "yes") => `(tactic| refine ⟨_, rfl, rfl, _, rfl, iteY (by decide +kernel) ?_⟩)
local macro_rules | `(tactic| walk_at "rds") => `(tactic| repeat (walk_at "rd"))
section
variable {P : Program} {w : World} {K : PySem.W.Frag} {mg : Str → Option Value} {base : Heap} {X : Top} {eB : Addr}

abbrev s_law_edges : Stmt := topS 32
abbrev N_law_edges : List Str := ["one", "k", "bounds", "total", "registers", "cells", "letter"]
abbrev P_law_edges : List Str := ["one", "k", "bounds"]
theorem sc_law_edges : FnScope N_law_edges P_law_edges (defScope s_law_edges) := ⟨rfl, rfl, rfl, by decide +kernel, rfl, by decide +kernel, by decide +kernel⟩
-- slots: one=0 k=1 bounds=2 total=3 registers=4 cells=5 letter=6
def spEdg (K : PySem.W.Frag) : Sp := fun vs H Q _ => ∃ (p : Addr) (j k : Nat) (ops : List Int) (b : Addr) (T R C : Int), vs = [.ref p, .int k, .ref b] ∧ j < 18 ∧ ops.length = (lets j).length ∧ SqT K H p (insV j ops) ∧ k < ops.length ∧ SqT K H b [.int T, .int R, .int C] ∧
  ∀ pl pg pb H', Same H H' → SqL K H' pl [.ref pg, .ref pb] → SqL K H' pg ((edg ((lets j).getD k 0) (ops.getD (k - 1) 0) (ops.getD (k + 1) 0) T R C).1.map V.int) → SqL K H' pb ((edg ((lets j).getD k 0) (ops.getD (k - 1) 0) (ops.getD (k + 1) 0) T R C).2.map V.int) → Q (.ref pl) H'
theorem cal_law_edges (T : Txt K w mg X) (D : Def K mg "_law_edges" P_law_edges s_law_edges) (c_law_letters : Cal P w K mg base 2 "_law_letters" P_law_letters spLet) : Cal P w K mg base 3 "_law_edges" P_law_edges (spEdg K) := by
  refine cal0 D sc_law_edges (fun vs H Q E h => ?_) (fun f cdv A outer s H vs Q E hr h => ?_)
  · obtain ⟨p, j, k, ops, b, tt, rr, cc, rfl, _⟩ := h; rfl
  · obtain ⟨p, j, k, ops, b, tt, rr, cc, rfl, hj, hl, hp, hk, hb, q⟩ := h
    have nd := sc_law_edges.nd
    refine ⟨_, (pss_cons (ps_asg (pv 2) (pg_tup rfl (pgs_cons (pg_name (i := 3) nd rfl (.inl rfl)) (pgs_cons (pg_name (i := 4) nd rfl (.inl rfl)) (pgs_cons (pg_name (i := 5) nd rfl (.inl rfl)) pgs_nil)))))
    (pss_cons (ps_set (i := 6) nd rfl (.inl rfl) (pe_ix ix_str (pe_c c_law_letters hr (by decide) rfl (pa_cons (pe_ix ix_tup (pv 0) pe_int (fun _ _ => rfl)) pa_nil)) (pv 1) (fun _ _ => rfl)))
    (pss_cons (ps_if (pt_cmpR op_eq (pv 6) pe_str (nomark _)) (pss_one (ps_ret (pe_lst (pa_cons (pe_lst (pa_cons pe_int (pa_cons (pe_op op_sub (pv 4) pe_int) pa_nil))) (pa_cons (pe_lst (pa_cons (pe_un un_neg pe_int) (pa_cons (pv 4) pa_nil))) pa_nil))))) pss_nil)
    (pss_cons (ps_if (pt_cmpR op_eq (pv 6) pe_str (nomark _)) (pss_one (ps_ret (pe_lst (pa_cons (pe_lst (pa_cons (pe_un un_neg pe_int) (pa_cons pe_int pa_nil))) (pa_cons (pe_lst (pa_cons (pe_un un_neg pe_int) (pa_cons pe_int pa_nil))) pa_nil))))) pss_nil)
    (pss_cons (ps_if (pt_cmpR op_eq (pv 6) pe_str (nomark _)) (pss_one (ps_ret (pe_lst (pa_cons (pe_lst (pa_cons pe_int (pa_cons (pe_op op_sub (pv 5) pe_int) pa_nil))) (pa_cons (pe_lst (pa_cons (pe_un un_neg pe_int) (pa_cons (pv 5) pa_nil))) pa_nil))))) pss_nil)
    (pss_cons (ps_if (pt_cmpR op_eq (pv 6) pe_str (nomark _)) (pss_one (ps_ret (pe_lst (pa_cons (pe_lst (pa_cons pe_int (pa_cons (pe_op op_sub (pv 5) (pe_ix ix_tup (pv 0) (pe_op op_add (pv 1) pe_int) (fun _ _ => rfl))) pa_nil))) (pa_cons (pe_lst (pa_cons (pe_un un_neg pe_int) (pa_cons (pe_op op_add (pe_op op_sub (pv 5) (pe_ix ix_tup (pv 0) (pe_op op_add (pv 1) pe_int) (fun _ _ => rfl))) pe_int) pa_nil))) pa_nil))))) pss_nil)
    (pss_cons (ps_if (pt_cmpR op_eq (pv 6) pe_str (nomark _)) (pss_one (ps_ret (pe_lst (pa_cons (pe_lst (pa_cons pe_int (pa_cons (pe_op op_sub (pv 5) (pe_ix ix_tup (pv 0) (pv 1) (fun _ _ => rfl))) pa_nil))) (pa_cons (pe_lst (pa_cons pe_int (pa_cons (pe_op op_add (pe_op op_sub (pv 5) (pe_ix ix_tup (pv 0) (pv 1) (fun _ _ => rfl))) pe_int) pa_nil))) pa_nil))))) pss_nil)
    (pss_cons (ps_if (pt_cmpR op_eq (pv 6) pe_str (nomark _)) (pss_one (ps_ret (pe_lst (pa_cons (pe_lst (pa_cons pe_int (pa_cons (pe_op op_sub (pv 3) pe_int) pa_nil))) (pa_cons (pe_lst (pa_cons (pe_un un_neg pe_int) (pa_cons (pv 3) pa_nil))) pa_nil))))) pss_nil)
    (pss_one (ps_ret (pe_lst (pa_cons (pe_lst (pa_cons pe_int (pa_cons pe_int pa_nil))) (pa_cons (pe_lst (pa_cons pe_int (pa_cons pe_int pa_nil))) pa_nil))))))))))))), ?_⟩
    unfold insV at hp
    have h5 := let_short j hj
    have hkl : k < (lets j).length := by rw [← hl]; exact hk
    refine ⟨_, rfl, b, _, rfl, hb, rfl, _, _, rfl, _, _, rfl, _, _, rfl, rfl, ?_⟩
    refine ⟨_, rfl, _, _, _, _, rfl, rfl, hp, atI_of (j := 0) rfl, j, rfl, hj, fun H1 s1 => ?_⟩
    refine ⟨_, rfl, _, _, (lets j).getD k 0, rfl, rfl, lets_size hj, atI_of (by rw [tlS]; exact getD_at hkl), ?_⟩
    have fin : ∀ (g bd : List Int), edg ((lets j).getD k 0) (ops.getD (k - 1) 0) (ops.getD (k + 1) 0) tt rr cc = (g, bd) → ∀ pg, H1 pg = none → ∀ pb, upd H1 pg (.lst (g.map V.int)) pb = none → ∀ pl, upd (upd H1 pg (.lst (g.map V.int))) pb (.lst (bd.map V.int)) pl = none →
        Q (.ref pl) (upd (upd (upd H1 pg (.lst (g.map V.int))) pb (.lst (bd.map V.int))) pl (.lst [.ref pg, .ref pb])) := fun g bd e pg ng pb nb pl nl => by
      refine q pl pg pb _ (((s1.trans (same_new ng)).trans (same_new nb)).trans (same_new nl)) new_lst ?_ ?_
      · rw [e]
        exact same_lst (same_new nl) (same_lst (same_new nb) new_lst)
      · rw [e]
        exact same_lst (same_new nl) new_lst
    have hp1 := same_tup s1 hp
    have hc := let_getD hj hkl
    have e? : (lets j)[k]? = some ((lets j).getD k 0) := getD_at hkl
    have nx : (lets j).getD k 0 = 98 → k + 1 < ops.length := fun e => by
      have := (List.getElem?_eq_some_iff.mp (let_b j hj k (by omega) (by rw [e?, e]))).1
      omega
    have pz : (lets j).getD k 0 = 110 → 0 < k := fun e => (let_n j hj k (by omega) (by rw [e?, e])).1
    have atb : k + 1 < ops.length → atI (V.str (kindS j) :: ops.map V.int) ((k : Int) + 2) = some (.int (ops.getD (k + 1) 0)) := fun h => by
      rw [show (k : Int) + 2 = ((k + 2 : Nat) : Int) by omega]
      exact atI_of (by show (ops.map V.int)[k + 1]? = _; exact at_ints h)
    have atn : 0 < k → atI (V.str (kindS j) :: ops.map V.int) (k : Int) = some (.int (ops.getD (k - 1) 0)) := fun h => by
      obtain ⟨k', rfl⟩ : ∃ k', k = k' + 1 := ⟨k - 1, by omega⟩
      exact atI_of (by show (ops.map V.int)[k']? = _; exact at_ints (by omega))
    generalize (lets j).getD k 0 = c at hc fin nx pz e? ⊢
    simp only [List.mem_cons, List.mem_nil_iff, or_false] at hc
    rcases hc with rfl | rfl | rfl | rfl | rfl | rfl | rfl
    · walk_at "yes"
      refine ⟨_, rfl, _, _, rfl, rfl, (by show 2 ≤ sizeLine; decide), fun pg ng => ?_⟩
      refine ⟨_, rfl, _, rfl, (by show 2 ≤ sizeLine; decide), fun pb nb => ⟨(by show 2 ≤ sizeLine; decide), fun pl nl => fin _ _ rfl pg ng pb nb pl nl⟩⟩
    · walk_at "no"; walk_at "yes"
      refine ⟨_, rfl, (by show 2 ≤ sizeLine; decide), fun pg ng => ?_⟩
      refine ⟨_, rfl, (by show 2 ≤ sizeLine; decide), fun pb nb => ⟨(by show 2 ≤ sizeLine; decide), fun pl nl => fin _ _ rfl pg ng pb nb pl nl⟩⟩
    · walk_at "no"; walk_at "no"; walk_at "yes"
      refine ⟨_, rfl, _, _, rfl, rfl, (by show 2 ≤ sizeLine; decide), fun pg ng => ?_⟩
      refine ⟨_, rfl, _, rfl, (by show 2 ≤ sizeLine; decide), fun pb nb => ⟨(by show 2 ≤ sizeLine; decide), fun pl nl => fin _ _ rfl pg ng pb nb pl nl⟩⟩
    · walk_at "no"; walk_at "no"; walk_at "no"; walk_at "no"; walk_at "no"; walk_at "yes"
      refine ⟨_, rfl, _, _, rfl, rfl, (by show 2 ≤ sizeLine; decide), fun pg ng => ?_⟩
      refine ⟨_, rfl, _, rfl, (by show 2 ≤ sizeLine; decide), fun pb nb => ⟨(by show 2 ≤ sizeLine; decide), fun pl nl => fin _ _ rfl pg ng pb nb pl nl⟩⟩
    · walk_at "no"; walk_at "no"; walk_at "no"; walk_at "yes"
      refine ⟨_, rfl, _, rfl, _, rfl, _, _, rfl, rfl, _, _, _, .int (ops.getD (k + 1) 0), rfl, rfl, hp1, atb (nx rfl), _, _, rfl, rfl, (by show 2 ≤ sizeLine; decide), fun pg ng => ?_⟩
      refine ⟨_, rfl, _, rfl, _, rfl, _, rfl, _, _, rfl, rfl, _, _, _, .int (ops.getD (k + 1) 0), rfl, rfl, same_tup (same_new ng) hp1, atb (nx rfl), _, _, rfl, rfl, _, _, rfl, rfl, (by show 2 ≤ sizeLine; decide), fun pb nb => ⟨(by show 2 ≤ sizeLine; decide), fun pl nl => fin _ _ rfl pg ng pb nb pl nl⟩⟩
    · walk_at "no"; walk_at "no"; walk_at "no"; walk_at "no"; walk_at "yes"
      refine ⟨_, rfl, _, rfl, _, rfl, _, _, _, .int (ops.getD (k - 1) 0), rfl, rfl, hp1, atn (pz rfl), _, _, rfl, rfl, (by show 2 ≤ sizeLine; decide), fun pg ng => ?_⟩
      refine ⟨_, rfl, _, rfl, _, rfl, _, _, _, .int (ops.getD (k - 1) 0), rfl, rfl, same_tup (same_new ng) hp1, atn (pz rfl), _, _, rfl, rfl, _, _, rfl, rfl, (by show 2 ≤ sizeLine; decide), fun pb nb => ⟨(by show 2 ≤ sizeLine; decide), fun pl nl => fin _ _ rfl pg ng pb nb pl nl⟩⟩
    · walk_at "no"; walk_at "no"; walk_at "no"; walk_at "no"; walk_at "no"; walk_at "no"
      refine ⟨(by show 2 ≤ sizeLine; decide), fun pg ng => ?_⟩
      refine ⟨(by show 2 ≤ sizeLine; decide), fun pb nb => ⟨(by show 2 ≤ sizeLine; decide), fun pl nl => fin _ _ rfl pg ng pb nb pl nl⟩⟩

abbrev s_law_spoilt : Stmt := topS 33
abbrev N_law_spoilt : List Str := ["slots", "place", "one", "bounds", "total", "registers", "cells", "k", "good", "bad", "value", "changed", "told", "op"]
abbrev P_law_spoilt : List Str := ["slots", "place", "one", "bounds"]
theorem sc_law_spoilt : FnScope N_law_spoilt P_law_spoilt (defScope s_law_spoilt) := ⟨rfl, rfl, rfl, by decide +kernel, rfl, by decide +kernel, by decide +kernel⟩
-- slots: slots=0 place=1 one=2 bounds=3 total=4 registers=5 cells=6 k=7 good=8 bad=9 value=10 changed=11 told=12 op=13
def spSpo (K : PySem.W.Frag) : Sp := fun vs H Q _ => ∃ (sl p b : Addr) (pre post : List Int) (j : Nat) (ops : List Int) (R C : Int), vs = [.ref sl, .int pre.length, .ref p, .ref b] ∧ SqL K H sl ((pre ++ enc j ops ++ post).map V.int) ∧ Good j ops (pre ++ enc j ops ++ post).length R C ∧ 1 ≤ R ∧ SqT K H p (insV j ops) ∧
  SqT K H b [.int (pre ++ enc j ops ++ post).length, .int R, .int C] ∧ (pre ++ enc j ops ++ post).length ≤ 1000 ∧ ∀ H', Same H H' → Q (.bl true) H'
theorem cal_law_spoilt (T : Txt K w mg X) (D : Def K mg "_law_spoilt" P_law_spoilt s_law_spoilt) (c_law_edges : Cal P w K mg base 3 "_law_edges" P_law_edges (spEdg K)) (c_law_read : Cal P w K mg base 4 "_law_read" P_law_read (spRead K)) (c_law_same : Cal P w K mg base 1 "_law_same" P_law_same (spSame K)) (c_law_refused : Cal P w K mg base 1 "_law_refused" P_law_refused (spRef K)) : Cal P w K mg base 5 "_law_spoilt" P_law_spoilt (spSpo K) := by
  refine cal0 D sc_law_spoilt (fun vs H Q E h => ?_) (fun f cdv A outer s H vs Q E hr h => ?_)
  · obtain ⟨sl, p, b, pre, post, j, ops, rr, cc, rfl, _⟩ := h; rfl
  · obtain ⟨sl, p, b, pre, post, j, ops, rr, cc, rfl, hs, g, r1, hp, hb, hz, q⟩ := h
    have nd := sc_law_spoilt.nd
    refine ⟨_, (pss_cons (ps_asg (pv 3) (pg_tup rfl (pgs_cons (pg_name (i := 4) nd rfl (.inl rfl)) (pgs_cons (pg_name (i := 5) nd rfl (.inl rfl)) (pgs_cons (pg_name (i := 6) nd rfl (.inl rfl)) pgs_nil)))))
    (pss_cons (ps_for PassesOwn.never rfl (pi_range1 (by rfl) T.b_range (pa_cons (pe_op op_sub (pe_callB call_len_seq (by rfl) T.b_len PySem.boot_len (pa_cons (pv 2) pa_nil)) pe_int) pa_nil)) (pg_name (i := 7) nd rfl (.inl rfl))
      (pss_cons (ps_asg (pe_c c_law_edges hr (by decide) rfl (pa_cons (pv 2) (pa_cons (pv 7) (pa_cons (pv 3) pa_nil)))) (pg_unl rfl (pgs_cons (pg_name (i := 8) nd rfl (.inl rfl)) (pgs_cons (pg_name (i := 9) nd rfl (.inl rfl)) pgs_nil))))
    (pss_cons (ps_for PassesOwn.never rfl (pi_list (pv 8)) (pg_name (i := 10) nd rfl (.inl rfl))
      (pss_cons (ps_set (i := 11) nd rfl (.inl rfl) (pe_callTy call_list_of (by rfl) T.b_list (by decide +kernel) (pa_cons (pv 0) pa_nil)))
    (pss_cons (ps_asg (pv 10) (pg_sub (pv 11) (pe_op op_add (pe_op op_add (pv 1) pe_int) (pv 7)) set_list))
    (pss_cons (ps_set (i := 12) nd rfl (.inl rfl) (pe_c c_law_read hr (by decide) rfl (pa_cons (pv 11) (pa_cons (pv 1) (pa_cons (pv 5) (pa_cons (pv 6) pa_nil))))))
    (pss_one (ps_if (PW.pt (pw_or (pt_cmpR op_ne (pe_ix ix_tup (pv 12) pe_int (fun _ _ => rfl)) pe_str (nomark _)) (pw_or1 (pt_not (pt_val (pe_c c_law_same hr (by decide) rfl (pa_cons (pe_ix ix_tup (pv 12) pe_int (fun _ _ => rfl)) (pa_cons (pe_op op_catTup (pe_op op_catTup (pe_slice sl_any (pv 2) po_none (po_some (pe_op op_add (pv 7) pe_int))) (pe_tup (pa_cons (pv 10) pa_nil))) (pe_slice sl_any (pv 2) (po_some (pe_op op_add (pv 7) pe_int)) po_none)) pa_nil)))))))) (pss_one (ps_ret pe_bl)) pss_nil))))))
    (pss_one (ps_for PassesOwn.never rfl (pi_list (pv 9)) (pg_name (i := 10) nd rfl (.inl rfl))
      (pss_cons (ps_set (i := 11) nd rfl (.inl rfl) (pe_callTy call_list_of (by rfl) T.b_list (by decide +kernel) (pa_cons (pv 0) pa_nil)))
    (pss_cons (ps_asg (pv 10) (pg_sub (pv 11) (pe_op op_add (pe_op op_add (pv 1) pe_int) (pv 7)) set_list))
    (pss_one (ps_if (pt_not (pt_val (pe_c c_law_refused hr (by decide) rfl (pa_cons (pe_c c_law_read hr (by decide) rfl (pa_cons (pv 11) (pa_cons (pv 1) (pa_cons (pv 5) (pa_cons (pv 6) pa_nil))))) (pa_cons (pv 1) pa_nil))))) (pss_one (ps_ret pe_bl)) pss_nil)))))))))
    (pss_cons (ps_for PassesOwn.never rfl (pi_list (pe_lst (pa_cons pe_int (pa_cons pe_int (pa_cons (pe_un un_neg pe_int) pa_nil))))) (pg_name (i := 13) nd rfl (.inl rfl))
      (pss_cons (ps_set (i := 11) nd rfl (.inl rfl) (pe_callTy call_list_of (by rfl) T.b_list (by decide +kernel) (pa_cons (pv 0) pa_nil)))
    (pss_cons (ps_asg (pv 13) (pg_sub (pv 11) (pv 1) set_list))
    (pss_one (ps_if (pt_not (pt_val (pe_c c_law_refused hr (by decide) rfl (pa_cons (pe_c c_law_read hr (by decide) rfl (pa_cons (pv 11) (pa_cons (pv 1) (pa_cons (pv 5) (pa_cons (pv 6) pa_nil))))) (pa_cons (pv 1) pa_nil))))) (pss_one (ps_ret pe_bl)) pss_nil)))))
    (pss_cons (ps_if (pt_not (pt_val (pe_c c_law_refused hr (by decide) rfl (pa_cons (pe_c c_law_read hr (by decide) rfl (pa_cons (pe_slice sl_list (pv 0) po_none (po_some (pe_op op_sub (pe_op op_add (pv 1) (pe_callB call_len_seq (by rfl) T.b_len PySem.boot_len (pa_cons (pv 2) pa_nil))) pe_int))) (pa_cons (pv 1) (pa_cons (pv 5) (pa_cons (pv 6) pa_nil))))) (pa_cons (pv 1) pa_nil))))) (pss_one (ps_ret pe_bl)) pss_nil)
    (pss_one (ps_ret (pe_and (pe_c c_law_refused hr (by decide) rfl (pa_cons (pe_c c_law_read hr (by decide) rfl (pa_cons (pv 0) (pa_cons (pe_un un_neg pe_int) (pa_cons (pv 5) (pa_cons (pv 6) pa_nil))))) (pa_cons (pe_un un_neg pe_int) pa_nil))) (pe_one (pe_c c_law_refused hr (by decide) rfl (pa_cons (pe_c c_law_read hr (by decide) rfl (pa_cons (pv 0) (pa_cons (pv 4) (pa_cons (pv 5) (pa_cons (pv 6) pa_nil))))) (pa_cons (pv 4) pa_nil))))))))))), ?_⟩
    have hj := g.jl
    have hl := g.len
    have h5 := let_short j hj
    generalize hxs : pre ++ enc j ops ++ post = xs at hs g hb hz
    have hlx : pre.length + 1 + ops.length ≤ xs.length := by rw [← hxs]; simp [enc]; omega
    have hbig : ((pre.length : Nat) : Int).natAbs < 2 ^ 64 := by omega
    have hlen : (insV j ops).length = ops.length + 1 := by simp [insV]
    refine ⟨_, rfl, b, _, rfl, hb, rfl, _, _, rfl, _, _, rfl, _, _, rfl, rfl, ?_⟩
    refine ⟨_, rfl, p, _, rfl, .inr hp, _, _, rfl, rfl, _, rfl, by rw [hlen]; omega, by rw [hlen]; omega, ?_⟩
    rw [hlen, show (((ops.length + 1 : Nat) : Int) - 1).toNat = ops.length by omega]
    refine for_range (lo := 0) (n := ops.length) (fun i σ H' => Same H H' ∧ ∃ z7 z8 z9 z10 z11 z12, σ = [some (.ref sl), some (.int pre.length), some (.ref p), some (.ref b), some (.int xs.length), some (.int rr), some (.int cc), z7, z8, z9, z10, z11, z12, none]) ⟨Same.refl _, _, _, _, _, _, _, rfl⟩ (fun i σ H' hi h => ?_) (fun σ H' h => ?_)
    · obtain ⟨sm, z7, z8, z9, z10, z11, z12, rfl⟩ := h
      have hzi : (0 : Int) + (i : Int) = ((i : Nat) : Int) := by omega
      rw [hzi]
      refine ⟨_, rfl, _, rfl, _, rfl, p, j, i, ops, b, xs.length, rr, cc, rfl, hj, hl, same_tup sm hp, hi, same_tup sm hb, fun pl pg pb H1 s1 g1 g2 g3 => ?_⟩
      refine ⟨pl, _, rfl, g1, rfl, _, _, rfl, _, _, rfl, rfl, ?_⟩
      have sm1 := sm.trans s1
      have gd : ∀ v, v ∈ (edg ((lets j).getD i 0) (ops.getD (i - 1) 0) (ops.getD (i + 1) 0) xs.length rr cc).1 → decZ (xs.set (pre.length + 1 + i) v) pre.length rr cc = some (j, ops.set i v) := fun v hv => by
        have e := edg_good g (by omega) r1 hi hv
        rw [← hxs] at e ⊢
        rw [set_slot hi]
        exact dec_good' (by simp) e
      have bd : ∀ v, v ∈ (edg ((lets j).getD i 0) (ops.getD (i - 1) 0) (ops.getD (i + 1) 0) xs.length rr cc).2 → decZ (xs.set (pre.length + 1 + i) v) pre.length rr cc = none := fun v hv => by
        have e := edg_bad g hi hv
        rw [← hxs] at e ⊢
        rw [set_slot hi]
        exact dec_bad' hj (by simp [hl]) (by simp) e
      generalize edg ((lets j).getD i 0) (ops.getD (i - 1) 0) (ops.getD (i + 1) 0) xs.length rr cc = ee at gd bd g2 g3
      have hix : ixN (xs.map V.int).length ((pre.length : Int) + 1 + (i : Int)) = some (pre.length + 1 + i) := by
        rw [show (pre.length : Int) + 1 + (i : Int) = ((pre.length + 1 + i : Nat) : Int) by omega]
        exact ixN_nat (by rw [List.length_map]; omega)
      refine ⟨_, rfl, pg, rfl, ⟨_, g2⟩, forR_list (fun r σ H2 => Same H1 H2 ∧ ∃ z10 z11 z12, σ = [some (.ref sl), some (.int pre.length), some (.ref p), some (.ref b), some (.int xs.length), some (.int rr), some (.int cc), some (.int ((i : Nat) : Int)), some (.ref pg), some (.ref pb), z10, z11, z12, none]) ⟨Same.refl _, _, _, _, rfl⟩ (fun r σ H2 h => same_lst h.1 g2) (fun x r σ H2 hx h => ?_) (fun σ H2 h => ?_)⟩
      · obtain ⟨s2, z10, z11, z12, rfl⟩ := h
        obtain ⟨v, hv, rfl⟩ := List.mem_map.mp hx
        have s02 := sm1.trans s2
        refine ⟨_, rfl, sl, _, rfl, .inl (same_lst s02 hs), fun ch nc => ?_⟩
        refine ⟨_, rfl, _, rfl, _, rfl, _, _, rfl, rfl, _, rfl, _, _, rfl, rfl, ch, _, _, _, rfl, rfl, upd_same, hix, ?_⟩
        rw [upd_upd, set_ints]
        have s3 := same_new (o := .lst ((xs.set (pre.length + 1 + i) v).map V.int)) nc
        refine ⟨_, rfl, _, rfl, _, rfl, _, rfl, ch, xs.set (pre.length + 1 + i) v, pre.length, rr, cc, rfl, .inl new_lst, hbig, by rw [List.length_set]; omega, fun p' H3 s4 ra => ?_⟩
        rw [gd v hv] at ra
        obtain ⟨_, rq, ra, rb⟩ := ra
        have hp3 := same_tup (((s02.trans s3).trans s4)) hp
        refine ⟨_, rfl, _, _, _, _, rfl, rfl, ra, atI_of (j := 0) rfl, rfl, _, rfl, iteN (by decide +kernel) ?_⟩
        refine ⟨_, rfl, _, _, _, _, rfl, rfl, ra, atI_of (j := 1) rfl, ?_⟩
        refine ⟨_, rfl, _, rfl, _, _, rfl, rfl, _, rfl, p, _, rfl, .inr ⟨hp3, fun p5 H5 s5 g5 => ?_⟩⟩
        refine ⟨_, rfl, by show 1 ≤ sizeLine; decide, fun pt nt => ⟨p5, pt, _, _, rfl, rfl, same_tup (same_new nt) g5, new_tup, ?_, fun p6 H6 s6 g6 => ?_⟩⟩
        · have := cutV_length (insV j ops) none (some ((i : Int) + 1))
          rw [hlen] at this
          rw [sizeLine_eq]
          exact Nat.le_trans (Nat.add_le_add_right this 1) (by omega)
        have s46 := (s5.trans (same_new nt)).trans s6
        refine ⟨_, rfl, _, rfl, _, _, rfl, rfl, _, rfl, p, _, rfl, .inr ⟨same_tup s46 hp3, fun p7 H7 s7 g7 => ?_⟩⟩
        refine ⟨p6, p7, _, _, rfl, rfl, same_tup s7 g6, g7, ?_, fun p8 H8 s8 g8 => ?_⟩
        · have h1 := cutV_length (insV j ops) none (some ((i : Int) + 1))
          have h2 := cutV_length (insV j ops) (some ((i : Int) + 2)) none
          rw [hlen] at h1 h2
          rw [sizeLine_eq, List.length_append]
          exact Nat.le_trans (Nat.add_le_add (Nat.add_le_add_right h1 1) h2) (by omega)
        have g8 : SqT K H8 p8 (insV j (ops.set i v)) := by
          rw [← insV_set hi, ← cutV_to, ← cutV_from]
          exact g8
        refine ⟨rq, p8, j, ops.set i v, rfl, same_tup ((s46.trans s7).trans s8) rb, g8, by rw [List.length_set]; omega, _, rfl, iteN rfl ?_⟩
        exact ⟨s2.trans ((s3.trans s4).trans ((s46.trans s7).trans s8)), _, _, _, rfl⟩
      · obtain ⟨s2, z10, z11, z12, rfl⟩ := h
        refine ⟨_, rfl, pb, rfl, ⟨_, same_lst s2 g3⟩, forR_list (fun r σ H2 => Same H1 H2 ∧ ∃ z10 z11, σ = [some (.ref sl), some (.int pre.length), some (.ref p), some (.ref b), some (.int xs.length), some (.int rr), some (.int cc), some (.int ((i : Nat) : Int)), some (.ref pg), some (.ref pb), z10, z11, z12, none]) ⟨s2, _, _, rfl⟩ (fun r σ H2 h => same_lst h.1 g3) (fun x r σ H2 hx h => ?_) (fun σ H2 h => ?_)⟩
        · obtain ⟨s2, z10, z11, rfl⟩ := h
          obtain ⟨v, hv, rfl⟩ := List.mem_map.mp hx
          have s02 := sm1.trans s2
          refine ⟨_, rfl, sl, _, rfl, .inl (same_lst s02 hs), fun ch nc => ?_⟩
          refine ⟨_, rfl, _, rfl, _, rfl, _, _, rfl, rfl, _, rfl, _, _, rfl, rfl, ch, _, _, _, rfl, rfl, upd_same, hix, ?_⟩
          rw [upd_upd, set_ints]
          have s3 := same_new (o := .lst ((xs.set (pre.length + 1 + i) v).map V.int)) nc
          refine ⟨_, rfl, _, rfl, _, rfl, _, rfl, ch, xs.set (pre.length + 1 + i) v, pre.length, rr, cc, rfl, .inl new_lst, hbig, by rw [List.length_set]; omega, fun p' H3 s4 ra => ?_⟩
          rw [bd v hv] at ra
          refine ⟨_, rfl, p', _, rfl, ra, _, rfl, iteN rfl ?_⟩
          exact ⟨s2.trans (s3.trans s4), _, _, rfl⟩
        · obtain ⟨s2, z10, z11, rfl⟩ := h
          exact ⟨sm1.trans s2, _, _, _, _, _, _, rfl⟩
    · obtain ⟨sm, z7, z8, z9, z10, z11, z12, rfl⟩ := h
      refine ⟨_, rfl, by show 3 ≤ sizeLine; decide, fun pl nl => ⟨pl, rfl, ⟨_, new_lst⟩, ?_⟩⟩
      have s0 := sm.trans (same_new (o := .lst [.int 0, .int 19, .int (-1)]) nl)
      refine forR_list (xs := [.int 0, .int 19, .int (-1)]) (fun r σ H2 => Same (upd H' pl (.lst [.int 0, .int 19, .int (-1)])) H2 ∧ ∃ z11 z13, σ = [some (.ref sl), some (.int pre.length), some (.ref p), some (.ref b), some (.int xs.length), some (.int rr), some (.int cc), z7, z8, z9, z10, z11, z12, z13]) ⟨Same.refl _, _, _, rfl⟩ (fun r σ H2 h => same_lst h.1 new_lst) (fun x r σ H2 hx h => ?_) (fun σ H2 h => ?_)
      · obtain ⟨s2, z11, z13, rfl⟩ := h
        have hv : ∃ v : Int, x = .int v ∧ (v < 1 ∨ 18 < v) := by
          simp only [List.mem_cons, List.mem_nil_iff, or_false] at hx
          rcases hx with rfl | rfl | rfl
          · exact ⟨0, rfl, by omega⟩
          · exact ⟨19, rfl, by omega⟩
          · exact ⟨-1, rfl, by omega⟩
        obtain ⟨v, rfl, hv⟩ := hv
        have s02 := s0.trans s2
        refine ⟨_, rfl, sl, _, rfl, .inl (same_lst s02 hs), fun ch nc => ?_⟩
        refine ⟨_, rfl, _, rfl, _, rfl, ch, _, _, _, rfl, rfl, upd_same, ixN_nat (by rw [List.length_map]; omega), ?_⟩
        rw [upd_upd, set_ints]
        have s3 := same_new (o := .lst ((xs.set pre.length v).map V.int)) nc
        refine ⟨_, rfl, _, rfl, _, rfl, _, rfl, ch, xs.set pre.length v, pre.length, rr, cc, rfl, .inl new_lst, hbig, by rw [List.length_set]; omega, fun p' H3 s4 ra => ?_⟩
        have ev : (xs.set pre.length v).getD pre.length 0 = v := by rw [← hxs]; exact set_op
        rw [dec_op (by rw [ev]; exact hv)] at ra
        refine ⟨_, rfl, p', _, rfl, ra, _, rfl, iteN rfl ?_⟩
        exact ⟨s2.trans (s3.trans s4), _, _, rfl⟩
      · obtain ⟨s2, z11, z13, rfl⟩ := h
        have s02 := s0.trans s2
        refine ⟨_, rfl, _, rfl, _, rfl, p, _, rfl, .inr (same_tup s02 hp), _, _, rfl, rfl, _, _, rfl, rfl, _, rfl, sl, _, rfl, same_lst s02 hs, fun pc nc => ?_⟩
        rw [hlen, show (pre.length : Int) + ((ops.length + 1 : Nat) : Int) - 1 = ((pre.length + ops.length : Nat) : Int) by omega, cutV_to, ← List.map_take]
        have s3 := same_new (o := .lst ((xs.take (pre.length + ops.length)).map V.int)) nc
        refine ⟨_, rfl, _, rfl, _, rfl, pc, xs.take (pre.length + ops.length), pre.length, rr, cc, rfl, .inl new_lst, hbig, by rw [List.length_take]; omega, fun p' H3 s4 ra => ?_⟩
        have es : decZ (xs.take (pre.length + ops.length)) pre.length rr cc = none := by rw [← hxs]; exact dec_short hl
        rw [es] at ra
        refine ⟨_, rfl, p', _, rfl, ra, _, rfl, iteN rfl ?_⟩
        have s03 := (s02.trans s3).trans s4
        refine ⟨_, rfl, _, rfl, _, rfl, _, rfl, sl, xs, -1, rr, cc, rfl, .inl (same_lst s03 hs), by decide, by omega, fun p5 H5 s5 rb => ?_⟩
        rw [dec_out (.inl (by decide))] at rb
        refine ⟨_, rfl, p5, _, rfl, rb, _, rfl, iteY rfl ?_⟩
        have s05 := s03.trans s5
        refine ⟨_, rfl, _, rfl, _, rfl, _, rfl, sl, xs, xs.length, rr, cc, rfl, .inl (same_lst s05 hs), by omega, by omega, fun p6 H6 s6 rc => ?_⟩
        rw [dec_out (.inr (Int.le_refl _))] at rc
        exact ⟨_, rfl, p6, _, rfl, rc, q _ (s05.trans s6)⟩

end
end K87
set_option maxHeartbeats 4000000
set_option pp.deepTerms false
set_option pp.deepTerms.threshold 3
namespace K87
open PySem PySem.Spec PyProof.Rows L2 SX BB BD BQ BS BE PN BZ
local macro_rules | `(tactic| walk_at "side") => `(tactic| (try dsimp only) <;> (first | decide | omega | assumption | (unfold CMul; omega) | (unfold CDiv; omega)))
local macro_rules | `(tactic| walk_at "sq") => `(tactic| first
  | assumption
  | exact new_tup
  | exact same_tup (by assumption) (by assumption)
  | (refine same_tup (same_new (by assumption)) ?_; walk_at "sq"))
local macro_rules | `(tactic| walk_at "rd") => `(tactic| first
  | refine ⟨_, rfl, ?_⟩
  | refine ⟨_, _, _, _, rfl, rfl, (by walk_at "sq"), atI_of (j := 0) rfl, ?_⟩
  | refine ⟨_, _, _, _, rfl, rfl, (by walk_at "sq"), atI_of (j := 1) rfl, ?_⟩
  | refine ⟨_, _, rfl, rfl, ?_⟩
  | refine ⟨_, _, rfl, ?_⟩
  | refine And.intro rfl ?_
  | refine And.intro (by walk_at "side") ?_
  | refine Or.inl ⟨_, rfl, ?_⟩)
local macro_rules | `(tactic| walk_at "no") => `(tactic| refine ⟨_, rfl, rfl, _, rfl, iteN (by decide +kernel) ?_⟩)
local macro_rules | `(tactic| walk_at "yes") => `(tactic| refine ⟨_, rfl, rfl, _, rfl, iteY (by decide +kernel) ?_⟩)
local macro_rules | `(tactic| walk_at "rds") => `(tactic| repeat (walk_at "rd"))
section
variable {P : Program} {w : World} {K : PySem.W.Frag} {mg : Str → Option Value} {base : Heap} {X : Top} {eB : Addr}

abbrev s_law : Stmt := topS 34
abbrev N_law : List Str := ["script", "first", "registers", "cells", "numbers", "k", "kinds", "n", "kind", "total", "bounds", "made", "slots", "places", "one", "told", "kept", "again", "at"]
abbrev P_law : List Str := ["script"]
theorem sc_law : FnScope N_law P_law (defScope s_law) := ⟨rfl, rfl, rfl, by decide +kernel, rfl, by decide +kernel, by decide +kernel⟩
-- slots: script=0 first=1 registers=2 cells=3 numbers=4 k=5 kinds=6 n=7 kind=8 total=9 bounds=10 made=11 slots=12 places=13 one=14 told=15 kept=16 again=17 at=18
def spLaw (K : PySem.W.Frag) : Sp := fun vs H Q _ => ∃ (a : Addr) (ns : List Int), vs = [.ref a] ∧ SqL K H a (ns.map V.int) ∧ ns.length ≤ 63 ∧ ∀ H', Q (.bl true) H'
theorem ok_law {fL : Addr} {fdL : FuncData} (F : L2.Fun K "law" "law" s_law fL fdL) (T : Txt K w mg X) (c_law_cell : Cal P w K mg base 1 "_law_cell" P_law_cell (spCell K)) (c_law_kinds : Cal P w K mg base 1 "_law_kinds" P_law_kinds spKs)
    (c_law_letters : Cal P w K mg base 2 "_law_letters" P_law_letters spLet) (c_law_made : Cal P w K mg base 3 "_law_made" P_law_made (spMade K)) (c_encode : Cal P w K mg base 1 "encode" P_encode (spEnc K)) (c_size : Cal P w K mg base 1 "size" P_size spSize)
    (c_law_read : Cal P w K mg base 4 "_law_read" P_law_read (spRead K)) (c_law_same : Cal P w K mg base 1 "_law_same" P_law_same (spSame K)) (c_law_roles : Cal P w K mg base 3 "_law_roles" P_law_roles (spRol K)) (c_law_spoilt : Cal P w K mg base 5 "_law_spoilt" P_law_spoilt (spSpo K)) :
    FnOk P w K mg base (L2.CX P w) 6 fL fdL P_law (spLaw K) := by
  refine ok0 F sc_law (fun vs H Q E h => ?_) (fun f cdv A outer s H vs Q E hr h => ?_)
  · obtain ⟨a, ns, rfl, _⟩ := h; rfl
  · obtain ⟨a, ns, rfl, hS, hn, q⟩ := h
    have nd := sc_law.nd
    refine ⟨_, (pss_cons (ps_set (i := 1) nd rfl (.inl rfl) (pe_c c_law_cell hr (by decide) rfl (pa_cons (pv 0) (pa_cons pe_int pa_nil))))
    (pss_cons (ps_set (i := 2) nd rfl (.inl rfl) (pe_op op_add pe_int (pe_op op_mod (pv 1) pe_int)))
    (pss_cons (ps_set (i := 3) nd rfl (.inl rfl) pe_int)
    (C8.pss_cut (ps_if (pt_cmpR op_ne (pe_op op_mod (pe_op op_fdiv (pv 1) pe_int) pe_int) pe_int (nomark _)) (pss_one (ps_set (i := 3) nd rfl (.inl rfl) (pe_op op_add pe_int (pe_op op_mod (pe_callTy call_int1 (by rfl) T.b_int (by decide +kernel) (pa_cons (pe_op op_add (pe_op op_fdiv (pv 1) pe_int) (pe_op op_mul (pe_callB call_len_seq (by rfl) T.b_len PySem.boot_len (pa_cons (pv 0) pa_nil)) pe_int)) pa_nil)) pe_int)))) pss_nil)
    (pss_cons (ps_if (PW.pt (pw_or (pt_not (pt_val (pe_callB call_isi (by rfl) T.b_isinstance (by decide +kernel) (pa_cons (pe_gc rfl T.c_KINDS) (pa_cons (pe_bltn (v := .ty "tuple") (by rfl) T.b_tuple (by decide +kernel) rfl) pa_nil))))) (pw_or1 (pt_cmpR (op_neD hr.units) (pe_callTy call_list_of (by rfl) T.b_list (by decide +kernel) (pa_cons (pe_gc rfl T.c_KINDS) pa_nil)) (pe_c0 c_law_kinds hr (by decide) rfl) (nomark _))))) (pss_one (ps_ret pe_bl)) pss_nil)
    (pss_cons (ps_set (i := 4) nd rfl (.inr rfl) (pe_lc (own := [("k", 5)]) (g := gName 5) (tt := tYes) rfl nd (pi_range2 (by rfl) T.b_range (pa_cons pe_int (pa_cons (pe_callB (call_min2 rfl) (by rfl) T.b_min (by decide +kernel) (pa_cons (pe_callB call_len_seq (by rfl) T.b_len PySem.boot_len (pa_cons (pv 0) pa_nil)) (pa_cons pe_int pa_nil))) pa_nil))) (blkOk_by (own := [("k", 5)]) (N := N_law) (sc := defScope s_law) (by decide +kernel)) (fun _ _ _ _ _ => (pg_name (i := 5) nd rfl (.inl rfl))) (fun _ _ _ _ _ => pts_nil) (fun _ _ _ _ _ => (pe_callTy call_int1 (by rfl) T.b_int (by decide +kernel) (pa_cons (pe_ix (r := rIxL K) ix_list (pv 0) (pv 5) (fun _ _ => rfl)) pa_nil)))))
    (C8.pss_cut (ps_if (pt_cmpR op_eq (pe_callB call_len_seq (by rfl) T.b_len PySem.boot_len (pa_cons (pv 4) pa_nil)) pe_int (nomark _)) (pss_one (ps_set (i := 4) nd rfl (.inr rfl) (pe_lst (pa_cons (pv 1) pa_nil)))) pss_nil)
    (pss_cons (ps_set (i := 6) nd rfl (.inr rfl) (pe_lc (own := [("n", 7)]) (g := gName 7) (tt := tYes) rfl nd (pi_list (pv 4)) (blkOk_by (own := [("n", 7)]) (N := N_law) (sc := defScope s_law) (by decide +kernel)) (fun _ _ _ _ _ => (pg_name (i := 7) nd rfl (.inl rfl))) (fun _ _ _ _ _ => pts_nil) (fun _ _ _ _ _ => (pe_ix (r := rIxL K) ix_list (pe_c0 c_law_kinds hr (by decide) rfl) (pe_op op_mod (pv 7) pe_int) (fun _ _ => rfl)))))
    (C8.pss_cut (ps_if (pt_cmpR op_eq (pv 3) pe_int (nomark _)) (pss_one (ps_set (i := 6) nd rfl (.inr rfl) (pe_lc (own := [("kind", 8)]) (g := gName 8) (tt := tYes) rfl nd (pi_list (pv 6)) (blkOk_by (own := [("kind", 8)]) (N := N_law) (sc := defScope s_law) (by decide +kernel)) (fun _ _ _ _ _ => (pg_name (i := 8) nd rfl (.inl rfl))) (fun _ _ _ _ _ => pts_nil) (fun _ _ _ _ _ => (pe_ix (r := rIxL K) ix_list (pe_lst (pa_cons (pv 8) (pa_cons pe_str pa_nil))) (pe_callTy call_int1 (by rfl) T.b_int (by decide +kernel) (pa_cons (pe_cmpR (r := rIn K false) op_in_seq (pv 8) (pe_lst (pa_cons pe_str (pa_cons pe_str (pa_cons pe_str (pa_cons pe_str pa_nil))))) rfl) pa_nil)) (fun _ _ => rfl)))))) pss_nil)
    (pss_cons (ps_set (i := 9) nd rfl (.inl rfl) (pe_callB (cr_sum rfl) (by rfl) T.b_sum (by decide +kernel) (pa_cons (pe_lc (own := [("kind", 8)]) (g := gName 8) (tt := tYes) rfl nd (pi_list (pv 6)) (blkOk_by (own := [("kind", 8)]) (N := N_law) (sc := defScope s_law) (by decide +kernel)) (fun _ _ _ _ _ => (pg_name (i := 8) nd rfl (.inl rfl))) (fun _ _ _ _ _ => pts_nil) (fun _ _ _ _ _ => (pe_op op_add pe_int (pe_callB call_len_str (by rfl) T.b_len PySem.boot_len (pa_cons (pe_c c_law_letters hr (by decide) rfl (pa_cons (pv 8) pa_nil)) pa_nil))))) pa_nil)))
    (pss_cons (ps_set (i := 10) nd rfl (.inr rfl) (pe_tup (pa_cons (pv 9) (pa_cons (pv 2) (pa_cons (pv 3) pa_nil)))))
    (pss_cons (ps_setLc (i := 11) (own := [("k", 5)]) (g := gName 5) (tt := tYes) rfl nd rfl rfl (sw_true rfl rfl rfl (by decide +kernel)) (pi_range1 (by rfl) T.b_range (pa_cons (pe_callB call_len_seq (by rfl) T.b_len PySem.boot_len (pa_cons (pv 6) pa_nil)) pa_nil)) (blkOk_by (own := [("k", 5)]) (N := N_law) (sc := defScope s_law) (by decide +kernel)) (fun _ _ _ _ _ => (pg_name (i := 5) nd rfl (.inl rfl))) (fun _ _ _ _ _ => pts_nil) (fun _ _ _ _ _ => (pe_c c_law_made hr (by decide) rfl (pa_cons (pe_ix (r := rIxL K) ix_list (pv 6) (pv 5) (fun _ _ => rfl)) (pa_cons (pe_op op_fdiv (pe_ix (r := rIxL K) ix_list (pv 4) (pv 5) (fun _ _ => rfl)) pe_int) (pa_cons (pv 10) pa_nil))))))
    (pss_cons (ps_set (i := 12) nd rfl (.inl rfl) (pe_lst pa_nil))
    (pss_cons (ps_set (i := 13) nd rfl (.inl rfl) (pe_lst pa_nil))
    (pss_cons (ps_for PassesOwn.never rfl (pi_list (pv 11)) (pg_name (i := 14) nd rfl (.inl rfl))
      (pss_cons (ps_set (i := 15) nd rfl (.inl rfl) (pe_c c_encode hr (by decide) rfl (pa_cons (pv 14) pa_nil)))
    (pss_cons (ps_if (PW.pt (pw_or (pt_not (pt_val (pe_callB call_isi (by rfl) T.b_isinstance (by decide +kernel) (pa_cons (pv 15) (pa_cons (pe_bltn (v := .ty "list") (by rfl) T.b_list (by decide +kernel) rfl) pa_nil))))) (pw_or (pt_cmpR (op_neD hr.units) (pv 15) (pe_op op_cat (pe_lst (pa_cons (pe_op op_add (pe_bm PySem.F.plainAttrs_list PySem.F.slot_list_index PySem.F.type_list_index mt_lidx (pe_c0 c_law_kinds hr (by decide) rfl) (pa_cons (pe_ix ix_tup (pv 14) pe_int (fun _ _ => rfl)) pa_nil)) pe_int) pa_nil)) (pe_callTy call_list_of (by rfl) T.b_list (by decide +kernel) (pa_cons (pe_slice sl_any (pv 14) (po_some pe_int) po_none) pa_nil))) (nomark _)) (pw_or1 (pt_cmpR op_ne (pe_c c_size hr (by decide) rfl (pa_cons (pe_ix ix_tup (pv 14) pe_int (fun _ _ => rfl)) pa_nil)) (pe_callB call_len_seq (by rfl) T.b_len PySem.boot_len (pa_cons (pv 14) pa_nil)) (nomark _)))))) (pss_one (ps_ret pe_bl)) pss_nil)
    (pss_cons (ps_expr (pe_bm PySem.F.plainAttrs_list PySem.F.slot_list_append PySem.F.type_list_append mt_append (pv 13) (pa_cons (pe_callB call_len_seq (by rfl) T.b_len PySem.boot_len (pa_cons (pv 12) pa_nil)) pa_nil)))
    (pss_one (ps_set (i := 12) nd rfl (.inl rfl) (pe_op op_cat (pv 12) (pv 15))))))))
    (pss_cons (ps_set (i := 16) nd rfl (.inl rfl) (pe_callTy call_list_of (by rfl) T.b_list (by decide +kernel) (pa_cons (pv 12) pa_nil)))
    (pss_cons (ps_for PassesOwn.never rfl (pi_range1 (by rfl) T.b_range (pa_cons (pe_callB call_len_seq (by rfl) T.b_len PySem.boot_len (pa_cons (pv 11) pa_nil)) pa_nil)) (pg_name (i := 5) nd rfl (.inl rfl))
      (pss_cons (ps_set (i := 15) nd rfl (.inl rfl) (pe_c c_law_read hr (by decide) rfl (pa_cons (pv 12) (pa_cons (pe_ix ix_list (pv 13) (pv 5) (fun _ _ => rfl)) (pa_cons (pv 2) (pa_cons (pv 3) pa_nil))))))
    (pss_cons (ps_set (i := 17) nd rfl (.inl rfl) (pe_c c_law_read hr (by decide) rfl (pa_cons (pe_callTy cs_tuple (by rfl) T.b_tuple (by decide +kernel) (pa_cons (pv 12) pa_nil)) (pa_cons (pe_ix ix_list (pv 13) (pv 5) (fun _ _ => rfl)) (pa_cons (pv 2) (pa_cons (pv 3) pa_nil))))))
    (pss_cons (ps_if (PW.pt (pw_or (pt_cmpR op_ne (pe_ix ix_tup (pv 15) pe_int (fun _ _ => rfl)) pe_str (nomark _)) (pw_or (pt_not (pt_val (pe_c c_law_same hr (by decide) rfl (pa_cons (pe_ix ix_tup (pv 15) pe_int (fun _ _ => rfl)) (pa_cons (pe_ix ix_list (pv 11) (pv 5) (fun _ _ => rfl)) pa_nil))))) (pw_or (pt_cmpR op_ne (pe_ix ix_tup (pv 17) pe_int (fun _ _ => rfl)) pe_str (nomark _)) (pw_or1 (pt_not (pt_val (pe_c c_law_same hr (by decide) rfl (pa_cons (pe_ix ix_tup (pv 17) pe_int (fun _ _ => rfl)) (pa_cons (pe_ix ix_list (pv 11) (pv 5) (fun _ _ => rfl)) pa_nil)))))))))) (pss_one (ps_ret pe_bl)) pss_nil)
    (pss_one (ps_if (pt_not (pt_val (pe_c c_law_roles hr (by decide) rfl (pa_cons (pe_ix ix_list (pv 11) (pv 5) (fun _ _ => rfl)) pa_nil)))) (pss_one (ps_ret pe_bl)) pss_nil))))))
    (pss_cons (ps_set (i := 18) nd rfl (.inl rfl) (pe_op op_mod (pe_callTy call_int1 (by rfl) T.b_int (by decide +kernel) (pa_cons (pe_op op_add (pe_op op_add (pe_op op_fdiv (pv 1) pe_int) (pe_op op_mul (pe_callB call_len_seq (by rfl) T.b_len PySem.boot_len (pa_cons (pv 0) pa_nil)) pe_int)) (pe_ix ix_list (pv 4) (pe_un un_neg pe_int) (fun _ _ => rfl))) pa_nil)) (pe_callB call_len_seq (by rfl) T.b_len PySem.boot_len (pa_cons (pv 11) pa_nil))))
    (pss_one (ps_ret (pe_and (pe_cmpR (op_eqD hr.units) (pv 12) (pv 16) (nomark _)) (pe_one (pe_c c_law_spoilt hr (by decide) rfl (pa_cons (pv 12) (pa_cons (pe_ix ix_list (pv 13) (pv 18) (fun _ _ => rfl)) (pa_cons (pe_ix ix_list (pv 11) (pv 18) (fun _ _ => rfl)) (pa_cons (pv 10) pa_nil))))))))))))))))))))))))))), ?_⟩
    refine ⟨_, rfl, a, ns, 0, rfl, hS, ?_⟩
    generalize cell ns 0 = first
    refine ⟨_, rfl, _, _, rfl, rfl, by show (0 : Int) < 8; decide, _, _, rfl, rfl, ?_⟩
    refine ⟨fun σ H' => H = H' ∧ ∃ cc : Int, 0 ≤ cc ∧ cc ≤ 100 ∧ σ = [some (.ref a), some (.int first), some (.int (1 + first % 8)), some (.int cc), none, none, none, none, none, none, none, none, none, none, none, none, none, none, none], ?_, ?_⟩
    · refine ⟨_, rfl, _, _, rfl, rfl, ⟨by decide, by decide⟩, _, _, rfl, rfl, by show (0 : Int) < 6; decide, rfl, _, rfl, ?_⟩
      refine ite2 (fun h => ?_) (fun h => ?_)
      · refine ⟨_, rfl, _, _, rfl, rfl, ⟨by decide, by decide⟩, _, rfl, a, _, rfl, .inl hS, _, _, rfl, rfl, .inr ⟨by decide, by decide⟩, _, _, rfl, rfl, .inl ⟨_, rfl, _, _, rfl, rfl, by show (0 : Int) < 100; decide, _, _, rfl, rfl, ?_⟩⟩
        refine ⟨rfl, _, ?_, ?_, rfl⟩ <;> omega
      · exact ⟨rfl, 0, by decide, by decide, rfl⟩
    rintro σ H' ⟨rfl, cc, c0, c1, rfl⟩
    have hR : 1 ≤ 1 + first % 8 := by omega
    generalize 1 + first % 8 = rr at hR ⊢
    refine ⟨_, _, _, _, true, rfl, .ty _, tupType (T.kinds H), rfl, _, rfl, iteN rfl ?_⟩
    refine ⟨X.aK, _, rfl, .inr (T.kinds H), fun l1 n1 => ?_⟩
    refine ⟨rfl, fun p1 H1 s1 g1 => ?_⟩
    refine ne_same (dp_strs (xs := kindL) (same_lst s1 new_lst)) (dp_strs (xs := kindL) (.of g1)) (sh_strs (n := 63) kinds_ok) ⟨_, rfl, iteN rfl ?_⟩
    have sm1 := (same_new (o := .lst (kindL.map V.str)) n1).trans s1
    have hS1 := same_lst sm1 hS
    generalize upd H l1 _ = H0 at *
    refine ⟨_, rfl, a, _, rfl, .inl hS1, _, _, rfl, ?_⟩
    have hm : ∃ m : Nat, (if (41 : Int) < ((ns.map V.int).length : Nat) then (41 : Int) else ((ns.map V.int).length : Nat)) = (m : Int) ∧ m ≤ 41 ∧ m ≤ ns.length := by
      rw [List.length_map]
      by_cases h : (41 : Int) < (ns.length : Nat)
      · exact ⟨41, by rw [if_pos h]; rfl, by omega, by omega⟩
      · exact ⟨ns.length, by rw [if_neg h], by omega, by omega⟩
    obtain ⟨m, em, m1, m2⟩ := hm
    rw [em]
    refine ⟨_, _, rfl, ⟨by decide, by decide, by omega, by omega⟩, fun D hD => ?_⟩
    refine lcG (src_range (lo := 1) (n := ((m : Int) - 1).toNat)) hD (by simp; omega) (fun _ => true) (fun x y _ => ∃ z, y = .int z ∧ True) (fun _ _ => trivial) (fun _ _ _ _ _ _ h => h) (fun x hx H4 Qy Qn s4 qy _ => ?_) (fun H2 ys s2 hDy pr => ?_)
    · obtain ⟨k, hk, rfl⟩ := List.mem_map.mp hx
      have hk : k < ((m : Int) - 1).toNat := List.mem_range.mp hk
      refine ⟨rfl, ?_⟩
      refine iteT (B := Qn H4) ?_
      refine ⟨_, rfl, _, rfl, _, _, _, .int (ns.getD (k + 1) 0), rfl, rfl, same_lst s4 hS1, ?_, .inl ⟨_, rfl, qy _ _ (Same.refl _) rfl ⟨_, rfl, trivial⟩⟩⟩
      rw [show (1 : Int) + (k : Int) = ((k + 1 : Nat) : Int) by omega]
      exact atI_of (at_ints (by omega))
    rw [filter_true] at pr
    obtain ⟨zs, rfl, pz⟩ := paired_vals pr
    have hzl : zs.length ≤ 40 := by
      have := pz.length
      simp at this
      omega
    have hS2 := same_lst s2 hS1
    refine ⟨fun σ H3 => Same H2 H3 ∧ ∃ (ln : Addr) (zs : List Int), zs ≠ [] ∧ zs.length ≤ 40 ∧ SqL K H3 ln (zs.map V.int) ∧ σ = [some (.ref a), some (.int first), some (.int rr), some (.int cc), some (.ref ln), none, none, none, none, none, none, none, none, none, none, none, none, none, none], ?_, ?_⟩
    · refine ⟨_, rfl, D, _, rfl, .inl (.of hDy), rfl, _, rfl, ?_⟩
      by_cases hz : zs = []
      · refine iteY (by rw [hz]; rfl) ?_
        refine ⟨_, rfl, by show 1 ≤ sizeLine; decide, fun l nl => ⟨same_new nl, l, [first], by simp, by simp, new_lst, rfl⟩⟩
      · refine iteN ?_ ⟨Same.refl _, D, zs, hz, hzl, .of hDy, rfl⟩
        have : zs.length ≠ 0 := fun z => hz (List.eq_nil_of_length_eq_zero z)
        rw [List.length_map]
        exact decide_eq_false fun z => this (by have := V.int.inj z; omega)
    clear hDy pr pz hzl
    rintro σ H3 ⟨s3, ln, zs, hz, hzl, hln, rfl⟩
    have hS3 := same_lst s3 hS2
    refine ⟨_, rfl, ln, rfl, ⟨_, hln⟩, fun D2 hD2 => ?_⟩
    refine lcG src_list hD2 (by rw [List.length_map]; omega) (fun _ => true) (fun x y _ => ∃ j : Nat, y = .str (kindS j) ∧ j < 18) (fun _ s => same_lst s hln) (fun _ _ _ _ _ _ h => h) (fun x hx H4 Qy Qn s4 qy _ => ?_) (fun H4 ys s4 hDy pr => ?_)
    · obtain ⟨z, _, rfl⟩ := List.mem_map.mp hx
      refine ⟨rfl, ?_⟩
      refine iteT (B := Qn H4) ?_
      refine ⟨rfl, fun p H5 s5 g5 => ⟨_, rfl, _, _, rfl, rfl, by show (0 : Int) < 18; decide, p, _, _, .str (kindS (z % 18).toNat), rfl, rfl, .of g5, ?_, qy _ _ s5 rfl ⟨_, rfl, by omega⟩⟩⟩
      rw [show z % 18 = (((z % 18).toNat : Nat) : Int) by omega]
      exact atI_of (by rw [List.getElem?_map, kind_at _ (by omega)]; rfl)
    rw [filter_true] at pr
    obtain ⟨js, rfl, pj⟩ := paired_vals (f := fun j => V.str (kindS j)) (P := fun _ j => j < 18) pr
    have hjl : js.length = zs.length := by
      have := pj.length
      rw [List.length_map] at this
      omega
    have hj18 : ∀ j ∈ js, j < 18 := fun j hj => (pj.right j hj).elim fun _ h => h
    have hln4 := same_lst s4 hln
    have hS4 := same_lst s4 hS3
    refine ⟨fun σ H5 => Same H4 H5 ∧ ∃ (lk : Addr) (js : List Nat), js.length = zs.length ∧ (∀ j ∈ js, j < 18) ∧ (cc = 0 → ∀ j ∈ js, isAcc j = false) ∧ SqL K H5 lk (js.map fun j => V.str (kindS j)) ∧ σ = [some (.ref a), some (.int first), some (.int rr), some (.int cc), some (.ref ln), none, some (.ref lk), none, none, none, none, none, none, none, none, none, none, none, none], ?_, ?_⟩
    · refine ⟨_, rfl, rfl, _, rfl, ?_⟩
      by_cases h0 : cc = 0
      · refine iteY (by rw [h0]; rfl) ?_
        refine ⟨_, rfl, D2, rfl, ⟨_, .of hDy⟩, fun D3 hD3 => ?_⟩
        refine lcG src_list hD3 (by rw [List.length_map]; omega) (fun _ => true) (fun x y _ => ∃ j : Nat, y = .str (kindS j) ∧ j < 18 ∧ isAcc j = false) (fun _ s => same_lst s (.of hDy)) (fun _ _ _ _ _ _ h => h) (fun x hx H5 Qy Qn s5 qy _ => ?_) (fun H5 ys s5 hDz pr => ?_)
        · obtain ⟨j, hj, rfl⟩ := List.mem_map.mp hx
          have hj := hj18 j hj
          refine ⟨rfl, ?_⟩
          refine iteT (B := Qn H5) ?_
          refine ⟨_, rfl, by show 2 ≤ sizeLine; decide, fun p1 n1 => ⟨_, rfl, by show 4 ≤ sizeLine; decide, fun p2 n2 => ⟨p2, accL.map V.str, rfl, .inl new_lst, rfl, by decide +kernel, .inr ⟨_, rfl, ?_⟩⟩⟩⟩
          rw [acc_in j hj]
          have sq := (same_new (o := .lst [.str (kindS j), .str "out"]) n1).trans (same_new (o := .lst (accL.map V.str)) n2)
          cases ha : isAcc j
          · exact ⟨p1, _, _, .str (kindS j), rfl, rfl, same_lst (same_new n2) new_lst, atI_of (j := 0) rfl, qy _ _ sq rfl ⟨j, rfl, hj, ha⟩⟩
          · exact ⟨p1, _, _, .str (kindS 11), rfl, rfl, same_lst (same_new n2) new_lst, atI_of (j := 1) rfl, qy _ _ sq rfl ⟨11, rfl, by decide, rfl⟩⟩
        rw [filter_true] at pr
        obtain ⟨js2, rfl, pj2⟩ := paired_vals (f := fun j => V.str (kindS j)) (P := fun _ j => j < 18 ∧ isAcc j = false) pr
        refine ⟨s5, D3, js2, ?_, fun j hj => (pj2.right j hj).elim fun _ h => h.1, fun _ j hj => (pj2.right j hj).elim fun _ h => h.2, .of hDz, rfl⟩
        have := pj2.length
        rw [List.length_map] at this
        omega
      · refine iteN ?_ ⟨Same.refl _, D2, js, hjl, hj18, fun z => absurd z h0, .of hDy, rfl⟩
        exact decide_eq_false fun z => h0 (V.int.inj z)
    clear hDy pr pj hjl hj18
    rintro σ H5 ⟨s5, lk, js, hjl, hj18, hja, hlk, rfl⟩
    have hln5 := same_lst s5 hln4
    have hS5 := same_lst s5 hS4
    refine ⟨_, rfl, lk, rfl, ⟨_, hlk⟩, fun D3 hD3 => ?_⟩
    refine lcG src_list hD3 (by rw [List.length_map]; omega) (fun _ => true) (fun x y _ => ∃ z : Int, y = .int z ∧ ∀ j, j < 18 → x = .str (kindS j) → z = 1 + ((lets j).length : Nat)) (fun _ s => same_lst s hlk) (fun _ _ _ _ _ _ h => h) (fun x hx H6 Qy Qn s6 qy _ => ?_) (fun H6 ys s6 hDz pr => ?_)
    · obtain ⟨j, hj, rfl⟩ := List.mem_map.mp hx
      have hj := hj18 j hj
      refine ⟨rfl, ?_⟩
      refine iteT (B := Qn H6) ?_
      refine ⟨_, rfl, j, rfl, hj, fun H7 s7 => ⟨_, rfl, lets_size hj, _, _, rfl, rfl, ?_⟩⟩
      rw [S_len]
      exact qy _ _ s7 rfl ⟨_, rfl, fun j2 hj2 e => by rw [kind_inj j hj j2 hj2 (V.str.inj e)]⟩
    rw [filter_true] at pr
    obtain ⟨tz, rfl, pt⟩ := paired_vals (f := V.int) (P := fun x z => ∀ j, j < 18 → x = V.str (kindS j) → z = 1 + ((lets j).length : Nat)) pr
    have et := sums_of hj18 pt
    subst et
    refine ⟨D3, _, rfl, .of hDz, ?_⟩
    have hTp : 1 ≤ (js.map fun j => (1 : Int) + ((lets j).length : Nat)).sum := by
      match js, hjl, hz with
      | [], e, hz => exact absurd (List.eq_nil_of_length_eq_zero e.symm) hz
      | j :: js, _, _ =>
        rw [List.map_cons, List.sum_cons]
        have : ∀ l : List Nat, 0 ≤ (l.map fun j => (1 : Int) + ((lets j).length : Nat)).sum := fun l => by
          induction l with
          | nil => exact Int.le_refl _
          | cons x l ih => rw [List.map_cons, List.sum_cons]; omega
        have := this js
        omega
    generalize htt : (js.map fun j => (1 : Int) + ((lets j).length : Nat)).sum = tt at hTp
    refine ⟨_, rfl, _, rfl, _, rfl, by show 3 ≤ sizeLine; decide, fun pb nb => ?_⟩
    have hgb : SqT K (upd H6 pb (.tup [.int tt, .int rr, .int cc])) pb [.int tt, .int rr, .int cc] := new_tup
    have s56 := s6.trans (same_new (o := .tup [.int tt, .int rr, .int cc]) nb)
    have hlk7 := same_lst s56 hlk
    have hln7 := same_lst s56 hln5
    have hS7 := same_lst s56 hS5
    generalize upd H6 pb (.tup [.int tt, .int rr, .int cc]) = H7 at hgb hlk7 hln7 hS7
    clear s56 hDz pr pt
    refine ⟨_, rfl, lk, _, rfl, .inl hlk7, _, rfl, ?_⟩
    rw [List.length_map]
    refine ⟨by omega, by omega, fun D4 hD4 => ?_⟩
    refine lcG (src_range (lo := 0) (n := js.length)) hD4 (by simp; omega) (fun _ => true) (fun x y H => ∃ r : Nat × List Int, (∀ k : Nat, x = .int (0 + (k : Int)) → js[k]? = some r.1 ∧ Good r.1 r.2 tt rr cc) ∧ ∃ p, y = .ref p ∧ SqT K H p (insV r.1 r.2)) (fun _ _ => trivial)
      (fun x y H H' sb d h => by
        obtain ⟨r, h1, p, h2, h3⟩ := h
        exact ⟨r, h1, p, h2, sb_tup sb d h3⟩) (fun x hx H8 Qy Qn s8 qy _ => ?_) (fun H8 ys s8 hDm pr => ?_)
    · obtain ⟨k, hk, rfl⟩ := List.mem_map.mp hx
      have hk : k < js.length := List.mem_range.mp hk
      have e0 : (0 : Int) + (k : Int) = ((k : Nat) : Int) := by omega
      have ej : js[k]? = some (js.getD k 0) := getD_at hk
      have hjk : js.getD k 0 ∈ js := List.mem_of_getElem? ej
      refine ⟨rfl, ?_⟩
      refine iteT (B := Qn H8) ?_
      refine ⟨_, rfl, _, rfl, lk, _, _, .str (kindS (js.getD k 0)), rfl, rfl, same_lst s8 hlk7, ?_, _, rfl, _, rfl, ln, _, _, .int (zs.getD k 0), rfl, rfl, same_lst s8 hln7, ?_, _, _, rfl, rfl, ⟨by decide, by decide⟩, _, rfl, js.getD k 0, _, tt, rr, cc, pb, rfl, hj18 _ hjk, same_tup s8 hgb, hTp, hR, c0, fun z => hja z _ hjk, fun p H9 ops s9 gd gt => ?_⟩
      · rw [e0]
        exact atI_of (by rw [List.getElem?_map, ej]; rfl)
      · rw [e0]
        exact atI_of (at_ints (by omega))
      · exact qy _ _ s9 rfl ⟨(js.getD k 0, ops), fun k2 e => by
          have e := V.int.inj e
          obtain rfl : k = k2 := by omega
          exact ⟨ej, gd⟩, p, rfl, gt⟩
    rw [filter_true] at pr
    obtain ⟨rs, pg, pf⟩ := paired_choose pr
    obtain ⟨hrs, hgd⟩ := recs_of (G := fun j ops => Good j ops tt rr cc) pg
    have hrl : rs.length = js.length := by rw [← hrs, List.length_map]
    have hfl : ((flat rs).length : Int) = tt := by
      rw [flat_len (fun r hr => (hgd r hr).len), ← htt, ← hrs, List.map_map]
      rfl
    have hf6 : (flat rs).length ≤ 240 := by
      have := flat_le (rs := rs) fun r hr => by
        rw [(hgd r hr).len]
        exact let_short _ (hgd r hr).jl
      omega
    have hgb8 := same_tup s8 hgb
    have hS8 := same_lst s8 hS7
    clear pr pg
    refine ⟨by show 0 ≤ sizeLine; decide, fun l12 n12 => ⟨by show 0 ≤ sizeLine; decide, fun l13 n13 => ?_⟩⟩
    have hn13 : H8 l13 = none := by
      by_cases h : l13 = l12
      · rw [h]; exact n12
      · rw [upd_ne h] at n13; exact n13
    have hne : l12 ≠ l13 := fun z => by rw [z, upd_same] at n13; cases n13
    have hoff : ∀ k, k ≤ rs.length → (flat (rs.take k)).length ≤ 240 := fun k hk => by
      have : (flat (rs.take k)).length ≤ (flat rs).length := by
        conv => rhs; rw [← List.take_append_drop k rs]
        unfold flat
        rw [List.flatMap_append, List.length_append]
        omega
      omega
    have hrow : ∀ (i : Nat) (x : V), ys[i]? = some x → ∃ (r : Nat × List Int) (p : Addr), rs[i]? = some r ∧ x = .ref p ∧ SqT K H8 p (insV r.1 r.2) ∧ Good r.1 r.2 tt rr cc := fun i x e => by
      obtain ⟨r, e1, p, e2, e3⟩ := paired_at pf e
      exact ⟨r, p, e1, e2, e3, hgd r (List.mem_of_getElem? e1)⟩
    have hyl : ys.length = rs.length := pf.length.symm
    refine ⟨_, rfl, D4, rfl, ⟨_, .of ((same_new (o := .lst []) n13) _ _ ((same_new (o := .lst []) n12) _ _ hDm))⟩, ?_⟩
    refine for_list (xs := ys) (fun i σ H' => Same H8 H' ∧ ∃ l z14 z15, l ≠ l13 ∧ H' l = some (.lst ((flat (rs.take i)).map V.int)) ∧ H' l13 = some (.lst ((List.range i).map fun k => V.int (off rs k))) ∧ σ = [some (.ref a), some (.int first), some (.int rr), some (.int cc), some (.ref ln), none, some (.ref lk), none, none, some (.int tt), some (.ref pb), some (.ref D4), some (.ref l), some (.ref l13), z14, z15, none, none, none])
      ⟨(same_new n12).trans (same_new n13), l12, none, none, hne, same_new n13 _ _ upd_same, upd_same, rfl⟩ (fun i σ H' _ h => .of (h.1 _ _ hDm)) (fun i x σ H' hx h => ?_) (fun σ H' h => ?_)
    · obtain ⟨sm, l, z14, z15, hnl, hlf, hlp, rfl⟩ := h
      obtain ⟨⟨j, ops⟩, p, er, rfl, hp8, gd⟩ := hrow i x hx
      have hil : i < rs.length := (List.getElem?_eq_some_iff.mp er).1
      have hpm := same_tup sm hp8
      refine ⟨_, rfl, p, j, ops, rfl, gd.jl, gd.len, hpm, fun pe He fe se ge => ?_⟩
      have hpe := same_tup se hpm
      refine ⟨_, rfl, _, _, _, _, true, rfl, .ty _, .base (.lst ge), rfl, _, rfl, iteN rfl ?_⟩
      have h5 := let_short j gd.jl
      have hol : ops.length = (lets j).length := gd.len
      refine ⟨_, rfl, rfl, fun pk Hk sk gk => ⟨.inl ⟨rfl, _, .of gk⟩, _, rfl, _, _, _, .str (kindS j), rfl, rfl, same_tup sk hpe, atI_of (j := 0) rfl, pk, kindL, kindS j, rfl, rfl, .of gk, kind_mem j gd.jl, ?_⟩⟩
      rw [kind_idx j gd.jl]
      refine ⟨_, _, rfl, rfl, by show 1 ≤ sizeLine; decide, fun p1 n1 => ?_⟩
      refine ⟨_, rfl, _, rfl, _, _, rfl, .inr ⟨same_tup (same_new n1) (same_tup sk hpe), fun p2 H2 s2 g2 => ?_⟩⟩
      refine ⟨p2, _, rfl, .inr g2, fun l2 nl2 => ?_⟩
      refine ⟨p1, l2, [.int ((j : Nat) + 1)], ops.map V.int, rfl, rfl, same_new nl2 _ _ (s2 _ _ upd_same), ?_, ?_, fun pc nc => ?_⟩
      · show upd H2 l2 _ l2 = _
        rw [upd_same]
        congr 2
        show cutV _ (some ((1 : Nat) : Int)) none = _
        rw [cutV_from]
        rfl
      · rw [List.length_map, sizeLine_eq]
        show 1 + ops.length ≤ _
        omega
      have sE := ((sk.trans (same_new n1)).trans s2).trans ((same_new (o := .lst (cutV (insV j ops) (some ((1 : Nat) : Int)) none)) nl2).trans (same_new (o := .lst ([.int ((j : Nat) + 1)] ++ ops.map V.int)) nc))
      refine ne_ints (xs := enc j ops) (.of (sE _ _ ge)) (.of upd_same) ⟨_, rfl, iteN rfl ?_⟩
      have sm9 := (sm.trans se).trans sE
      have ge9 := sE _ _ ge
      have hlf9 := sE _ _ (se _ _ hlf)
      have hlp9 := sE _ _ (se _ _ hlp)
      have hp9 := same_tup sm9 hp8
      generalize upd (upd H2 l2 _) pc _ = H9 at *
      refine ⟨_, rfl, _, _, _, .str (kindS j), rfl, rfl, hp9, atI_of (j := 0) rfl, j, rfl, gd.jl, _, rfl, p, _, rfl, .inr hp9, rfl, _, rfl, iteN ?_ ?_⟩
      · have e : ((insV j ops).length : Int) = 1 + ((lets j).length : Nat) := by
          simp only [insV, List.length_cons, List.length_map]
          omega
        rw [e]
        simp
      have hti := hoff i (Nat.le_of_lt hil)
      refine ⟨_, rfl, .inl ⟨rfl, _, .of hlp9⟩, _, rfl, l, _, rfl, .inl (.of hlf9), l13, _, _, rfl, rfl, hlp9, ?_, ?_⟩
      · rw [List.length_map, List.length_range, sizeLine_eq]
        omega
      have hlf10 := put_ne (zs := ((List.range i).map fun k => V.int (off rs k)) ++ [.int ((flat (rs.take i)).map V.int).length]) hlp9 hnl hlf9
      have ge10 : upd H9 l13 (.lst (((List.range i).map fun k => V.int (off rs k)) ++ [.int ((flat (rs.take i)).map V.int).length])) pe = some (.lst ((enc j ops).map V.int)) := by
        refine put_ne hlp9 (fun z => ?_) ge9
        rw [z, hlp] at fe
        cases fe
      refine ⟨_, rfl, _, rfl, l, pe, _, _, rfl, rfl, hlf10, ge10, ?_, fun pn nn => ⟨?_, pn, _, _, ?_, ?_, ?_, rfl⟩⟩
      · rw [List.length_map, List.length_map, sizeLine_eq]
        show _ + (ops.length + 1) ≤ _
        omega
      · exact fun b u e => by
          have n1 : b ≠ l13 := fun z => by rw [z, hn13] at e; cases e
          rw [upd_ne (ne_of_none (show (upd H9 l13 (.lst (((List.range i).map fun k => V.int (off rs k)) ++ [.int ((flat (rs.take i)).map V.int).length]))) b = some u by rw [upd_ne n1]; exact sm9 _ _ e) nn), upd_ne n1]
          exact sm9 _ _ e
      · exact fun z => by
          rw [z, upd_same] at nn
          cases nn
      · rw [upd_same, flat_take er, List.map_append]
      · rw [upd_ne (fun z => by rw [← z, upd_same] at nn; cases nn), upd_same]
        congr 2
        rw [← range_snoc, List.length_map]
        rfl
    · obtain ⟨sm, l, z14, z15, hnl, hlf, hlp, rfl⟩ := h
      rw [hyl, List.take_length] at hlf
      rw [hyl] at hlp
      have hdec : ∀ i r, rs[i]? = some r → decZ (flat rs) (off rs i) rr cc = some (r.1, r.2) := fun i r e => by
        have g := hgd r (List.mem_of_getElem? e)
        rw [← hfl] at g
        have es := flat_split e
        unfold off
        rw [es] at g ⊢
        exact dec_good g
      have hoffI : ∀ i, i < rs.length → ((List.range rs.length).map fun k => V.int (off rs k))[i]? = some (.int (off rs i)) := fun i hi => by
        rw [List.getElem?_map, List.getElem?_range hi]
        rfl
      have hob : ∀ i, i ≤ rs.length → ((off rs i : Nat) : Int).natAbs < 2 ^ 64 := fun i hi => by
        have := hoff i hi
        unfold off
        omega
      refine ⟨_, rfl, l, _, rfl, .inl (.of hlf), fun lk2 nk => ?_⟩
      have sk := same_new (o := .lst ((flat rs).map V.int)) nk
      have hlf0 := sk _ _ hlf
      have hlp0 := sk _ _ hlp
      have hlk0 : upd H' lk2 (.lst ((flat rs).map V.int)) lk2 = some (.lst ((flat rs).map V.int)) := upd_same
      have smk := sm.trans sk
      generalize upd H' lk2 (.lst ((flat rs).map V.int)) = Hk at hlf0 hlp0 hlk0 smk ⊢
      have hym : ∀ Hx, Same Hk Hx → SqL K Hx D4 ys := fun Hx s => .of (s _ _ (smk _ _ hDm))
      refine ⟨_, rfl, D4, _, rfl, .inl (hym _ (Same.refl _)), _, rfl, by omega, by omega, ?_⟩
      refine for_range (lo := 0) (n := ys.length) (fun i σ H2 => Same Hk H2 ∧ ∃ z5 z14 z15 z17, σ = [some (.ref a), some (.int first), some (.int rr), some (.int cc), some (.ref ln), z5, some (.ref lk), none, none, some (.int tt), some (.ref pb), some (.ref D4), some (.ref l), some (.ref l13), z14, z15, some (.ref lk2), z17, none]) ⟨Same.refl _, _, _, _, _, rfl⟩ (fun i σ H2 hi h => ?_) (fun σ H2 h => ?_)
      · obtain ⟨s2, z5, z14, z15, z17, rfl⟩ := h
        have hi' : i < rs.length := by omega
        have e0 : (0 : Int) + (i : Int) = ((i : Nat) : Int) := by omega
        obtain ⟨⟨j, ops⟩, p, er, ex, hp8, gd⟩ := hrow i ys[i] (List.getElem?_eq_getElem hi)
        have ey : ys[i]? = some (.ref p) := by rw [List.getElem?_eq_getElem hi, ex]
        have hd := hdec i (j, ops) er
        have h5 := let_short j gd.jl
        have hol : ops.length = (lets j).length := gd.len
        rw [e0]
        refine ⟨_, rfl, _, rfl, _, rfl, l13, _, _, .int (off rs i), rfl, rfl, .of (s2 _ _ hlp0), atI_of (hoffI i hi'), _, rfl, _, rfl, l, flat rs, off rs i, rr, cc, rfl, .inl (.of (s2 _ _ hlf0)), hob i (by omega), by omega, fun p1 H3 s3 ra => ?_⟩
        rw [hd] at ra
        obtain ⟨_, q1, ra1, ra2⟩ := ra
        have s23 := s2.trans s3
        refine ⟨_, rfl, l, _, rfl, .inl (.of (s23 _ _ hlf0)), fun pt Ht st gt => ?_⟩
        have s24 := s23.trans st
        refine ⟨_, rfl, _, rfl, l13, _, _, .int (off rs i), rfl, rfl, .of (s24 _ _ hlp0), atI_of (hoffI i hi'), _, rfl, _, rfl, pt, flat rs, off rs i, rr, cc, rfl, .inr gt, hob i (by omega), by omega, fun p2 H4 s4 rb => ?_⟩
        rw [hd] at rb
        obtain ⟨_, q2, rb1, rb2⟩ := rb
        have s25 := s24.trans s4
        have sa := st.trans s4
        have hpz := same_tup (smk.trans s25) hp8
        refine ⟨_, rfl, _, _, _, _, rfl, rfl, same_tup sa ra1, atI_of (j := 0) rfl, rfl, _, rfl, iteN (by decide +kernel) ?_⟩
        refine ⟨_, rfl, _, _, _, _, rfl, rfl, same_tup sa ra1, atI_of (j := 1) rfl, _, rfl, _, rfl, D4, _, _, .ref p, rfl, rfl, hym _ s25, atI_of ey, q1, p, j, ops, rfl, same_tup sa ra2, hpz, by omega, _, rfl, iteN rfl ?_⟩
        refine ⟨_, rfl, _, _, _, _, rfl, rfl, rb1, atI_of (j := 0) rfl, rfl, _, rfl, iteN (by decide +kernel) ?_⟩
        refine ⟨_, rfl, _, _, _, _, rfl, rfl, rb1, atI_of (j := 1) rfl, _, rfl, _, rfl, D4, _, _, .ref p, rfl, rfl, hym _ s25, atI_of ey, q2, p, j, ops, rfl, rb2, hpz, by omega, _, rfl, iteN rfl ?_⟩
        refine ⟨_, rfl, _, rfl, D4, _, _, .ref p, rfl, rfl, hym _ s25, atI_of ey, p, j, ops, rfl, gd.jl, gd.len, hpz, fun H5 s5 => ⟨_, rfl, iteN rfl ?_⟩⟩
        exact ⟨s25.trans s5, _, _, _, _, rfl⟩
      · obtain ⟨s2, z5, z14, z15, z17, rfl⟩ := h
        have hyp : 0 < ys.length := by
          have : 0 < zs.length := List.length_pos_iff.mpr hz
          omega
        have hln2 : SqL K H2 ln (zs.map V.int) := same_lst (smk.trans s2) (same_lst s8 hln7)
        have hS2' : SqL K H2 a (ns.map V.int) := same_lst (smk.trans s2) hS8
        obtain ⟨zl, hzl⟩ : ∃ z, (zs.map V.int).getLast? = some (.int z) := by
          rw [List.getLast?_map]
          cases e : zs.getLast? with
          | none => exact absurd (List.getLast?_eq_none_iff.mp e) hz
          | some z => exact ⟨z, rfl⟩
        refine ⟨_, rfl, _, _, rfl, rfl, ⟨by decide, by decide⟩, _, rfl, a, _, rfl, .inl hS2', _, _, rfl, rfl, .inr ⟨by decide, by decide⟩, _, _, rfl, rfl, _, rfl, _, rfl, ln, _, _, .int zl, rfl, rfl, hln2, atI_last hzl, _, _, rfl, rfl, .inl ⟨_, rfl, ?_⟩⟩
        refine ⟨_, rfl, D4, _, rfl, .inl (hym _ s2), _, _, rfl, rfl, by show (0 : Int) < (ys.length : Nat); omega, ?_⟩
        have hm0 := Int.emod_nonneg (first / 4800 + ((ns.map V.int).length : Int) * 5 + zl) (show (ys.length : Int) ≠ 0 by omega)
        have hm1 := Int.emod_lt_of_pos (first / 4800 + ((ns.map V.int).length : Int) * 5 + zl) (show 0 < (ys.length : Int) by omega)
        obtain ⟨k, hk⟩ : ∃ k : Nat, (first / 4800 + ((ns.map V.int).length : Int) * 5 + zl) % (ys.length : Int) = k := ⟨_, (Int.toNat_of_nonneg hm0).symm⟩
        rw [hk] at hm1
        have hky : k < ys.length := by omega
        obtain ⟨⟨j, ops⟩, p, er, ex, hp8, gd⟩ := hrow k ys[k] (List.getElem?_eq_getElem hky)
        have ey : ys[k]? = some (.ref p) := by rw [List.getElem?_eq_getElem hky, ex]
        refine ⟨_, rfl, _, rfl, eq_ints (xs := flat rs) (.of (s2 _ _ hlf0)) (.of (s2 _ _ hlk0)) ⟨true, rfl, iteT ?_⟩⟩
        have es := flat_split er
        refine ⟨_, rfl, _, rfl, _, rfl, l13, _, _, .int (off rs k), rfl, rfl, .of (s2 _ _ hlp0), ?_, _, rfl, _, rfl, D4, _, _, .ref p, rfl, rfl, hym _ s2, ?_, _, rfl, l, p, pb, flat (rs.take k), flat (rs.drop (k + 1)), j, ops, rr, cc, rfl, ?_, ?_, hR, same_tup (smk.trans s2) hp8, ?_, ?_, fun H5 s5 => q H5⟩
        · show atI _ ((first / 4800 + ((ns.map V.int).length : Int) * 5 + zl) % (ys.length : Int)) = _
          rw [hk]
          exact atI_of (hoffI k (by omega))
        · show atI _ ((first / 4800 + ((ns.map V.int).length : Int) * 5 + zl) % (ys.length : Int)) = _
          rw [hk]
          exact atI_of ey
        · rw [← es]
          exact .of (s2 _ _ hlf0)
        · rw [← es, hfl]
          exact gd
        · rw [← es, hfl]
          exact same_tup (smk.trans s2) hgb8
        · rw [← es]
          omega

end
end K87
set_option maxHeartbeats 4000000
namespace K87
open PySem PySem.Spec PyProof.Rows L2 SX BB BD BQ BS BE PN BZ NdefX
abbrev s_eI : Stmt := inClass (topS 2) 0
/-! ### what the top has left, the end -/
theorem tup_mk {K : PySem.W.Frag} {a : Addr} {od : Option Addr} {ar : Array Value} {n : Nat} {sl : Array (Option Value)} {xs : List V} (l : K.lookup a = some ⟨.type "tuple", od, .seq ar n, sl⟩) (v : Vals xs ar.toList) (hz : xs.length ≤ sizeLine) : ∀ H, SqT K H a xs := fun H => .inr ⟨_, ar, n, l, rfl, rfl, (by show ar.toList.length ≤ sizeLine; rw [← v.length]; exact hz), v⟩
theorem all_mk {l : PySem.W.OpenLaw} {w : World} {K : PySem.W.Frag} {h : Heap} {mg : Str → Option Value} {fa : Addr} (X : K.In h) (G : h.Ns mainGlobals mg) (hfa : mg "law" = some (.ref fa))
    {f_is_word f_size f_sources f_target f_accesses f_encode f_fits f_decode f_law_cell f_law_kinds f_law_letters f_law_word f_law_made f_law_same f_law_read f_law_refused f_law_roles f_law_edges f_law_spoilt f_law : Addr}
    {od_is_word an_is_word od_size an_size od_sources an_sources od_target an_target od_accesses an_accesses od_encode an_encode od_fits an_fits od_decode an_decode od_law_cell an_law_cell od_law_kinds an_law_kinds od_law_letters an_law_letters od_law_word an_law_word od_law_made an_law_made od_law_same an_law_same od_law_read an_law_read od_law_refused an_law_refused od_law_roles an_law_roles od_law_edges an_law_edges od_law_spoilt an_law_spoilt od_law an_law : Option Addr} {sl_is_word sl_size sl_sources sl_target sl_accesses sl_encode sl_fits sl_decode sl_law_cell sl_law_kinds sl_law_letters sl_law_word sl_law_made sl_law_same sl_law_read sl_law_refused sl_law_roles sl_law_edges sl_law_spoilt sl_law : Array (Option Value)} {oc_is_word kV_is_word dc_is_word pm_is_word cd_is_word ct_is_word oc_size kV_size dc_size pm_size cd_size ct_size oc_sources kV_sources dc_sources pm_sources cd_sources ct_sources oc_target kV_target dc_target pm_target cd_target ct_target oc_accesses kV_accesses dc_accesses pm_accesses cd_accesses ct_accesses oc_encode kV_encode dc_encode pm_encode cd_encode ct_encode oc_fits kV_fits dc_fits pm_fits cd_fits ct_fits oc_decode kV_decode dc_decode pm_decode cd_decode ct_decode oc_law_cell kV_law_cell dc_law_cell pm_law_cell cd_law_cell ct_law_cell oc_law_kinds kV_law_kinds dc_law_kinds pm_law_kinds cd_law_kinds ct_law_kinds oc_law_letters kV_law_letters dc_law_letters pm_law_letters cd_law_letters ct_law_letters oc_law_word kV_law_word dc_law_word pm_law_word cd_law_word ct_law_word oc_law_made kV_law_made dc_law_made pm_law_made cd_law_made ct_law_made oc_law_same kV_law_same dc_law_same pm_law_same cd_law_same ct_law_same oc_law_read kV_law_read dc_law_read pm_law_read cd_law_read ct_law_read oc_law_refused kV_law_refused dc_law_refused pm_law_refused cd_law_refused ct_law_refused oc_law_roles kV_law_roles dc_law_roles pm_law_roles cd_law_roles ct_law_roles oc_law_edges kV_law_edges dc_law_edges pm_law_edges cd_law_edges ct_law_edges oc_law_spoilt kV_law_spoilt dc_law_spoilt pm_law_spoilt cd_law_spoilt ct_law_spoilt oc_law kV_law dc_law pm_law cd_law ct_law : Value} {t_LOW t_HIGH t_MOST_CODE : Tok}
    {aK : Addr} {od_t0 : Option Addr} {ar_t0 : Array Value} {n_t0 : Nat} {sl_t0 : Array (Option Value)}
    {aT : Addr} {od_t1 : Option Addr} {ar_t1 : Array Value} {n_t1 : Nat} {sl_t1 : Array (Option Value)}
    {aA : Addr} {od_t2 : Option Addr} {ar_t2 : Array Value} {n_t2 : Nat} {sl_t2 : Array (Option Value)}
    {p0 : Addr} {od_t3 : Option Addr} {ar_t3 : Array Value} {n_t3 : Nat} {sl_t3 : Array (Option Value)}
    {p1 : Addr} {od_t4 : Option Addr} {ar_t4 : Array Value} {n_t4 : Nat} {sl_t4 : Array (Option Value)}
    {p2 : Addr} {od_t5 : Option Addr} {ar_t5 : Array Value} {n_t5 : Nat} {sl_t5 : Array (Option Value)}
    {p3 : Addr} {od_t6 : Option Addr} {ar_t6 : Array Value} {n_t6 : Nat} {sl_t6 : Array (Option Value)}
    {p4 : Addr} {od_t7 : Option Addr} {ar_t7 : Array Value} {n_t7 : Nat} {sl_t7 : Array (Option Value)}
    {p5 : Addr} {od_t8 : Option Addr} {ar_t8 : Array Value} {n_t8 : Nat} {sl_t8 : Array (Option Value)}
    {p6 : Addr} {od_t9 : Option Addr} {ar_t9 : Array Value} {n_t9 : Nat} {sl_t9 : Array (Option Value)}
    {p7 : Addr} {od_t10 : Option Addr} {ar_t10 : Array Value} {n_t10 : Nat} {sl_t10 : Array (Option Value)}
    {p8 : Addr} {od_t11 : Option Addr} {ar_t11 : Array Value} {n_t11 : Nat} {sl_t11 : Array (Option Value)}
    {p9 : Addr} {od_t12 : Option Addr} {ar_t12 : Array Value} {n_t12 : Nat} {sl_t12 : Array (Option Value)}
    {p10 : Addr} {od_t13 : Option Addr} {ar_t13 : Array Value} {n_t13 : Nat} {sl_t13 : Array (Option Value)}
    {p11 : Addr} {od_t14 : Option Addr} {ar_t14 : Array Value} {n_t14 : Nat} {sl_t14 : Array (Option Value)}
    {aO : Addr} {es_d0 : Array DictEntry} {n_d0 : Nat}
    {aS : Addr} {es_d1 : Array DictEntry} {n_d1 : Nat}
    {C_bi D_bi fI_bi cc_bi cda_bi N_bi : Addr} {nm_bi q_bi file_bi : Str} {bs_bi bm_bi sub_bi : List Value} {sn_bi : List Str} {ab_bi : Bool} {col_bi : Option Bool} {dd_bi : Option Addr} {k0_bi k1_bi k2_bi k3_bi k5_bi : Option Value}
    {kV_bi doc_bi pm_bi ct_bi oc_bi ccl_bi cl_bi : Value} {an_bi od_bi cdd_bi cld_bi : Option Addr} {osl_bi ccs_bi csl_bi : Array (Option Value)} {vs_bi : Array Value} {tf_bi : Tok} {cdD_bi : ClassData}
    (a_is_word : PySem.W.nsIn K mainGlobals "is_word" = some (some (.ref f_is_word)))
    (l_is_word : K.lookup f_is_word = some ⟨oc_is_word, od_is_word, .func (PySem.W.fnOf "is_word" "is_word" (defArgs s_is_word) (defBody s_is_word) (defScope s_is_word) .none kV_is_word dc_is_word pm_is_word an_is_word cd_is_word ct_is_word), sl_is_word⟩)
    (c_is_word : PySem.W.codeIn K cd_is_word "is_word" = true)
    (k_is_word : PySem.W.keepIn K (.ref f_is_word) = true)
    (a_size : PySem.W.nsIn K mainGlobals "size" = some (some (.ref f_size)))
    (l_size : K.lookup f_size = some ⟨oc_size, od_size, .func (PySem.W.fnOf "size" "size" (defArgs s_size) (defBody s_size) (defScope s_size) .none kV_size dc_size pm_size an_size cd_size ct_size), sl_size⟩)
    (c_size : PySem.W.codeIn K cd_size "size" = true)
    (k_size : PySem.W.keepIn K (.ref f_size) = true)
    (a_sources : PySem.W.nsIn K mainGlobals "sources" = some (some (.ref f_sources)))
    (l_sources : K.lookup f_sources = some ⟨oc_sources, od_sources, .func (PySem.W.fnOf "sources" "sources" (defArgs s_sources) (defBody s_sources) (defScope s_sources) .none kV_sources dc_sources pm_sources an_sources cd_sources ct_sources), sl_sources⟩)
    (c_sources : PySem.W.codeIn K cd_sources "sources" = true)
    (k_sources : PySem.W.keepIn K (.ref f_sources) = true)
    (a_target : PySem.W.nsIn K mainGlobals "target" = some (some (.ref f_target)))
    (l_target : K.lookup f_target = some ⟨oc_target, od_target, .func (PySem.W.fnOf "target" "target" (defArgs s_target) (defBody s_target) (defScope s_target) .none kV_target dc_target pm_target an_target cd_target ct_target), sl_target⟩)
    (c_target : PySem.W.codeIn K cd_target "target" = true)
    (k_target : PySem.W.keepIn K (.ref f_target) = true)
    (a_accesses : PySem.W.nsIn K mainGlobals "accesses" = some (some (.ref f_accesses)))
    (l_accesses : K.lookup f_accesses = some ⟨oc_accesses, od_accesses, .func (PySem.W.fnOf "accesses" "accesses" (defArgs s_accesses) (defBody s_accesses) (defScope s_accesses) .none kV_accesses dc_accesses pm_accesses an_accesses cd_accesses ct_accesses), sl_accesses⟩)
    (c_accesses : PySem.W.codeIn K cd_accesses "accesses" = true)
    (k_accesses : PySem.W.keepIn K (.ref f_accesses) = true)
    (a_encode : PySem.W.nsIn K mainGlobals "encode" = some (some (.ref f_encode)))
    (l_encode : K.lookup f_encode = some ⟨oc_encode, od_encode, .func (PySem.W.fnOf "encode" "encode" (defArgs s_encode) (defBody s_encode) (defScope s_encode) .none kV_encode dc_encode pm_encode an_encode cd_encode ct_encode), sl_encode⟩)
    (c_encode : PySem.W.codeIn K cd_encode "encode" = true)
    (k_encode : PySem.W.keepIn K (.ref f_encode) = true)
    (a_fits : PySem.W.nsIn K mainGlobals "fits" = some (some (.ref f_fits)))
    (l_fits : K.lookup f_fits = some ⟨oc_fits, od_fits, .func (PySem.W.fnOf "fits" "fits" (defArgs s_fits) (defBody s_fits) (defScope s_fits) .none kV_fits dc_fits pm_fits an_fits cd_fits ct_fits), sl_fits⟩)
    (c_fits : PySem.W.codeIn K cd_fits "fits" = true)
    (k_fits : PySem.W.keepIn K (.ref f_fits) = true)
    (a_decode : PySem.W.nsIn K mainGlobals "decode" = some (some (.ref f_decode)))
    (l_decode : K.lookup f_decode = some ⟨oc_decode, od_decode, .func (PySem.W.fnOf "decode" "decode" (defArgs s_decode) (defBody s_decode) (defScope s_decode) .none kV_decode dc_decode pm_decode an_decode cd_decode ct_decode), sl_decode⟩)
    (c_decode : PySem.W.codeIn K cd_decode "decode" = true)
    (k_decode : PySem.W.keepIn K (.ref f_decode) = true)
    (a_law_cell : PySem.W.nsIn K mainGlobals "_law_cell" = some (some (.ref f_law_cell)))
    (l_law_cell : K.lookup f_law_cell = some ⟨oc_law_cell, od_law_cell, .func (PySem.W.fnOf "_law_cell" "_law_cell" (defArgs s_law_cell) (defBody s_law_cell) (defScope s_law_cell) .none kV_law_cell dc_law_cell pm_law_cell an_law_cell cd_law_cell ct_law_cell), sl_law_cell⟩)
    (c_law_cell : PySem.W.codeIn K cd_law_cell "_law_cell" = true)
    (k_law_cell : PySem.W.keepIn K (.ref f_law_cell) = true)
    (a_law_kinds : PySem.W.nsIn K mainGlobals "_law_kinds" = some (some (.ref f_law_kinds)))
    (l_law_kinds : K.lookup f_law_kinds = some ⟨oc_law_kinds, od_law_kinds, .func (PySem.W.fnOf "_law_kinds" "_law_kinds" (defArgs s_law_kinds) (defBody s_law_kinds) (defScope s_law_kinds) .none kV_law_kinds dc_law_kinds pm_law_kinds an_law_kinds cd_law_kinds ct_law_kinds), sl_law_kinds⟩)
    (c_law_kinds : PySem.W.codeIn K cd_law_kinds "_law_kinds" = true)
    (k_law_kinds : PySem.W.keepIn K (.ref f_law_kinds) = true)
    (a_law_letters : PySem.W.nsIn K mainGlobals "_law_letters" = some (some (.ref f_law_letters)))
    (l_law_letters : K.lookup f_law_letters = some ⟨oc_law_letters, od_law_letters, .func (PySem.W.fnOf "_law_letters" "_law_letters" (defArgs s_law_letters) (defBody s_law_letters) (defScope s_law_letters) .none kV_law_letters dc_law_letters pm_law_letters an_law_letters cd_law_letters ct_law_letters), sl_law_letters⟩)
    (c_law_letters : PySem.W.codeIn K cd_law_letters "_law_letters" = true)
    (k_law_letters : PySem.W.keepIn K (.ref f_law_letters) = true)
    (a_law_word : PySem.W.nsIn K mainGlobals "_law_word" = some (some (.ref f_law_word)))
    (l_law_word : K.lookup f_law_word = some ⟨oc_law_word, od_law_word, .func (PySem.W.fnOf "_law_word" "_law_word" (defArgs s_law_word) (defBody s_law_word) (defScope s_law_word) .none kV_law_word dc_law_word pm_law_word an_law_word cd_law_word ct_law_word), sl_law_word⟩)
    (c_law_word : PySem.W.codeIn K cd_law_word "_law_word" = true)
    (k_law_word : PySem.W.keepIn K (.ref f_law_word) = true)
    (a_law_made : PySem.W.nsIn K mainGlobals "_law_made" = some (some (.ref f_law_made)))
    (l_law_made : K.lookup f_law_made = some ⟨oc_law_made, od_law_made, .func (PySem.W.fnOf "_law_made" "_law_made" (defArgs s_law_made) (defBody s_law_made) (defScope s_law_made) .none kV_law_made dc_law_made pm_law_made an_law_made cd_law_made ct_law_made), sl_law_made⟩)
    (c_law_made : PySem.W.codeIn K cd_law_made "_law_made" = true)
    (k_law_made : PySem.W.keepIn K (.ref f_law_made) = true)
    (a_law_same : PySem.W.nsIn K mainGlobals "_law_same" = some (some (.ref f_law_same)))
    (l_law_same : K.lookup f_law_same = some ⟨oc_law_same, od_law_same, .func (PySem.W.fnOf "_law_same" "_law_same" (defArgs s_law_same) (defBody s_law_same) (defScope s_law_same) .none kV_law_same dc_law_same pm_law_same an_law_same cd_law_same ct_law_same), sl_law_same⟩)
    (c_law_same : PySem.W.codeIn K cd_law_same "_law_same" = true)
    (k_law_same : PySem.W.keepIn K (.ref f_law_same) = true)
    (a_law_read : PySem.W.nsIn K mainGlobals "_law_read" = some (some (.ref f_law_read)))
    (l_law_read : K.lookup f_law_read = some ⟨oc_law_read, od_law_read, .func (PySem.W.fnOf "_law_read" "_law_read" (defArgs s_law_read) (defBody s_law_read) (defScope s_law_read) .none kV_law_read dc_law_read pm_law_read an_law_read cd_law_read ct_law_read), sl_law_read⟩)
    (c_law_read : PySem.W.codeIn K cd_law_read "_law_read" = true)
    (k_law_read : PySem.W.keepIn K (.ref f_law_read) = true)
    (a_law_refused : PySem.W.nsIn K mainGlobals "_law_refused" = some (some (.ref f_law_refused)))
    (l_law_refused : K.lookup f_law_refused = some ⟨oc_law_refused, od_law_refused, .func (PySem.W.fnOf "_law_refused" "_law_refused" (defArgs s_law_refused) (defBody s_law_refused) (defScope s_law_refused) .none kV_law_refused dc_law_refused pm_law_refused an_law_refused cd_law_refused ct_law_refused), sl_law_refused⟩)
    (c_law_refused : PySem.W.codeIn K cd_law_refused "_law_refused" = true)
    (k_law_refused : PySem.W.keepIn K (.ref f_law_refused) = true)
    (a_law_roles : PySem.W.nsIn K mainGlobals "_law_roles" = some (some (.ref f_law_roles)))
    (l_law_roles : K.lookup f_law_roles = some ⟨oc_law_roles, od_law_roles, .func (PySem.W.fnOf "_law_roles" "_law_roles" (defArgs s_law_roles) (defBody s_law_roles) (defScope s_law_roles) .none kV_law_roles dc_law_roles pm_law_roles an_law_roles cd_law_roles ct_law_roles), sl_law_roles⟩)
    (c_law_roles : PySem.W.codeIn K cd_law_roles "_law_roles" = true)
    (k_law_roles : PySem.W.keepIn K (.ref f_law_roles) = true)
    (a_law_edges : PySem.W.nsIn K mainGlobals "_law_edges" = some (some (.ref f_law_edges)))
    (l_law_edges : K.lookup f_law_edges = some ⟨oc_law_edges, od_law_edges, .func (PySem.W.fnOf "_law_edges" "_law_edges" (defArgs s_law_edges) (defBody s_law_edges) (defScope s_law_edges) .none kV_law_edges dc_law_edges pm_law_edges an_law_edges cd_law_edges ct_law_edges), sl_law_edges⟩)
    (c_law_edges : PySem.W.codeIn K cd_law_edges "_law_edges" = true)
    (k_law_edges : PySem.W.keepIn K (.ref f_law_edges) = true)
    (a_law_spoilt : PySem.W.nsIn K mainGlobals "_law_spoilt" = some (some (.ref f_law_spoilt)))
    (l_law_spoilt : K.lookup f_law_spoilt = some ⟨oc_law_spoilt, od_law_spoilt, .func (PySem.W.fnOf "_law_spoilt" "_law_spoilt" (defArgs s_law_spoilt) (defBody s_law_spoilt) (defScope s_law_spoilt) .none kV_law_spoilt dc_law_spoilt pm_law_spoilt an_law_spoilt cd_law_spoilt ct_law_spoilt), sl_law_spoilt⟩)
    (c_law_spoilt : PySem.W.codeIn K cd_law_spoilt "_law_spoilt" = true)
    (k_law_spoilt : PySem.W.keepIn K (.ref f_law_spoilt) = true)
    (a_law : PySem.W.nsIn K mainGlobals "law" = some (some (.ref f_law)))
    (l_law : K.lookup f_law = some ⟨oc_law, od_law, .func (PySem.W.fnOf "law" "law" (defArgs s_law) (defBody s_law) (defScope s_law) .none kV_law dc_law pm_law an_law cd_law ct_law), sl_law⟩)
    (c_law : PySem.W.codeIn K cd_law "law" = true)
    (k_law : PySem.W.keepIn K (.ref f_law) = true)
    (z_len : PySem.W.nsIn K mainGlobals "len" = some none)
    (z_int : PySem.W.nsIn K mainGlobals "int" = some none)
    (z_bool : PySem.W.nsIn K mainGlobals "bool" = some none)
    (z_str : PySem.W.nsIn K mainGlobals "str" = some none)
    (z_list : PySem.W.nsIn K mainGlobals "list" = some none)
    (z_tuple : PySem.W.nsIn K mainGlobals "tuple" = some none)
    (z_abs : PySem.W.nsIn K mainGlobals "abs" = some none)
    (z_min : PySem.W.nsIn K mainGlobals "min" = some none)
    (z_sum : PySem.W.nsIn K mainGlobals "sum" = some none)
    (z_range : PySem.W.nsIn K mainGlobals "range" = some none)
    (z_isinstance : PySem.W.nsIn K mainGlobals "isinstance" = some none)
    (v_LOW : PySem.W.nsIn K mainGlobals "LOW" = some (some (.int (-9223372036854775808) t_LOW)))
    (v_HIGH : PySem.W.nsIn K mainGlobals "HIGH" = some (some (.int 9223372036854775807 t_HIGH)))
    (v_MOST_CODE : PySem.W.nsIn K mainGlobals "MOST_CODE" = some (some (.int 9999 t_MOST_CODE)))
    (v_KINDS : PySem.W.nsIn K mainGlobals "KINDS" = some (some (.ref aK)))
    (v_OPERANDS : PySem.W.nsIn K mainGlobals "OPERANDS" = some (some (.ref aO)))
    (v_SOURCES : PySem.W.nsIn K mainGlobals "SOURCES" = some (some (.ref aS)))
    (v_TARGETS : PySem.W.nsIn K mainGlobals "TARGETS" = some (some (.ref aT)))
    (v_ACCESSES : PySem.W.nsIn K mainGlobals "ACCESSES" = some (some (.ref aA)))
    (dl_0 : K.lookup aO = some ⟨.type "dict", none, .dict es_d0 n_d0, #[]⟩)
    (dw_0 : (aO == sysModules) = false)
    (dr_0 : BD.DRel w.params es_d0.toList (opsS.map fun p => (p.1, V.str p.2)))
    (dl_1 : K.lookup aS = some ⟨.type "dict", none, .dict es_d1 n_d1, #[]⟩)
    (dw_1 : (aS == sysModules) = false)
    (dr_1 : BD.DRel w.params es_d1.toList ([("copy", V.ref p0), ("add", V.ref p1), ("sub", V.ref p2), ("mul", V.ref p3), ("addc", V.ref p4), ("load", V.ref p5), ("store", V.ref p6), ("put", V.ref p7), ("out", V.ref p8), ("less", V.ref p9), ("same", V.ref p10), ("watch", V.ref p11)]))
    (tl_0 : K.lookup aK = some ⟨.type "tuple", od_t0, .seq ar_t0 n_t0, sl_t0⟩)
    (tv_0 : Vals (kindL.map V.str) ar_t0.toList)
    (tl_1 : K.lookup aT = some ⟨.type "tuple", od_t1, .seq ar_t1 n_t1, sl_t1⟩)
    (tv_1 : Vals (tgtL.map V.str) ar_t1.toList)
    (tl_2 : K.lookup aA = some ⟨.type "tuple", od_t2, .seq ar_t2 n_t2, sl_t2⟩)
    (tv_2 : Vals (accL.map V.str) ar_t2.toList)
    (tl_3 : K.lookup p0 = some ⟨.type "tuple", od_t3, .seq ar_t3 n_t3, sl_t3⟩)
    (tv_3 : Vals ([2].map fun k : Nat => V.int ((k : Nat) : Int)) ar_t3.toList)
    (tl_4 : K.lookup p1 = some ⟨.type "tuple", od_t4, .seq ar_t4 n_t4, sl_t4⟩)
    (tv_4 : Vals ([2, 3].map fun k : Nat => V.int ((k : Nat) : Int)) ar_t4.toList)
    (tl_5 : K.lookup p2 = some ⟨.type "tuple", od_t5, .seq ar_t5 n_t5, sl_t5⟩)
    (tv_5 : Vals ([2, 3].map fun k : Nat => V.int ((k : Nat) : Int)) ar_t5.toList)
    (tl_6 : K.lookup p3 = some ⟨.type "tuple", od_t6, .seq ar_t6 n_t6, sl_t6⟩)
    (tv_6 : Vals ([2, 3].map fun k : Nat => V.int ((k : Nat) : Int)) ar_t6.toList)
    (tl_7 : K.lookup p4 = some ⟨.type "tuple", od_t7, .seq ar_t7 n_t7, sl_t7⟩)
    (tv_7 : Vals ([2].map fun k : Nat => V.int ((k : Nat) : Int)) ar_t7.toList)
    (tl_8 : K.lookup p5 = some ⟨.type "tuple", od_t8, .seq ar_t8 n_t8, sl_t8⟩)
    (tv_8 : Vals ([2].map fun k : Nat => V.int ((k : Nat) : Int)) ar_t8.toList)
    (tl_9 : K.lookup p6 = some ⟨.type "tuple", od_t9, .seq ar_t9 n_t9, sl_t9⟩)
    (tv_9 : Vals ([1, 2].map fun k : Nat => V.int ((k : Nat) : Int)) ar_t9.toList)
    (tl_10 : K.lookup p7 = some ⟨.type "tuple", od_t10, .seq ar_t10 n_t10, sl_t10⟩)
    (tv_10 : Vals ([2].map fun k : Nat => V.int ((k : Nat) : Int)) ar_t10.toList)
    (tl_11 : K.lookup p8 = some ⟨.type "tuple", od_t11, .seq ar_t11 n_t11, sl_t11⟩)
    (tv_11 : Vals ([1].map fun k : Nat => V.int ((k : Nat) : Int)) ar_t11.toList)
    (tl_12 : K.lookup p9 = some ⟨.type "tuple", od_t12, .seq ar_t12 n_t12, sl_t12⟩)
    (tv_12 : Vals ([1, 2].map fun k : Nat => V.int ((k : Nat) : Int)) ar_t12.toList)
    (tl_13 : K.lookup p10 = some ⟨.type "tuple", od_t13, .seq ar_t13 n_t13, sl_t13⟩)
    (tv_13 : Vals ([1, 2].map fun k : Nat => V.int ((k : Nat) : Int)) ar_t13.toList)
    (tl_14 : K.lookup p11 = some ⟨.type "tuple", od_t14, .seq ar_t14 n_t14, sl_t14⟩)
    (tv_14 : Vals ([1].map fun k : Nat => V.int ((k : Nat) : Int)) ar_t14.toList)
    (eaC_bi : PySem.W.nsIn K mainGlobals "BadImage" = some (some (.ref C_bi)))
    (eaD_bi : PySem.W.nsIn K mainGlobals "PlaceError" = some (some (.ref D_bi)))
    (elC_bi : K.lookup C_bi = some (excClassObj nm_bi q_bi C_bi N_bi bs_bi bm_bi true sn_bi sub_bi ab_bi col_bi dd_bi k0_bi k1_bi k2_bi k3_bi k5_bi "ValueError.__new__"))
    (ebm_bi : PySem.HandSPX.refsVE bm_bi = true)
    (esa_bi : PySem.W.findIn K (.ref C_bi) "__setattr__" = some (some (.builtin "object.__setattr__")))
    (eex_bi : PySem.W.subIn K (.ref C_bi) (.type "BaseException") = some true)
    (ety_bi : PySem.W.typeIn K (.ref C_bi) = some (.type "type"))
    (ekp_bi : PySem.W.keepIn K (.ref C_bi) = true)
    (emr_bi : PySem.W.mroIn K C_bi (.ref D_bi) = some true)
    (esu_bi : PySem.W.ks_superIn K C_bi D_bi "__init__" = some (some (.builtin "ValueError.__init__")))
    (esb_bi : PySem.W.subIn K (.ref C_bi) (.type "ValueError") = some true)
    (eno_bi : PySem.W.findIn K (.ref C_bi) "place" = some none)
    (eiC_bi : PySem.W.findIn K (.ref C_bi) "__init__" = some (some (.ref fI_bi)))
    (etI_bi : PySem.W.typeIn K (.ref fI_bi) = some (.type "function"))
    (elk_bi : K.lookup fI_bi = some ⟨oc_bi, od_bi, .func (PySem.W.ksFn "__init__" "PlaceError.__init__" (defArgs s_eI) (defBody s_eI) (defScope s_eI) .none kV_bi doc_bi pm_bi an_bi (.ref cda_bi) ct_bi cc_bi), osl_bi⟩)
    (ecd_bi : PySem.W.codeIn K (.ref cda_bi) "PlaceError.__init__" = true)
    (eco_bi : K.lookup cda_bi = some ⟨ccl_bi, cdd_bi, .fields vs_bi, ccs_bi⟩)
    (evs_bi : vs_bi[2]? = some (.str file_bi tf_bi))
    (efi_bi : ((l.prog.main.file : Str) == file_bi) = true)
    (ece_bi : K.lookup cc_bi = some ⟨cl_bi, cld_bi, .cell (some (.ref D_bi)), csl_bi⟩)
    (eD_bi : PySem.W.clsIn K D_bi = some cdD_bi)
    (ega_bi : PySem.W.findIn K (.ref C_bi) "__getattribute__" = some (some (.builtin "BaseException.__getattribute__")))
    (egg_bi : PySem.W.findIn K (.ref C_bi) "__getattr__" = some none)
    (ehd_bi : PySem.W.hasDictIn K C_bi = true)
    (eem_bi : PySem.W.exmOne K (.ref C_bi) (.ref C_bi) = some true)
    (etop : (l.prog.main.scope.names.lookup ("super" : Str)).isSome = false)
    (eopq : PySem.W.nsIn K cStatics "thirdparty.any" = some none)
    (z_super : PySem.W.nsIn K mainGlobals "super" = some none)
    (kd : od_t0 = none)
    : ∃ fd : FuncData, (∀ (s : Shared) (v : Value), BindsTo s fd ⟨[v], []⟩ [("script", v)]) ∧ ∀ base : Heap, K.In base → base.Ns mainGlobals mg → FnOk l.prog w K mg base (L2.CX l.prog w) 6 fa fd ["script"] (spLaw K) := by
  have e := hfa.symm.trans (PySem.W.mg_of X G a_law)
  cases e
  have Er_bi : ∀ base, Err l.prog w K mg base "BadImage" C_bi "place" := fun base => err_mk (st := s_eI) (y := "place") (PySem.W.mg_of X G eaC_bi) elC_bi ebm_bi esa_bi eex_bi ety_bi ekp_bi emr_bi esu_bi esb_bi eno_bi eiC_bi etI_bi elk_bi (by rfl) ecd_bi (nscope_by (by decide +kernel)) (by rfl) (by rfl) eco_bi evs_bi efi_bi etop ece_bi eD_bi (PySem.W.mg_none_of X G z_super) eopq (by rfl) (by rfl) (PySem.W.mg_none_of X G z_str) (by decide) (by decide) (by decide) (fun _ => rfl) (fun _ => rfl) ega_bi egg_bi ehd_bi eem_bi (fun us hl => match us, hl with | [_, _], _ => rfl)
  have sr : ∀ j, j < 18 → (srcOf j = [] ∧ ([("copy", V.ref p0), ("add", V.ref p1), ("sub", V.ref p2), ("mul", V.ref p3), ("addc", V.ref p4), ("load", V.ref p5), ("store", V.ref p6), ("put", V.ref p7), ("out", V.ref p8), ("less", V.ref p9), ("same", V.ref p10), ("watch", V.ref p11)] : List (Str × V)).lookup (kindS j) = none) ∨ ∃ p, ([("copy", V.ref p0), ("add", V.ref p1), ("sub", V.ref p2), ("mul", V.ref p3), ("addc", V.ref p4), ("load", V.ref p5), ("store", V.ref p6), ("put", V.ref p7), ("out", V.ref p8), ("less", V.ref p9), ("same", V.ref p10), ("watch", V.ref p11)] : List (Str × V)).lookup (kindS j) = some (.ref p) ∧ ∀ H, SqT K H p ((srcOf j).map fun k => .int ((k : Nat) : Int)) := by
    intro j hj
    match j, hj with
    | 0, _ => exact .inl ⟨rfl, rfl⟩
    | 1, _ => exact .inl ⟨rfl, rfl⟩
    | 2, _ => exact .inr ⟨p0, rfl, tup_mk tl_3 tv_3 (by decide)⟩
    | 3, _ => exact .inr ⟨p1, rfl, tup_mk tl_4 tv_4 (by decide)⟩
    | 4, _ => exact .inr ⟨p2, rfl, tup_mk tl_5 tv_5 (by decide)⟩
    | 5, _ => exact .inr ⟨p3, rfl, tup_mk tl_6 tv_6 (by decide)⟩
    | 6, _ => exact .inr ⟨p4, rfl, tup_mk tl_7 tv_7 (by decide)⟩
    | 7, _ => exact .inr ⟨p5, rfl, tup_mk tl_8 tv_8 (by decide)⟩
    | 8, _ => exact .inr ⟨p6, rfl, tup_mk tl_9 tv_9 (by decide)⟩
    | 9, _ => exact .inl ⟨rfl, rfl⟩
    | 10, _ => exact .inr ⟨p7, rfl, tup_mk tl_10 tv_10 (by decide)⟩
    | 11, _ => exact .inr ⟨p8, rfl, tup_mk tl_11 tv_11 (by decide)⟩
    | 12, _ => exact .inl ⟨rfl, rfl⟩
    | 13, _ => exact .inr ⟨p9, rfl, tup_mk tl_12 tv_12 (by decide)⟩
    | 14, _ => exact .inr ⟨p10, rfl, tup_mk tl_13 tv_13 (by decide)⟩
    | 15, _ => exact .inl ⟨rfl, rfl⟩
    | 16, _ => exact .inl ⟨rfl, rfl⟩
    | 17, _ => exact .inr ⟨p11, rfl, tup_mk tl_14 tv_14 (by decide)⟩
    | (n + 18), h => exact absurd h (by omega)
  have T : Txt K w mg ⟨aK, aO, aS, aT, aA⟩ := { b_len := PySem.W.mg_none_of X G z_len, b_int := PySem.W.mg_none_of X G z_int, b_bool := PySem.W.mg_none_of X G z_bool, b_str := PySem.W.mg_none_of X G z_str, b_list := PySem.W.mg_none_of X G z_list, b_tuple := PySem.W.mg_none_of X G z_tuple, b_abs := PySem.W.mg_none_of X G z_abs, b_min := PySem.W.mg_none_of X G z_min, b_sum := PySem.W.mg_none_of X G z_sum, b_range := PySem.W.mg_none_of X G z_range, b_isinstance := PySem.W.mg_none_of X G z_isinstance, c_LOW := ⟨_, PySem.W.mg_of X G v_LOW, ⟨_, rfl⟩⟩, c_HIGH := ⟨_, PySem.W.mg_of X G v_HIGH, ⟨_, rfl⟩⟩, c_MOST_CODE := ⟨_, PySem.W.mg_of X G v_MOST_CODE, ⟨_, rfl⟩⟩, c_KINDS := ⟨_, PySem.W.mg_of X G v_KINDS, rfl⟩, c_OPERANDS := ⟨_, PySem.W.mg_of X G v_OPERANDS, rfl⟩, c_SOURCES := ⟨_, PySem.W.mg_of X G v_SOURCES, rfl⟩, c_TARGETS := ⟨_, PySem.W.mg_of X G v_TARGETS, rfl⟩, c_ACCESSES := ⟨_, PySem.W.mg_of X G v_ACCESSES, rfl⟩, kinds := tup_mk tl_0 tv_0 (by decide), kindsK := ⟨_, tl_0, rfl, kd⟩, ops := BD.stab_of dl_0 dw_0 dr_0, srcs := ⟨_, BD.stab_of dl_1 dw_1 dr_1, sr⟩, tgts := tup_mk tl_1 tv_1 (by decide), accs := tup_mk tl_2 tv_2 (by decide) }
  have D_is_word : Def K mg "is_word" P_is_word s_is_word := def_mk (fun_mk (st := s_is_word) l_is_word c_is_word k_is_word) (PySem.W.mg_of X G a_is_word) fun _ _ _ _ _ _ us hl => match us, hl with | [_], _ => rfl
  have D_size : Def K mg "size" P_size s_size := def_mk (fun_mk (st := s_size) l_size c_size k_size) (PySem.W.mg_of X G a_size) fun _ _ _ _ _ _ us hl => match us, hl with | [_], _ => rfl
  have D_sources : Def K mg "sources" P_sources s_sources := def_mk (fun_mk (st := s_sources) l_sources c_sources k_sources) (PySem.W.mg_of X G a_sources) fun _ _ _ _ _ _ us hl => match us, hl with | [_], _ => rfl
  have D_target : Def K mg "target" P_target s_target := def_mk (fun_mk (st := s_target) l_target c_target k_target) (PySem.W.mg_of X G a_target) fun _ _ _ _ _ _ us hl => match us, hl with | [_], _ => rfl
  have D_accesses : Def K mg "accesses" P_accesses s_accesses := def_mk (fun_mk (st := s_accesses) l_accesses c_accesses k_accesses) (PySem.W.mg_of X G a_accesses) fun _ _ _ _ _ _ us hl => match us, hl with | [_], _ => rfl
  have D_encode : Def K mg "encode" P_encode s_encode := def_mk (fun_mk (st := s_encode) l_encode c_encode k_encode) (PySem.W.mg_of X G a_encode) fun _ _ _ _ _ _ us hl => match us, hl with | [_], _ => rfl
  have D_fits : Def K mg "fits" P_fits s_fits := def_mk (fun_mk (st := s_fits) l_fits c_fits k_fits) (PySem.W.mg_of X G a_fits) fun _ _ _ _ _ _ us hl => match us, hl with | [_, _, _, _], _ => rfl
  have D_decode : Def K mg "decode" P_decode s_decode := def_mk (fun_mk (st := s_decode) l_decode c_decode k_decode) (PySem.W.mg_of X G a_decode) fun _ _ _ _ _ _ us hl => match us, hl with | [_, _, _, _], _ => rfl
  have D_law_cell : Def K mg "_law_cell" P_law_cell s_law_cell := def_mk (fun_mk (st := s_law_cell) l_law_cell c_law_cell k_law_cell) (PySem.W.mg_of X G a_law_cell) fun _ _ _ _ _ _ us hl => match us, hl with | [_, _], _ => rfl
  have D_law_kinds : Def K mg "_law_kinds" P_law_kinds s_law_kinds := def_mk (fun_mk (st := s_law_kinds) l_law_kinds c_law_kinds k_law_kinds) (PySem.W.mg_of X G a_law_kinds) fun _ _ _ _ _ _ us hl => match us, hl with | [], _ => rfl
  have D_law_letters : Def K mg "_law_letters" P_law_letters s_law_letters := def_mk (fun_mk (st := s_law_letters) l_law_letters c_law_letters k_law_letters) (PySem.W.mg_of X G a_law_letters) fun _ _ _ _ _ _ us hl => match us, hl with | [_], _ => rfl
  have D_law_word : Def K mg "_law_word" P_law_word s_law_word := def_mk (fun_mk (st := s_law_word) l_law_word c_law_word k_law_word) (PySem.W.mg_of X G a_law_word) fun _ _ _ _ _ _ us hl => match us, hl with | [_], _ => rfl
  have D_law_made : Def K mg "_law_made" P_law_made s_law_made := def_mk (fun_mk (st := s_law_made) l_law_made c_law_made k_law_made) (PySem.W.mg_of X G a_law_made) fun _ _ _ _ _ _ us hl => match us, hl with | [_, _, _], _ => rfl
  have D_law_same : Def K mg "_law_same" P_law_same s_law_same := def_mk (fun_mk (st := s_law_same) l_law_same c_law_same k_law_same) (PySem.W.mg_of X G a_law_same) fun _ _ _ _ _ _ us hl => match us, hl with | [_, _], _ => rfl
  have D_law_read : Def K mg "_law_read" P_law_read s_law_read := def_mk (fun_mk (st := s_law_read) l_law_read c_law_read k_law_read) (PySem.W.mg_of X G a_law_read) fun _ _ _ _ _ _ us hl => match us, hl with | [_, _, _, _], _ => rfl
  have D_law_refused : Def K mg "_law_refused" P_law_refused s_law_refused := def_mk (fun_mk (st := s_law_refused) l_law_refused c_law_refused k_law_refused) (PySem.W.mg_of X G a_law_refused) fun _ _ _ _ _ _ us hl => match us, hl with | [_, _], _ => rfl
  have D_law_roles : Def K mg "_law_roles" P_law_roles s_law_roles := def_mk (fun_mk (st := s_law_roles) l_law_roles c_law_roles k_law_roles) (PySem.W.mg_of X G a_law_roles) fun _ _ _ _ _ _ us hl => match us, hl with | [_], _ => rfl
  have D_law_edges : Def K mg "_law_edges" P_law_edges s_law_edges := def_mk (fun_mk (st := s_law_edges) l_law_edges c_law_edges k_law_edges) (PySem.W.mg_of X G a_law_edges) fun _ _ _ _ _ _ us hl => match us, hl with | [_, _, _], _ => rfl
  have D_law_spoilt : Def K mg "_law_spoilt" P_law_spoilt s_law_spoilt := def_mk (fun_mk (st := s_law_spoilt) l_law_spoilt c_law_spoilt k_law_spoilt) (PySem.W.mg_of X G a_law_spoilt) fun _ _ _ _ _ _ us hl => match us, hl with | [_, _, _, _], _ => rfl
  exact ⟨PySem.W.fnOf "law" "law" (defArgs s_law) (defBody s_law) (defScope s_law) .none kV_law dc_law pm_law an_law cd_law ct_law, fun s v => .of_eq rfl, fun base _ _ => by
    have c_is_word : Cal l.prog w K mg base 1 "is_word" P_is_word spIsW := cal_is_word T D_is_word
    have c_fits : Cal l.prog w K mg base 2 "fits" P_fits (spFits K) := cal_fits T D_fits c_is_word
    have c_kinds : Cal l.prog w K mg base 1 "_law_kinds" P_law_kinds spKs := cal_law_kinds T D_law_kinds
    have c_letters : Cal l.prog w K mg base 2 "_law_letters" P_law_letters spLet := cal_law_letters T D_law_letters c_kinds
    have c_read : Cal l.prog w K mg base 4 "_law_read" P_law_read (spRead K) := cal_law_read T D_law_read (Er_bi base) (cal_decode T D_decode (Er_bi base) c_fits)
    have c_same : Cal l.prog w K mg base 1 "_law_same" P_law_same (spSame K) := cal_law_same T D_law_same
    exact ok_law (fun_mk (st := s_law) l_law c_law k_law) T (cal_law_cell T D_law_cell) c_kinds c_letters (cal_law_made T D_law_made c_letters (cal_law_word T D_law_word)) (cal_encode T D_encode) (cal_size T D_size) c_read c_same (cal_law_roles T D_law_roles c_letters (cal_sources T D_sources) (cal_target T D_target) (cal_accesses T D_accesses)) (cal_law_spoilt T D_law_spoilt (cal_law_edges T D_law_edges c_letters) c_read c_same (cal_law_refused T D_law_refused))⟩
end K87

open PySem PySem.W PyProof.Rows in
set_option maxRecDepth 100000 in
set_option maxHeartbeats 0 in
theorem PySem.Challenge.cw_beatsbounded_k87_instructions_there_and_holds : PySem.Challenge.rw_beatsbounded_k87_instructions_there_and.Holds := by
  w_on; o_law; k_head; (case hw => w_witness2)
  k_fill
  refine BB.walkB (l := PySem.Challenge.rw_beatsbounded_k87_instructions_there_and) (k := 6) (sp := K87.spLaw) rfl rfl ⟨rfl, by decide, by decide⟩ (fun w h Y => PySem.W.kIn_of Y) ?F ?S
  case F =>
    intro w mg fa h KX G hmg
    refine' K87.all_mk KX G hmg ?a_is_word ?l_is_word ?c_is_word ?k_is_word ?a_size ?l_size ?c_size ?k_size ?a_sources ?l_sources ?c_sources ?k_sources ?a_target ?l_target ?c_target ?k_target ?a_accesses ?l_accesses ?c_accesses ?k_accesses ?a_encode ?l_encode ?c_encode ?k_encode ?a_fits ?l_fits ?c_fits ?k_fits ?a_decode ?l_decode ?c_decode ?k_decode ?a_law_cell ?l_law_cell ?c_law_cell ?k_law_cell ?a_law_kinds ?l_law_kinds ?c_law_kinds ?k_law_kinds ?a_law_letters ?l_law_letters ?c_law_letters ?k_law_letters ?a_law_word ?l_law_word ?c_law_word ?k_law_word ?a_law_made ?l_law_made ?c_law_made ?k_law_made ?a_law_same ?l_law_same ?c_law_same ?k_law_same ?a_law_read ?l_law_read ?c_law_read ?k_law_read ?a_law_refused ?l_law_refused ?c_law_refused ?k_law_refused ?a_law_roles ?l_law_roles ?c_law_roles ?k_law_roles ?a_law_edges ?l_law_edges ?c_law_edges ?k_law_edges ?a_law_spoilt ?l_law_spoilt ?c_law_spoilt ?k_law_spoilt ?a_law ?l_law ?c_law ?k_law ?z_len ?z_int ?z_bool ?z_str ?z_list ?z_tuple ?z_abs ?z_min ?z_sum ?z_range ?z_isinstance ?v_LOW ?v_HIGH ?v_MOST_CODE ?v_KINDS ?v_OPERANDS ?v_SOURCES ?v_TARGETS ?v_ACCESSES ?dl_0 ?dw_0 ?dr_0 ?dl_1 ?dw_1 ?dr_1 ?tl_0 ?tv_0 ?tl_1 ?tv_1 ?tl_2 ?tv_2 ?tl_3 ?tv_3 ?tl_4 ?tv_4 ?tl_5 ?tv_5 ?tl_6 ?tv_6 ?tl_7 ?tv_7 ?tl_8 ?tv_8 ?tl_9 ?tv_9 ?tl_10 ?tv_10 ?tl_11 ?tv_11 ?tl_12 ?tv_12 ?tl_13 ?tv_13 ?tl_14 ?tv_14 ?eaC_bi ?eaD_bi ?elC_bi ?ebm_bi ?esa_bi ?eex_bi ?ety_bi ?ekp_bi ?emr_bi ?esu_bi ?esb_bi ?eno_bi ?eiC_bi ?etI_bi ?elk_bi ?ecd_bi ?eco_bi ?evs_bi ?efi_bi ?ece_bi ?eD_bi ?ega_bi ?egg_bi ?ehd_bi ?eem_bi ?etop ?eopq ?z_super ?kd
    (case a_is_word => k_is)
    (case l_is_word => k_is)
    (case c_is_word => k_is)
    (case k_is_word => k_is)
    (case a_size => k_is)
    (case l_size => k_is)
    (case c_size => k_is)
    (case k_size => k_is)
    (case a_sources => k_is)
    (case l_sources => k_is)
    (case c_sources => k_is)
    (case k_sources => k_is)
    (case a_target => k_is)
    (case l_target => k_is)
    (case c_target => k_is)
    (case k_target => k_is)
    (case a_accesses => k_is)
    (case l_accesses => k_is)
    (case c_accesses => k_is)
    (case k_accesses => k_is)
    (case a_encode => k_is)
    (case l_encode => k_is)
    (case c_encode => k_is)
    (case k_encode => k_is)
    (case a_fits => k_is)
    (case l_fits => k_is)
    (case c_fits => k_is)
    (case k_fits => k_is)
    (case a_decode => k_is)
    (case l_decode => k_is)
    (case c_decode => k_is)
    (case k_decode => k_is)
    (case a_law_cell => k_is)
    (case l_law_cell => k_is)
    (case c_law_cell => k_is)
    (case k_law_cell => k_is)
    (case a_law_kinds => k_is)
    (case l_law_kinds => k_is)
    (case c_law_kinds => k_is)
    (case k_law_kinds => k_is)
    (case a_law_letters => k_is)
    (case l_law_letters => k_is)
    (case c_law_letters => k_is)
    (case k_law_letters => k_is)
    (case a_law_word => k_is)
    (case l_law_word => k_is)
    (case c_law_word => k_is)
    (case k_law_word => k_is)
    (case a_law_made => k_is)
    (case l_law_made => k_is)
    (case c_law_made => k_is)
    (case k_law_made => k_is)
    (case a_law_same => k_is)
    (case l_law_same => k_is)
    (case c_law_same => k_is)
    (case k_law_same => k_is)
    (case a_law_read => k_is)
    (case l_law_read => k_is)
    (case c_law_read => k_is)
    (case k_law_read => k_is)
    (case a_law_refused => k_is)
    (case l_law_refused => k_is)
    (case c_law_refused => k_is)
    (case k_law_refused => k_is)
    (case a_law_roles => k_is)
    (case l_law_roles => k_is)
    (case c_law_roles => k_is)
    (case k_law_roles => k_is)
    (case a_law_edges => k_is)
    (case l_law_edges => k_is)
    (case c_law_edges => k_is)
    (case k_law_edges => k_is)
    (case a_law_spoilt => k_is)
    (case l_law_spoilt => k_is)
    (case c_law_spoilt => k_is)
    (case k_law_spoilt => k_is)
    (case a_law => k_is)
    (case l_law => k_is)
    (case c_law => k_is)
    (case k_law => k_is)
    (case z_len => k_is)
    (case z_int => k_is)
    (case z_bool => k_is)
    (case z_str => k_is)
    (case z_list => k_is)
    (case z_tuple => k_is)
    (case z_abs => k_is)
    (case z_min => k_is)
    (case z_sum => k_is)
    (case z_range => k_is)
    (case z_isinstance => k_is)
    (case v_LOW => k_is)
    (case v_HIGH => k_is)
    (case v_MOST_CODE => k_is)
    (case v_KINDS => k_is)
    (case v_OPERANDS => k_is)
    (case v_SOURCES => k_is)
    (case v_TARGETS => k_is)
    (case v_ACCESSES => k_is)
    (case dl_0 => k_is)
    (case dw_0 => decide)
    (case dr_0 => (repeat (first | exact True.intro | refine ⟨⟨_, rfl⟩, rfl, ⟨_, rfl⟩, ?_⟩ | refine ⟨⟨_, rfl⟩, rfl, rfl, ?_⟩)))
    (case dl_1 => k_is)
    (case dw_1 => decide)
    (case dr_1 => (repeat (first | exact True.intro | refine ⟨⟨_, rfl⟩, rfl, ⟨_, rfl⟩, ?_⟩ | refine ⟨⟨_, rfl⟩, rfl, rfl, ?_⟩)))
    (case tl_0 => k_is)
    (case tv_0 => repeat (first | exact .nil | refine .cons ⟨_, rfl⟩ ?_ | refine .cons rfl ?_))
    (case tl_1 => k_is)
    (case tv_1 => repeat (first | exact .nil | refine .cons ⟨_, rfl⟩ ?_ | refine .cons rfl ?_))
    (case tl_2 => k_is)
    (case tv_2 => repeat (first | exact .nil | refine .cons ⟨_, rfl⟩ ?_ | refine .cons rfl ?_))
    (case tl_3 => k_is)
    (case tv_3 => repeat (first | exact .nil | refine .cons ⟨_, rfl⟩ ?_ | refine .cons rfl ?_))
    (case tl_4 => k_is)
    (case tv_4 => repeat (first | exact .nil | refine .cons ⟨_, rfl⟩ ?_ | refine .cons rfl ?_))
    (case tl_5 => k_is)
    (case tv_5 => repeat (first | exact .nil | refine .cons ⟨_, rfl⟩ ?_ | refine .cons rfl ?_))
    (case tl_6 => k_is)
    (case tv_6 => repeat (first | exact .nil | refine .cons ⟨_, rfl⟩ ?_ | refine .cons rfl ?_))
    (case tl_7 => k_is)
    (case tv_7 => repeat (first | exact .nil | refine .cons ⟨_, rfl⟩ ?_ | refine .cons rfl ?_))
    (case tl_8 => k_is)
    (case tv_8 => repeat (first | exact .nil | refine .cons ⟨_, rfl⟩ ?_ | refine .cons rfl ?_))
    (case tl_9 => k_is)
    (case tv_9 => repeat (first | exact .nil | refine .cons ⟨_, rfl⟩ ?_ | refine .cons rfl ?_))
    (case tl_10 => k_is)
    (case tv_10 => repeat (first | exact .nil | refine .cons ⟨_, rfl⟩ ?_ | refine .cons rfl ?_))
    (case tl_11 => k_is)
    (case tv_11 => repeat (first | exact .nil | refine .cons ⟨_, rfl⟩ ?_ | refine .cons rfl ?_))
    (case tl_12 => k_is)
    (case tv_12 => repeat (first | exact .nil | refine .cons ⟨_, rfl⟩ ?_ | refine .cons rfl ?_))
    (case tl_13 => k_is)
    (case tv_13 => repeat (first | exact .nil | refine .cons ⟨_, rfl⟩ ?_ | refine .cons rfl ?_))
    (case tl_14 => k_is)
    (case tv_14 => repeat (first | exact .nil | refine .cons ⟨_, rfl⟩ ?_ | refine .cons rfl ?_))
    (case eaC_bi => k_is)
    (case eaD_bi => k_is)
    (case elC_bi => k_is)
    (case ebm_bi => first | exact rfl | k_is | decide)
    (case esa_bi => k_is)
    (case eex_bi => k_is)
    (case ety_bi => k_is)
    (case ekp_bi => k_is)
    (case emr_bi => k_is)
    (case esu_bi => first | exact rfl | kernel_rfl)
    (case esb_bi => k_is)
    (case eno_bi => k_is)
    (case eiC_bi => k_is)
    (case etI_bi => k_is)
    (case elk_bi => k_is)
    (case ecd_bi => k_is)
    (case eco_bi => k_is)
    (case evs_bi => exact rfl)
    (case efi_bi => first | exact rfl | decide)
    (case ece_bi => k_is)
    (case eD_bi => k_is)
    (case ega_bi => k_is)
    (case egg_bi => k_is)
    (case ehd_bi => first | exact rfl | k_is)
    (case eem_bi => first | k_is | exact rfl)
    (case etop => first | exact rfl | decide)
    (case eopq => k_is)
    (case z_super => k_is)
    (case kd => exact rfl)
  case S =>
    intro K H a ns hl hb hO hS
    exact ⟨a, ns, rfl, hS, hl, fun _ => rfl⟩
#print axioms PySem.Challenge.cw_beatsbounded_k87_instructions_there_and_holds
