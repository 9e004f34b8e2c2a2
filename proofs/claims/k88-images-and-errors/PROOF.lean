import PyProof.Rows.All
import Wide.All
import OpenK.AllK
import Wide.FinOn
import HandS.ForMost
import HandS.ForExc
import HandS.Codes
import HandS.IsInst
import HandS.Replace
import HandS.EndBits
import HandS.Wide
import KE.IntTextLaws
import HandS.Nested
import HandS.ExcInit
import HandS.ExcField
import HandS.CallSlots
import HandS.Finally
import KE.KExcSuper
import HandS.RaiseMore
import PyProof.FitsInt
import HandS.WrittenGet
import KE.KIndexOf
import HandS.TupAny
import HandS.OwnEq
import PyProof.InstNe
import HandS.Property
import HandS.ExcValue
import HandS.ExcIs
import PySem.Challenge.RW_beatsbounded_k88_images_and_errors
set_option Elab.async false
set_option linter.all false
set_option maxRecDepth 100000
namespace BB
open PySem PySem.Spec PyProof.Rows L2 SX

/-- a def of the top, under its name -/
structure Def (K : PySem.W.Frag) (mg : Str → Option Value) (x : Str) (ps : List Str) (st : Stmt) : Prop where
  ex : ∃ (f : Addr) (fd : FuncData), L2.Fun K x x st f fd ∧ mg x = some (.ref f) ∧ Binds K fd ps []
theorem def_mk {K : PySem.W.Frag} {mg : Str → Option Value} {x : Str} {ps : List Str} {st : Stmt} {f : Addr} {fd : FuncData} (F : L2.Fun K x x st f fd) (m : mg x = some (.ref f))
    (h : ∀ (kV doc pm : Value) (an : Option Addr) (cdv ct : Value) (us : List Value), us.length = ps.length → bindArgs (PySem.W.fnOf x x (defArgs st) (defBody st) (defScope st) .none kV doc pm an cdv ct) ⟨us, []⟩ = pure (ps.zip us)) : Def K mg x ps st :=
  ⟨f, fd, F, m, F.binds h⟩

/-- a def that may be called by its name; errors may leave it -/
structure Cal (P : Program) (w : World) (K : PySem.W.Frag) (mg : Str → Option Value) (base : Heap) (k : Nat) (x : Str) (ps : List Str) (sp : Sp) : Prop where
  ex : ∃ (f : Addr) (fd : FuncData), FnOk P w K mg base (L2.CX P w) k f fd ps sp ∧ mg x = some (.ref f) ∧ PySem.W.keepIn K (.ref f) = true ∧ Binds K fd ps []

section
variable {P : Program} {w : World} {K : PySem.W.Frag} {mg : Str → Option Value} {base : Heap}
theorem ok0 {x : Str} {st : Stmt} {N ps : List Str} {k : Nat} {sp : Sp} {f : Addr} {fd : FuncData} (F : L2.Fun K x x st f fd) (S : FnScope N ps (defScope st)) (len : ∀ vs H Q E, sp vs H Q E → vs.length = ps.length)
    (hbody : ∀ (f : Addr) (cdv : Value) (A : Around) (outer : List Env) (s : Shared) (H : Hp) (vs : List V) (Q : VK) (E : XK), Room k (A.deeper (envOfC x (defScope st) s.heap.objs.size f cdv)) → sp vs H Q E →
      ∃ t, PSs (cxOf (L2.CX P w) P w K mg base N x (defScope st) f cdv A outer s H E).nox (defBody st) t ∧ t { nx := fun _ H' => Q .non H', rt := Q } (start N vs) H) : FnOk P w K mg base (L2.CX P w) (k + 1) f fd ps sp := by
  refine L2.Fun.okX F S len fun cdv A outer s H vs Q E hr hsp => ?_
  obtain ⟨t, h, q⟩ := hbody f cdv A outer s H vs Q E hr hsp
  exact ⟨t, h.nox, q⟩
/-- by its body, where nothing is raised out -/
theorem cal0 {x : Str} {st : Stmt} {N ps : List Str} {k : Nat} {sp : Sp} (D : Def K mg x ps st) (S : FnScope N ps (defScope st)) (len : ∀ vs H Q E, sp vs H Q E → vs.length = ps.length)
    (hbody : ∀ (f : Addr) (cdv : Value) (A : Around) (outer : List Env) (s : Shared) (H : Hp) (vs : List V) (Q : VK) (E : XK), Room k (A.deeper (envOfC x (defScope st) s.heap.objs.size f cdv)) → sp vs H Q E →
      ∃ t, PSs (cxOf (L2.CX P w) P w K mg base N x (defScope st) f cdv A outer s H E).nox (defBody st) t ∧ t { nx := fun _ H' => Q .non H', rt := Q } (start N vs) H) : Cal P w K mg base (k + 1) x ps sp := by
  obtain ⟨f, fd, F, m, b⟩ := D.ex
  refine ⟨f, fd, ?_, m, F.kp, b⟩
  refine L2.Fun.okX F S len fun cdv A outer s H vs Q E hr hsp => ?_
  obtain ⟨t, h, q⟩ := hbody f cdv A outer s H vs Q E hr hsp
  exact ⟨t, h.nox, q⟩
/-- by its body, where an error may leave -/
theorem calX {x : Str} {st : Stmt} {N ps : List Str} {k : Nat} {sp : Sp} (D : Def K mg x ps st) (S : FnScope N ps (defScope st)) (len : ∀ vs H Q E, sp vs H Q E → vs.length = ps.length)
    (hbody : ∀ (f : Addr) (cdv : Value) (A : Around) (outer : List Env) (s : Shared) (H : Hp) (vs : List V) (Q : VK) (E : XK), Room k (A.deeper (envOfC x (defScope st) s.heap.objs.size f cdv)) → sp vs H Q E →
      ∃ t, PSs (cxOf (L2.CX P w) P w K mg base N x (defScope st) f cdv A outer s H E) (defBody st) t ∧ t { nx := fun _ H' => Q .non H', rt := Q } (start N vs) H) : Cal P w K mg base (k + 1) x ps sp := by
  obtain ⟨f, fd, F, m, b⟩ := D.ex
  refine ⟨f, fd, ?_, m, F.kp, b⟩
  exact L2.Fun.okX F S len fun cdv A outer s H vs Q E hr hsp => hbody f cdv A outer s H vs Q E hr hsp
end
section
variable {X : Cx} {k j : Nat} {x : Str} {ps : List Str} {sp : Sp} {p pos : Pos} {e : Expr} {es : List Expr} {t : TA}
/-- f(e, ..), nothing raised -/
theorem pe_c (c : Cal X.prog X.w X.K X.mg X.base k x ps sp) (hr : Room j X.A) (hk : k ≤ j) (hg : Gl X x) (ha : PA X (e :: es) t)
    (hdb : (x == ("__debug__" : Str)) = false := by decide) (he : starEach (e :: es) X.env = (false, eval e X.env) :: starEach es X.env := by rfl) (hpl : (backTo pos (starEach es X.env)).any (·.1) = false := by rfl) :
    PE X (.Call (.Name x p) (e :: es) [] pos) (tCall sp [] L2.E0 t) := by
  obtain ⟨f, fd, F, hm, kp, b⟩ := c.ex
  exact pe_call F (hr.mono hk) hg hm kp b .nil passL ha hdb he hpl
end
/-- a name of the module, by its value -/
theorem pe_gc {X : Cx} {x : Str} {v : V} {pos : Pos} (hg : Gl X x) (h : ∃ u, X.mg x = some u ∧ RelV v u) (hd : (x == ("__debug__" : Str)) = false := by decide) : PE X (.Name x pos) (tC v) := by
  obtain ⟨u, hm, r⟩ := h
  exact pe_glob hg hm r hd

/-! ### loops by what is left to come -/
theorem forR_list {K : PySem.W.Frag} {a : Addr} {xs : List V} {g : TG} {tb : TS} {D : Ends} {σ : L2.St} {H : Hp} (Pv : List V → L2.St → Hp → Prop) (h0 : Pv xs σ H) (hl : ∀ r σ H, Pv r σ H → SqL K H a xs)
    (hs : ∀ x r σ H, x ∈ xs → Pv (x :: r) σ H → g x σ H fun σ2 H2 => tb { D with nx := Pv r, ct := Pv r, bk := D.nx } σ2 H2) (hd : ∀ σ H, Pv [] σ H → D.nx σ H) :
    ∃ W : Nat → Nat → L2.St → Hp → Prop, (∃ m, W 0 m σ H) ∧ ∀ i m σ H, W i m σ H →
      ((Itl K a).stop i H ∧ D.nx σ H) ∨ ((Itl K a).go i H ∧ ∃ N : L2.St → Hp → Prop, (∀ σ' H', N σ' H' → ∃ m', m' < m ∧ W (i + 1) m' σ' H') ∧ ∀ x H', (Itl K a).yld i H x H' → g x σ H' fun σ2 H2 => tb { D with nx := N, ct := N, bk := D.nx } σ2 H2) := by
  refine for_list (K := K) (a := a) (xs := xs) (fun i σ H => Pv (xs.drop i) σ H) h0 (fun i σ H _ h => hl _ _ _ h) (fun i x σ H hx h => ?_) fun σ H h => ?_
  · have e : xs.drop i = x :: xs.drop (i + 1) := by
      obtain ⟨hi, hv⟩ := List.getElem?_eq_some_iff.mp hx
      rw [List.drop_eq_getElem_cons hi, hv]
    have h' : Pv (x :: xs.drop (i + 1)) σ H := by rw [← e]; exact h
    exact hs x _ σ H (List.mem_of_getElem? hx) h'
  · have e : xs.drop xs.length = [] := List.drop_length
    have h' : Pv [] σ H := by rw [← e]; exact h
    exact hd σ H h'
theorem forR_tup {K : PySem.W.Frag} {a : Addr} {xs : List V} {g : TG} {tb : TS} {D : Ends} {σ : L2.St} {H : Hp} (Pv : List V → L2.St → Hp → Prop) (h0 : Pv xs σ H) (hl : ∀ r σ H, Pv r σ H → SqT K H a xs)
    (hs : ∀ x r σ H, x ∈ xs → Pv (x :: r) σ H → g x σ H fun σ2 H2 => tb { D with nx := Pv r, ct := Pv r, bk := D.nx } σ2 H2) (hd : ∀ σ H, Pv [] σ H → D.nx σ H) :
    ∃ W : Nat → Nat → L2.St → Hp → Prop, (∃ m, W 0 m σ H) ∧ ∀ i m σ H, W i m σ H →
      ((Itt K a).stop i H ∧ D.nx σ H) ∨ ((Itt K a).go i H ∧ ∃ N : L2.St → Hp → Prop, (∀ σ' H', N σ' H' → ∃ m', m' < m ∧ W (i + 1) m' σ' H') ∧ ∀ x H', (Itt K a).yld i H x H' → g x σ H' fun σ2 H2 => tb { D with nx := N, ct := N, bk := D.nx } σ2 H2) := by
  refine for_tup (K := K) (a := a) (xs := xs) (fun i σ H => Pv (xs.drop i) σ H) h0 (fun i σ H _ h => hl _ _ _ h) (fun i x σ H hx h => ?_) fun σ H h => ?_
  · have e : xs.drop i = x :: xs.drop (i + 1) := by
      obtain ⟨hi, hv⟩ := List.getElem?_eq_some_iff.mp hx
      rw [List.drop_eq_getElem_cons hi, hv]
    have h' : Pv (x :: xs.drop (i + 1)) σ H := by rw [← e]; exact h
    exact hs x _ σ H (List.mem_of_getElem? hx) h'
  · have e : xs.drop xs.length = [] := List.drop_length
    have h' : Pv [] σ H := by rw [← e]; exact h
    exact hd σ H h'
/-- over a text's signs -/
theorem forR_str {l : List Nat} {g : TG} {tb : TS} {D : Ends} {σ : L2.St} {H : Hp} (Pv : List Nat → L2.St → Hp → Prop) (h0 : Pv l σ H)
    (hs : ∀ c r σ H, c ∈ l → Pv (c :: r) σ H → g (.str (S [c])) σ H fun σ2 H2 => tb { D with nx := Pv r, ct := Pv r, bk := D.nx } σ2 H2) (hd : ∀ σ H, Pv [] σ H → D.nx σ H) :
    ∃ W : Nat → Nat → L2.St → Hp → Prop, (∃ m, W 0 m σ H) ∧ ∀ i m σ H, W i m σ H →
      ((Its (S l)).stop i H ∧ D.nx σ H) ∨ ((Its (S l)).go i H ∧ ∃ N : L2.St → Hp → Prop, (∀ σ' H', N σ' H' → ∃ m', m' < m ∧ W (i + 1) m' σ' H') ∧ ∀ x H', (Its (S l)).yld i H x H' → g x σ H' fun σ2 H2 => tb { D with nx := N, ct := N, bk := D.nx } σ2 H2) := by
  have sz : (S l).cps.size = l.length := by simp
  refine ⟨fun i m σ H => m = l.length - i ∧ i ≤ l.length ∧ Pv (l.drop i) σ H, ⟨l.length, by simp, Nat.zero_le _, h0⟩, ?_⟩
  rintro i m σ H ⟨rfl, hi, p⟩
  by_cases hlt : i < l.length
  · refine .inr ⟨by show i < (S l).cps.size; rw [sz]; exact hlt, fun σ H => Pv (l.drop (i + 1)) σ H, fun σ' H' p' => ⟨l.length - (i + 1), by omega, rfl, hlt, p'⟩, fun x H' y => ?_⟩
    obtain ⟨e, c, hc, ex⟩ := y
    subst e
    subst ex
    have hc' : l[i]? = some c := by simpa using hc
    have ed : l.drop i = c :: l.drop (i + 1) := by
      obtain ⟨h1, hv⟩ := List.getElem?_eq_some_iff.mp hc'
      rw [List.drop_eq_getElem_cons h1, hv]
    have p' : Pv (c :: l.drop (i + 1)) σ H' := by rw [← ed]; exact p
    exact hs c _ σ H' (List.mem_of_getElem? hc') p'
  · have e : i = l.length := by omega
    subst e
    have e2 : l.drop l.length = [] := List.drop_length
    have p' : Pv [] σ H := by rw [← e2]; exact p
    exact .inl ⟨by show (S l).cps.size ≤ l.length; rw [sz]; exact Nat.le_refl _, hd σ H p'⟩

/-! ### heaps that only grow -/
theorem same_new {H : Hp} {p : Addr} {o : HO} (h : H p = Option.none) : Same H (upd H p o) := fun b u e => by
  rw [upd_ne (ne_of_none e h)]
  exact e
theorem same_tup {K : PySem.W.Frag} {H H' : Hp} {a : Addr} {xs : List V} (e : Same H H') (h : SqT K H a xs) : SqT K H' a xs := by
  rcases h with (h | ⟨o, h⟩) | h
  · exact .inl (.inl (e _ _ h))
  · exact .inl (.inr ⟨o, e _ _ h⟩)
  · exact .inr h
theorem new_tup {K : PySem.W.Frag} {H : Hp} {p : Addr} {xs : List V} : SqT K (upd H p (.tup xs)) p xs := SqT.of upd_same
theorem new_lst {K : PySem.W.Frag} {H : Hp} {p : Addr} {xs : List V} : SqL K (upd H p (.lst xs)) p xs := SqL.of upd_same
/-- a tuple stands also where a list is changed -/
theorem put_tup {K : PySem.W.Frag} {H : Hp} {a l : Addr} {xs ys zs : List V} (hl : H l = some (.lst ys)) (h : SqT K H a xs) : SqT K (upd H l (.lst zs)) a xs := by
  rcases h with (h | ⟨o, h⟩) | h
  · exact .inl (.inl (by rw [upd_ne (ne_of h hl (by intro z; cases z))]; exact h))
  · exact .inl (.inr ⟨o, by rw [upd_ne (ne_of h hl (by intro z; cases z))]; exact h⟩)
  · exact .inr h
theorem tupType {K : PySem.W.Frag} {H : Hp} {a : Addr} {xs : List V} (h : SqT K H a xs) : TyX K H (.ref a) (.type "tuple") := by
  rcases h with (h | ⟨o, h⟩) | ⟨o, its, n, h, c, _⟩
  · exact .base (.tup h)
  · exact .fTuple h
  · exact .kTuple h c

/-! ### texts by their codes -/
theorem tlS (l : List Nat) : (S l).cps.toList = l := rfl
theorem cutS_S (l : List Nat) (lo hi : Option Int) : cutS (S l) lo hi = S ((l.drop (HT.sIx l.length 0 lo)).take (HT.sIx l.length l.length hi - HT.sIx l.length 0 lo)) := by
  unfold cutS
  rw [S_len]
theorem sIx_nat (n d k : Nat) : HT.sIx n d (some (k : Int)) = min k n := by
  unfold HT.sIx
  simp only [if_neg (show ¬ ((k : Int) < 0) by omega), Int.toNat_natCast]
theorem sIx_none (n d : Nat) : HT.sIx n d none = d := rfl
theorem cut_from (l : List Nat) (k : Nat) : cutS (S l) (some (k : Int)) none = S (l.drop k) := by
  rw [cutS_S, sIx_nat, sIx_none]
  congr 1
  by_cases h : k ≤ l.length
  · rw [Nat.min_eq_left h, List.take_of_length_le (by rw [List.length_drop]; exact Nat.le_refl _)]
  · rw [Nat.min_eq_right (by omega), List.drop_length, List.take_nil, List.drop_of_length_le (by omega)]
theorem cut_to (l : List Nat) (k : Nat) : cutS (S l) none (some (k : Int)) = S (l.take k) := by
  rw [cutS_S, sIx_nat, sIx_none, List.drop_zero, Nat.sub_zero]
  congr 1
  by_cases h : k ≤ l.length
  · rw [Nat.min_eq_left h]
  · rw [Nat.min_eq_right (by omega), List.take_length, List.take_of_length_le (by omega)]

/-! ### the end of a law's row -/
theorem walkB {l : PySem.W.OpenLaw} {k : Nat} {q : Program} {loose : List Str} {XP : (Str → Option Value) → Heap → Prop} {YP : World → Heap → Prop} {d : DefRec} {K : Params → PySem.W.Frag} {sp : PySem.W.Frag → Sp}
    (hn : l.most = some 63) (hdf : d.params.defaults = []) (hr : Room k callerA) (hY : ∀ (w : World) (h : Heap), YP w h → (K w.params).In h)
    (F : ∀ (w : World) (mg : Str → Option Value) (fa : Addr) (h : Heap), (K w.params).In h → h.Ns mainGlobals mg → mg d.name = some (.ref fa) →
      ∃ fd : FuncData, (∀ (s : Shared) (u : Value), BindsTo s fd ⟨[u], []⟩ [("script", u)]) ∧
        ∀ base : Heap, (K w.params).In base → base.Ns mainGlobals mg → FnOk l.prog w (K w.params) mg base (L2.CX l.prog w) k fa fd ["script"] (sp (K w.params)))
    (hsp : ∀ (K : PySem.W.Frag) (H : Hp) (a : Addr) (ns : List Int), ns.length ≤ 63 → (∀ z ∈ ns, Builtin.Int.intBits z ≤ 1048576) → Only H → SqL K H a (ns.map V.int) → sp K [.ref a] H (fun v _ => v = .bl true) fun _ _ _ => False) :
    PySem.W.WalkO q loose XP YP l.row.toRowW d [] (fun f vs => PySem.call f vs) :=
  walk_ofB (K := K) (CX := fun w => L2.CX l.prog w) (sp := fun w => sp (K w.params)) hn (by decide) hdf hr hY F (fun w H a ns h1 h2 h3 h4 => hsp (K w.params) H a ns h1 h2 h3 h4) fun w H s e s' h => by
    obtain ⟨_, _, _, _, _, _, _, _, _, _, _, _, z⟩ := h
    exact z.elim

/-- a cell of the script -/
def cell (ns : List Int) (k : Nat) : Int := ns.getD k 0
theorem atI_of {α : Type} {xs : List α} {j : Nat} {v : α} (h : xs[j]? = some v) : atI xs (j : Int) = some v := atI_nat h
end BB
set_option maxHeartbeats 4000000
/-! super().__init__(e); self.f = x: an own error's __init__ -/
namespace BS
open PySem PySem.Spec PySem.Calls PyProof.Rows L2 SX BB NdefX

/-- what the written part says of an error class C that takes its __init__ from D -/
structure SupC (K : PySem.W.Frag) (D C : Addr) (fld : Str) : Prop where
  oex : OexC K C
  mro : PySem.W.mroIn K C (.ref D) = some true
  sup : PySem.W.ks_superIn K C D "__init__" = some (some (.builtin "ValueError.__init__"))
  sub : PySem.W.subIn K (.ref C) (.type "ValueError") = some true
  no : PySem.W.findIn K (.ref C) fld = some none

def spSup (K : PySem.W.Frag) (D : Addr) (fld : Str) (ta : TA) : Sp := fun vs H Q _ => ∃ (a C : Addr) (v : V), vs = [.ref a, v] ∧ SupC K D C fld ∧ H a = some (exo a C none) ∧
  ta [some (.ref a), some v, some (.ref D)] H (fun ws H1 => ws.length ≤ 1000 ∧ H1 = H) ∧
  ∀ dx, H dx = none → dx ≠ a → Q .non (upd (upd H dx (exd dx [(fld, v)])) a (exo a C (some dx)))

section
variable {prog : Program} {w : World} {A : Around} {E : Value → Shared → Prop} {h : Heap} {g : Array GenState} {d : Drawn} {t : Nat} {os : OsState} {bmB : List Value} {B i newId : String}
variable {nm q : Str} {C N : Addr} {bs bm : List Value} {hdct : Bool} {sn : List Str} {sub : List Value} {ab : Bool} {col : Option Bool} {dd : Option Addr} {k0 k1 k2 k3 k5 : Option Value}
theorem call_mw {u e t0 : Addr} {rest : List Value} {Q : Value → Shared → Prop} (FB : ExcBaseFacts B newId i bmB)
    (hC : h.get? C = some (excClassObj nm q C N bs bm hdct sn sub ab col dd k0 k1 k2 k3 k5 newId)) (he : h.get? e = some (PySem.W.excObj C t0 none .none)) (hu : h.get? u = some (PySem.W.kxs_mw i e)) (hz : rest.length ≤ sizeLine)
    (fin : ∀ h', (∀ b o, b ≠ e → h.get? b = some o → h'.get? b = some o) → h'.get? e = some (PySem.W.excObj C h.objs.size none .none) → Q .none ⟨h', g, d, t, os⟩) :
    wpAny (model prog w) A (call (.ref u) rest) Q E ⟨h, g, d, t, os⟩ := by
  refine wpAny_call (codeAny_of_tree ?_)
  show wpAny _ A.in1 (callAny (.ref u) ⟨rest, []⟩) _ _ _
  simp only [callAny]
  refine wpAny_bind (wpAny_load hu ?_)
  simp only [PySem.W.kxs_mw, show (Value.type "method-wrapper" == Value.type "method" || Value.type "method-wrapper" == Value.type "builtin_function_or_method" || Value.type "method-wrapper" == Value.type "method-wrapper") = true by decide, if_true]
  refine PySem.W.KFB.if_so (by decide) ?_
  refine wpAny_bind (PySem.W.check_bound_init FB.toExcCallFacts hC he rfl ?_)
  refine wpAny_bind (wpAny_pure (wpAny_pure ?_))
  refine ⟨plainId_quiet FB.init.plain _, codeAny_builtin FB.initEntry ?_⟩
  exact PySem.W.exc_init_tree (cls := .ref C) (t0 := t0) (dv := none) (c2 := .none) (c3 := .none) (b4 := .bool false) he hz fun h' k e' _ => fin h' k e'
end

section
variable {CX : CXT} {P : Program} {w : World} {K : PySem.W.Frag} {mg : Str → Option Value} {base : Heap} {fI D cc cda : Addr} {qual x fld : Str} {params : Arguments} {scope : Scope} {kV doc pm ct oc ccl cl : Value} {an od cdd cld : Option Addr} {osl ccs csl : Array (Option Value)}
  {e : Expr} {p0 p1 p2 p3 p4 p5 p6 p7 p8 : Pos} {ta : TA} {ar : Arg} {vs : Array Value} {file : Str} {tf : Tok} {cdD : ClassData}
abbrev supBody (e : Expr) (x fld : Str) (p0 p1 p2 p3 p4 p5 p6 p7 p8 : Pos) : List Stmt :=
  [.Expr (.Call (.Attribute (.Call (.Name "super" p0) [] [] p1) "__init__" p2) [e] [] p3) p4, .Assign [.Attribute (.Name "self" p5) fld p6] (.Name x p7) p8]
abbrev nfS (qual : Str) (params : Arguments) (body : List Stmt) (scope : Scope) (cc cda : Addr) : NF := ⟨"__init__", qual, params, body, scope, [("__class__", cc)], cda⟩
theorem one_look {y : Str} {c : Addr} (h : ([("__class__", cc)] : List (Str × Addr)).lookup y = some c) : y = "__class__" ∧ c = cc := by
  by_cases e : y = "__class__"
  · subst e
    have z : some cc = some c := by
      rw [← h]
      simp [List.lookup]
    exact ⟨rfl, (Option.some.inj z).symm⟩
  · have q : (y == ("__class__" : Str)) = false := beq_eq_false_iff_ne.mpr e
    simp [List.lookup, q] at h
theorem sup_body {X : Cx} {a C : Addr} {v : V} {H : Hp} {s : Shared} {D0 : Ends} {fd : FuncData} {body : List Stmt} (I : Inv X [] [some (.ref a), some v, some (.ref D)] H s) (hN : X.N = ([("self" : Str), x, "__class__"] : List Str))
    (lk : X.K.lookup fI = some ⟨oc, od, .func fd, osl⟩) (hfu : X.env.func = some fI) (hec : X.env.code = .ref cda) (hcl : X.env.cells.lookup ("__class__" : Str) = some cc)
    (hp : (fd.params.posonlyargs ++ fd.params.args).head? = some ar) (har : ar.arg = "self")
    (hco : X.K.lookup cda = some ⟨ccl, cdd, .fields vs, ccs⟩) (hvs : vs[2]? = some (.str file tf)) (hfile : ((X.prog.main.file : Str) == file) = true) (htop : (X.prog.main.scope.names.lookup ("super" : Str)).isSome = false)
    (hcell : X.K.lookup cc = some ⟨cl, cld, .cell (some (.ref D)), csl⟩) (hD : PySem.W.clsIn X.K D = some cdD) (hsup : X.mg "super" = none) (hopq : PySem.W.nsIn X.K cStatics "thirdparty.any" = some none)
    (hks : X.env.kindOf "super" = some .globalImplicit) (hkc : X.env.kindOf "__class__" = some .free) (hself : X.env.kindOf "self" = some .local) (hkx : X.env.kindOf x = some .local) (hx1 : (x == ("__debug__" : Str)) = false) (hx2 : (x == ("__classdict__" : Str)) = false)
    (ha : PA X [e] ta) (hsw : swapsWith (.Call (.Attribute (.Call (.Name "super" p0) [] [] p1) "__init__" p2) [e] [] p3) none p4.line X.env = pure false)
    (hsta : starEach [e] X.env = [(false, eval e X.env)])
    (hev : eval (.Call (.Attribute (.Call (.Name "super" p0) [] [] p1) "__init__" p2) [e] [] p3) X.env = (do
      let ov ← attributeBase (.Call (.Name "super" p0) [] [] p1) "__init__" X.env (eval (.Call (.Name "super" p0) [] [] p1) X.env)
      standAt p2.atName
      let (f, first) ← holding [ov] (getMethod ov "__init__" (pure false))
      callWith p3 f first (backTo p3 (starEach [e] X.env)) []))
    (SC : SupC X.K D C fld) (hao : H a = some (exo a C none)) (hta : ta [some (.ref a), some v, some (.ref D)] H fun ws H1 => ws.length ≤ 1000 ∧ H1 = H)
    (q : ∀ dx, H dx = none → dx ≠ a → D0.nx [some (.ref a), some v, some (.ref D)] (upd (upd H dx (exd dx [(fld, v)])) a (exo a C (some dx)))) :
    PySem.wpAt (model X.prog X.w) X.A (.func body X.env) (execs (supBody e x fld p0 p1 p2 p3 p4 p5 p6 p7 p8) X.env) (SP X [] D0) X.xe s := by
  obtain ⟨nm, qn, N, bs, bm, sn, sub, ab, col, dd, k0, k1, k2, k3, k5, hC, hbm⟩ := SC.oex.cls
  have hcls : PySem.W.clsIn X.K C = some { name := nm, bases := bs, mro := .ref C :: bm, ns := N, qualname := qn, hasDict := true, slotNames := sn, subclasses := sub, abstract := ab, collection := col, hasDel := false } := by unfold PySem.W.clsIn; rw [hC] <;> rfl
  have eH : upd H a (exo a C none) = H := by
    funext b
    by_cases hb : b = a
    · rw [hb, upd_same, hao]
    · rw [upd_ne hb]
  refine ks_wpAt_execs_cons (ks_wpAt_Expr_any ?_ I.quiet hsw)
  refine ks_wpAt_MethodCall (pl := pure false) ?_ hev
  have KX := I.kIn
  obtain ⟨oD, hD1, hD2⟩ : ∃ oD, s.heap.get? D = some oD ∧ oD.data = .cls cdD := by
    unfold PySem.W.clsIn at hD
    split at hD
    · rename_i c d cd' sl ho
      cases hD
      exact ⟨_, KX _ _ ho, rfl⟩
    · cases hD
  refine ks_wpAt_super_base hks hkc (by decide) hfu (KX _ _ lk) rfl hp hec (KX _ _ hco) rfl hvs hfile htop ?_
  obtain ⟨mb, hb1, hb2⟩ := I.mod.blt
  refine PySem.W.ks_loadName_global I.ok.kind hks (loadGlobal_builtin (by rw [I.ok.glob]; exact I.mod.glob.keeps I.bk) hsup (by rw [I.ok.blt]; exact hb1.keeps I.bk) ((hb2 _ (by decide)).trans (by decide +kernel)) ⟨rfl, ?_⟩)
  refine wpAny_loadName_free I.ok.kind hkc hcl ⟨_, KX _ _ hcell, rfl⟩ ?_
  rw [har]
  obtain ⟨m, hn, hl⟩ := I.loc
  obtain ⟨us, ru, lu⟩ := hl 0 "self" (.ref a) (by rw [hN] <;> rfl) rfl (.inl hself)
  obtain rfl : us = Value.ref a := ru
  have hms : m "self" = some (.ref a) := by
    rcases lu with ⟨_, z⟩ | ⟨z, _⟩
    · exact z
    · rw [hself] at z
      rcases z with z | z <;> cases z
  refine wpAny_loadName_local I.ok.kind hself hn hms ?_
  obtain ⟨hh, g, d, t, os⟩ := s
  obtain ⟨t1, ho⟩ := exo_at I.hok hao
  refine ks_wpAny_isType_cls hD1 hD2 ⟨rfl, ?_⟩
  refine ks_wpAny_call_super hD1 hD2 ho rfl (fun c z => nomatch z) (PySem.W.looks_mroIn KX SC.mro) (fun h1 eso k1 => ?_)
  have I1 : Inv X [] [some (.ref a), some v, some (.ref D)] H ⟨h1, g, d, t, os⟩ := I.kept (t' := t) k1
  obtain ⟨t2, ho1⟩ := exo_at I1.hok hao
  have IA : PySem.W.InstAt h1 a ({ cls := .ref C, dict := none, data := .fields #[.ref t2, .none, .none, .none, .bool false, .none] } : Obj) C none := ⟨ho1, rfl, rfl, trivial⟩
  have hsupI := SC.sup
  unfold PySem.W.ks_superIn at hsupI
  rw [hcls] at hsupI
  refine PySem.W.kxs_getMethod PySem.W.kxs_ValueError eso (PySem.W.looks_opaque I1.kIn hopq) (l₀ := .ref C :: bm) (fun A Q E s k q => wpAny_bind ((PySem.W.looks_clsIn I1.kIn hcls) A _ E s k (wpAny_pure q))) rfl I1.kIn hsupI (IA.type.andThen (PySem.W.looks_subIn I1.kIn SC.sub)) (PySem.W.ks_ne I1.kIn IA hcls) (by decide) ?_
  have I2 : Inv X [] [some (.ref a), some v, some (.ref D)] H ⟨h1.push (PySem.W.kxs_mw "ValueError.__init__" a), g, d, t + 1, os⟩ := I1.kept (t' := t + 1) fun b o z => Heap.get?_push_of_some _ z
  have nu : H h1.objs.size = none := I1.hok.fresh (Nat.le_refl _)
  obtain ⟨_, fu1, fu2, _⟩ := I1.fpOk (b := h1.objs.size) (Nat.le_refl _) nu
  have hmw : (h1.push (PySem.W.kxs_mw "ValueError.__init__" a)).get? h1.objs.size = some (PySem.W.kxs_mw "ValueError.__init__" a) := Heap.get?_push_at rfl rfl
  have I3 : Inv X [(h1.objs.size, PySem.W.kxs_mw "ValueError.__init__" a)] [some (.ref a), some v, some (.ref D)] H ⟨h1.push (PySem.W.kxs_mw "ValueError.__init__" a), g, d, t + 1, os⟩ := I2.pins_of fun p hp => by
    have e := List.mem_singleton.mp hp
    subst e
    exact ⟨hmw, nu, fu1, fu2, fun v z => nomatch z⟩
  have hargs := ha.run p3 _ _ _ _ _ I3 hta
  rw [hsta] at hargs
  show wpAny _ _ (callWith p3 (.ref h1.objs.size) [] (backTo p3 (starEach [e] X.env)) []) _ _ _
  rw [hsta]
  refine PySem.W.kxs_callWith (i := "ValueError.__init__") (x := a) rfl (evalArgs_plain (thn hargs fun us s2 ⟨ws, H2, I4, rv, hlen, eH2⟩ => ?_))
  subst eH2
  have hpin := (I4.pin (h1.objs.size, PySem.W.kxs_mw "ValueError.__init__" a) (List.mem_append_right _ List.mem_cons_self)).1
  refine ⟨hpin, ?_⟩
  obtain ⟨t3, ho4⟩ := exo_at I4.hok hao
  obtain ⟨h4, g4, d4, tk4, os4⟩ := s2
  refine call_mw PySem.F.excBase_ValueError (I4.kIn _ _ hC) ho4 hpin (show us.length ≤ sizeLine by rw [← rv.length]; exact Nat.le_trans hlen (by decide)) fun h5 k5 e5 => ?_
  have I5 := I4.write (h' := h5) (t' := tk4) (x := a) (e := a) (o := exo a C none) (by rw [hao]; exact True.intro) (.inl rfl) k5 ⟨_, e5⟩ (exo_ok e5)
  rw [eH] at I5
  have I6 : Inv X [] [some (.ref a), some v, some (.ref D)] _ _ := Inv.unpinned (pins := []) I5
  refine wpAt_of_wpAny ?_
  have P2 : PSs X [.Assign [.Attribute (.Name "self" p5) fld p6] (.Name x p7) p8] (tOst X.K fld (tVar 0) (tVar 1)) :=
    pss_one (ps_ost (pe_var (i := 0) (by rw [hN] <;> rfl) (.inl hself)) (pe_var (i := 1) (by rw [hN] <;> rfl) (.inl hkx) hx1 hx2))
  exact P2.run [] _ _ _ _ I6 ⟨v, rfl, .ref a, rfl, a, C, rfl, SC.oex, SC.no, .inl ⟨hao, q⟩⟩
theorem ok_sup {body : List Stmt} (lk : K.lookup fI = some ⟨oc, od, .func (PySem.W.ksFn "__init__" qual params body scope .none kV doc pm an (.ref cda) ct cc), osl⟩) (hbd : body = supBody e x fld p0 p1 p2 p3 p4 p5 p6 p7 p8)
    (hcdi : PySem.W.codeIn K (.ref cda) qual = true) (S : NScope ["self", x, "__class__"] ["self", x] ["__class__"] scope)
    (hp : (params.posonlyargs ++ params.args).head? = some ar) (har : ar.arg = "self")
    (hco : K.lookup cda = some ⟨ccl, cdd, .fields vs, ccs⟩) (hvs : vs[2]? = some (.str file tf)) (hfile : ((P.main.file : Str) == file) = true) (htop : (P.main.scope.names.lookup ("super" : Str)).isSome = false)
    (hcell : K.lookup cc = some ⟨cl, cld, .cell (some (.ref D)), csl⟩) (hD : PySem.W.clsIn K D = some cdD) (hsup : mg "super" = none) (hopq : PySem.W.nsIn K cStatics "thirdparty.any" = some none)
    (hks : scope.names.lookup ("super" : Str) = some .globalImplicit) (hx1 : (x == ("__debug__" : Str)) = false) (hx2 : (x == ("__classdict__" : Str)) = false)
    (ha : ∀ (A : Around) (outer : List Env) (s : Shared) (H : Hp) (E : XK), PA (ncx CX P w K mg base ["self", x, "__class__"] (nfS qual params body scope cc cda) fI A outer s H E) [e] ta)
    (hsw : ∀ env, swapsWith (.Call (.Attribute (.Call (.Name "super" p0) [] [] p1) "__init__" p2) [e] [] p3) none p4.line env = pure false)
    (hsta : ∀ env, starEach [e] env = [(false, eval e env)])
    (hev : ∀ env : Env, eval (.Call (.Attribute (.Call (.Name "super" p0) [] [] p1) "__init__" p2) [e] [] p3) env = (do
      let ov ← attributeBase (.Call (.Name "super" p0) [] [] p1) "__init__" env (eval (.Call (.Name "super" p0) [] [] p1) env)
      standAt p2.atName
      let (f, first) ← holding [ov] (getMethod ov "__init__" (pure false))
      callWith p3 f first (backTo p3 (starEach [e] env)) [])) :
    FnOk P w K mg base CX 1 fI (PySem.W.ksFn "__init__" qual params body scope .none kV doc pm an (.ref cda) ct cc) ["self", x] (spSup K D fld ta) := by
  subst hbd
  refine ⟨fun vs H Q E h => ?_, fun A outer s H args us vs Q E hr e0 hb r hsp => ?_⟩
  · obtain ⟨a, C, v, rfl, _⟩ := h
    rfl
  obtain ⟨a, C, v, rfl, SC, hao, hta, q⟩ := hsp
  have KX : K.In s.heap := e0.mod.kin.keeps fun b o e => (e0.bs b o e).1
  have lim : s.heap.NoLimit := e0.mod.nolimit.keeps fun b o e => (e0.bs b o e).1
  have hbind : ∀ y ∈ (["self", x] : List Str).zip us, scope.names.lookup y.1 = some .local := fun ⟨n, _⟩ hy => S.par n (List.of_mem_zip hy).1
  have cb : base.get? cc = some ⟨cl, cld, .cell (some (.ref D)), csl⟩ := e0.mod.kin cc _ hcell
  have C0 : CellsAt [("__class__", cc)] ["__class__"] [some (.ref D)] s.heap H := {
    len := rfl
    all := fun y c e => by
      obtain ⟨_, rfl⟩ := one_look e
      exact ⟨(e0.bs _ _ cb).2, some (.ref D), ⟨_, (e0.bs _ _ cb).1, rfl⟩⟩
    inj := fun y z c e1 e2 => (one_look e1).1.trans (one_look e2).1.symm
    has := fun i y e => by
      match i, e with
      | 0, e =>
        have e : ("__class__" : Str) = y := Option.some.inj e
        subst e
        refine ⟨cc, by simp [List.lookup], fun v hv => ⟨.ref D, ?_, ⟨_, (e0.bs _ _ cb).1, rfl⟩⟩⟩
        have hv : V.ref D = v := Option.some.inj (Option.some.inj hv)
        subst hv
        rfl }
  refine ks_codeAny_call_defAt (fd := PySem.W.ksFn "__init__" qual params (supBody e x fld p0 p1 p2 p3 p4 p5 p6 p7 p8) scope .none kV doc pm an (.ref cda) ct cc) (body := supBody e x fld p0 p1 p2 p3 p4 p5 p6 p7 p8) (binds := (["self", x] : List Str).zip us)
    hr.depth (KX _ _ lk) rfl lim (PySem.W.codeRec_of KX hcdi) rfl hb S.nocell hbind (fun h1 hns kp => ?_) S.co S.gen S.kind
  have I : Inv (ncx CX P w K mg base ["self", x, "__class__"] (nfS qual params (supBody e x fld p0 p1 p2 p3 p4 p5 p6 p7 p8) scope cc cda) fI A outer s H E) [] (startF ["self", x, "__class__"] [.ref a, v] [some (.ref D)]) H { s with heap := h1, toks := s.toks + ((["self", x] : List Str).zip us).length } :=
    inv_startN S hr.hd e0 rfl r C0 hns kp
  have main := sup_body (p5 := p5) (p6 := p6) (p7 := p7) (p8 := p8) (X := ncx CX P w K mg base ["self", x, "__class__"] (nfS qual params (supBody e x fld p0 p1 p2 p3 p4 p5 p6 p7 p8) scope cc cda) fI A outer s H E) (D0 := { nx := fun _ H' => Q .non H', rt := Q }) (body := supBody e x fld p0 p1 p2 p3 p4 p5 p6 p7 p8)
    I rfl lk rfl rfl (by simp [ncx, List.lookup]) hp har hco hvs hfile htop hcell hD hsup hopq hks (S.frk _ List.mem_cons_self) (S.par _ List.mem_cons_self) (S.par _ (List.mem_cons_of_mem _ List.mem_cons_self)) hx1 hx2 (ha A outer s H E) (hsw _) (hsta _) (hev _) SC hao hta q
  refine ks_wpAt_mono main (fun fl s' hs => ?_) fun e s' hs => hs
  have fin : ∀ {σ' : L2.St} {H' : Hp} {v : V} {u : Value}, Inv (ncx CX P w K mg base ["self", x, "__class__"] (nfS qual params (supBody e x fld p0 p1 p2 p3 p4 p5 p6 p7 p8) scope cc cda) fI A outer s H E) [] σ' H' s' → L2.RelV v u → Q v H' → CE outer P w H s Q u s' :=
    fun {σ' H' v u} J rv q => ⟨v, H', J.os, J.bare, J.base, J.hok, rv, q⟩
  cases fl with
  | ret u =>
    obtain ⟨v, σ', H', J, rv, q⟩ := hs
    exact fin J rv q
  | next =>
    obtain ⟨σ', H', J, q⟩ := hs
    exact fin (v := V.non) (u := Value.none) J rfl q
  | brk =>
    obtain ⟨_, _, _, q⟩ := hs
    exact False.elim q
  | cont =>
    obtain ⟨_, _, _, q⟩ := hs
    exact False.elim q
end
end BS
set_option maxHeartbeats 4000000
/-! own errors with one value: raised, caught, read -/
namespace BE
open PySem PySem.Spec PySem.Calls PyProof.Rows L2 SX BB BS NdefX

/-- what str takes here -/
inductive OkArg : V → Prop where
  | int {i : Int} (h : i.natAbs.log2 < 1920) : OkArg (.int i)
  | str {s : Str} (h : s.length ≤ 100000) : OkArg (.str s)
theorem OkArg.small {i : Int} (h : i.natAbs < 2 ^ 64) : OkArg (.int i) := .int (by
  by_cases e : i.natAbs = 0
  · rw [e]; decide
  · exact (Nat.log2_lt e).mpr (Nat.lt_trans h (by decide +kernel)))
def taE : TA := fun σ H Q => ∃ v, σ[1]? = some (some v) ∧ OkArg v ∧ ∀ s, Q [.str s] H
theorem cs_str {X : Cx} : CallR X (.type "str") (fun xs H Q => ∃ v, xs = [v] ∧ OkArg v ∧ ∀ s : Str, s.length ≤ 200000 → Q (.str s) H) := by
  intro pins s σ H xs us Q I r h
  obtain ⟨v, rfl, ok, q⟩ := h
  cases ok with
  | @int i hz =>
    refine call_str_int pins s σ H _ us Q I r ⟨i, rfl, hz, q _ ?_⟩
    have e := int_text_length_le (k := 1920) (by decide) hz
    show (Str.ofString (toString i)).length ≤ _
    rw [PySem.ofString_length]
    exact Nat.le_trans e (by decide)
  | @str x hz => exact SkE.call_str_str pins s σ H _ us Q I r ⟨x, rfl, q _ (Nat.le_trans hz (by decide))⟩
theorem pa_imp {X : Cx} {es : List Expr} {t t' : TA} (h : PA X es t) (w : ∀ σ H Q, t' σ H Q → t σ H Q) : PA X es t' := ⟨fun pos pins s σ H Q I q => h.run pos pins s σ H Q I (w σ H Q q)⟩
theorem pa_err {X : Cx} {lit x : Str} {k : Nat} {q0 q1 q2 q3 q4 : Pos} (hN : X.N[1]? = some x) (hv : Vis X.env.scope x) (hx1 : (x == ("__debug__" : Str)) = false) (hx2 : (x == ("__classdict__" : Str)) = false)
    (hg : Gl X "str") (hm : X.mg "str" = none) (hl : lit.length ≤ 1000) :
    PA X [.BinOp (.Constant (.str lit) k q0) .Add (.Call (.Name "str" q1) [.Name x q2] [] q3) q4] taE := by
  refine pa_imp (pa_cons (pe_op op_add_str pe_str (pe_callTy (T := "str") cs_str hg hm (by decide +kernel) (pa_cons (pe_var hN hv hx1 hx2) pa_nil))) pa_nil) fun σ H Q h => ?_
  obtain ⟨v, e, ok, q⟩ := h
  refine ⟨v, e, v, rfl, ok, fun s hs => ⟨lit, s, rfl, rfl, ?_, q _⟩⟩
  rw [sizeLine_eq]
  omega

/-- an error class x at C, its __init__ (of D, the def at fI) keeps its value as fld -/
structure ErrF (K : PySem.W.Frag) (mg : Str → Option Value) (x : Str) (C D fI : Addr) (fld : Str) : Prop where
  sup : SupC K D C fld
  iC : PySem.W.findIn K (.ref C) "__init__" = some (some (.ref fI))
  tI : PySem.W.typeIn K (.ref fI) = some (.type "function")
  hm : mg x = some (.ref C)
  xf : XfC K C
  exm : PySem.W.exmOne K (.ref C) (.ref C) = some true
structure Err (P : Program) (w : World) (K : PySem.W.Frag) (mg : Str → Option Value) (base : Heap) (x : Str) (C : Addr) (fld : Str) : Prop where
  ex : ∃ (D fI : Addr) (fd : FuncData) (y : Str), ErrF K mg x C D fI fld ∧ FnOk P w K mg base (L2.CX P w) 1 fI fd ["self", y] (spSup K D fld taE) ∧ Binds K fd ["self", y] []
/-- a reading that may be weakened -/
def tM (te : TE) : TE := fun σ H Q => ∃ R : VK, te σ H R ∧ ∀ v H1, R v H1 → Q v H1
theorem pe_mono {X : Cx} {e : Expr} {te : TE} (h : PE X e te) : PE X e (tM te) := ⟨fun pins s σ H Q I q => by
  obtain ⟨R, q, w⟩ := q
  refine wpAny_mono (h.run pins s σ H R I q) (fun v s1 hv => ?_) fun _ _ x => x
  obtain ⟨x, H1, I1, r, q1⟩ := hv
  exact ⟨x, H1, I1, r, w _ _ q1⟩⟩
def tErr (C : Addr) (fld : Str) (te : TE) : L2.St → Hp → XK → Prop := fun σ H Q => te σ H fun v H1 => OkArg v ∧ ∀ d H2, Same H1 H2 → H2 d = some (.xd [(fld, v)]) → Q (.ref C) (some d) H2
theorem pmk_err {X : Cx} {x : Str} {C : Addr} {fld : Str} {e : Expr} {te : TE} {p pos : Pos} {j : Nat} (T : Err X.prog X.w X.K X.mg X.base x C fld) (hr : Room j X.A) (hj : 2 ≤ j) (hg : Gl X x) (he : PE X e te)
    (hdb : (x == ("__debug__" : Str)) = false := by decide) (hs : starEach [e] X.env = (false, eval e X.env) :: starEach [] X.env := by rfl) (hpl : (backTo pos (starEach [] X.env)).any (·.1) = false := by rfl) :
    PMk X (.Call (.Name x p) [e] [] pos) (tErr C fld te) := by
  obtain ⟨D, fI, fd, y, F, F1, b⟩ := T.ex
  intro pins s σ H Q I h
  refine pmk_oex F.sup.oex F.iC F.tI F1 (hr.mono hj) b .nil passL hg F.hm (pa_cons (pe_mono he) pa_nil hs) hdb hs hpl pins s σ H Q I ?_
  refine ⟨_, h, fun v H1 hh => ⟨(by show 1 ≤ 1000; decide), fun a na => ?_⟩⟩
  obtain ⟨ok, q⟩ := hh
  refine ⟨a, C, v, rfl, F.sup, upd_same, ⟨v, rfl, ok, fun s => ⟨(by show 1 ≤ 1000; decide), rfl⟩⟩, fun dx nd ne => ?_⟩
  have nd1 : H1 dx = none := by rw [upd_ne ne] at nd; exact nd
  refine ⟨rfl, dx, _, upd_same, by rw [upd_ne ne, upd_same], nd1, q _ _ (fun b u eb => ?_) upd_same⟩
  have ba : b ≠ a := fun z => by rw [z, na] at eb; cases eb
  have bd : b ≠ dx := fun z => by rw [z, nd1] at eb; cases eb
  rw [upd_ne bd, del_ne ba, upd_ne ba, upd_ne bd, upd_ne ba]
  exact eb

section
variable {P : Program} {w : World} {K : PySem.W.Frag} {mg : Str → Option Value} {base : Heap} {C D fI cc cda N : Addr} {st : Stmt} {x y fld qual lit nm q : Str} {bs bm sub : List Value} {sn : List Str} {ab : Bool} {col : Option Bool} {dd : Option Addr} {k0 k1 k2 k3 k5 : Option Value}
  {kV doc pm ct oc od' ccl cl : Value} {an od cdd cld : Option Addr} {osl ccs csl : Array (Option Value)} {k : Nat} {q0 q1 q2 q3 q4 p0 p1 p2 p3 p4 p5 p6 p7 p8 : Pos} {ar : Arg} {vs : Array Value} {file : Str} {tf : Tok} {cdD : ClassData}
/-- the e of super().__init__(e) -/
abbrev litOf (lit y : Str) (k : Nat) (q0 q1 q2 q3 q4 : Pos) : Expr := .BinOp (.Constant (.str lit) k q0) .Add (.Call (.Name "str" q1) [.Name y q2] [] q3) q4
theorem err_mk (aC : mg x = some (.ref C)) (lC : K.lookup C = some (excClassObj nm q C N bs bm true sn sub ab col dd k0 k1 k2 k3 k5 "ValueError.__new__")) (hbm : PySem.HandSPX.refsVE bm = true)
    (sa : PySem.W.findIn K (.ref C) "__setattr__" = some (some (.builtin "object.__setattr__"))) (exC : PySem.W.subIn K (.ref C) (.type "BaseException") = some true) (tyC : PySem.W.typeIn K (.ref C) = some (.type "type")) (kC : PySem.W.keepIn K (.ref C) = true)
    (mro : PySem.W.mroIn K C (.ref D) = some true) (ksup : PySem.W.ks_superIn K C D "__init__" = some (some (.builtin "ValueError.__init__"))) (subV : PySem.W.subIn K (.ref C) (.type "ValueError") = some true) (no : PySem.W.findIn K (.ref C) fld = some none)
    (iC : PySem.W.findIn K (.ref C) "__init__" = some (some (.ref fI))) (tI : PySem.W.typeIn K (.ref fI) = some (.type "function"))
    (lk : K.lookup fI = some ⟨oc, od, .func (PySem.W.ksFn "__init__" qual (defArgs st) (defBody st) (defScope st) .none kV doc pm an (.ref cda) ct cc), osl⟩)
    (hbd : defBody st = supBody (litOf lit y k q0 q1 q2 q3 q4) y fld p0 p1 p2 p3 p4 p5 p6 p7 p8) (hcdi : PySem.W.codeIn K (.ref cda) qual = true) (S : NScope ["self", y, "__class__"] ["self", y] ["__class__"] (defScope st))
    (hp : ((defArgs st).posonlyargs ++ (defArgs st).args).head? = some ar) (har : ar.arg = "self") (hco : K.lookup cda = some ⟨ccl, cdd, .fields vs, ccs⟩) (hvs : vs[2]? = some (.str file tf)) (hfile : ((P.main.file : Str) == file) = true)
    (htop : (P.main.scope.names.lookup ("super" : Str)).isSome = false) (hcell : K.lookup cc = some ⟨cl, cld, .cell (some (.ref D)), csl⟩) (hD : PySem.W.clsIn K D = some cdD) (hsup : mg "super" = none) (hopq : PySem.W.nsIn K cStatics "thirdparty.any" = some none)
    (hks : (defScope st).names.lookup ("super" : Str) = some .globalImplicit) (hkstr : (defScope st).names.lookup ("str" : Str) = some .globalImplicit) (hstr : mg "str" = none) (hl : lit.length ≤ 1000) (hx1 : (y == ("__debug__" : Str)) = false) (hx2 : (y == ("__classdict__" : Str)) = false)
    (hsw : ∀ env, swapsWith (.Call (.Attribute (.Call (.Name "super" p0) [] [] p1) "__init__" p2) [litOf lit y k q0 q1 q2 q3 q4] [] p3) none p4.line env = pure false)
    (hev : ∀ env : Env, eval (.Call (.Attribute (.Call (.Name "super" p0) [] [] p1) "__init__" p2) [litOf lit y k q0 q1 q2 q3 q4] [] p3) env = (do
      let ov ← attributeBase (.Call (.Name "super" p0) [] [] p1) "__init__" env (eval (.Call (.Name "super" p0) [] [] p1) env)
      standAt p2.atName
      let (f, first) ← holding [ov] (getMethod ov "__init__" (pure false))
      callWith p3 f first (backTo p3 (starEach [litOf lit y k q0 q1 q2 q3 q4] env)) []))
    (ga : PySem.W.findIn K (.ref C) "__getattribute__" = some (some (.builtin "BaseException.__getattribute__"))) (gg : PySem.W.findIn K (.ref C) "__getattr__" = some none) (hdC : PySem.W.hasDictIn K C = true) (exm : PySem.W.exmOne K (.ref C) (.ref C) = some true)
    (hbi : ∀ us : List Value, us.length = 2 → bindArgs (PySem.W.ksFn "__init__" qual (defArgs st) (defBody st) (defScope st) .none kV doc pm an (.ref cda) ct cc) ⟨us, []⟩ = pure ((["self", y] : List Str).zip us)) : Err P w K mg base x C fld := by
  refine ⟨D, fI, _, y, ⟨⟨⟨⟨nm, q, N, bs, bm, sn, sub, ab, col, dd, k0, k1, k2, k3, k5, lC, hbm⟩, sa, exC, tyC, kC⟩, mro, ksup, subV, no⟩, iC, tI, aC, ⟨ga, gg, exC, hdC⟩, exm⟩, ?_, Binds.all hbi⟩
  refine ok_sup lk hbd hcdi S hp har hco hvs hfile htop hcell hD hsup hopq hks hx1 hx2 (fun A outer s H E => ?_) hsw (fun _ => rfl) hev
  exact pa_err (x := y) rfl (.inl (S.par _ (List.mem_cons_of_mem _ List.mem_cons_self))) hx1 hx2 hkstr hstr hl
end

theorem Err.hm {P : Program} {w : World} {K : PySem.W.Frag} {mg : Str → Option Value} {base : Heap} {x : Str} {C : Addr} {fld : Str} (E : Err P w K mg base x C fld) : mg x = some (.ref C) := by
  obtain ⟨_, _, _, _, F, _⟩ := E.ex
  exact F.hm
theorem Err.xf {P : Program} {w : World} {K : PySem.W.Frag} {mg : Str → Option Value} {base : Heap} {x : Str} {C : Addr} {fld : Str} (E : Err P w K mg base x C fld) : XfC K C := by
  obtain ⟨_, _, _, _, F, _⟩ := E.ex
  exact F.xf
theorem Err.no {P : Program} {w : World} {K : PySem.W.Frag} {mg : Str → Option Value} {base : Heap} {x : Str} {C : Addr} {fld : Str} (E : Err P w K mg base x C fld) : PySem.W.findIn K (.ref C) fld = some none := by
  obtain ⟨_, _, _, _, F, _⟩ := E.ex
  exact F.sup.no
theorem Err.exm {P : Program} {w : World} {K : PySem.W.Frag} {mg : Str → Option Value} {base : Heap} {x : Str} {C : Addr} {fld : Str} (E : Err P w K mg base x C fld) : PySem.W.exmOne K (.ref C) (.ref C) = some true := by
  obtain ⟨_, _, _, _, F, _⟩ := E.ex
  exact F.exm
end BE
set_option maxHeartbeats 4000000
/-! written dicts of the top with text keys -/
namespace BD
open PySem PySem.Spec PyProof.Rows L2 SX BB
structure STab (K : PySem.W.Frag) (w : World) (a : Addr) (f : Str → Option V) : Prop where
  ex : ∃ es n, KDict K w a es n ∧ ∀ x, ∃ r, PySem.W.nsIn K a x = some r ∧ RelO (f x) r
def DRel (P : Params) : List DictEntry → List (Str × V) → Prop
  | [], [] => True
  | e :: r, p :: q => (∃ t, e.key = .str p.1 t) ∧ e.hash = PyData.keyHash P p.1 ∧ RelV p.2 e.val ∧ DRel P r q
  | _, _ => False
theorem drel_lit {P : Params} : ∀ {l : List DictEntry} {q : List (Str × V)}, DRel P l q → PySem.W.KeysLit P l
  | [], _, _ => trivial
  | e :: r, [], h => h.elim
  | e :: r, p :: q, h => ⟨by obtain ⟨t, e1⟩ := h.1; exact ⟨p.1, t, e1, h.2.1⟩, drel_lit h.2.2.2⟩
theorem drel_any {P : Params} : ∀ {l : List DictEntry} {q : List (Str × V)}, DRel P l q → l.any (·.refKey) = false
  | [], _, _ => rfl
  | e :: r, [], h => h.elim
  | e :: r, p :: q, h => by
    obtain ⟨t, e1⟩ := h.1
    have := drel_any h.2.2.2
    rw [List.any_cons, this, Bool.or_false]
    unfold DictEntry.refKey
    rw [e1]
theorem drel_find {P : Params} (x : Str) : ∀ {l : List DictEntry} {q : List (Str × V)}, DRel P l q → RelO (q.lookup x) ((l.find? (·.key.isStr x)).map (·.val))
  | [], [], _ => trivial
  | [], _ :: _, h => h.elim
  | e :: r, [], h => h.elim
  | e :: r, (a, b) :: q, h => by
    obtain ⟨⟨t, e1⟩, e2, e3, e4⟩ := h
    rw [List.find?_cons, e1]
    have er : (Value.str a t).isStr x = decide (a = x) := by
      rw [PySem.W.isStr_of]
      rfl
    rw [er]
    by_cases hx : a = x
    · subst hx
      simp [List.lookup]
      exact e3
    · have q1 : (x == a) = false := beq_eq_false_iff_ne.mpr (Ne.symm hx)
      rw [decide_eq_false hx]
      simp only [List.lookup, q1]
      exact drel_find x e4
theorem stab_of {K : PySem.W.Frag} {w : World} {a : Addr} {es : Array DictEntry} {n : Nat} {q : List (Str × V)} (l : K.lookup a = some ⟨.type "dict", none, .dict es n, #[]⟩) (low : (a == sysModules) = false) (h : DRel w.params es.toList q) : STab K w a (fun x => q.lookup x) := by
  refine ⟨es, n, ⟨l, drel_lit h, low⟩, fun x => ⟨(es.toList.find? (·.key.isStr x)).map (·.val), ?_, drel_find x h⟩⟩
  unfold PySem.W.nsIn
  rw [l]
  dsimp only
  cases e : es.toList.find? (·.key.isStr x) with
  | none => simp [drel_any h]
  | some e => rfl
section
variable {X : Cx}
def rTab (K : PySem.W.Frag) (w : World) : R2 := fun x y H Q => ∃ a f z v, x = .ref a ∧ y = .str z ∧ STab K w a f ∧ f z = some v ∧ Q v H
theorem ix_tab : IxR X (rTab X.K X.w) := by
  intro value slice pins s σ H x y v u Q I rx ry h hs
  obtain ⟨a, f, z, r, rfl, rfl, ⟨es, n, D, g⟩, e, q⟩ := h
  obtain ⟨o, e1, e2⟩ := g z
  rw [e] at e2
  cases o with
  | none => exact e2.elim
  | some u0 => exact ix_kdict value slice pins s σ H _ _ v u Q I rx ry ⟨a, z, r, rfl, rfl, ⟨es, n, u0, D.at_, D.lit, e1, e2⟩, q⟩ hs
variable {o e f : Expr} {apos cpos : Pos} {td ty tx : TE}
def tTabGet (K : PySem.W.Frag) (w : World) (td ty tx : TE) : TE := fun σ H Q => td σ H fun x H1 => ∃ a f, x = .ref a ∧ STab K w a f ∧ ty σ H1 fun y H2 => tx σ H2 fun z H3 => ∃ k, y = .str k ∧ Q ((f k).getD z) H3
theorem pe_tget2 (ho : PE X o td) (he : PE X e ty) (hf : PE X f tx) (m : M2 X o "get" apos e f cpos) : PE X (.Call (.Attribute o "get" apos) [e, f] [] cpos) (tTabGet X.K X.w td ty tx) := by
  refine ⟨fun pins s σ H Q I h => ?_⟩
  refine wpAny_Call_method m.base m.few m.line PySem.F.plainAttrs_dict PySem.F.slot_dict_get PySem.F.type_dict_get (thn (ho.run pins s σ H _ I h) fun u s1 ⟨x, H1, I1, rx, a, g, ex, T, q1⟩ => ?_)
  subst ex
  obtain rfl : u = Value.ref a := rx
  obtain ⟨es, n, D, gg⟩ := T.ex
  have hm := PySem.W.mapOf_K (prog := X.prog) (w := X.w) I1.kIn D.at_ D.lit
  refine ⟨hm.typeIs, fun b z => ?_, ?_⟩
  · cases z
    exact ⟨_, I1.kIn _ _ D.at_, rfl⟩
  rw [m.trees]
  refine Calls.callWith_builtin rfl (Calls.evalArgs_plain (Calls.spliced_cons (thn (he.run pins s1 σ H1 _ I1 q1) fun iv s2 ⟨y, H2, I2, ry, q2⟩ =>
    Calls.spliced_cons (thn (hf.run pins s2 σ H2 _ I2 q2) fun fv s3 ⟨z, H3, I3, rz, k, ey, q3⟩ => Calls.spliced_nil ?_))))
  subst ey
  obtain ⟨t, rfl⟩ := ry
  obtain ⟨r, e1, e2⟩ := gg k
  have hm3 := PySem.W.mapOf_K (prog := X.prog) (w := X.w) I3.kIn D.at_ D.lit
  refine call_meetsIn PySem.F.slot_dict_get hm3.typeIs PySem.F.entry_dict_get (PySem.F.args_dict_get_3 _ _ _) (meets_dict_get_default (strKind X.prog X.w) a (strKind_is X.prog X.w k t) D.low fv) ⟨_, hm3, ?_⟩
  rw [PySem.W.find_K D.at_ e1]
  exact ⟨_, H3, I3.tok _, e2.getD rz, q3⟩
end
end BD
set_option maxHeartbeats 4000000
/-! lists and tuples alike; index of a text; comprehensions that make objects -/
namespace BQ
open PySem PySem.Spec PyProof.Rows L2 SX BB
/-! ### t.index(x), xs.index(x) of texts -/
theorem none_of {H H' : Hp} {p : Addr} (s : Same H H') (h : H' p = Option.none) : H p = Option.none := by
  cases e : H p with
  | none => rfl
  | some u => rw [s _ _ e] at h; cases h
theorem slot_tuple_index : Slot "tuple" "index" "tuple.index" :=
  .of (owner := "tuple") (n := "index") (by rw [typeLookup_type, builtinLookup_eq_fast]; kernel_rfl) (by decide +kernel) (by decide +kernel) (by decide +kernel)
    (by first | exact .inl (by decide +kernel) | exact .inr (by decide +kernel)) (by rw [isSubtype_type]; kernel_rfl)
theorem type_tuple_index : typeOf (.builtin "tuple.index") = pure (.type "method_descriptor") := by show builtinType _ = _; rw [builtinType_eq_fast]; kernel_rfl
theorem strs_are : ∀ {ss : List Str} {us : List Value}, Vals (ss.map V.str) us → StrsAre us ss
  | [], _, h => by
    cases h
    exact .nil
  | s :: r, _, h => by
    cases h with
    | cons h1 h2 =>
      obtain ⟨t, e⟩ := h1
      subst e
      exact .cons s t (strs_are h2)
section
variable {X : Cx}
def rIdxT (K : PySem.W.Frag) : V → List V → Hp → VK → Prop := fun x xs H Q => ∃ (a : Addr) (ss : List Str) (k : Str), x = .ref a ∧ xs = [.str k] ∧ SqT K H a (ss.map V.str) ∧ k ∈ ss ∧ Q (.int (ss.idxOf k : Nat)) H
def rIdxL (K : PySem.W.Frag) : V → List V → Hp → VK → Prop := fun x xs H Q => ∃ (a : Addr) (ss : List Str) (k : Str), x = .ref a ∧ xs = [.str k] ∧ SqL K H a (ss.map V.str) ∧ k ∈ ss ∧ Q (.int (ss.idxOf k : Nat)) H
theorem mt_tidx : MtR X "tuple.index" (rIdxT X.K) := by
  intro pins s σ H x xs v us Q I rx rxs h
  obtain ⟨a, ss, k, rfl, rfl, hs, hk, q⟩ := h
  cases rx
  cases rxs with
  | cons ry rt =>
    cases rt
    obtain ⟨t, rfl⟩ := ry
    obtain ⟨its, rv, ht, hz⟩ := I.tuple hs
    exact PySem.SeqAt.tuple_index_strs ht (strs_are rv) hk ⟨.int _, H, I.tok _, ⟨_, rfl⟩, q⟩
theorem mt_lidx : MtR X "list.index" (rIdxL X.K) := by
  intro pins s σ H x xs v us Q I rx rxs h
  obtain ⟨a, ss, k, rfl, rfl, hs, hk, q⟩ := h
  cases rx
  cases rxs with
  | cons ry rt =>
    cases rt
    obtain ⟨t, rfl⟩ := ry
    obtain ⟨its, rv, pl, hz⟩ := I.list hs
    exact PySem.SeqAt.list_index_strs pl.isList (strs_are rv) (by rw [← List.length_map (f := V.str)]; exact hz) hk ⟨.int _, H, I.tok _, ⟨_, rfl⟩, q⟩
end
/-! ### a list or a tuple -/
def SqA (K : PySem.W.Frag) (H : Hp) (a : Addr) (xs : List V) : Prop := SqL K H a xs ∨ SqT K H a xs
theorem same_lst {K : PySem.W.Frag} {H H' : Hp} {a : Addr} {xs : List V} (e : Same H H') (h : SqL K H a xs) : SqL K H' a xs := by
  rcases h with (h | ⟨o, h⟩) | h
  · exact .inl (.inl (e _ _ h))
  · exact .inl (.inr ⟨o, e _ _ h⟩)
  · exact .inr h
theorem same_sqa {K : PySem.W.Frag} {H H' : Hp} {a : Addr} {xs : List V} (e : Same H H') (h : SqA K H a xs) : SqA K H' a xs := h.elim (fun h => .inl (same_lst e h)) fun h => .inr (same_tup e h)
section
variable {X : Cx}
theorem ix_sqa : IxR X (fun x y H Q => ∃ p xs i v, x = .ref p ∧ y = .int i ∧ SqA X.K H p xs ∧ atI xs i = some v ∧ Q v H) := by
  intro value slice pins s σ H x y v u Q I rx ry h hs
  obtain ⟨p, xs, i, r, rfl, rfl, S, e, q⟩ := h
  rcases S with S | S
  · exact ix_list value slice pins s σ H _ _ v u Q I rx ry ⟨p, xs, i, r, rfl, rfl, S, e, q⟩ hs
  · exact ix_tup value slice pins s σ H _ _ v u Q I rx ry ⟨p, xs, i, r, rfl, rfl, S, e, q⟩ hs
/-- tuple(xs[i:j]) of either -/
theorem sl_sqa : SlR X (fun x lo hi H Q => rSlL X.K x lo hi H Q ∨ rSlA X.K x lo hi H Q) := SlR.or sl_list sl_tupA
end
/-! ### comprehensions that make objects -/
/-- as it was, but at D -/
def SB (D : Addr) (H H' : Hp) : Prop := ∀ b u, b ≠ D → H b = some u → H' b = some u
structure Src (J : It) (xs : List V) (ok : Hp → Prop) : Prop where
  go : ∀ i H, ok H → i < xs.length → J.go i H
  yld : ∀ i H x H', ok H → J.yld i H x H' → i < xs.length → H' = H ∧ xs[i]? = some x
  stop : ∀ H, ok H → J.stop xs.length H
theorem src_list {K : PySem.W.Frag} {a : Addr} {xs : List V} : Src (Itl K a) xs (fun H => SqL K H a xs) where
  go := fun i H h hi => ⟨xs, xs[i], h, by simp [hi]⟩
  yld := fun i H x H' h y _ => ⟨y.1, y.2 xs h⟩
  stop := fun H h => ⟨xs, h, Nat.le_refl _⟩
theorem src_tup {K : PySem.W.Frag} {a : Addr} {xs : List V} : Src (Itt K a) xs (fun H => SqT K H a xs) where
  go := fun i H h hi => ⟨xs, xs[i], h, by simp [hi]⟩
  yld := fun i H x H' h y _ => ⟨y.1, y.2 xs h⟩
  stop := fun H h => ⟨xs, h, Nat.le_refl _⟩
theorem src_range {lo : Int} {n : Nat} : Src (Itr lo n) ((List.range n).map fun k => V.int (lo + (k : Nat))) (fun _ => True) where
  go := fun i H h hi => by show i < n; simpa using hi
  yld := fun i H x H' h y hi => ⟨y.1, by
    have hi : i < n := by simpa using hi
    rw [List.getElem?_map, List.getElem?_range hi, y.2]
    rfl⟩
  stop := fun H h => by simp [Itr]
theorem paired_snoc_filter {α β : Type} {F : α → β → Prop} {keep : α → Bool} {l : List α} {ys : List β} {x : α} {y : β} (h : Paired F (l.filter keep) ys) (k : keep x = true) (f : F x y) : Paired F ((l ++ [x]).filter keep) (ys ++ [y]) := by
  rw [List.filter_append, List.filter_cons_of_pos k]
  exact h.snoc f
theorem lcG {J : It} {xs : List V} {ok : Hp → Prop} {g : TG} {tt : TT} {te : TE} {vs : List Nat} {σ : L2.St} {H1 : Hp} {D : Addr} {Qd : Hp → Prop} (S : Src J xs ok) (nD : H1 D = none) (sz : xs.length < 1000000) (keep : V → Bool) (Rel : V → V → Hp → Prop)
    (hok : ∀ H, Same H1 H → ok H) (mono : ∀ x y H H', SB D H H' → (∃ zs, H D = some (.lst zs)) → Rel x y H → Rel x y H')
    (hs : ∀ x, x ∈ xs → ∀ (H : Hp) (Qy : V → Hp → Prop) (Qn : Hp → Prop), Same H1 H → (∀ y H4, Same H H4 → keep x = true → Rel x y H4 → Qy y H4) → (∀ H4, Same H H4 → keep x = false → Qn H4) →
      g x (wipe σ vs) H fun σ2 H2 => wipe σ2 vs = wipe σ vs ∧ tt σ2 H2 fun b H3 => if b = true then te σ2 H3 Qy else Qn H3)
    (hd : ∀ H ys, Same H1 H → H D = some (.lst ys) → Paired (fun x y => Rel x y H) (xs.filter keep) ys → Qd H) :
    ∃ W : Nat → Nat → Hp → Prop, (∃ m, W 0 m (upd H1 D (.lst []))) ∧ ∀ i m H, W i m H →
      (J.stop i H ∧ Qd H) ∨ (J.go i H ∧ ∃ Nx : Hp → Prop, (∀ H', Nx H' → ∃ m', m' < m ∧ W (i + 1) m' H') ∧ ∀ x H', J.yld i H x H' → g x (wipe σ vs) H' fun σ2 H2 => wipe σ2 vs = wipe σ vs ∧ tt σ2 H2 fun b H3 =>
        if b = true then te σ2 H3 fun y H4 => ∃ acc, H4 D = some (.lst acc) ∧ acc.length < sizeLine ∧ Nx (upd H4 D (.lst (acc ++ [y]))) else Nx H3) := by
  let Pv : Nat → Hp → Prop := fun i H => Same H1 H ∧ ∃ ys, H D = some (.lst ys) ∧ ys.length ≤ i ∧ Paired (fun x y => Rel x y H) ((xs.take i).filter keep) ys
  refine ⟨fun i m H => m = xs.length - i ∧ i ≤ xs.length ∧ Pv i H, ⟨xs.length, by simp, Nat.zero_le _, same_new nD, [], upd_same, Nat.le_refl _, .nil⟩, ?_⟩
  rintro i m H ⟨rfl, hi, sm, ys, hD, hl, hp⟩
  by_cases hlt : i < xs.length
  · refine .inr ⟨S.go i H (hok H sm) hlt, Pv (i + 1), fun H' p' => ⟨xs.length - (i + 1), by omega, rfl, hlt, p'⟩, fun x H' y => ?_⟩
    obtain ⟨e, hx⟩ := S.yld i H x H' (hok H sm) y hlt
    subst e
    have et : xs.take (i + 1) = xs.take i ++ [x] := by
      obtain ⟨h1, h2⟩ := List.getElem?_eq_some_iff.mp hx
      rw [List.take_succ_eq_append_getElem h1, h2]
    refine hs x (List.mem_of_getElem? hx) _ _ _ sm (fun y H4 s4 k r => ?_) fun H4 s4 k => ?_
    · refine ⟨ys, s4 _ _ hD, Nat.lt_of_le_of_lt (Nat.le_trans hl hi) (Nat.lt_trans sz (by rw [sizeLine_eq]; decide)), fun b u eb => ?_, ys ++ [y], upd_same, by rw [List.length_append]; exact Nat.add_le_add_right hl 1, ?_⟩
      · have nb : b ≠ D := fun z => by rw [z, nD] at eb; cases eb
        rw [upd_ne nb]
        exact s4 _ _ (sm _ _ eb)
      · have sb : SB D H4 (upd H4 D (.lst (ys ++ [y]))) := fun b u nb eb => by rw [upd_ne nb]; exact eb
        rw [et]
        refine paired_snoc_filter (hp.mono fun a b h => mono a b _ _ sb ⟨ys, s4 _ _ hD⟩ (mono a b _ _ (fun b u _ eb => s4 b u eb) ⟨ys, hD⟩ h)) k (mono _ _ _ _ sb ⟨ys, s4 _ _ hD⟩ r)
    · refine ⟨fun b u eb => s4 _ _ (sm _ _ eb), ys, s4 _ _ hD, Nat.le_succ_of_le hl, ?_⟩
      rw [et, List.filter_append, List.filter_cons_of_neg (by rw [k]; decide), List.filter_nil, List.append_nil]
      exact hp.mono fun a b h => mono a b _ _ (fun b u _ eb => s4 b u eb) ⟨ys, hD⟩ h
  · have e : i = xs.length := by omega
    subst e
    refine .inl ⟨S.stop H (hok H sm), hd H ys sm hD ?_⟩
    rw [List.take_length] at hp
    exact hp
/-- plain values: no object is spoken of -/
theorem paired_map {α : Type} {l : List α} {f : α → V} {ys : List V} (h : Paired (fun x y => y = f x) l ys) : ys = l.map f := by
  induction h with
  | nil => rfl
  | cons h1 _ ih => rw [List.map_cons, ← ih, h1]
theorem new_sqa {K : PySem.W.Frag} {H : Hp} {p : Addr} {xs : List V} : SqA K (upd H p (.lst xs)) p xs := .inl new_lst
theorem cutV_whole {xs : List V} {lo hi : Option Int} (h : HT.sIx xs.length 0 lo = 0 ∧ HT.sIx xs.length xs.length hi = xs.length) : cutV xs lo hi = xs := by
  unfold cutV
  rw [h.1, h.2, List.drop_zero, Nat.sub_zero, List.take_length]
section
variable {X : Cx}
/-- xs[i:j] of a list or a tuple, of its own kind -/
def rSlQ (K : PySem.W.Frag) : V → Option Int → Option Int → Hp → VK → Prop := fun x lo hi H Q => ∃ a xs, x = .ref a ∧ ((SqL K H a xs ∧ ∀ p H', Same H H' → H' p = some (.lst (cutV xs lo hi)) → Q (.ref p) H') ∨ (SqT K H a xs ∧ ∀ p H', Same H H' → SqT K H' p (cutV xs lo hi) → Q (.ref p) H'))
theorem sl_any : SlR X (rSlQ X.K) := by
  intro pins s σ H x v vl vu lo hi sl Q I rx hs pl pu h
  obtain ⟨a, xs, rfl, h⟩ := h
  refine sl_sqa pins s σ H (.ref a) v vl vu lo hi sl Q I rx hs pl pu ?_
  rcases h with ⟨h, q⟩ | ⟨h, q⟩
  · exact .inl ⟨a, xs, rfl, h, fun p hp => q p _ (same_new hp) upd_same⟩
  · refine .inr ⟨a, xs, rfl, h, fun w => q a H (Same.refl _) (by rw [cutV_whole w]; exact h), fun _ p hp => q p _ (same_new hp) new_tup⟩
theorem rSlQ_any {K : PySem.W.Frag} {x : V} {lo hi : Option Int} {H : Hp} {Q : VK} {a : Addr} {xs : List V} (e : x = .ref a) (h : SqA K H a xs) (q : ∀ p H', Same H H' → SqA K H' p (cutV xs lo hi) → Q (.ref p) H') : rSlQ K x lo hi H Q :=
  ⟨a, xs, e, h.elim (fun h => .inl ⟨h, fun p H' s g => q p H' s (.inl (.of g))⟩) fun h => .inr ⟨h, fun p H' s g => q p H' s (.inr g)⟩⟩
/-- tuple(x) -/
theorem cs_tuple : CallR X (.type "tuple") (fun xs H Q => ∃ a ys, xs = [.ref a] ∧ SqA X.K H a ys ∧ ∀ p H', Same H H' → SqT X.K H' p ys → Q (.ref p) H') := by
  intro pins s σ H xs us Q I r h
  obtain ⟨a, ys, rfl, h, q⟩ := h
  rcases h with h | h
  · exact call_tuple_of pins s σ H _ us Q I r ⟨a, ys, rfl, .inl ⟨h, fun l hl => q l _ (same_new hl) new_tup⟩⟩
  · exact call_tuple_of pins s σ H _ us Q I r ⟨a, ys, rfl, .inr ⟨h, q a H (Same.refl _) h⟩⟩
/-- a + b of tuples -/
theorem op_catTup : OpR X (binaryOp .Add) (fun x y H Q => ∃ a b xs ys, x = .ref a ∧ y = .ref b ∧ SqT X.K H a xs ∧ SqT X.K H b ys ∧ xs.length + ys.length ≤ sizeLine ∧ ∀ p H', Same H H' → SqT X.K H' p (xs ++ ys) → Q (.ref p) H') := by
  intro pins s σ H x y v u Q I rx ry h
  obtain ⟨a, b, xs, ys, rfl, rfl, ha, hb, hz, q⟩ := h
  refine op_catA pins s σ H _ _ v u Q I rx ry ⟨a, b, xs, ys, rfl, rfl, ha, hb, hz, fun e => q b H (Same.refl _) ?_, fun _ e => q a H (Same.refl _) ?_, fun _ _ p hp => q p _ (same_new hp) new_tup⟩
  · rw [e, List.nil_append]; exact hb
  · rw [e, List.append_nil]; exact ha
end
section
variable {X : Cx} {k j : Nat} {x : Str} {ps : List Str} {sp : Sp} {p pos : Pos} {e : Expr} {es : List Expr} {t : TA}
/-- f(), nothing raised -/
theorem pe_c0 (c : Cal X.prog X.w X.K X.mg X.base k x ps sp) (hr : Room j X.A) (hk : k ≤ j) (hg : Gl X x) (hdb : (x == ("__debug__" : Str)) = false := by decide) : PE X (.Call (.Name x p) [] [] pos) (tCall sp [] L2.E0 tNil) := by
  obtain ⟨f, fd, F, hm, kp, b⟩ := c.ex
  exact pe_call0 F (hr.mono hk) hg hm kp b .nil passL hdb
/-- f(e, ..), what it raises goes to W -/
theorem pe_cS {W : WX} (c : Cal X.prog X.w X.K X.mg X.base k x ps sp) (hr : Room j X.A) (hk : k ≤ j) (hg : Gl X x) (tk : Takes X W) (ha : PA X (e :: es) t)
    (hdb : (x == ("__debug__" : Str)) = false := by decide) (he : starEach (e :: es) X.env = (false, eval e X.env) :: starEach es X.env := by rfl) (hpl : (backTo pos (starEach es X.env)).any (·.1) = false := by rfl) :
    PE X (.Call (.Name x p) (e :: es) [] pos) (tCallS sp (WE W) t) := by
  obtain ⟨f, fd, F, hm, kp, b⟩ := c.ex
  exact pe_callS F (hr.mono hk) hg hm kp b (fun σ => passAt tk σ) ha hdb he hpl
end
/-- an atom, an index from the end -/
theorem atI_last {α : Type} {xs : List α} {v : α} (h : xs.getLast? = some v) : atI xs (-1) = some v := by
  have ne : xs ≠ [] := fun z => by rw [z] at h; cases h
  have hl : 0 < xs.length := List.length_pos_iff.mpr ne
  have e : ixN xs.length (-1) = some (xs.length - 1) := by
    unfold ixN
    rw [if_neg (by decide), if_pos (by omega)]
    congr 1
    omega
  unfold atI
  rw [e]
  show xs[xs.length - 1]? = some v
  rw [← List.getLast?_eq_getElem?, h]
end BQ
set_option maxHeartbeats 4000000
/-! == and != by an own __eq__, whatever it answers -/
namespace PySem.BOw
open PySem PySem.Spec PySem.W PyProof.Rows
open Builtin
theorem slot_object_ne : Slot "object" "__ne__" "object.__ne__" :=
  .of (owner := "object") (n := "__ne__") (by rw [typeLookup_type, builtinLookup_eq_fast]; kernel_rfl) (by decide +kernel) (by decide +kernel) (by decide +kernel)
    (by first | exact .inl (by decide +kernel) | exact .inr (by decide +kernel)) (by rw [isSubtype_type]; kernel_rfl)
section
variable {prog : Program} {w : World} {A : Around} {E : Value → Shared → Prop} {s : Shared} {K : Frag} {x C L f : Addr} {h₀ : Heap} {m : Str → Option Value} {ox : Obj} {od : Option Obj} {b tb : Value}
theorem obj_ne {Q : Fin → Shared → Prop} (hu : A.units < cLine) (X : K.In s.heap) (I : InstAt s.heap x ox C od) (hs : findIn K (.ref C) "__eq__" = some (some (.ref f))) (hf : isFn K (.ref f) = true)
    (h : wpAny (model prog w) A (call (.ref f) [.ref x, b]) (fun v s' => ∃ r, v = .bool r ∧ Q (.done (.ret (.bool (!r)))) s') E s) : wpAny (model prog w) A (Builtin.«object.__ne__» ⟨[.ref x, b], []⟩) Q E s := by
  unfold Builtin.«object.__ne__»
  repeat (first
    | with_reducible refine wpAny_cRoomFor hu ?_
    | (refine wpAny_bind (m := callSpecialIfBound? (.ref x) (Str.ofString "__eq__") [b])
        (ifBound_K X I hs hf (wpAny_mono h (fun r s' hr => by
          obtain ⟨b, rfl, hq⟩ := hr
          repeat (first | exact hq | exact wpAny_pure hq | exact wpAny_truthy_bool hq | (refine wpAny_bind (m := truthy (.bool _)) (wpAny_truthy_bool ?_)) | wp_step)) fun _ _ e => e)))
    | wp_step)
theorem ifBuiltin {M : Model} {B : String} {name : Str} {id : String} {args : List Value} {Q : Option Value → Shared → Prop} {S : Slot B name id} (X : K.In s.heap) (I : InstAt s.heap x ox C od) (hn : findIn K (.ref C) name = some (some (.builtin id)))
    (h : wpAny M A (call (.builtin id) (.ref x :: args)) (fun v => Q (some v)) E s) : wpAny M A (callSpecialIfBound? (.ref x) name args) Q E s := by
  simp only [callSpecialIfBound?, bindSpecialIfBound?]
  refine wpAny_holding (wpAny_bind (wpAny_bind (wpAny_bind (I.type.here ((looks_findIn X hn).here ?_)))))
  simp only [S.bind]
  refine wpAny_bind (wpAny_askSetting (wpAny_ite ?_))
  have fin : wpAny M A (call (.builtin id) ([.ref x] ++ args) >>= fun v => pure (some v)) Q E s := wpAny_bind (wpAny_mono h (fun v s' h' => wpAny_pure h') fun _ _ h' => h')
  split
  · exact wpAny_bind (wpAny_pure (wpAny_pure fin))
  · exact wpAny_tryCatch (wpAny_bind (wpAny_pure (wpAny_pure fin)))
theorem try_ne {Q : Option Value → Shared → Prop} (hu : A.units + 1 < cLine) (X : K.In s.heap) (I : InstAt s.heap x ox C od) (hn : findIn K (.ref C) "__ne__" = some (some (.builtin "object.__ne__"))) (hob : mroIn K C (.type "object") = some true)
    (hs : findIn K (.ref C) "__eq__" = some (some (.ref f))) (hf : isFn K (.ref f) = true)
    (h : wpAny (model prog w) A.in1 (call (.ref f) [.ref x, b]) (fun v s' => ∃ r, v = .bool r ∧ Q (some (.bool (!r))) s') E s) : wpAny (model prog w) A (tryCompare (.ref x) "__ne__" b) Q E s := by
  have sub : Looks (model prog w) s.heap (isInstance (.ref x) (.type "object")) true := I.type.andThen (looks_mroIn X hob)
  have run : wpAny (model prog w) A (call (.builtin "object.__ne__") [.ref x, b]) (fun v s' => ∃ r, v = .bool r ∧ Q (some v) s') E s := by
    refine wpAny_call (codeAny_call_builtin slot_object_ne.plain F.cmpEntry_ne ?_)
    refine @check_slot (model prog w) _ _ s "object.__ne__" "object" "__ne__" (.ref x) [b] [] _ F.cmpKind_ne F.cmpSplit_ne sub (F.cmpArgs_ne _ _) ?_
    refine obj_ne (A := A.in1) hu X I hs hf (wpAny_mono h (fun v s' hv => ?_) fun _ _ e => e)
    obtain ⟨r, rfl, q⟩ := hv
    exact ⟨r, rfl, ⟨_, rfl, q⟩⟩
  unfold tryCompare
  refine wpAny_bind (ifBuiltin (S := slot_object_ne) X I hn (wpAny_mono run (fun v s' hv => ?_) fun _ _ e => e))
  obtain ⟨r, rfl, q⟩ := hv
  exact wpAny_pure q
theorem ne_K {Q : Value → Shared → Prop} (hu : A.units + 1 < cLine) (F : Fr h₀ L s.heap m) (X₀ : K.In h₀) (I : InstAt s.heap x ox C od) (hb : Looks (model prog w) s.heap (typeOf b) tb) (hnf : notFirst K C tb = true)
    (hn : findIn K (.ref C) "__ne__" = some (some (.builtin "object.__ne__"))) (hob : mroIn K C (.type "object") = some true) (hs : findIn K (.ref C) "__eq__" = some (some (.ref f))) (hf : isFn K (.ref f) = true)
    (h : wpAny (model prog w) A.in1 (call (.ref f) [.ref x, b]) (fun v s' => ∃ r, v = .bool r ∧ Q (.bool (!r)) s') E s) : wpAny (model prog w) A (richCompare .NotEq (.ref x) b) Q E s := by
  have X := X₀.keeps F.keep
  have one : wpAny (model prog w) A (tryCompare (.ref x) (cmpInfo .NotEq).2.1 b) (fun r s' => ∃ v, r = some v ∧ Q v s') E s :=
    try_ne hu X I hn hob hs hf (wpAny_mono h (fun v s' hv => by
      obtain ⟨r, rfl, q⟩ := hv
      exact ⟨r, rfl, _, rfl, q⟩) fun _ _ e => e)
  unfold richCompare
  simp only [oneThing_ref]
  refine wpAny_holding (wpAny_bind (wpAny_cRoomFor (Nat.lt_of_succ_lt hu) ?_))
  refine wpAny_bind (I.type.here (wpAny_bind (hb.here ?_)))
  split
  · rename_i q
    have e : subIn K tb (.ref C) = some false := by
      rcases Bool.or_eq_true_iff.mp hnf with e | e
      · rw [beq_iff_eq.mp e] at q; simp at q
      · exact beq_iff_eq.mp e
    refine wpAny_bind ((looks_subIn X e).here ?_)
    simp only [Bool.false_eq_true, if_false]
    refine wpAny_bind (wpAny_mono one (fun r s' z => ?_) fun _ _ e => e)
    obtain ⟨v, rfl, hq⟩ := z
    exact wpAny_pure hq
  · refine wpAny_bind (wpAny_pure ?_)
    simp only [Bool.false_eq_true, if_false]
    refine wpAny_bind (wpAny_mono one (fun r s' z => ?_) fun _ _ e => e)
    obtain ⟨v, rfl, hq⟩ := z
    exact wpAny_pure hq
end
end PySem.BOw
set_option maxHeartbeats 4000000
/-! methods, own ==, errors as values -/
namespace BC
open PySem PySem.Spec PyProof.Rows L2 SX BB BQ BE BS NdefX

/-- a method of the class at C, under its name -/
structure DefM (K : PySem.W.Frag) (C : Addr) (m q : Str) (ps : List Str) (st : Stmt) : Prop where
  ex : ∃ (f : Addr) (fd : FuncData), L2.Fun K m q st f fd ∧ Meth K C m f ∧ Binds K fd ps []
structure CalM (P : Program) (w : World) (K : PySem.W.Frag) (mg : Str → Option Value) (base : Heap) (k : Nat) (C : Addr) (m : Str) (ps : List Str) (sp : Sp) : Prop where
  ex : ∃ (f : Addr) (fd : FuncData), FnOk P w K mg base (L2.CX P w) k f fd ps sp ∧ Meth K C m f ∧ Binds K fd ps []
/-- C(..) -/
structure CalI (P : Program) (w : World) (K : PySem.W.Frag) (mg : Str → Option Value) (base : Heap) (k : Nat) (x : Str) (C : Addr) (ps : List Str) (sp : Sp) : Prop where
  ex : ∃ (f : Addr) (fd : FuncData), FnOk P w K mg base (L2.CX P w) k f fd ps sp ∧ Mk K C f ∧ Binds K fd ps [] ∧ mg x = some (.ref C)
section
variable {P : Program} {w : World} {K : PySem.W.Frag} {mg : Str → Option Value} {base : Heap} {C : Addr}
theorem defM_mk {m q : Str} {ps : List Str} {st : Stmt} {f : Addr} {fd : FuncData} (F : L2.Fun K m q st f fd) (M : Meth K C m f)
    (h : ∀ (kV doc pm : Value) (an : Option Addr) (cdv ct : Value) (us : List Value), us.length = ps.length → bindArgs (PySem.W.fnOf m q (defArgs st) (defBody st) (defScope st) .none kV doc pm an cdv ct) ⟨us, []⟩ = pure (ps.zip us)) : DefM K C m q ps st :=
  ⟨f, fd, F, M, F.binds h⟩
theorem calM0 {m q : Str} {st : Stmt} {N ps : List Str} {k : Nat} {sp : Sp} (D : DefM K C m q ps st) (S : FnScope N ps (defScope st)) (len : ∀ vs H Q E, sp vs H Q E → vs.length = ps.length)
    (hbody : ∀ (f : Addr) (cdv : Value) (A : Around) (outer : List Env) (s : Shared) (H : Hp) (vs : List V) (Q : VK) (E : XK), Room k (A.deeper (envOfC q (defScope st) s.heap.objs.size f cdv)) → sp vs H Q E →
      ∃ t, PSs (cxOf (L2.CX P w) P w K mg base N q (defScope st) f cdv A outer s H E).nox (defBody st) t ∧ t { nx := fun _ H' => Q .non H', rt := Q } (start N vs) H) : CalM P w K mg base (k + 1) C m ps sp := by
  obtain ⟨f, fd, F, M, b⟩ := D.ex
  refine ⟨f, fd, ?_, M, b⟩
  refine L2.Fun.okX F S len fun cdv A outer s H vs Q E hr hsp => ?_
  obtain ⟨t, h, q⟩ := hbody f cdv A outer s H vs Q E hr hsp
  exact ⟨t, h.nox, q⟩
theorem calMX {m q : Str} {st : Stmt} {N ps : List Str} {k : Nat} {sp : Sp} (D : DefM K C m q ps st) (S : FnScope N ps (defScope st)) (len : ∀ vs H Q E, sp vs H Q E → vs.length = ps.length)
    (hbody : ∀ (f : Addr) (cdv : Value) (A : Around) (outer : List Env) (s : Shared) (H : Hp) (vs : List V) (Q : VK) (E : XK), Room k (A.deeper (envOfC q (defScope st) s.heap.objs.size f cdv)) → sp vs H Q E →
      ∃ t, PSs (cxOf (L2.CX P w) P w K mg base N q (defScope st) f cdv A outer s H E) (defBody st) t ∧ t { nx := fun _ H' => Q .non H', rt := Q } (start N vs) H) : CalM P w K mg base (k + 1) C m ps sp := by
  obtain ⟨f, fd, F, M, b⟩ := D.ex
  refine ⟨f, fd, ?_, M, b⟩
  exact L2.Fun.okX F S len fun cdv A outer s H vs Q E hr hsp => hbody f cdv A outer s H vs Q E hr hsp
end
section
variable {X : Cx} {k j : Nat} {C : Addr} {m x : Str} {ps : List Str} {sp : Sp} {p pos apos : Pos} {e o : Expr} {es : List Expr} {to : TE} {t : TA} {pl : Sem Bool} {E : XK}
/-- o.m(e, ..), what it raises goes the way of the def (E0: nothing) -/
theorem pe_cm (c : CalM X.prog X.w X.K X.mg X.base k C m ps sp) (cl : Cls X.K C) (hr : Room j X.A) (hk : k ≤ j) (hx : Passes (L2.CX X.prog X.w) X E) (ho : PE X o to) (ha : PA X (e :: es) t)
    (hst : starEach (e :: es) X.env = (false, eval e X.env) :: starEach es X.env := by rfl) (hpl : (backTo pos (starEach es X.env)).any (·.1) = false := by rfl)
    (ht : eval (.Call (.Attribute o m apos) (e :: es) [] pos) X.env = (do
      let ov ← eval o X.env
      standAt apos.atName
      let (f, first) ← holding [ov] (getMethod ov m pl)
      callWith pos f first (backTo pos (starEach (e :: es) X.env)) (backToKw pos (keywordEach [] X.env))) := by rfl) : PE X (.Call (.Attribute o m apos) (e :: es) [] pos) (tMeth C m sp [] E to t) := by
  obtain ⟨f, fd, F, M, b⟩ := c.ex
  exact pe_meth (pl := pl) ho cl M F (hr.mono hk) b .nil hx ha hst hpl ht
theorem pe_cm0 (c : CalM X.prog X.w X.K X.mg X.base k C m ps sp) (cl : Cls X.K C) (hr : Room j X.A) (hk : k ≤ j) (hx : Passes (L2.CX X.prog X.w) X E) (ho : PE X o to)
    (ht : eval (.Call (.Attribute o m apos) [] [] pos) X.env = (do
      let ov ← eval o X.env
      standAt apos.atName
      let (f, first) ← holding [ov] (getMethod ov m pl)
      callWith pos f first (backTo pos (starEach [] X.env)) (backToKw pos (keywordEach [] X.env))) := by rfl) : PE X (.Call (.Attribute o m apos) [] [] pos) (tMeth C m sp [] E to tNil) := by
  obtain ⟨f, fd, F, M, b⟩ := c.ex
  exact pe_meth0 (pl := pl) ho cl M F (hr.mono hk) b .nil hx ht
/-- o.m(e, ..) within a try -/
def tMethS (C : Addr) (m : Str) (sp : Sp) (W : WX) (ta : TE) (t : TA) : TE := fun σ H Q => ta σ H fun x H1 => ∃ a dx fs, x = .ref a ∧ H1 a = some (.ins C dx fs) ∧ fs.lookup m = none ∧ t σ H1 fun vs H2 => sp (x :: vs) H2 Q (WE W σ)
theorem pe_cmS {W : WX} (c : CalM X.prog X.w X.K X.mg X.base k C m ps sp) (cl : Cls X.K C) (hr : Room j X.A) (hk : k ≤ j) (tk : Takes X W) (ho : PE X o to) (ha : PA X (e :: es) t)
    (hst : starEach (e :: es) X.env = (false, eval e X.env) :: starEach es X.env := by rfl) (hpl : (backTo pos (starEach es X.env)).any (·.1) = false := by rfl)
    (ht : eval (.Call (.Attribute o m apos) (e :: es) [] pos) X.env = (do
      let ov ← eval o X.env
      standAt apos.atName
      let (f, first) ← holding [ov] (getMethod ov m pl)
      callWith pos f first (backTo pos (starEach (e :: es) X.env)) (backToKw pos (keywordEach [] X.env))) := by rfl) : PE X (.Call (.Attribute o m apos) (e :: es) [] pos) (tMethS C m sp W to t) := by
  obtain ⟨f, fd, F, M, b⟩ := c.ex
  refine ⟨fun pins s σ H Q I h => ?_⟩
  refine PySem.W.methodCall_KW (pl := pl) (thn (ho.run pins s σ H _ I h) fun u s1 ⟨x, H1, I1, rx, a, dx, fs, ex, ea, l, q⟩ => ?_) ht
  subst ex
  obtain rfl : u = Value.ref a := rx
  refine getmeth_ok I1 ea cl M l ?_
  refine PySem.W.callWith_K (first := [.ref a]) (h₀ := X.base) I.ok.mod.kin M.kp (thn (ha.run pos pins s1 σ H1 _ I1 q) fun us s2 ⟨vs, H2, I2, r, q2⟩ => ⟨I2.kIn, ?_⟩) hst hpl
  exact run_fnS (E := WE W) (us := .ref a :: us) (vs := .ref a :: vs) F (hr.mono hk) b (passAt tk σ) I2 (.cons rfl r) q2
/-- f(e, ..), what it raises goes the way of the def -/
theorem pe_cP (c : Cal X.prog X.w X.K X.mg X.base k x ps sp) (hr : Room j X.A) (hk : k ≤ j) (hg : Gl X x) (hx : Passes (L2.CX X.prog X.w) X E) (ha : PA X (e :: es) t)
    (hdb : (x == ("__debug__" : Str)) = false := by decide) (he : starEach (e :: es) X.env = (false, eval e X.env) :: starEach es X.env := by rfl) (hpl : (backTo pos (starEach es X.env)).any (·.1) = false := by rfl) :
    PE X (.Call (.Name x p) (e :: es) [] pos) (tCall sp [] E t) := by
  obtain ⟨f, fd, F, hm, kp, b⟩ := c.ex
  exact pe_call F (hr.mono hk) hg hm kp b .nil hx ha hdb he hpl
/-- C(e, ..) -/
theorem pe_ci (c : CalI X.prog X.w X.K X.mg X.base k x C ps sp) (hr : Room j X.A) (hk : k + 1 ≤ j) (hg : Gl X x) (ha : PA X (e :: es) t)
    (hdb : (x == ("__debug__" : Str)) = false := by decide) (he : starEach (e :: es) X.env = (false, eval e X.env) :: starEach es X.env := by rfl) (hpl : (backTo pos (starEach es X.env)).any (·.1) = false := by rfl) :
    PE X (.Call (.Name x p) (e :: es) [] pos) (tMake C sp [] L2.E0 t) := by
  obtain ⟨f, fd, F, M, b, hm⟩ := c.ex
  exact pe_make M F (hr.mono hk) hg hm b .nil passL ha hdb he hpl
theorem pe_ci0 (c : CalI X.prog X.w X.K X.mg X.base k x C ps sp) (hr : Room j X.A) (hk : k + 1 ≤ j) (hg : Gl X x) (hdb : (x == ("__debug__" : Str)) = false := by decide) : PE X (.Call (.Name x p) [] [] pos) (tMake C sp [] L2.E0 tNil) := by
  obtain ⟨f, fd, F, M, b, hm⟩ := c.ex
  exact pe_make0 M F (hr.mono hk) hg hm b .nil passL hdb
end
/-! ### own == -/
section
variable {X : Cx} {k j : Nat} {C : Addr} {ps : List Str} {sp : Sp}
theorem run_at {A : Around} {pins : List (Addr × Obj)} {σ : L2.St} {H : Hp} {s : Shared} {Q : VK} {us : List Value} {vs : List V} {f : Addr} {fd : FuncData} (F : FnOk X.prog X.w X.K X.mg X.base (L2.CX X.prog X.w) k f fd ps sp) (hr : Room k A) (hfr : A.frames = X.A.frames) (hb : Binds X.K fd ps [])
    (I : Inv X pins σ H s) (r : Vals vs us) (h : sp vs H Q L2.E0) : wpAny (model X.prog X.w) A (call (.ref f) us) (EP X pins σ Q) X.xe s := by
  have e0 : Env0 X.prog X.w X.K X.mg X.base A X.stack s H := by
    have e := I.env0
    exact ⟨by rw [hfr]; exact e.frames, e.mod, e.bs, e.bsz, e.funs, e.frf, e.hok, e.bare⟩
  have hl : us.length = ps.length := by rw [← r.length]; exact F.len _ _ _ _ h
  have b := hb s us I.kIn (by rw [List.append_nil]; exact hl)
  rw [List.append_nil] at b
  refine wpAny_call (codeAny_mono (F.run A X.stack s H ⟨us, []⟩ us vs Q L2.E0 hr e0 b r h) fun r s' hq => ?_)
  cases r with
  | error e => exact passL pins σ H s e s' I hq
  | ok fl =>
    cases fl with
    | ret u => exact I.after hq
    | next => exact False.elim hq
    | brk => exact False.elim hq
    | cont => exact False.elim hq
/-- what the written part says of an own class with an own __eq__ and no __ne__ -/
structure OwnE (K : PySem.W.Frag) (C : Addr) : Prop where
  ne : PySem.W.findIn K (.ref C) "__ne__" = some (some (.builtin "object.__ne__"))
  ob : PySem.W.mroIn K C (.type "object") = some true
def rOwn (K : PySem.W.Frag) (C : Addr) (sp : Sp) (neg : Bool) : R2 := fun x y H Q => ∃ a dx fs t, x = .ref a ∧ H a = some (.ins C dx fs) ∧ TyX K H y t ∧ PySem.W.notFirst K C t = true ∧ sp [.ref a, y] H (fun v H' => ∃ b, v = .bl b ∧ Q (.bl (neg ^^ b)) H') L2.E0
theorem op_own_eq (c : CalM X.prog X.w X.K X.mg X.base k C "__eq__" ps sp) (hr : Room j X.A) (hk : k ≤ j) : OpR X (compareOp .Eq) (rOwn X.K C sp false) := by
  intro pins s σ H x y v u Q I rx ry h
  obtain ⟨a, dx, fs, t, rfl, ha, ty, nf, q⟩ := h
  obtain ⟨f, fd, F, M, b⟩ := c.ex
  cases rx
  obtain ⟨mA, J, _⟩ := ins_get I.hok ha
  obtain ⟨od, J, _⟩ := J.look
  obtain ⟨Pp, Z, pz, _⟩ := kit_of I ry ty
  obtain ⟨m, hF⟩ := I.fr
  refine PySem.W.cmp_K (op := .Eq) (tb := t) (hr.mono hk).units0 hF I.ok.mod.kin J (Z.ty _ _ I.kIn pz) nf M.at_ M.fn ?_
  refine wpAny_mono (run_at (us := [.ref a, u]) (vs := [.ref a, y]) F (hr.mono hk) rfl b I (.cons rfl (.cons ry .nil)) q) (fun r s' z => ?_) fun _ _ e => e
  obtain ⟨v, H', I', rv, bb, rfl, q⟩ := z
  cases rv
  exact ⟨.bl bb, H', I', rfl, by rw [Bool.false_xor] at q; exact q⟩
theorem op_own_ne (c : CalM X.prog X.w X.K X.mg X.base k C "__eq__" ps sp) (o : OwnE X.K C) (hr : Room j X.A) (hk : k + 1 ≤ j) : OpR X (compareOp .NotEq) (rOwn X.K C sp true) := by
  intro pins s σ H x y v u Q I rx ry h
  obtain ⟨a, dx, fs, t, rfl, ha, ty, nf, q⟩ := h
  obtain ⟨f, fd, F, M, b⟩ := c.ex
  cases rx
  obtain ⟨mA, J, _⟩ := ins_get I.hok ha
  obtain ⟨od, J, _⟩ := J.look
  obtain ⟨Pp, Z, pz, _⟩ := kit_of I ry ty
  obtain ⟨m, hF⟩ := I.fr
  refine PySem.BOw.ne_K (tb := t) (by have := hr.units; omega) hF I.ok.mod.kin J (Z.ty _ _ I.kIn pz) nf o.ne o.ob M.at_ M.fn ?_
  refine wpAny_mono (run_at (us := [.ref a, u]) (vs := [.ref a, y]) F (hr.mono hk).in1 rfl b I (.cons rfl (.cons ry .nil)) q) (fun r s' z => ?_) fun _ _ e => e
  obtain ⟨v, H', I', rv, bb, rfl, q⟩ := z
  cases rv
  exact ⟨bb, rfl, .bl (!bb), H', I', rfl, by rw [Bool.true_xor] at q; exact q⟩
end

/-! ### a property -/
structure CalP (P : Program) (w : World) (K : PySem.W.Frag) (mg : Str → Option Value) (base : Heap) (k : Nat) (C : Addr) (f : Str) (ps : List Str) (sp : Sp) : Prop where
  ex : ∃ (p g : Addr) (fd : FuncData), FnOk P w K mg base (L2.CX P w) k g fd ps sp ∧ PropOf K C f p g ∧ Binds K fd ps []
structure DefP (K : PySem.W.Frag) (C : Addr) (m q : Str) (ps : List Str) (st : Stmt) : Prop where
  ex : ∃ (p f : Addr) (fd : FuncData), L2.Fun K m q st f fd ∧ PropOf K C m p f ∧ Binds K fd ps []
theorem calP0 {P : Program} {w : World} {K : PySem.W.Frag} {mg : Str → Option Value} {base : Heap} {C : Addr} {m q : Str} {st : Stmt} {N ps : List Str} {k : Nat} {sp : Sp} (D : DefP K C m q ps st) (S : FnScope N ps (defScope st)) (len : ∀ vs H Q E, sp vs H Q E → vs.length = ps.length)
    (hbody : ∀ (f : Addr) (cdv : Value) (A : Around) (outer : List Env) (s : Shared) (H : Hp) (vs : List V) (Q : VK) (E : XK), Room k (A.deeper (envOfC q (defScope st) s.heap.objs.size f cdv)) → sp vs H Q E →
      ∃ t, PSs (cxOf (L2.CX P w) P w K mg base N q (defScope st) f cdv A outer s H E).nox (defBody st) t ∧ t { nx := fun _ H' => Q .non H', rt := Q } (start N vs) H) : CalP P w K mg base (k + 1) C m ps sp := by
  obtain ⟨p, f, fd, F, M, b⟩ := D.ex
  refine ⟨p, f, fd, ?_, M, b⟩
  refine L2.Fun.okX F S len fun cdv A outer s H vs Q E hr hsp => ?_
  obtain ⟨t, h, q⟩ := hbody f cdv A outer s H vs Q E hr hsp
  exact ⟨t, h.nox, q⟩
theorem pe_pr {X : Cx} {k j : Nat} {C : Addr} {f : Str} {ps : List Str} {sp : Sp} {e : Expr} {ta : TE} {pos : Pos} (c : CalP X.prog X.w X.K X.mg X.base k C f ps sp) (cl : Cls X.K C) (hr : Room j X.A) (hk : k + 1 ≤ j) (he : PE X e ta)
    (hab : attributeBase e f X.env (eval e X.env) = eval e X.env := by rfl) : PE X (.Attribute e f pos) (tProp C sp [] L2.E0 ta) := by
  obtain ⟨p, g, fd, F, hp, b⟩ := c.ex
  exact pe_prop he cl hp F (hr.mono hk) b .nil (passL (X := X.nox)) hab
end BC
set_option maxHeartbeats 4000000
/-! errors as values: made, read, asked for their class -/
namespace PySem.BEx
open PySem PySem.Spec PySem.Calls PySem.W PyProof.Rows PySem.HandSPX
section
variable {prog : Program} {w : World} {A : Around} {E : Value → Shared → Prop} {s : Shared} {K : Frag} {x D : Addr} {ox : Obj} {od : Option Obj}
/-- with or without a dict of its own -/
theorem class_of {Q : Option Value → Shared → Prop} (hga : findIn K (.ref D) "__getattribute__" = some (some (.builtin "BaseException.__getattribute__"))) (hgt : findIn K (.ref D) "__getattr__" = some none) (hsub : subIn K (.ref D) (.type "BaseException") = some true)
    (hf : findObj K D od "__class__" = some (.bind (.builtin "getset_descriptor.__get__") (.builtin "object.__class__"))) (hm : mroIn K D (.type "object") = some true)
    (X : K.In s.heap) (I : InstAt s.heap x ox D od) (h : Q (some (.ref D)) { s with toks := s.toks + 1 }) : wpAny (model prog w) A (getAttr? (.ref x) "__class__") Q E s := by
  obtain ⟨hp, g, d, t, os⟩ := s
  have L0 := I.type (M := model prog w)
  have L1 := looks_findIn (M := model prog w) X hga
  have L2 := looks_findIn (M := model prog w) X hgt
  have L3 := looks_find (M := model prog w) X I hf
  have sub : Looks (model prog w) hp (isInstance (.ref x) (.type "BaseException")) true := L0.andThen (looks_subIn X hsub)
  have n1 : (false && onTheHeap (Value.builtin "BaseException.__getattribute__")) = false := rfl
  have n2 : (onTheHeap (Value.ref D) && Value.builtin "BaseException.__getattribute__" == Value.builtin "object.__getattribute__") = false := by
    rw [show (Value.builtin "BaseException.__getattribute__" == Value.builtin "object.__getattribute__") = false by decide +kernel]
    rfl
  unfold getAttr? getAttrBy? getAttrBy
  refine wpAny_bind (wpAny_mkText (wpAny_bind (wpAny_attempt (wpAny_holding (wpAny_bind (L0.at (wpAny_bind (L1.at ?_))))))))
  show wpAny _ _ (if (onTheHeap (Value.ref D) && Value.builtin "BaseException.__getattribute__" == Value.builtin "object.__getattribute__") = true then _ else _) _ _ _
  rw [n2, if_neg Bool.false_ne_true]
  unfold getAttrByItsOwn hookBefore
  refine wpAny_bind ?_
  rw [if_pos (show onTheHeap (Value.ref D) = true from rfl)]
  refine L2.at (wpAny_bind (wpAny_attempt (wpAny_holding ?_)))
  unfold callGetattribute
  rw [n1, if_neg Bool.false_ne_true]
  unfold boundAndCalled
  rw [PySem.F.excAttr_ValueError.ga.bind (.ref x)]
  refine wpAny_bind (wpAny_pure ?_)
  show wpAny _ _ (call (.builtin "BaseException.__getattribute__") [.ref x, .str "__class__" t]) _ _ _
  refine wpAny_call (codeAny_call_builtin PySem.F.excAttr_ValueError.ga.plain PySem.F.entry_bexc_ga ?_)
  refine @check_slot (model prog w) _ _ ⟨hp, g, d, t + 1, os⟩ "BaseException.__getattribute__" "BaseException" "__getattribute__" (.ref x) [.str "__class__" t] [] _ (by decide +kernel) (by decide +kernel) sub (PySem.F.args_bexc_ga (.ref x) (.str "__class__" t)) ?_
  unfold Builtin.«object.__getattribute__»
  refine wpAny_bind (wpAny_of_eq (a := ((Value.ref x : Value), [Value.str "__class__" t])) (by first | rfl | (simp only [slotArgs]; rfl)) ?_)
  refine wpAny_bind (wpAny_pure (wpAny_bind (L0.at (wpAny_bind (L3.at ?_)))))
  show wpAny _ _ (holding [Value.builtin "object.__class__"] (call (.builtin "getset_descriptor.__get__") [.builtin "object.__class__", .ref x, .ref D]) >>= ret) _ _ _
  refine wpAny_bind (wpAny_holding (wpAny_call (class_get (s := ⟨hp, g, d, t + 1, os⟩) (ox := ox) (od := od) X I hm ?_)))
  refine wpAny_pure ?_
  show wpAny _ _ (handedOut (.ref D)) _ _ _
  rw [handedOut_of (v := .ref D) rfl]
  first
    | exact wpAny_pure (wpAny_pure h)
    | exact wpAny_pure h
    | exact wpAny_pure (wpAny_bind (wpAny_pure (wpAny_pure h)))
theorem kitx_err (hga : findIn K (.ref D) "__getattribute__" = some (some (.builtin "BaseException.__getattribute__"))) (hgt : findIn K (.ref D) "__getattr__" = some none) (hsub : subIn K (.ref D) (.type "BaseException") = some true) (hdct : hasDictIn K D = true)
    (hf : findObj K D od "__class__" = some (.bind (.builtin "getset_descriptor.__get__") (.builtin "object.__class__"))) (hm : mroIn K D (.type "object") = some true) : KitX K (.ref x) (.ref D) (fun h => InstAt h x ox D od) where
  ty := fun _ _ _ I => I.type
  it := fun _ _ X _ => by
    obtain ⟨cdD, hcD, _⟩ := any_some hdct
    unfold clsIn at hcD
    split at hcD
    · rename_i c' d' cd' sl' ho
      intro A' Q' E' s' k q
      unfold isType loadHead
      exact wpAny_bind (wpAny_loadPart (k _ _ (X _ _ ho)) (wpAny_pure q))
    · cases hcD
  ne := fun h tp dd its n sl X htp => by
    obtain ⟨cdD, hcD, _⟩ := any_some hdct
    refine Bool.eq_false_iff.mpr fun q => ?_
    have e : D = tp := Value.ref.inj (beq_iff_eq.mp q)
    subst e
    unfold clsIn at hcD
    split at hcD
    · rename_i c' d' cd' sl' ho
      have z := (X _ _ ho).symm.trans htp
      cases z
    · cases hcD
  ca := fun X I k => class_of hga hgt hsub hf hm X I k
end
end PySem.BEx
namespace BV
open PySem PySem.Spec PyProof.Rows L2 SX BB BQ BE BS BC NdefX
/-- an error of the class at C stands at a, with its one field, or plain -/
def ErV (H : Hp) (a C : Addr) (fs : List (Str × V)) : Prop := (∃ d, H a = some (exo a C (some d)) ∧ H d = some (exd d fs)) ∨ (fs = [] ∧ H a = some (ExO (.ref C) a))
theorem ErV.same {H H' : Hp} {a C : Addr} {fs : List (Str × V)} (s : Same H H') (h : ErV H a C fs) : ErV H' a C fs := by
  rcases h with ⟨d, h1, h2⟩ | ⟨h1, h2⟩
  · exact .inl ⟨d, s _ _ h1, s _ _ h2⟩
  · exact .inr ⟨h1, s _ _ h2⟩
theorem ErV.sb {H H' : Hp} {a C D : Addr} {fs : List (Str × V)} (s : SB D H H') (hd : ∃ zs, H D = some (.lst zs)) (h : ErV H a C fs) : ErV H' a C fs := by
  obtain ⟨zs, hd⟩ := hd
  rcases h with ⟨d, h1, h2⟩ | ⟨h1, h2⟩
  · exact .inl ⟨d, s _ _ (ne_of h1 hd (by intro z; cases z)) h1, s _ _ (ne_of h2 hd (by intro z; cases z)) h2⟩
  · exact .inr ⟨h1, s _ _ (ne_of h2 hd (by intro z; cases z)) h2⟩
section
variable {X : Cx} {x : Str} {C : Addr} {fld : Str} {e : Expr} {te : TE} {p pos : Pos} {j : Nat}
def tErV (C : Addr) (fld : Str) (te : TE) : TE := fun σ H Q => te σ H fun v H1 => OkArg v ∧ ∀ a H2, H1 a = none → Same H1 H2 → ErV H2 a C [(fld, v)] → Q (.ref a) H2
theorem pe_errV (T : Err X.prog X.w X.K X.mg X.base x C fld) (hr : Room j X.A) (hj : 2 ≤ j) (hg : Gl X x) (he : PE X e te)
    (hdb : (x == ("__debug__" : Str)) = false := by decide) (hs : starEach [e] X.env = (false, eval e X.env) :: starEach [] X.env := by rfl) (hpl : (backTo pos (starEach [] X.env)).any (·.1) = false := by rfl) :
    PE X (.Call (.Name x p) [e] [] pos) (tErV C fld te) := by
  obtain ⟨D, fI, fd, y, F, F1, hb⟩ := T.ex
  obtain ⟨nm, q, N, bs, bm, sn, sub, ab, col, dd, k0, k1, k2, k3, k5, hC, hbm⟩ := F.sup.oex.cls
  refine ⟨fun pins s σ H Q I h => ?_⟩
  refine wpAny_Call_Name_kw (ld_glob I hg F.hm ?_ hdb)
  have ha : PA X [e] (tCons (tM te) tNil) := pa_cons (pe_mono he) pa_nil hs
  refine PySem.W.callWith_K (h₀ := X.base) I.ok.mod.kin F.sup.oex.kC (thn (ha.run pos pins s σ H (fun vs H1 => ∃ v, vs = [v] ∧ OkArg v ∧ ∀ a H2, H1 a = none → Same H1 H2 → ErV H2 a C [(fld, v)] → Q (.ref a) H2) I ⟨_, h, fun v H1 hh => ⟨v, rfl, hh⟩⟩) fun us s1 ⟨vs, H1, I1, r1, v, ev, ok, q1⟩ => ⟨I1.kIn, ?_⟩) hs hpl
  subst ev
  show wpAny _ _ (call (.ref C) us) _ _ _
  obtain ⟨hp, g, dr, tk, os⟩ := s1
  have hsz : hp.objs.size ≤ hp.objs.size + 1 := Nat.le_succ _
  have hn : H1 (hp.objs.size + 1) = none := I1.hok.fresh hsz
  have hq : spSup X.K D fld taE [.ref (hp.objs.size + 1), v] (upd H1 (hp.objs.size + 1) (exo (hp.objs.size + 1) C none)) (fun u H2 => u = .non ∧ Q (.ref (hp.objs.size + 1)) H2) L2.E0 := by
    refine ⟨_, C, v, rfl, F.sup, upd_same, ⟨v, rfl, ok, fun s => ⟨(by show 1 ≤ 1000; decide), rfl⟩⟩, fun dx nd ne => ⟨rfl, ?_⟩⟩
    have nd1 : H1 dx = none := by rw [upd_ne ne] at nd; exact nd
    refine q1 _ _ hn (fun b u eb => ?_) (.inl ⟨dx, upd_same, by rw [upd_ne ne, upd_same]⟩)
    have ba : b ≠ hp.objs.size + 1 := fun z => by rw [z, hn] at eb; cases eb
    have bd : b ≠ dx := fun z => by rw [z, nd1] at eb; cases eb
    rw [upd_ne ba, upd_ne bd, upd_ne ba]
    exact eb
  have kk : ∀ b o, hp.get? b = some o → ((hp.push (PySem.W.kdv_tup us)).push (PySem.HandSPX.excO C hp.objs.size)).get? b = some o := fun b o e => Heap.get?_push_of_some _ (Heap.get?_push_of_some _ e)
  have hget : ((hp.push (PySem.W.kdv_tup us)).push (PySem.HandSPX.excO C hp.objs.size)).get? (hp.objs.size + 1) = some (PySem.HandSPX.excO C hp.objs.size) := by heap_get
  have I2 : Inv X pins σ (upd H1 (hp.objs.size + 1) (exo (hp.objs.size + 1) C none)) ⟨(hp.push (PySem.W.kdv_tup us)).push (PySem.HandSPX.excO C hp.objs.size), g, dr, tk, os⟩ :=
    I1.laid (t' := tk) (a := hp.objs.size + 1) (o := exo (hp.objs.size + 1) C none) (h' := (hp.push (PySem.W.kdv_tup us)).push (PySem.HandSPX.excO C hp.objs.size)) kk hsz (exo_ok hget)
  have r2 : Vals [V.ref (hp.objs.size + 1), v] (Value.ref (hp.objs.size + 1) :: us) := .cons rfl r1
  have hl : (Value.ref (hp.objs.size + 1) :: us ++ []).length = (["self", y] : List Str).length := by
    rw [List.append_nil]
    exact r2.length.symm
  have hus : us.length ≤ sizeLine := by
    rw [← Paired.length r1, sizeLine_eq]
    show 1 ≤ _
    decide
  have b := hb _ (Value.ref (hp.objs.size + 1) :: us) I2.kIn hl
  rw [List.append_nil] at b
  refine wpAny_call (PySem.HandSPX.call_own PySem.F.excBase_ValueError (fun Y => PySem.HandSPX.refsVE_contains Y bm hbm) (I1.kIn _ _ hC) (PySem.W.looks_findIn I1.kIn F.iC) (fun self => PySem.W.bind_fn I1.kIn self F.tI) hus
    (codeAny_mono (F1.run _ X.stack _ _ ⟨Value.ref (hp.objs.size + 1) :: us, []⟩ (Value.ref (hp.objs.size + 1) :: us) _ _ L2.E0 ((hr.mono hj).make C us []) (I2.env0.make C us []) b r2 hq) fun r s' hq' => ?_))
  cases r with
  | error er => exact passL pins σ _ _ er s' I2 hq'
  | ok fl =>
    cases fl with
    | ret u =>
      obtain ⟨v', H', I3, rv, ev, q3⟩ := I2.after hq'
      subst ev
      exact ⟨rv, ⟨V.ref (hp.objs.size + 1), H', I3, rfl, q3⟩⟩
    | next => exact False.elim hq'
    | brk => exact False.elim hq'
    | cont => exact False.elim hq'
end

/-! ### an error without __init__ -/
structure Err0 (K : PySem.W.Frag) (mg : Str → Option Value) (x : Str) (C : Addr) (bmB : List Value) : Prop where
  q : PySem.W.excIn K C bmB "ValueError.__new__" = true
  hm : mg x = some (.ref C)
  kC : PySem.W.keepIn K (.ref C) = true
section
variable {X : Cx} {x : Str} {C : Addr} {fld : Str} {e : Expr} {te : TE} {p pos : Pos}
theorem pe_err0 {bmB : List Value} {i : String} (F : ExcBaseFacts "ValueError" "ValueError.__new__" i bmB) (T : Err0 X.K X.mg x C bmB) (hg : Gl X x) (hdb : (x == ("__debug__" : Str)) = false := by decide) :
    PE X (.Call (.Name x p) [] [] pos) (fun _ H Q => ∀ a H2, H a = none → Same H H2 → ErV H2 a C [] → Q (.ref a) H2) := by
  refine ⟨fun pins s σ H Q I h => ?_⟩
  refine wpAny_Call_Name_kw (ld_glob I hg T.hm ?_ hdb)
  refine PySem.W.callWith_K0 I.kIn T.kC ?_
  obtain ⟨bm, N, nm, qn, bs, hdct, sn, sub, ab, col, dd, k0, k1, k2, k3, k5, mN, hC, hN, hni, T'⟩ := exc_obj I.kIn T.q
  refine wpAny_call_exc_subT F T' hC hN hni (fun h' a hm => ?_) (by show 0 ≤ sizeLine; exact Nat.zero_le _)
  have hn : H a = none := I.hok.gone hm.new
  obtain ⟨t, ht, _, _⟩ := hm.there
  exact ⟨.ref a, upd H a (ExO (.ref C) a), I.laidN hm.keeps hm.new hn (exO_ok ht ⟨rfl, rfl⟩ rfl rfl rfl (show 4 < 6 by decide)), rfl, h a _ hn (same_new hn) (.inr ⟨rfl, upd_same⟩)⟩
/-- where it stands -/
theorem erv_inst {pins : List (Addr × Obj)} {σ : L2.St} {H : Hp} {s : Shared} {a : Addr} {fs : List (Str × V)} (I : Inv X pins σ H s) (h : ErV H a C fs) : ∃ ox od, PySem.W.InstAt s.heap a ox C od ∧ (od = none ∨ ∃ o, od = some o) := by
  rcases h with ⟨d, h1, h2⟩ | ⟨_, h2⟩
  · obtain ⟨⟨t1, g1⟩, _, _⟩ := (show ObjOk X.prog X.w H s.heap a (exo a C (some d)) from I.hok a _ h1)
    obtain ⟨⟨mA, hns, hr⟩, _, _⟩ := (show ObjOk X.prog X.w H s.heap d (exd d fs) from I.hok d _ h2)
    obtain ⟨od, ho, hl⟩ := lookIn_ns hns
    exact ⟨_, some od, ⟨g1, rfl, rfl, ho⟩, .inr ⟨od, rfl⟩⟩
  · obtain ⟨⟨oe, vs, g1, ⟨z1, z2⟩, hd, _⟩, _, _⟩ := (show ObjOk X.prog X.w H s.heap a (ExO (.ref C) a) from I.hok a _ h2)
    exact ⟨oe, none, ⟨g1, z1, by unfold PySem.W.notCls; rw [hd] <;> rfl, by rw [z2] <;> trivial⟩, .inl rfl⟩
/-- e.fld -/
def tXa (K : PySem.W.Frag) (f : Str) (te : TE) : TE := fun σ H Q => te σ H fun x H1 => ∃ a C fs v, x = .ref a ∧ XfC K C ∧ PySem.W.findIn K (.ref C) f = some none ∧ ErV H1 a C fs ∧ fs.lookup f = some v ∧ Q v H1
theorem pe_xa {f : Str} (he : PE X e te) (hb : attributeBase e f X.env (eval e X.env) = eval e X.env := by rfl) : PE X (.Attribute e f pos) (tXa X.K f te) := by
  refine ⟨fun pins s σ H Q I h => ?_⟩
  refine attr_of hb (thn (he.run pins s σ H _ I h) fun u s1 hh => ?_)
  obtain ⟨y, H1, I1, rx, a, C, fs, v, rfl, T, hno, hv, l, q⟩ := hh
  obtain rfl : u = Value.ref a := rx
  rcases hv with ⟨d, h1, h2⟩ | ⟨rfl, _⟩
  · obtain ⟨⟨t1, g1⟩, _, _⟩ := (show ObjOk X.prog X.w H1 s1.heap a (exo a C (some d)) from I1.hok a _ h1)
    obtain ⟨⟨mA, hns, hr⟩, _, _⟩ := (show ObjOk X.prog X.w H1 s1.heap d (exd d fs) from I1.hok d _ h2)
    obtain ⟨od, ho, hl⟩ := lookIn_ns hns
    obtain ⟨u, hu, ru⟩ := RelO.some_of (v := v) (o := mA f) (by rw [← l]; exact hr f)
    have J : PySem.W.InstAt s1.heap a _ C (some od) := ⟨g1, rfl, rfl, ho⟩
    exact HandSPX.exc_get I1.kIn J T.ga T.gg T.exC (PySem.W.findObj_own T.hdC hno rfl (by rw [hl, hu])) (handed_of ru) ⟨v, H1, I1.tok _, ru, q⟩
  · cases l
/-- isinstance(e, c) -/
def rIsV (K : PySem.W.Frag) : List V → Hp → VK → Prop := fun xs H Q => ∃ (a C : Addr) (fs : List (Str × V)) (c : V) (cv : Value) (b : Bool), xs = [.ref a, c] ∧ (∀ u, RelV c u → u = cv) ∧ ErV H a C fs ∧ ExcC K C ∧ PySem.W.kitOne K (.ref C) cv = some b ∧ Q (.bl b) H
theorem call_isV : CallR X (.builtin "isinstance") (rIsV X.K) := by
  intro pins s σ H xs us Q I r h
  obtain ⟨a, C, fs, c, cv, b, rfl, hcv, hv, T, e, q⟩ := h
  obtain ⟨u1, u2, rfl, r1, r2⟩ := vals2 r
  obtain rfl : u1 = Value.ref a := r1
  have ec := hcv _ r2
  subst ec
  obtain ⟨ox, od, J, ho⟩ := erv_inst I hv
  have hf : PySem.W.findObj X.K C od "__class__" = some (.bind (.builtin "getset_descriptor.__get__") (.builtin "object.__class__")) := by
    have hc : (PySem.W.clsIn X.K C).isSome = true := by
      obtain ⟨cd, hc, _⟩ := PySem.W.any_some T.hd
      rw [hc]
      rfl
    rcases ho with rfl | ⟨o, rfl⟩
    · exact PySem.W.findObj_dataN hc T.ha T.hn T.ht
    · exact PySem.W.findObj_data hc T.ha T.hn T.ht
  exact PySem.W.kia_one (PySem.BEx.kitx_err T.hg T.hk T.hs T.hd hf T.hm) I.kIn J e (fun z => nomatch z) fun tk => ⟨.bl b, H, I.kept (t' := tk) fun _ _ z => z, rfl, q⟩
end
end BV
set_option maxHeartbeats 4000000
/-! instructions, plainly -/
namespace PN
open PySem PySem.Spec PyProof.Rows L2 SX BB BD BQ
abbrev LO : Int := -9223372036854775808
abbrev HI : Int := 9223372036854775807
def isW (n : Int) : Bool := decide (LO ≤ n) && decide (n ≤ HI)
def kindL : List Str := ["halt", "const", "copy", "add", "sub", "mul", "addc", "load", "store", "get", "put", "out", "jump", "less", "same", "call", "back", "watch"]
def kindS (j : Nat) : Str := kindL.getD j ""
/-- r 114, k 107, b 98, n 110, f 102, c 99, p 112 -/
def letL : List (List Nat) := [[], [114, 107], [114, 114], [114, 114, 114], [114, 114, 114], [114, 114, 114], [114, 114, 107], [114, 114, 98, 110, 102], [114, 114, 98, 110, 102], [114, 99], [99, 114], [114], [112], [114, 114, 112], [114, 114, 112], [112], [], [114, 102]]
def lets (j : Nat) : List Nat := letL.getD j []
def opsS : List (Str × Str) := [("halt", ""), ("const", "rk"), ("copy", "rr"), ("add", "rrr"), ("sub", "rrr"), ("mul", "rrr"), ("addc", "rrk"), ("load", "rrbnf"), ("store", "rrbnf"), ("get", "rc"), ("put", "cr"), ("out", "r"), ("jump", "p"), ("less", "rrp"), ("same", "rrp"), ("call", "p"), ("back", ""), ("watch", "rf")]
def rowL : List Str := ["", "rk", "rr", "rrr", "rrr", "rrr", "rrk", "rrbnf", "rrbnf", "rc", "cr", "r", "p", "rrp", "rrp", "p", "", "rf"]
theorem kind_len : kindL.length = 18 := rfl
theorem ops_at : ∀ j, j < 18 → opsS.lookup (kindS j) = some (S (lets j)) := by decide +kernel
theorem row_at : ∀ j, j < 18 → rowL[j]? = some (S (lets j)) := by decide +kernel
theorem kind_at : ∀ j, j < 18 → kindL[j]? = some (kindS j) := by decide +kernel
theorem kind_idx : ∀ j, j < 18 → kindL.idxOf (kindS j) = j := by decide +kernel
theorem kind_mem : ∀ j, j < 18 → kindS j ∈ kindL := by decide +kernel
theorem kind_inj : ∀ i, i < 18 → ∀ j, j < 18 → kindS i = kindS j → i = j := by decide +kernel
theorem let_short : ∀ j, j < 18 → (lets j).length ≤ 5 := by decide +kernel
theorem let_in : ∀ j, j < 18 → ∀ c ∈ lets j, c ∈ [114, 107, 99, 112, 98, 110, 102] := by decide +kernel
theorem let_n : ∀ j, j < 18 → ∀ k, k < 5 → (lets j)[k]? = some 110 → 0 < k ∧ (lets j)[k - 1]? = some 98 := by decide +kernel
theorem let_b : ∀ j, j < 18 → ∀ k, k < 5 → (lets j)[k]? = some 98 → (lets j)[k + 1]? = some 110 := by decide +kernel
theorem lookup_map {ps : List (Str × Str)} {x : Str} : (ps.map fun p => (p.1, V.str p.2)).lookup x = (ps.lookup x).map V.str := by
  induction ps with
  | nil => rfl
  | cons p r ih =>
    obtain ⟨a, b⟩ := p
    simp only [List.map_cons, List.lookup]
    cases h : (x == a)
    · exact ih
    · rfl
/-- an operand within its bounds -/
def fitsZ (c : Nat) (o b T R C : Int) : Bool :=
  if c = 114 then decide (0 ≤ o) && decide (o < R) else if c = 107 then isW o else if c = 99 then decide (0 ≤ o) && decide (o < C) else if c = 112 then decide (0 ≤ o) && decide (o < T)
  else if c = 98 then decide (0 ≤ o) && (decide (1 ≤ b) && decide (o + b ≤ C)) else if c = 102 then decide (1 ≤ o) && decide (o ≤ 9999) else true
def Fit (ls : List Nat) (ops : List Int) (T R C : Int) : Prop := ∀ k, k < ls.length → fitsZ (ls.getD k 0) (ops.getD k 0) (ops.getD (k + 1) 0) T R C = true
instance (ls : List Nat) (ops : List Int) (T R C : Int) : Decidable (Fit ls ops T R C) := by unfold Fit; exact inferInstance
/-- decode -/
def decZ (xs : List Int) (place R C : Int) : Option (Nat × List Int) :=
  if 0 ≤ place ∧ place < xs.length ∧ 1 ≤ xs.getD place.toNat 0 ∧ xs.getD place.toNat 0 ≤ 18 then
    if ((xs.drop (place.toNat + 1)).take (lets (xs.getD place.toNat 0 - 1).toNat).length).length = (lets (xs.getD place.toNat 0 - 1).toNat).length ∧
        Fit (lets (xs.getD place.toNat 0 - 1).toNat) ((xs.drop (place.toNat + 1)).take (lets (xs.getD place.toNat 0 - 1).toNat).length) xs.length R C
    then some ((xs.getD place.toNat 0 - 1).toNat, (xs.drop (place.toNat + 1)).take (lets (xs.getD place.toNat 0 - 1).toNat).length) else none
  else none
/-- an instruction as slots -/
def enc (j : Nat) (ops : List Int) : List Int := ((j : Int) + 1) :: ops
/-- its tuple -/
def insV (j : Nat) (ops : List Int) : List V := .str (kindS j) :: ops.map V.int
structure Good (j : Nat) (ops : List Int) (T R C : Int) : Prop where
  jl : j < 18
  len : ops.length = (lets j).length
  fit : Fit (lets j) ops T R C
theorem getD_mid {pre post : List Int} {x : Int} {ops : List Int} : (pre ++ (x :: ops) ++ post).getD pre.length 0 = x := by
  simp [List.getD]
theorem drop_mid {pre post : List Int} {x : Int} {ops : List Int} : ((pre ++ (x :: ops) ++ post).drop (pre.length + 1)).take ops.length = ops := by
  rw [List.append_assoc, ← List.drop_drop, List.drop_left]
  simp
theorem dec_good {pre post : List Int} {j : Nat} {ops : List Int} {R C : Int} (g : Good j ops (pre ++ enc j ops ++ post).length R C) : decZ (pre ++ enc j ops ++ post) pre.length R C = some (j, ops) := by
  have h0 : (pre ++ enc j ops ++ post).getD pre.length 0 = (j : Int) + 1 := getD_mid
  have hj := g.jl
  unfold decZ
  rw [show ((pre.length : Nat) : Int).toNat = pre.length by omega, h0]
  have e1 : ((j : Int) + 1 - 1).toNat = j := by omega
  rw [e1, ← g.len]
  have hd : ((pre ++ enc j ops ++ post).drop (pre.length + 1)).take ops.length = ops := drop_mid
  rw [hd]
  have hl : pre.length < (pre ++ enc j ops ++ post).length := by simp [enc]
  rw [if_pos ⟨by omega, by exact_mod_cast hl, by omega, by omega⟩, if_pos ⟨rfl, g.fit⟩]
theorem dec_bad {pre post : List Int} {j : Nat} {ops : List Int} {R C : Int} (hj : j < 18) (hl : ops.length = (lets j).length) (g : ¬ Fit (lets j) ops (pre ++ enc j ops ++ post).length R C) : decZ (pre ++ enc j ops ++ post) pre.length R C = none := by
  have h0 : (pre ++ enc j ops ++ post).getD pre.length 0 = (j : Int) + 1 := getD_mid
  unfold decZ
  rw [show ((pre.length : Nat) : Int).toNat = pre.length by omega, h0]
  have e1 : ((j : Int) + 1 - 1).toNat = j := by omega
  rw [e1, ← hl]
  have hd : ((pre ++ enc j ops ++ post).drop (pre.length + 1)).take ops.length = ops := drop_mid
  rw [hd]
  by_cases h : 0 ≤ (pre.length : Int) ∧ (pre.length : Int) < (pre ++ enc j ops ++ post).length ∧ 1 ≤ (j : Int) + 1 ∧ (j : Int) + 1 ≤ 18
  · rw [if_pos h, if_neg (fun z => g z.2)]
  · rw [if_neg h]
theorem dec_op {xs : List Int} {place : Nat} {R C : Int} (h : xs.getD place 0 < 1 ∨ 18 < xs.getD place 0) : decZ xs place R C = none := by
  unfold decZ
  rw [show ((place : Nat) : Int).toNat = place by omega, if_neg (fun z => by omega)]
theorem dec_out {xs : List Int} {place : Int} {R C : Int} (h : place < 0 ∨ (xs.length : Int) ≤ place) : decZ xs place R C = none := by
  unfold decZ
  rw [if_neg (fun z => by omega)]
/-- a slot short -/
theorem dec_cut {pre : List Int} {j : Nat} {ops : List Int} {R C : Int} (hl : ops.length + 1 = (lets j).length) : decZ (pre ++ enc j ops) pre.length R C = none := by
  have h0 : (pre ++ enc j ops).getD pre.length 0 = (j : Int) + 1 := by simp [enc, List.getD]
  unfold decZ
  rw [show ((pre.length : Nat) : Int).toNat = pre.length by omega, h0]
  have e1 : ((j : Int) + 1 - 1).toNat = j := by omega
  rw [e1]
  have hd : ((pre ++ enc j ops).drop (pre.length + 1)).take (lets j).length = ops := by
    rw [← hl, ← List.drop_drop, List.drop_left]
    show ops.take (ops.length + 1) = ops
    exact List.take_of_length_le (by omega)
  rw [hd]
  by_cases h : 0 ≤ (pre.length : Int) ∧ (pre.length : Int) < (pre ++ enc j ops).length ∧ 1 ≤ (j : Int) + 1 ∧ (j : Int) + 1 ≤ 18
  · rw [if_pos h, if_neg (fun z => by omega)]
  · rw [if_neg h]
end PN
namespace PN
open PySem PySem.Spec PyProof.Rows L2 SX BB BD BQ
theorem lets_size {j : Nat} (hj : j < 18) : (S (lets j)).length ≤ sizeLine := by
  have := let_short j hj
  rw [S_len, sizeLine_eq]
  omega
def srcL : List (List Nat) := [[], [], [2], [2, 3], [2, 3], [2, 3], [2], [2], [1, 2], [], [2], [1], [], [1, 2], [1, 2], [], [], [1]]
/-- the places of an instruction's tuple that it reads -/
def srcOf (j : Nat) : List Nat := srcL.getD j []
def tgtL : List Str := ["const", "copy", "add", "sub", "mul", "addc", "load", "get", "watch"]
def accL : List Str := ["load", "store", "get", "put"]
def hasT (j : Nat) : Bool := [1, 2, 3, 4, 5, 6, 7, 9, 17].contains j
def isAcc (j : Nat) : Bool := [7, 8, 9, 10].contains j
theorem tgt_in : ∀ j, j < 18 → inV (.str (kindS j)) (tgtL.map V.str) = hasT j := by decide +kernel
theorem acc_in : ∀ j, j < 18 → inV (.str (kindS j)) (accL.map V.str) = isAcc j := by decide +kernel
theorem src_ok : ∀ j, j < 18 → ∀ k ∈ srcOf j, 1 ≤ k ∧ k ≤ (lets j).length := by decide +kernel
theorem tgt_ok : ∀ j, j < 18 → hasT j = true → 0 < (lets j).length := by decide +kernel
end PN
namespace PN
open PySem PySem.Spec PyProof.Rows L2 SX BB BD BQ
theorem cutV_nat (xs : List V) (a b : Nat) : cutV xs (some (a : Int)) (some (b : Int)) = (xs.drop a).take (b - a) := by
  unfold cutV
  rw [sIx_nat, sIx_nat]
  by_cases h : a ≤ xs.length
  · rw [Nat.min_eq_left h]
    by_cases h2 : b ≤ xs.length
    · rw [Nat.min_eq_left h2]
    · rw [Nat.min_eq_right (by omega), List.take_of_length_le (by rw [List.length_drop]; omega), List.take_of_length_le (by rw [List.length_drop]; omega)]
  · rw [Nat.min_eq_right (show xs.length ≤ a by omega), List.drop_length, List.drop_of_length_le (by omega), List.take_nil, List.take_nil]
theorem cutV_from (xs : List V) (a : Nat) : cutV xs (some (a : Int)) none = xs.drop a := by
  unfold cutV
  rw [sIx_nat, sIx_none]
  by_cases h : a ≤ xs.length
  · rw [Nat.min_eq_left h, List.take_of_length_le (by rw [List.length_drop]; omega)]
  · rw [Nat.min_eq_right (by omega), List.drop_length, List.drop_of_length_le (by omega), List.take_nil]
theorem cutV_to (xs : List V) (b : Nat) : cutV xs none (some (b : Int)) = xs.take b := by
  unfold cutV
  rw [sIx_nat, sIx_none, List.drop_zero, Nat.sub_zero]
  by_cases h : b ≤ xs.length
  · rw [Nat.min_eq_left h]
  · rw [Nat.min_eq_right (by omega), List.take_length, List.take_of_length_le (by omega)]
/-- an item of a list of numbers -/
theorem at_ints {xs : List Int} {k : Nat} (h : k < xs.length) : (xs.map V.int)[k]? = some (.int (xs.getD k 0)) := by
  simp [List.getD, h]
theorem dec_none {xs : List Int} {n j : Nat} {R C : Int} (ho : xs.getD n 0 = (j : Int) + 1) (h : ¬ (((xs.drop (n + 1)).take (lets j).length).length = (lets j).length ∧ Fit (lets j) ((xs.drop (n + 1)).take (lets j).length) xs.length R C)) : decZ xs n R C = none := by
  unfold decZ
  rw [show ((n : Nat) : Int).toNat = n by omega, ho, show ((j : Int) + 1 - 1).toNat = j by omega]
  by_cases q : 0 ≤ (n : Int) ∧ (n : Int) < xs.length ∧ 1 ≤ (j : Int) + 1 ∧ (j : Int) + 1 ≤ 18
  · rw [if_pos q, if_neg h]
  · rw [if_neg q]
theorem dec_some {xs : List Int} {n j : Nat} {R C : Int} (ho : xs.getD n 0 = (j : Int) + 1) (hn : n < xs.length) (hj : j < 18) (h1 : ((xs.drop (n + 1)).take (lets j).length).length = (lets j).length) (h2 : Fit (lets j) ((xs.drop (n + 1)).take (lets j).length) xs.length R C) :
    decZ xs n R C = some (j, (xs.drop (n + 1)).take (lets j).length) := by
  unfold decZ
  rw [show ((n : Nat) : Int).toNat = n by omega, ho, show ((j : Int) + 1 - 1).toNat = j by omega]
  rw [if_pos ⟨by omega, by omega, by omega, by omega⟩, if_pos ⟨h1, h2⟩]
end PN
namespace PN
theorem isW_of {n : Int} (h : LO ≤ n) (h' : n ≤ HI) : isW n = true := by
  unfold isW
  rw [decide_eq_true h, decide_eq_true h']
  rfl
end PN
set_option maxHeartbeats 4000000
/-! operands made one by one; edges -/
namespace PN
open PySem PySem.Spec PyProof.Rows L2 SX BB BD BQ
def valOk (T R C : Int) (c : Nat) (prev o : Int) : Prop :=
  (c = 114 → 0 ≤ o ∧ o < R) ∧ (c = 107 → isW o = true) ∧ (c = 99 → 0 ≤ o ∧ o < C) ∧ (c = 98 → 0 ≤ o ∧ o < C) ∧ (c = 110 → 1 ≤ o ∧ prev + o ≤ C) ∧ (c = 112 → 0 ≤ o ∧ o < T) ∧ (c = 102 → 1 ≤ o ∧ o ≤ 9999)
def prevOf (os : List Int) (k : Nat) : Int := if k = 0 then 0 else os.getD (k - 1) 0
inductive Mk (T R C : Int) : List Nat → List Int → Prop
  | nil : Mk T R C [] []
  | snoc {d : List Nat} {os : List Int} {c : Nat} {o : Int} : Mk T R C d os → valOk T R C c (prevOf os os.length) o → Mk T R C (d ++ [c]) (os ++ [o])
theorem Mk.length {T R C : Int} {d : List Nat} {os : List Int} (h : Mk T R C d os) : os.length = d.length := by
  induction h with
  | nil => rfl
  | snoc _ _ ih => simp [ih]
theorem getD_left {α : Type} {xs ys : List α} {k : Nat} {z : α} (h : k < xs.length) : (xs ++ ys).getD k z = xs.getD k z := by
  simp only [List.getD]
  rw [List.getElem?_append_left h]
theorem getD_last {α : Type} {xs : List α} {x z : α} : (xs ++ [x]).getD xs.length z = x := by
  simp [List.getD]
theorem prev_left {xs ys : List Int} {k : Nat} (h : k ≤ xs.length) : prevOf (xs ++ ys) k = prevOf xs k := by
  unfold prevOf
  by_cases h0 : k = 0
  · rw [if_pos h0, if_pos h0]
  · rw [if_neg h0, if_neg h0, getD_left (by omega)]
theorem Mk.at {T R C : Int} {d : List Nat} {os : List Int} (h : Mk T R C d os) : ∀ k, k < d.length → valOk T R C (d.getD k 0) (prevOf os k) (os.getD k 0) := by
  induction h with
  | nil => intro k hk; exact absurd hk (Nat.not_lt_zero _)
  | @snoc d os c o h1 h2 ih =>
    intro k hk
    have hl := h1.length
    have hk : k < d.length + 1 := by simpa using hk
    by_cases e : k = d.length
    · subst e
      rw [getD_last, show (os ++ [o]).getD d.length 0 = o by rw [← hl]; exact getD_last, prev_left (by omega), ← hl]
      exact h2
    · rw [getD_left (by omega), getD_left (by omega), prev_left (by omega)]
      exact ih k (by omega)
theorem getD_at {α : Type} {xs : List α} {k : Nat} {z : α} (h : k < xs.length) : xs[k]? = some (xs.getD k z) := by
  simp [List.getD, h]
/-- the whole row: within its bounds -/
theorem mk_good {T R C : Int} {j : Nat} {os : List Int} (hj : j < 18) (h : Mk T R C (lets j) os) : Good j os T R C := by
  have hl := h.length
  have h5 := let_short j hj
  refine ⟨hj, hl, fun k hk => ?_⟩
  have v := h.at k hk
  have hc := let_in j hj ((lets j).getD k 0) (by rw [List.getD, List.getElem?_eq_getElem hk]; exact List.getElem_mem hk)
  generalize ec : (lets j).getD k 0 = c at v hc
  have e? : (lets j)[k]? = some c := by rw [getD_at (z := 0) hk, ec]
  have hw : (lets j)[k + 1]? = some 110 → 1 ≤ os.getD (k + 1) 0 ∧ os.getD k 0 + os.getD (k + 1) 0 ≤ C := fun e1 => by
    obtain ⟨h1, e2⟩ := List.getElem?_eq_some_iff.mp e1
    have w := h.at (k + 1) h1
    rw [show (lets j).getD (k + 1) 0 = 110 by rw [List.getD, e1]; rfl] at w
    have w := w.2.2.2.2.1 rfl
    have ep : prevOf os (k + 1) = os.getD k 0 := by unfold prevOf; rw [if_neg (by omega)]; rfl
    rw [ep] at w
    exact w
  generalize os.getD k 0 = o at v hw ⊢
  generalize os.getD (k + 1) 0 = b at hw ⊢
  obtain ⟨v1, v2, v3, v4, v5, v6, v7⟩ := v
  simp only [List.mem_cons, List.mem_nil_iff, or_false] at hc
  rcases hc with rfl | rfl | rfl | rfl | rfl | rfl | rfl
  · have := v1 rfl
    simp [fitsZ, this.1, this.2]
  · simp [fitsZ, v2 rfl]
  · have := v3 rfl
    simp [fitsZ, this.1, this.2]
  · have := v6 rfl
    simp [fitsZ, this.1, this.2]
  · have := v4 rfl
    have w := hw (let_b j hj k (by omega) e?)
    simp [fitsZ, this.1, w.1, w.2]
  · rfl
  · have := v7 rfl
    simp [fitsZ, this.1, this.2]
end PN
namespace PN
open PySem PySem.Spec PyProof.Rows L2 SX BB BD BQ
def edg (c : Nat) (prev next T R C : Int) : List Int × List Int :=
  if c = 114 then ([0, R - 1], [-1, R]) else if c = 107 then ([LO, HI], [-9223372036854775809, 9223372036854775808]) else if c = 99 then ([0, C - 1], [-1, C]) else if c = 98 then ([0, C - next], [-1, C - next + 1])
  else if c = 110 then ([1, C - prev], [0, C - prev + 1]) else if c = 112 then ([0, T - 1], [-1, T]) else ([1, 9999], [0, 10000])
theorem getD_set {ops : List Int} {k i : Nat} {v : Int} (hk : k < ops.length) : (ops.set k v).getD i 0 = if i = k then v else ops.getD i 0 := by
  simp only [List.getD]
  rw [List.getElem?_set]
  by_cases h : k = i
  · subst h
    rw [if_pos rfl, if_pos hk, if_pos rfl]
    rfl
  · rw [if_neg h, if_neg (fun z => h z.symm)]
theorem fits_behind {c : Nat} {o b b' T R C : Int} (h : c ≠ 98) : fitsZ c o b T R C = fitsZ c o b' T R C := by
  unfold fitsZ
  rw [if_neg h, if_neg h]
theorem fits_b {o b T R C : Int} : fitsZ 98 o b T R C = true ↔ 0 ≤ o ∧ 1 ≤ b ∧ o + b ≤ C := by
  simp [fitsZ]
/-- where a letter is r, k, c, p or f: its own bounds alone -/
theorem fit_set {j : Nat} {ops : List Int} {T R C v : Int} {k : Nat} (g : Good j ops T R C) (hk : k < ops.length) (own : (lets j).getD k 0 ≠ 110 → fitsZ ((lets j).getD k 0) v (ops.getD (k + 1) 0) T R C = true)
    (two : (lets j).getD k 0 = 110 → 1 ≤ v ∧ ops.getD (k - 1) 0 + v ≤ C) : Good j (ops.set k v) T R C := by
  have hj := g.jl
  have hl := g.len
  have h5 := let_short j hj
  refine ⟨hj, by rw [List.length_set]; exact hl, fun i hi => ?_⟩
  rw [getD_set hk, getD_set hk]
  have F := g.fit i hi
  have ei : (lets j)[i]? = some ((lets j).getD i 0) := getD_at hi
  by_cases h : i = k
  · subst h
    rw [if_pos rfl, if_neg (by omega)]
    by_cases c1 : (lets j).getD i 0 = 110
    · rw [c1]; rfl
    · exact own c1
  · rw [if_neg h]
    by_cases h2 : i + 1 = k
    · subst h2
      rw [if_pos rfl]
      by_cases c1 : (lets j).getD i 0 = 98
      · have e1 := let_b j hj i (by omega) (by rw [ei, c1])
        have t := two (by rw [List.getD, e1]; rfl)
        rw [c1] at F ⊢
        have F := fits_b.mp F
        exact fits_b.mpr ⟨F.1, t.1, t.2⟩
      · rw [fits_behind c1 (b' := ops.getD (i + 1) 0)]
        exact F
    · rw [if_neg h2]
      exact F
theorem let_getD {j k : Nat} (hj : j < 18) (hk : k < (lets j).length) : (lets j).getD k 0 ∈ [114, 107, 99, 112, 98, 110, 102] := let_in j hj _ (by rw [List.getD, List.getElem?_eq_getElem hk]; exact List.getElem_mem hk)
theorem n_behind {j k : Nat} {ops : List Int} {T R C : Int} (g : Good j ops T R C) (hk : k < ops.length) (e : (lets j).getD k 0 = 110) : 0 < k ∧ (lets j).getD (k - 1) 0 = 98 ∧ 0 ≤ ops.getD (k - 1) 0 ∧ 1 ≤ ops.getD k 0 ∧ ops.getD (k - 1) 0 + ops.getD k 0 ≤ C := by
  have hj := g.jl
  have hl := g.len
  have h5 := let_short j hj
  obtain ⟨h0, h1⟩ := let_n j hj k (by omega) (by rw [getD_at (z := 0) (by omega), e])
  have e98 : (lets j).getD (k - 1) 0 = 98 := by rw [List.getD, h1]; rfl
  have F := g.fit (k - 1) (by omega)
  rw [e98, show k - 1 + 1 = k by omega] at F
  have F := fits_b.mp F
  exact ⟨h0, e98, F⟩
theorem two {v a b : Int} (h : v ∈ [a, b]) : v = a ∨ v = b := by simpa using h
theorem edg_good {j : Nat} {ops : List Int} {T R C v : Int} {k : Nat} (g : Good j ops T R C) (hT : 1 ≤ T) (hR : 1 ≤ R) (hk : k < ops.length) (hv : v ∈ (edg ((lets j).getD k 0) (ops.getD (k - 1) 0) (ops.getD (k + 1) 0) T R C).1) : Good j (ops.set k v) T R C := by
  have F := g.fit k (by rw [← g.len]; exact hk)
  have hc := let_getD g.jl (show k < (lets j).length by rw [← g.len]; exact hk)
  refine fit_set g hk (fun c1 => ?_) (fun c1 => ?_)
  · generalize ops.getD (k - 1) 0 = prev at hv
    generalize (lets j).getD k 0 = c at hc hv F c1 ⊢
    generalize ops.getD (k + 1) 0 = next at hv F ⊢
    generalize ops.getD k 0 = o at F
    simp only [List.mem_cons, List.mem_nil_iff, or_false] at hc
    rcases hc with rfl | rfl | rfl | rfl | rfl | rfl | rfl
    · rcases two (a := 0) (b := R - 1) hv with rfl | rfl <;> simp [fitsZ] <;> omega
    · rcases two (a := LO) (b := HI) hv with rfl | rfl <;> rfl
    · simp [fitsZ] at F
      rcases two (a := 0) (b := C - 1) hv with rfl | rfl <;> simp [fitsZ] <;> omega
    · rcases two (a := 0) (b := T - 1) hv with rfl | rfl <;> simp [fitsZ] <;> omega
    · have F := fits_b.mp F
      rcases two (a := 0) (b := C - next) hv with rfl | rfl <;> simp [fitsZ] <;> omega
    · exact absurd rfl c1
    · rcases two (a := 1) (b := 9999) hv with rfl | rfl <;> rfl
  · obtain ⟨_, _, h1, h2, h3⟩ := n_behind g hk c1
    rw [c1] at hv
    generalize ops.getD (k - 1) 0 = prev at *
    rcases two (a := 1) (b := C - prev) hv with hv | hv
    · subst hv; omega
    · subst hv; omega
theorem edg_bad {j : Nat} {ops : List Int} {T R C v : Int} {k : Nat} (g : Good j ops T R C) (hk : k < ops.length) (hv : v ∈ (edg ((lets j).getD k 0) (ops.getD (k - 1) 0) (ops.getD (k + 1) 0) T R C).2) : ¬ Fit (lets j) (ops.set k v) T R C := by
  intro G
  have hkl : k < (lets j).length := by rw [← g.len]; exact hk
  have hc := let_getD g.jl hkl
  by_cases c1 : (lets j).getD k 0 = 110
  · obtain ⟨h0, e98, h1, h2, h3⟩ := n_behind g hk c1
    have G := G (k - 1) (by omega)
    rw [getD_set hk, getD_set hk, if_neg (by omega), if_pos (by omega), e98] at G
    have G := fits_b.mp G
    rw [c1] at hv
    generalize ops.getD (k - 1) 0 = prev at *
    rcases two (a := 0) (b := C - prev + 1) hv with hv | hv
    · subst hv; omega
    · subst hv; omega
  · have G := G k hkl
    rw [getD_set hk, getD_set hk, if_pos rfl, if_neg (by omega)] at G
    generalize ops.getD (k - 1) 0 = prev at hv
    generalize (lets j).getD k 0 = c at hc hv G c1
    generalize ops.getD (k + 1) 0 = next at hv G
    simp only [List.mem_cons, List.mem_nil_iff, or_false] at hc
    rcases hc with rfl | rfl | rfl | rfl | rfl | rfl | rfl
    · rcases two (a := -1) (b := R) hv with rfl | rfl <;> simp [fitsZ] at G <;> omega
    · rcases two (a := -9223372036854775809) (b := 9223372036854775808) hv with rfl | rfl <;> cases (show false = true from G)
    · rcases two (a := -1) (b := C) hv with rfl | rfl <;> simp [fitsZ] at G <;> omega
    · rcases two (a := -1) (b := T) hv with rfl | rfl <;> simp [fitsZ] at G <;> omega
    · have G := fits_b.mp G
      rcases two (a := -1) (b := C - next + 1) hv with rfl | rfl <;> omega
    · exact absurd rfl c1
    · rcases two (a := 0) (b := 10000) hv with rfl | rfl <;> simp [fitsZ] at G <;> omega
end PN
namespace PN
theorem prev_last {ops : List Int} : prevOf ops ops.length = ops.getLastD 0 := by
  unfold prevOf
  by_cases h : ops.length = 0
  · rw [if_pos h, List.eq_nil_of_length_eq_zero h]
    rfl
  · rw [if_neg h, List.getLastD_eq_getLast?, List.getLast?_eq_getElem?, List.getD]
end PN
namespace PN
open PySem PySem.Spec PyProof.Rows L2 SX BB BD BQ
theorem let_acc : ∀ j, j < 18 → isAcc j = false → ∀ c ∈ lets j, c ∉ [99, 98] := by decide +kernel
theorem mk_prev {T R C : Int} {j : Nat} {d r : List Nat} {ops : List Int} (hj : j < 18) (el : lets j = d ++ 110 :: r) (mk : Mk T R C d ops) : ∃ prev, (insV j ops).getLast? = some (.int prev) ∧ prevOf ops ops.length = prev ∧ 0 ≤ prev ∧ prev < C := by
  have hl := mk.length
  have h5 := let_short j hj
  have hd : (lets j)[d.length]? = some 110 := by rw [el]; simp
  have hdl : d.length < 5 := by
    have := (List.getElem?_eq_some_iff.mp hd).1
    omega
  obtain ⟨h0, h1⟩ := let_n j hj _ hdl hd
  have h98 : d.getD (d.length - 1) 0 = 98 := by
    rw [el, List.getElem?_append_left (by omega)] at h1
    rw [List.getD, h1]
    rfl
  have v := mk.at (d.length - 1) (by omega)
  rw [h98] at v
  have v := v.2.2.2.1 rfl
  have ep : prevOf ops ops.length = ops.getD (d.length - 1) 0 := by
    unfold prevOf
    rw [if_neg (by omega), hl]
  refine ⟨_, ?_, ep, v⟩
  unfold insV
  rw [List.getLast?_cons, List.getLast?_eq_getElem?, List.length_map, ← hl]
  rw [at_ints (by omega)]
  rfl
end PN
namespace PN
open PySem PySem.Spec PyProof.Rows L2 SX BB BD BQ
def rdL : List Str := ["store", "out", "less", "same", "watch"]
def rdr (j : Nat) : Bool := [8, 11, 13, 14, 17].contains j
def rol (j k : Nat) : Bool := decide ((lets j).getD k 0 = 114) && (decide (0 < k) || rdr j)
theorem rd_in : ∀ j, j < 18 → inV (.str (kindS j)) (rdL.map V.str) = rdr j := by decide +kernel
theorem rol_src : ∀ j, j < 18 → ((List.range (lets j).length).filter (rol j)).map (· + 1) = srcOf j := by decide +kernel
def wrL : List Str := ["store", "out", "less", "same"]
def wrr (j : Nat) : Bool := [8, 11, 13, 14].contains j
theorem wr_in : ∀ j, j < 18 → inV (.str (kindS j)) (wrL.map V.str) = wrr j := by decide +kernel
theorem wr_tgt : ∀ j, j < 18 → (decide ((lets j).take 1 = [114]) && !wrr j) = hasT j := by decide +kernel
theorem acc4_in : ∀ j, j < 18 → inV (.str (kindS j)) (accL.map V.str) = isAcc j := acc_in
end PN
namespace PN
open PySem PySem.Spec PyProof.Rows L2 SX BB BD BQ
theorem S_inj {l m : List Nat} (h : S l = S m) : l = m := by
  have : (S l).cps.toList = (S m).cps.toList := by rw [h]
  rw [tlS, tlS] at this
  exact this
theorem str_ne {l m : List Nat} (h : l ≠ m) : decide (V.str (S l) = V.str (S m)) = false := decide_eq_false fun z => h (S_inj (V.str.inj z))
theorem sgn_ne {c d : Nat} (h : c ≠ d) : decide (V.str (S [c]) = V.str (S [d])) = false := str_ne fun z => h (List.cons.inj z).1
end PN
namespace PN
open PySem PySem.Spec PyProof.Rows L2 SX BB BD BQ
theorem set_slot {pre post : List Int} {j : Nat} {ops : List Int} {i : Nat} {v : Int} (h : i < ops.length) : (pre ++ enc j ops ++ post).set (pre.length + 1 + i) v = pre ++ enc j (ops.set i v) ++ post := by
  rw [List.append_assoc, List.set_append_right _ _ (by omega), show pre.length + 1 + i - pre.length = i + 1 by omega, List.set_append_left _ _ (by simp [enc]; omega)]
  rw [List.append_assoc]
  rfl
theorem set_op {pre post : List Int} {j : Nat} {ops : List Int} {v : Int} : ((pre ++ enc j ops ++ post).set pre.length v).getD pre.length 0 = v := by
  rw [List.getD, List.getElem?_set_self (by simp [enc])]
  rfl
theorem len_enc {pre post : List Int} {j : Nat} {ops ops' : List Int} (h : ops'.length = ops.length) : (pre ++ enc j ops' ++ post).length = (pre ++ enc j ops ++ post).length := by
  simp [enc, h]
theorem dec_good' {pre post : List Int} {j : Nat} {ops ops' : List Int} {R C : Int} (h : ops'.length = ops.length) (g : Good j ops' (pre ++ enc j ops ++ post).length R C) : decZ (pre ++ enc j ops' ++ post) pre.length R C = some (j, ops') := by
  refine dec_good ?_
  rw [len_enc h]
  exact g
theorem dec_bad' {pre post : List Int} {j : Nat} {ops ops' : List Int} {R C : Int} (hj : j < 18) (hl : ops'.length = (lets j).length) (h : ops'.length = ops.length) (g : ¬ Fit (lets j) ops' (pre ++ enc j ops ++ post).length R C) : decZ (pre ++ enc j ops' ++ post) pre.length R C = none := by
  refine dec_bad hj hl ?_
  rw [len_enc h]
  exact g
theorem dec_short {pre post : List Int} {j : Nat} {ops : List Int} {R C : Int} (hl : ops.length = (lets j).length) : decZ ((pre ++ enc j ops ++ post).take (pre.length + ops.length)) pre.length R C = none := by
  have e : (pre ++ enc j ops ++ post).take (pre.length + ops.length) = pre ++ (enc j ops).take ops.length := by
    rw [List.append_assoc, List.take_append, List.take_of_length_le (by omega), show pre.length + ops.length - pre.length = ops.length by omega, List.take_append_of_le_length (by simp [enc])]
  rw [e]
  by_cases h : ops.length = 0
  · rw [h, List.take_zero, List.append_nil]
    exact dec_out (.inr (by omega))
  · have e2 : (enc j ops).take ops.length = enc j (ops.take (ops.length - 1)) := by
      obtain ⟨n, hn⟩ : ∃ n, ops.length = n + 1 := ⟨ops.length - 1, by omega⟩
      rw [hn]
      rfl
    rw [e2]
    exact dec_cut (by rw [List.length_take]; omega)
theorem insV_set {j : Nat} {ops : List Int} {i : Nat} {v : Int} (h : i < ops.length) : (insV j ops).take (i + 1) ++ [V.int v] ++ (insV j ops).drop (i + 2) = insV j (ops.set i v) := by
  unfold insV
  rw [List.take_succ_cons, show i + 2 = (i + 1) + 1 from rfl, List.drop_succ_cons, List.set_eq_take_append_cons_drop, if_pos h, List.map_append, List.map_cons, List.map_take, List.map_drop]
  simp
theorem ixN_nat {n k : Nat} (h : k < n) : ixN n (k : Int) = some k := by
  unfold ixN
  rw [if_pos (by omega), if_pos (by omega)]
  congr 1
theorem set_ints {xs : List Int} {k : Nat} {v : Int} : (xs.map V.int).set k (.int v) = (xs.set k v).map V.int := by
  rw [List.map_set]
end PN
namespace PN
open PySem PySem.Spec PyProof.Rows L2 SX BB BD BQ
theorem paired_choose {α β γ : Type} {G : α → γ → Prop} {F : γ → β → Prop} {xs : List α} {ys : List β} (h : Paired (fun x y => ∃ r, G x r ∧ F r y) xs ys) : ∃ rs, Paired G xs rs ∧ Paired F rs ys := by
  induction h with
  | nil => exact ⟨[], .nil, .nil⟩
  | cons h1 _ ih =>
    obtain ⟨r, g, f⟩ := h1
    obtain ⟨rs, gs, fs⟩ := ih
    exact ⟨r :: rs, .cons g gs, .cons f fs⟩
theorem paired_mapL {α β γ : Type} {F : α → β → Prop} {f : γ → α} : ∀ {xs : List γ} {ys : List β}, Paired F (xs.map f) ys → Paired (fun x y => F (f x) y) xs ys
  | [], _, h => by
    cases h
    exact .nil
  | x :: xs, _, h => by
    cases h with
    | cons h1 h2 => exact .cons h1 (paired_mapL h2)
theorem paired_at {α β : Type} {F : α → β → Prop} {xs : List α} {ys : List β} (h : Paired F xs ys) : ∀ {i : Nat} {y : β}, ys[i]? = some y → ∃ x, xs[i]? = some x ∧ F x y := by
  induction h with
  | nil =>
    intro i y e
    cases e
  | @cons a b l1 l2 h1 _ ih =>
    intro i y e
    cases i with
    | zero =>
      cases e
      exact ⟨a, rfl, h1⟩
    | succ i => exact ih (i := i) e
/-- the slots of a row of instructions -/
def flat (rs : List (Nat × List Int)) : List Int := rs.flatMap fun r => enc r.1 r.2
def off (rs : List (Nat × List Int)) (k : Nat) : Nat := (flat (rs.take k)).length
theorem flat_split {rs : List (Nat × List Int)} {k : Nat} {r : Nat × List Int} (h : rs[k]? = some r) : flat rs = flat (rs.take k) ++ enc r.1 r.2 ++ flat (rs.drop (k + 1)) := by
  obtain ⟨hk, e⟩ := List.getElem?_eq_some_iff.mp h
  unfold flat
  conv => lhs; rw [← List.take_append_drop k rs]
  rw [List.flatMap_append, List.drop_eq_getElem_cons hk, e, List.flatMap_cons, List.append_assoc]
theorem flat_take {rs : List (Nat × List Int)} {k : Nat} {r : Nat × List Int} (h : rs[k]? = some r) : flat (rs.take (k + 1)) = flat (rs.take k) ++ enc r.1 r.2 := by
  obtain ⟨hk, e⟩ := List.getElem?_eq_some_iff.mp h
  unfold flat
  rw [List.take_succ_eq_append_getElem hk, List.flatMap_append, e]
  simp
theorem flat_len : ∀ {rs : List (Nat × List Int)}, (∀ r ∈ rs, r.2.length = (lets r.1).length) → ((flat rs).length : Int) = ((rs.map fun r => (1 : Int) + ((lets r.1).length : Nat))).sum
  | [], _ => rfl
  | r :: rs, h => by
    have ih := flat_len (rs := rs) fun x hx => h x (List.mem_cons_of_mem _ hx)
    have h1 := h r List.mem_cons_self
    unfold flat at ih ⊢
    rw [List.flatMap_cons, List.length_append, List.map_cons, List.sum_cons, ← ih]
    have e1 : (enc r.1 r.2).length = r.2.length + 1 := rfl
    omega
theorem kinds_ok : ∀ x ∈ kindL, PyData.strOk x = true := by decide +kernel
end PN
namespace PN
open PySem PySem.Spec PyProof.Rows L2 SX BB BD BQ
theorem paired_vals {α β : Type} {f : β → V} {xs : List α} {ys : List V} {P : α → β → Prop} (h : Paired (fun x y => ∃ z, y = f z ∧ P x z) xs ys) : ∃ zs : List β, ys = zs.map f ∧ Paired P xs zs := by
  induction h with
  | nil => exact ⟨[], rfl, .nil⟩
  | cons h1 _ ih =>
    obtain ⟨z, rfl, p⟩ := h1
    obtain ⟨zs, rfl, q⟩ := ih
    exact ⟨z :: zs, rfl, .cons p q⟩
theorem filter_true {α : Type} {l : List α} : l.filter (fun _ => true) = l := List.filter_eq_self.mpr fun _ _ => rfl
end PN
namespace PN
open PySem PySem.Spec PyProof.Rows L2 SX BB BD BQ
theorem sb_tup {K : PySem.W.Frag} {D p : Addr} {H H' : Hp} {xs : List V} (s : SB D H H') (d : ∃ zs, H D = some (.lst zs)) (h : SqT K H p xs) : SqT K H' p xs := by
  obtain ⟨zs, d⟩ := d
  rcases h with (h | ⟨o, h⟩) | h
  · exact .inl (.inl (s _ _ (ne_of h d (by intro z; cases z)) h))
  · exact .inl (.inr ⟨o, s _ _ (ne_of h d (by intro z; cases z)) h⟩)
  · exact .inr h
theorem sums_of {js : List Nat} (hj : ∀ j ∈ js, j < 18) : ∀ {zs : List Int}, Paired (fun (x : V) (z : Int) => ∀ j, j < 18 → x = V.str (kindS j) → z = 1 + ((lets j).length : Nat)) (js.map fun j => V.str (kindS j)) zs → zs = js.map fun j => (1 : Int) + ((lets j).length : Nat) := by
  induction js with
  | nil =>
    intro zs h
    cases h
    rfl
  | cons j js ih =>
    intro zs h
    cases h with
    | cons h1 h2 =>
      rw [List.map_cons, h1 j (hj j List.mem_cons_self) rfl, ih (fun x hx => hj x (List.mem_cons_of_mem _ hx)) h2]
theorem recs_of {js : List Nat} {G : Nat → List Int → Prop} {rs : List (Nat × List Int)} (h : Paired (fun (x : V) (r : Nat × List Int) => ∀ k : Nat, x = V.int (0 + (k : Int)) → js[k]? = some r.1 ∧ G r.1 r.2) ((List.range js.length).map fun k => V.int (0 + (k : Nat))) rs) : rs.map (·.1) = js ∧ ∀ r ∈ rs, G r.1 r.2 := by
  have hl := h.length
  rw [List.length_map, List.length_range] at hl
  have h2 := paired_mapL h
  have at_ : ∀ (k : Nat) (r : Nat × List Int), rs[k]? = some r → js[k]? = some r.1 ∧ G r.1 r.2 := fun k r e => by
    obtain ⟨x, hx, f⟩ := paired_at h2 e
    have hk : k < js.length := by
      have := (List.getElem?_eq_some_iff.mp e).1
      omega
    rw [List.getElem?_range hk] at hx
    cases hx
    exact f k rfl
  refine ⟨List.ext_getElem? fun k => ?_, fun r hr => ?_⟩
  · rw [List.getElem?_map]
    cases e : rs[k]? with
    | none =>
      have := List.getElem?_eq_none_iff.mp e
      rw [Option.map_none, List.getElem?_eq_none (by omega)]
    | some r =>
      rw [(at_ k r e).1]
      rfl
  · obtain ⟨k, hk⟩ := List.getElem?_of_mem hr
    exact (at_ k r hk).2
end PN
namespace PN
open PySem PySem.Spec PyProof.Rows L2 SX BB BD BQ
theorem flat_le : ∀ {rs : List (Nat × List Int)}, (∀ r ∈ rs, r.2.length ≤ 5) → (flat rs).length ≤ 6 * rs.length
  | [], _ => Nat.le_refl _
  | r :: rs, h => by
    have ih := flat_le (rs := rs) fun x hx => h x (List.mem_cons_of_mem _ hx)
    have h1 := h r List.mem_cons_self
    unfold flat at ih ⊢
    rw [List.flatMap_cons, List.length_append, List.length_cons]
    have e1 : (enc r.1 r.2).length = r.2.length + 1 := rfl
    omega
theorem range_snoc {f : Nat → V} {i : Nat} : ((List.range i).map f) ++ [f i] = (List.range (i + 1)).map f := by
  rw [List.range_succ, List.map_append]
  rfl
theorem put_ne {H : Hp} {a l : Addr} {xs ys zs : List V} (hl : H l = some (.lst ys)) (n : a ≠ l) (h : H a = some (.lst xs)) : upd H l (.lst zs) a = some (.lst xs) := by rw [upd_ne n]; exact h
end PN
set_option maxHeartbeats 4000000
/-! == of nested data that is the same -/
namespace BZ
open PySem PySem.Spec PyProof.Rows L2 SX BB BQ
def Sh (n : Nat) (d : PyData) : Prop := d.canLay0 = true ∧ d.depth ≤ n
theorem Sh.mono {n m : Nat} {d : PyData} (h : Sh n d) (l : n ≤ m) : Sh m d := ⟨h.1, Nat.le_trans h.2 l⟩
theorem sh_all {n : Nat} : ∀ {ds : List PyData}, (∀ d ∈ ds, Sh n d) → PyData.canLayAll0 ds = true ∧ PyData.depthAll ds ≤ n
  | [], _ => ⟨by rw [PyData.canLayAll0], by rw [PyData.depthAll]; exact Nat.zero_le _⟩
  | d :: ds, h => by
    have h1 := h d List.mem_cons_self
    have h2 := sh_all fun x hx => h x (List.mem_cons_of_mem _ hx)
    refine ⟨?_, ?_⟩
    · rw [PyData.canLayAll0, h1.1, h2.1]; rfl
    · rw [PyData.depthAll]
      exact Nat.max_le.mpr ⟨h1.2, h2.2⟩
theorem Sh.list {n : Nat} {ds : List PyData} (h : ∀ d ∈ ds, Sh n d) : Sh (n + 1) (.list ds) := ⟨by rw [PyData.canLay0]; exact (sh_all h).1, by rw [PyData.depth]; exact Nat.succ_le_succ (sh_all h).2⟩
theorem Sh.tuple {n : Nat} {ds : List PyData} (h : ∀ d ∈ ds, Sh n d) : Sh (n + 1) (.tuple ds) := ⟨by rw [PyData.canLay0]; exact (sh_all h).1, by rw [PyData.depth]; exact Nat.succ_le_succ (sh_all h).2⟩
theorem Sh.int {n : Nat} {i : Int} : Sh n (.int i) := ⟨by rw [PyData.canLay0], by rw [PyData.depth]; exact Nat.zero_le _⟩
theorem Sh.bl {n : Nat} {i : Bool} : Sh n (.bool i) := ⟨by rw [PyData.canLay0], by rw [PyData.depth]; exact Nat.zero_le _⟩
theorem Sh.non {n : Nat} : Sh n .none := ⟨by rw [PyData.canLay0], by rw [PyData.depth]; exact Nat.zero_le _⟩
theorem Sh.str {n : Nat} {x : Str} (h : PyData.strOk x = true) : Sh n (.str x) := ⟨by rw [PyData.canLay0]; exact h, by rw [PyData.depth]; exact Nat.zero_le _⟩
theorem Sh.shaped {d : PyData} (h : Sh 64 d) : SeqAt.shaped d = true := by
  show (d.canLay0 && decide (d.depth ≤ 64)) = true
  rw [h.1, decide_eq_true h.2]
  rfl
theorem Sh.refl {n : Nat} {d : PyData} (h : Sh n d) : PyData.eqv d d = true := PySem.SeqAt.eqv_refl d h.1
section
variable {K : PySem.W.Frag} {H : Hp} {x y : V} {d e : PyData} {Q : VK}
theorem ne_same (h1 : Dp K H x d) (h2 : Dp K H y d) (s : Sh 64 d) (q : Q (.bl false) H) : rNeD K x y H Q := ⟨d, d, h1, h2, s.shaped, s.shaped, by rw [s.refl]; exact q⟩
theorem eq_same (h1 : Dp K H x d) (h2 : Dp K H y d) (s : Sh 64 d) (q : Q (.bl true) H) : rEqD K x y H Q := ⟨d, d, h1, h2, s.shaped, s.shaped, by rw [s.refl]; exact q⟩
theorem dpAll {α : Type} {f : α → V} {g : α → PyData} : ∀ {xs : List α}, (∀ x ∈ xs, Dp K H (f x) (g x)) → DpAll K H (xs.map f) (xs.map g)
  | [], _ => .nil
  | x :: xs, h => .cons (h x List.mem_cons_self) (dpAll fun y hy => h y (List.mem_cons_of_mem _ hy))
theorem dpPaired {F : V → PyData → Prop} {vs : List V} {ds : List PyData} (h : Paired F vs ds) (w : ∀ v d, F v d → Dp K H v d) : DpAll K H vs ds := by
  induction h with
  | nil => exact .nil
  | cons h1 _ ih => exact .cons (w _ _ h1) ih
abbrev dInts (xs : List Int) : PyData := .list (xs.map .int)
abbrev dStrs (xs : List Str) : PyData := .list (xs.map .str)
theorem dp_ints {a : Addr} {xs : List Int} (h : SqL K H a (xs.map V.int)) : Dp K H (.ref a) (dInts xs) := .lst h (dpAll fun x _ => .int x)
theorem dp_strs {a : Addr} {xs : List Str} (h : SqL K H a (xs.map V.str)) : Dp K H (.ref a) (dStrs xs) := .lst h (dpAll fun x _ => .str x)
theorem sh_ints {n : Nat} {xs : List Int} : Sh (n + 1) (dInts xs) := .list fun d hd => by
  obtain ⟨x, _, rfl⟩ := List.mem_map.mp hd
  exact .int
theorem sh_strs {n : Nat} {xs : List Str} (h : ∀ x ∈ xs, PyData.strOk x = true) : Sh (n + 1) (dStrs xs) := .list fun d hd => by
  obtain ⟨x, hx, rfl⟩ := List.mem_map.mp hd
  exact .str (h x hx)
theorem ne_ints {a b : Addr} {xs : List Int} (h1 : SqL K H a (xs.map V.int)) (h2 : SqL K H b (xs.map V.int)) (q : Q (.bl false) H) : rNeD K (.ref a) (.ref b) H Q := ne_same (dp_ints h1) (dp_ints h2) sh_ints q
theorem eq_ints {a b : Addr} {xs : List Int} (h1 : SqL K H a (xs.map V.int)) (h2 : SqL K H b (xs.map V.int)) (q : Q (.bl true) H) : rEqD K (.ref a) (.ref b) H Q := eq_same (dp_ints h1) (dp_ints h2) sh_ints q
end

mutual
theorem dp_same {K : PySem.W.Frag} {H H' : Hp} (s : Same H H') : ∀ {v : V} {d : PyData}, Dp K H v d → Dp K H' v d
  | _, _, .non => .non
  | _, _, .bl b => .bl b
  | _, _, .int i => .int i
  | _, _, .str x => .str x
  | _, _, .lst h a => .lst (same_lst s h) (dpAll_same s a)
  | _, _, .tup h a => .tup (same_tup s h) (dpAll_same s a)
theorem dpAll_same {K : PySem.W.Frag} {H H' : Hp} (s : Same H H') : ∀ {vs : List V} {ds : List PyData}, DpAll K H vs ds → DpAll K H' vs ds
  | _, _, .nil => .nil
  | _, _, .cons h r => .cons (dp_same s h) (dpAll_same s r)
end
abbrev tInts (xs : List Int) : PyData := .tuple (xs.map .int)
theorem dp_tints {K : PySem.W.Frag} {H : Hp} {a : Addr} {xs : List Int} (h : SqT K H a (xs.map V.int)) : Dp K H (.ref a) (tInts xs) := .tup h (dpAll fun x _ => .int x)
theorem sh_tints {n : Nat} {xs : List Int} : Sh (n + 1) (tInts xs) := .tuple fun d hd => by
  obtain ⟨x, _, rfl⟩ := List.mem_map.mp hd
  exact .int

/-! data of tuples, numbers and texts alone -/
mutual
inductive TD (K : PySem.W.Frag) (H : Hp) : V → PyData → Prop
  | int (i : Int) : TD K H (.int i) (.int i)
  | str (x : Str) : TD K H (.str x) (.str x)
  | tup {a : Addr} {xs : List V} {ds : List PyData} : SqT K H a xs → TDAll K H xs ds → TD K H (.ref a) (.tuple ds)
inductive TDAll (K : PySem.W.Frag) (H : Hp) : List V → List PyData → Prop
  | nil : TDAll K H [] []
  | cons {v : V} {vs : List V} {d : PyData} {ds : List PyData} : TD K H v d → TDAll K H vs ds → TDAll K H (v :: vs) (d :: ds)
end
mutual
theorem TD.imp {K : PySem.W.Frag} {H H' : Hp} (w : ∀ a xs, SqT K H a xs → SqT K H' a xs) : ∀ {v : V} {d : PyData}, TD K H v d → TD K H' v d
  | _, _, .int i => .int i
  | _, _, .str x => .str x
  | _, _, .tup h a => .tup (w _ _ h) (TDAll.imp w a)
theorem TDAll.imp {K : PySem.W.Frag} {H H' : Hp} (w : ∀ a xs, SqT K H a xs → SqT K H' a xs) : ∀ {vs : List V} {ds : List PyData}, TDAll K H vs ds → TDAll K H' vs ds
  | _, _, .nil => .nil
  | _, _, .cons h r => .cons (TD.imp w h) (TDAll.imp w r)
end
mutual
theorem TD.dp {K : PySem.W.Frag} {H : Hp} : ∀ {v : V} {d : PyData}, TD K H v d → Dp K H v d
  | _, _, .int i => .int i
  | _, _, .str x => .str x
  | _, _, .tup h a => .tup h (TDAll.dp a)
theorem TDAll.dp {K : PySem.W.Frag} {H : Hp} : ∀ {vs : List V} {ds : List PyData}, TDAll K H vs ds → DpAll K H vs ds
  | _, _, .nil => .nil
  | _, _, .cons h r => .cons (TD.dp h) (TDAll.dp r)
end
theorem td_same {K : PySem.W.Frag} {H H' : Hp} {v : V} {d : PyData} (s : Same H H') (h : TD K H v d) : TD K H' v d := h.imp fun _ _ h => same_tup s h
theorem tds_same {K : PySem.W.Frag} {H H' : Hp} {vs : List V} {ds : List PyData} (s : Same H H') (h : TDAll K H vs ds) : TDAll K H' vs ds := h.imp fun _ _ h => same_tup s h
theorem tup_sb {K : PySem.W.Frag} {D p : Addr} {H H' : Hp} {xs : List V} (s : SB D H H') (d : ∃ zs, H D = some (.lst zs)) (h : SqT K H p xs) : SqT K H' p xs := by
  obtain ⟨zs, d⟩ := d
  rcases h with (h | ⟨o, h⟩) | h
  · exact .inl (.inl (s _ _ (ne_of h d (by intro z; cases z)) h))
  · exact .inl (.inr ⟨o, s _ _ (ne_of h d (by intro z; cases z)) h⟩)
  · exact .inr h
theorem td_sb {K : PySem.W.Frag} {H H' : Hp} {D : Addr} {v : V} {d : PyData} (s : SB D H H') (hd : ∃ zs, H D = some (.lst zs)) (h : TD K H v d) : TD K H' v d := h.imp fun _ _ h => tup_sb s hd h
theorem tds_of {K : PySem.W.Frag} {H : Hp} {α : Type} {P : PyData → Prop} {xs : List α} {ys : List V} (h : Paired (fun _ y => ∃ d, TD K H y d ∧ P d) xs ys) : ∃ ds, TDAll K H ys ds ∧ ∀ d ∈ ds, P d := by
  induction h with
  | nil => exact ⟨[], .nil, by simp⟩
  | cons h1 _ ih =>
    obtain ⟨d, h1, p⟩ := h1
    obtain ⟨ds, h2, q⟩ := ih
    exact ⟨d :: ds, .cons h1 h2, fun x hx => by
      rcases List.mem_cons.mp hx with e | e
      · rw [e]; exact p
      · exact q x e⟩
end BZ
set_option maxHeartbeats 4000000
/-! an image as it stands -/
namespace BI
open PySem PySem.Spec PyProof.Rows L2 SX BB BQ BC
def imgFs (a1 a2 : Addr) (R : Int) (a3 a4 : Addr) : List (Str × V) := [("slots", .ref a1), ("cells", .ref a2), ("registers", .int R), ("entries", .ref a3), ("claims", .ref a4)]
theorem imgFs_put (a1 a2 : Addr) (R : Int) (a3 a4 : Addr) : putF "claims" (.ref a4) (putF "entries" (.ref a3) (putF "registers" (.int R) (putF "cells" (.ref a2) (putF "slots" (.ref a1) [])))) = imgFs a1 a2 R a3 a4 := by
  rfl
def ImgAt (K : PySem.W.Frag) (C : Addr) (H : Hp) (p : Addr) (sl ce : List Int) (R : Int) (en cl : List V) : Prop :=
  ∃ dx a1 a2 a3 a4, H p = some (.ins C dx (imgFs a1 a2 R a3 a4)) ∧ SqT K H a1 (sl.map V.int) ∧ SqT K H a2 (ce.map V.int) ∧ SqT K H a3 en ∧ SqT K H a4 cl
theorem ImgAt.same {K : PySem.W.Frag} {C : Addr} {H H' : Hp} {p : Addr} {sl ce : List Int} {R : Int} {en cl : List V} (s : Same H H') (h : ImgAt K C H p sl ce R en cl) : ImgAt K C H' p sl ce R en cl := by
  obtain ⟨dx, a1, a2, a3, a4, h0, h1, h2, h3, h4⟩ := h
  exact ⟨dx, a1, a2, a3, a4, s _ _ h0, same_tup s h1, same_tup s h2, same_tup s h3, same_tup s h4⟩
/-- an instance changes, tuples stand -/
theorem ins_tup {K : PySem.W.Frag} {H : Hp} {p a C dx : Addr} {fs gs : List (Str × V)} {xs : List V} (hp : H p = some (.ins C dx fs)) (h : SqT K H a xs) : SqT K (upd H p (.ins C dx gs)) a xs := by
  rcases h with (h | ⟨o, h⟩) | h
  · exact .inl (.inl (by rw [upd_ne (ne_of h hp (by intro z; cases z))]; exact h))
  · exact .inl (.inr ⟨o, by rw [upd_ne (ne_of h hp (by intro z; cases z))]; exact h⟩)
  · exact .inr h
theorem ins_lst {K : PySem.W.Frag} {H : Hp} {p a C dx : Addr} {fs gs : List (Str × V)} {xs : List V} (hp : H p = some (.ins C dx fs)) (h : SqL K H a xs) : SqL K (upd H p (.ins C dx gs)) a xs := by
  rcases h with (h | ⟨o, h⟩) | h
  · exact .inl (.inl (by rw [upd_ne (ne_of h hp (by intro z; cases z))]; exact h))
  · exact .inl (.inr ⟨o, by rw [upd_ne (ne_of h hp (by intro z; cases z))]; exact h⟩)
  · exact .inr h
theorem ins_sqa {K : PySem.W.Frag} {H : Hp} {p a C dx : Addr} {fs gs : List (Str × V)} {xs : List V} (hp : H p = some (.ins C dx fs)) (h : SqA K H a xs) : SqA K (upd H p (.ins C dx gs)) a xs := h.elim (fun h => .inl (ins_lst hp h)) fun h => .inr (ins_tup hp h)
theorem sb_upd {H : Hp} {p : Addr} {o : HO} : SB p H (upd H p o) := fun b u n e => by rw [upd_ne n]; exact e
theorem sbT {p : Addr} {H H1 H2 : Hp} (h : SB p H H1) (h' : SB p H1 H2) : SB p H H2 := fun b u n e => h' b u n (h b u n e)
theorem sbOf {p : Addr} {H H1 : Hp} (h : Same H H1) : SB p H H1 := fun b u _ e => h b u e
/-- behind the making of an instance -/
theorem made_same {H H' : Hp} {x dx C : Addr} (nx : H x = Option.none) (nd : H dx = Option.none) (s : SB x (upd (upd H dx (.own x)) x (.ins C dx [])) H') : Same H H' := fun b u e => by
  have n1 : b ≠ x := fun z => by rw [z, nx] at e; cases e
  have n2 : b ≠ dx := fun z => by rw [z, nd] at e; cases e
  exact s b u n1 (by rw [upd_ne n1, upd_ne n2]; exact e)
theorem made_same0 {H : Hp} {x dx C : Addr} (nx : H x = Option.none) (nd : H dx = Option.none) : Same H (upd (upd H dx (.own x)) x (.ins C dx [])) := fun b u e => by
  have n1 : b ≠ x := fun z => by rw [z, nx] at e; cases e
  have n2 : b ≠ dx := fun z => by rw [z, nd] at e; cases e
  rw [upd_ne n1, upd_ne n2]
  exact e
end BI
set_option maxHeartbeats 4000000
set_option pp.deepTerms false
set_option pp.deepTerms.threshold 3
namespace K88
open PySem PySem.Spec PyProof.Rows L2 SX BB BD BQ BS BE PN BZ BC BI BV
def topS (i : Nat) : Stmt := PySem.Challenge.pw_beatsbounded_k88_images_and_errors.main.body.getD i (.Pass ⟨0, 0, 0, 0⟩)
theorem iteN {k : Bool} {A B : Prop} (h : k = false) (b : B) : if k = true then A else B := by rw [h]; exact iteF b
theorem iteY {k : Bool} {A B : Prop} (h : k = true) (a : A) : if k = true then A else B := by rw [h]; exact iteT a
/-- where the tables of the top stand -/
structure Top where
  (aK aO CI : Addr)
structure Txt (K : PySem.W.Frag) (w : World) (mg : Str → Option Value) (X : Top) : Prop where
  b_len : mg "len" = none
  b_int : mg "int" = none
  b_bool : mg "bool" = none
  b_list : mg "list" = none
  b_tuple : mg "tuple" = none
  b_abs : mg "abs" = none
  b_max : mg "max" = none
  b_range : mg "range" = none
  b_isinstance : mg "isinstance" = none
  b_ValueError : mg "ValueError" = none
  c_LOW : ∃ u, mg "LOW" = some u ∧ RelV (.int (-9223372036854775808)) u
  c_HIGH : ∃ u, mg "HIGH" = some u ∧ RelV (.int 9223372036854775807) u
  c_MOST_CODE : ∃ u, mg "MOST_CODE" = some u ∧ RelV (.int 9999) u
  c_KINDS : ∃ u, mg "KINDS" = some u ∧ RelV (.ref X.aK) u
  c_OPERANDS : ∃ u, mg "OPERANDS" = some u ∧ RelV (.ref X.aO) u
  kinds : ∀ H, SqT K H X.aK (kindL.map V.str)
  ops : STab K w X.aO (fun x => (opsS.map fun p => (p.1, V.str p.2)).lookup x)
  cl_Image : Cls K X.CI
  ow_Image : OwnE K X.CI
  ix_Image : C8.InsC K X.CI
  n_slots : NoAttr K X.CI "slots"
  n_cells : NoAttr K X.CI "cells"
  n_registers : NoAttr K X.CI "registers"
  n_entries : NoAttr K X.CI "entries"
  n_claims : NoAttr K X.CI "claims"
  nfI : PySem.W.notFirst K X.CI (.type "int") = true
  nfS : PySem.W.notFirst K X.CI (.type "str") = true
  nfT : PySem.W.notFirst K X.CI (.type "tuple") = true
  koI : PySem.W.kitOne K (.type "int") (.ref X.CI) = some false
  koS : PySem.W.kitOne K (.type "str") (.ref X.CI) = some false
  koT : PySem.W.kitOne K (.type "tuple") (.ref X.CI) = some false
  g_Image : ∃ u, mg "Image" = some u ∧ RelV (.ref X.CI) u
local macro_rules | `(tactic| walk_at "side") => `(tactic| (try dsimp only) <;> (first | decide | omega | assumption | (unfold CMul; omega) | (unfold CDiv; omega)))
local macro_rules | `(tactic| walk_at "sq") => `(tactic| first
  | assumption
  | exact new_tup
  | exact same_tup (by assumption) (by assumption)
  | (refine same_tup (same_new (by assumption)) ?_; walk_at "sq"))
local macro_rules | `(tactic| walk_at "rd") => `(tactic| first
  | refine ⟨_, rfl, ?_⟩
  | refine ⟨_, _, _, _, rfl, rfl, (by walk_at "sq"), atI_of (j := 0) rfl, ?_⟩
  | refine ⟨_, _, _, _, rfl, rfl, (by walk_at "sq"), atI_of (j := 1) rfl, ?_⟩
  | refine ⟨_, _, rfl, rfl, ?_⟩
  | refine ⟨_, _, rfl, ?_⟩
  | refine And.intro rfl ?_
  | refine And.intro (by walk_at "side") ?_
  | refine Or.inl ⟨_, rfl, ?_⟩)
local macro_rules | `(tactic| walk_at "no") => `(tactic| refine ⟨_, rfl, rfl, _, rfl, iteN (by decide +kernel) ?_⟩)
local macro_rules | `(tactic| walk_at "yes") => `(tactic| refine ⟨_, rfl, rfl, _, rfl, iteY (by decide +kernel) ?_⟩)
local macro_rules | `(tactic| walk_at "rds") => `(tactic| repeat (walk_at "rd"))
section
variable {P : Program} {w : World} {K : PySem.W.Frag} {mg : Str → Option Value} {base : Heap} {X : Top} {eB eU : Addr}

abbrev s_is_word : Stmt := topS 24
abbrev N_is_word : List Str := ["n"]
abbrev P_is_word : List Str := ["n"]
theorem sc_is_word : FnScope N_is_word P_is_word (defScope s_is_word) := ⟨rfl, rfl, rfl, by decide +kernel, rfl, by decide +kernel, by decide +kernel⟩
-- slots: n=0
def spIsW : Sp := fun vs H Q _ => ∃ n : Int, vs = [.int n] ∧ Q (.bl (isW n)) H
theorem cal_is_word (T : Txt K w mg X) (D : Def K mg "is_word" P_is_word s_is_word) : Cal P w K mg base 1 "is_word" P_is_word spIsW := by
  refine cal0 D sc_is_word (fun vs H Q E h => ?_) (fun f cdv A outer s H vs Q E hr h => ?_)
  · obtain ⟨n, rfl, _⟩ := h; rfl
  · obtain ⟨n, rfl, q⟩ := h
    have nd := sc_is_word.nd
    refine ⟨_, (pss_one (ps_ret (pe_chain op_le op_le (pe_gc rfl T.c_LOW) (pv 0) (pe_gc rfl T.c_HIGH)))), ?_⟩
    walk_at "rds"
    unfold isW at q
    refine ite2 (fun h => ?_) (fun h => ?_)
    · rw [h, Bool.true_and] at q
      walk_at "rds"
      exact q
    · have h : decide (LO ≤ n) = false := by simpa using h
      rw [h, Bool.false_and] at q
      exact q

abbrev s_fits : Stmt := topS 29
abbrev N_fits : List Str := ["letter", "operand", "behind", "bounds", "slots", "registers", "cells"]
abbrev P_fits : List Str := ["letter", "operand", "behind", "bounds"]
theorem sc_fits : FnScope N_fits P_fits (defScope s_fits) := ⟨rfl, rfl, rfl, by decide +kernel, rfl, by decide +kernel, by decide +kernel⟩
-- slots: letter=0 operand=1 behind=2 bounds=3 slots=4 registers=5 cells=6
def spFits (K : PySem.W.Frag) : Sp := fun vs H Q _ => ∃ (c : Nat) (a b T R C : Int) (p : Addr), vs = [.str (S [c]), .int a, .int b, .ref p] ∧ c ∈ [114, 107, 99, 112, 98, 110, 102] ∧ SqT K H p [.int T, .int R, .int C] ∧ Q (.bl (fitsZ c a b T R C)) H
theorem cal_fits (T : Txt K w mg X) (D : Def K mg "fits" P_fits s_fits) (c_is_word : Cal P w K mg base 1 "is_word" P_is_word spIsW) : Cal P w K mg base 2 "fits" P_fits (spFits K) := by
  refine cal0 D sc_fits (fun vs H Q E h => ?_) (fun f cdv A outer s H vs Q E hr h => ?_)
  · obtain ⟨c, a, b, tt, rr, cc, p, rfl, _⟩ := h; rfl
  · obtain ⟨c, a, b, tt, rr, cc, p, rfl, hc, hp, q⟩ := h
    have nd := sc_fits.nd
    refine ⟨_, (pss_cons (ps_asg (pv 3) (pg_tup rfl (pgs_cons (pg_name (i := 4) nd rfl (.inl rfl)) (pgs_cons (pg_name (i := 5) nd rfl (.inl rfl)) (pgs_cons (pg_name (i := 6) nd rfl (.inl rfl)) pgs_nil)))))
    (pss_cons (ps_if (pt_cmpR op_eq (pv 0) pe_str (nomark _)) (pss_one (ps_ret (pe_chain op_le op_lt pe_int (pv 1) (pv 5)))) pss_nil)
    (pss_cons (ps_if (pt_cmpR op_eq (pv 0) pe_str (nomark _)) (pss_one (ps_ret (pe_c c_is_word hr (by decide) rfl (pa_cons (pv 1) pa_nil)))) pss_nil)
    (pss_cons (ps_if (pt_cmpR op_eq (pv 0) pe_str (nomark _)) (pss_one (ps_ret (pe_chain op_le op_lt pe_int (pv 1) (pv 6)))) pss_nil)
    (pss_cons (ps_if (pt_cmpR op_eq (pv 0) pe_str (nomark _)) (pss_one (ps_ret (pe_chain op_le op_lt pe_int (pv 1) (pv 4)))) pss_nil)
    (pss_cons (ps_if (pt_cmpR op_eq (pv 0) pe_str (nomark _)) (pss_one (ps_ret (pe_and (pe_cmpR op_le pe_int (pv 1) (nomark _)) (pe_and (pe_cmpR op_le pe_int (pv 2) (nomark _)) (pe_one (pe_cmpR op_le (pe_op op_add (pv 1) (pv 2)) (pv 6) (nomark _))))))) pss_nil)
    (pss_cons (ps_if (pt_cmpR op_eq (pv 0) pe_str (nomark _)) (pss_one (ps_ret (pe_chain op_le op_le pe_int (pv 1) (pe_gc rfl T.c_MOST_CODE)))) pss_nil)
    (pss_one (ps_ret pe_bl))))))))), ?_⟩
    refine ⟨_, rfl, p, _, rfl, hp, rfl, ?_⟩
    simp only [List.mem_cons, List.mem_nil_iff, or_false] at hc
    rcases hc with rfl | rfl | rfl | rfl | rfl | rfl | rfl
    all_goals refine ⟨_, _, rfl, _, _, rfl, _, _, rfl, rfl, ?_⟩
    · walk_at "yes"
      have q : Q (.bl (decide (0 ≤ a) && decide (a < rr))) H := q
      walk_at "rds"
      refine ite2 (fun h => ?_) (fun h => ?_)
      · rw [h, Bool.true_and] at q
        walk_at "rds"
        exact q
      · have h : decide (0 ≤ a) = false := by simpa using h
        rw [h, Bool.false_and] at q
        exact q
    · walk_at "no"; walk_at "yes"
      exact ⟨_, rfl, _, rfl, q⟩
    · walk_at "no"; walk_at "no"; walk_at "yes"
      have q : Q (.bl (decide (0 ≤ a) && decide (a < cc))) H := q
      walk_at "rds"
      refine ite2 (fun h => ?_) (fun h => ?_)
      · rw [h, Bool.true_and] at q
        walk_at "rds"
        exact q
      · have h : decide (0 ≤ a) = false := by simpa using h
        rw [h, Bool.false_and] at q
        exact q
    · walk_at "no"; walk_at "no"; walk_at "no"; walk_at "yes"
      have q : Q (.bl (decide (0 ≤ a) && decide (a < tt))) H := q
      walk_at "rds"
      refine ite2 (fun h => ?_) (fun h => ?_)
      · rw [h, Bool.true_and] at q
        walk_at "rds"
        exact q
      · have h : decide (0 ≤ a) = false := by simpa using h
        rw [h, Bool.false_and] at q
        exact q
    · walk_at "no"; walk_at "no"; walk_at "no"; walk_at "no"; walk_at "yes"
      have q : Q (.bl (decide (0 ≤ a) && (decide (1 ≤ b) && decide (a + b ≤ cc)))) H := q
      walk_at "rds"
      refine ite2 (fun h => ?_) (fun h => ?_)
      · rw [h, Bool.true_and] at q
        walk_at "rds"
        refine ite2 (fun h => ?_) (fun h => ?_)
        · rw [h, Bool.true_and] at q
          walk_at "rds"
          exact q
        · have h : decide (1 ≤ b) = false := by simpa using h
          rw [h, Bool.false_and] at q
          exact q
      · have h : decide (0 ≤ a) = false := by simpa using h
        rw [h, Bool.false_and] at q
        exact q
    · walk_at "no"; walk_at "no"; walk_at "no"; walk_at "no"; walk_at "no"; walk_at "no"
      exact q
    · walk_at "no"; walk_at "no"; walk_at "no"; walk_at "no"; walk_at "no"; walk_at "yes"
      have q : Q (.bl (decide (1 ≤ a) && decide (a ≤ 9999))) H := q
      walk_at "rds"
      refine ite2 (fun h => ?_) (fun h => ?_)
      · rw [h, Bool.true_and] at q
        walk_at "rds"
        exact q
      · have h : decide (1 ≤ a) = false := by simpa using h
        rw [h, Bool.false_and] at q
        exact q

abbrev s_decode : Stmt := topS 30
abbrev N_decode : List Str := ["slots", "place", "registers", "cells", "op", "kind", "letters", "operands", "bounds", "k", "behind"]
abbrev P_decode : List Str := ["slots", "place", "registers", "cells"]
theorem sc_decode : FnScope N_decode P_decode (defScope s_decode) := ⟨rfl, rfl, rfl, by decide +kernel, rfl, by decide +kernel, by decide +kernel⟩
-- slots: slots=0 place=1 registers=2 cells=3 op=4 kind=5 letters=6 operands=7 bounds=8 k=9 behind=10
def spDec (K : PySem.W.Frag) (eB : Addr) : Sp := fun vs H Q E => ∃ (a : Addr) (xs : List Int) (place R C : Int), vs = [.ref a, .int place, .int R, .int C] ∧ SqA K H a (xs.map V.int) ∧ place.natAbs < 2 ^ 64 ∧ xs.length ≤ 1000000 ∧
  (∀ j ops, decZ xs place R C = some (j, ops) → j < 18 → ∀ p H', Same H H' → SqT K H' p (insV j ops) → Q (.ref p) H') ∧ (decZ xs place R C = none → ∀ d H', Same H H' → H' d = some (.xd [("place", .int place)]) → E (.ref eB) (some d) H')
theorem cal_decode (T : Txt K w mg X) (D : Def K mg "decode" P_decode s_decode) (E_BadImage : Err P w K mg base "BadImage" eB "place") (c_fits : Cal P w K mg base 2 "fits" P_fits (spFits K)) : Cal P w K mg base 3 "decode" P_decode (spDec K eB) := by
  refine calX D sc_decode (fun vs H Q E h => ?_) (fun f cdv A outer s H vs Q E hr h => ?_)
  · obtain ⟨a, xs, place, rr, cc, rfl, _⟩ := h; rfl
  · obtain ⟨a, xs, place, rr, cc, rfl, hs, hb, hx, q, e⟩ := h
    have nd := sc_decode.nd
    refine ⟨_, (pss_cons (ps_if (pt_not (pt_chain op_le op_lt pe_int (pv 1) (pe_callB call_len_seq (by rfl) T.b_len PySem.boot_len (pa_cons (pv 0) pa_nil)))) (pss_one (ps_raise rfl (takes_of rfl rfl rfl rfl) (pmk_err E_BadImage hr (by decide) rfl (pv 1)))) pss_nil)
    (pss_cons (ps_set (i := 4) nd rfl (.inl rfl) (pe_ix ix_sqa (pv 0) (pv 1) (fun _ _ => rfl)))
    (pss_cons (ps_if (pt_not (pt_chain op_le op_le pe_int (pv 4) (pe_callB call_len_seq (by rfl) T.b_len PySem.boot_len (pa_cons (pe_gc rfl T.c_KINDS) pa_nil)))) (pss_one (ps_raise rfl (takes_of rfl rfl rfl rfl) (pmk_err E_BadImage hr (by decide) rfl (pv 1)))) pss_nil)
    (pss_cons (ps_set (i := 5) nd rfl (.inl rfl) (pe_ix ix_tup (pe_gc rfl T.c_KINDS) (pe_op op_sub (pv 4) pe_int) (fun _ _ => rfl)))
    (pss_cons (ps_set (i := 6) nd rfl (.inl rfl) (pe_ix ix_tab (pe_gc rfl T.c_OPERANDS) (pv 5) (fun _ _ => rfl)))
    (pss_cons (ps_set (i := 7) nd rfl (.inl rfl) (pe_callTy cs_tuple (by rfl) T.b_tuple (by decide +kernel) (pa_cons (pe_slice sl_any (pv 0) (po_some (pe_op op_add (pv 1) pe_int)) (po_some (pe_op op_add (pe_op op_add (pv 1) pe_int) (pe_callB call_len_str (by rfl) T.b_len PySem.boot_len (pa_cons (pv 6) pa_nil))))) pa_nil)))
    (pss_cons (ps_if (pt_cmpR op_lt (pe_callB call_len_seq (by rfl) T.b_len PySem.boot_len (pa_cons (pv 7) pa_nil)) (pe_callB call_len_str (by rfl) T.b_len PySem.boot_len (pa_cons (pv 6) pa_nil)) (nomark _)) (pss_one (ps_raise rfl (takes_of rfl rfl rfl rfl) (pmk_err E_BadImage hr (by decide) rfl (pv 1)))) pss_nil)
    (pss_cons (ps_set (i := 8) nd rfl (.inl rfl) (pe_tup (pa_cons (pe_callB call_len_seq (by rfl) T.b_len PySem.boot_len (pa_cons (pv 0) pa_nil)) (pa_cons (pv 2) (pa_cons (pv 3) pa_nil)))))
    (pss_cons (ps_for (passes_of rfl) rfl (pi_range1 (by rfl) T.b_range (pa_cons (pe_callB call_len_str (by rfl) T.b_len PySem.boot_len (pa_cons (pv 6) pa_nil)) pa_nil)) (pg_name (i := 9) nd rfl (.inl rfl))
      (C8.pss_cut (ps_set (i := 10) nd rfl (.inl rfl) (pe_ifExp (pt_cmpR op_lt (pe_op op_add (pv 9) pe_int) (pe_callB call_len_seq (by rfl) T.b_len PySem.boot_len (pa_cons (pv 7) pa_nil)) (nomark _)) (pe_ix ix_tup (pv 7) (pe_op op_add (pv 9) pe_int) (fun _ _ => rfl)) pe_int))
    (pss_one (ps_if (pt_not (pt_val (pe_c c_fits hr (by decide) rfl (pa_cons (pe_ix ix_str (pv 6) (pv 9) (fun _ _ => rfl)) (pa_cons (pe_ix ix_tup (pv 7) (pv 9) (fun _ _ => rfl)) (pa_cons (pv 10) (pa_cons (pv 8) pa_nil))))))) (pss_one (ps_raise rfl (takes_of rfl rfl rfl rfl) (pmk_err E_BadImage hr (by decide) rfl (pv 1)))) pss_nil))))
    (pss_one (ps_ret (pe_op op_catTup (pe_tup (pa_cons (pv 5) pa_nil)) (pv 7))))))))))))), ?_⟩
    have rz : ∀ H1, Same H H1 → decZ xs place rr cc = none → ∀ v, v = V.int place → OkArg v ∧ ∀ d H2, Same H1 H2 → H2 d = some (.xd [("place", v)]) → E (.ref eB) (some d) H2 := fun H1 s1 h v ev => by
      subst ev
      exact ⟨.small hb, fun d H2 s2 g => e h d H2 (s1.trans s2) g⟩
    have sl : ∀ H1, Same H H1 → SqA K H1 a (xs.map V.int) := fun H1 s => same_sqa s hs
    have ln : ((xs.map V.int).length : Int) = xs.length := by rw [List.length_map]
    have hsz : xs.length ≤ sizeLine := by rw [sizeLine_eq]; omega
    refine ⟨_, rfl, _, _, rfl, rfl, _, rfl, ?_⟩
    refine ite2 (fun h0 => ?_) (fun h0 => ?_)
    rotate_left
    · refine ⟨_, rfl, ?_⟩
      refine iteT ?_
      refine ⟨_, rfl, rz _ (Same.refl _) (dec_out (.inl ?_)) _ rfl⟩
      have : ¬ (0 ≤ place) := fun z => h0 (decide_eq_true z)
      omega
    have h0 := of_decide_eq_true h0
    refine ⟨_, rfl, a, _, rfl, hs, _, _, rfl, rfl, _, rfl, ?_⟩
    rw [ln]
    cases h1 : decide (place < xs.length)
    · refine iteT ?_
      refine ⟨_, rfl, rz _ (Same.refl _) (dec_out (.inr ?_)) _ rfl⟩
      have := of_decide_eq_false h1
      omega
    have h1 := of_decide_eq_true h1
    refine iteF ?_
    obtain ⟨n, rfl⟩ : ∃ n : Nat, place = n := ⟨place.toNat, by omega⟩
    have hn : n < xs.length := by omega
    refine ⟨_, rfl, _, rfl, a, _, _, .int (xs.getD n 0), rfl, rfl, hs, atI_of (j := n) (at_ints hn), ?_⟩
    generalize eop : xs.getD n 0 = op
    refine ⟨_, rfl, _, _, rfl, rfl, _, rfl, ?_⟩
    refine ite2 (fun h2 => ?_) (fun h2 => ?_)
    rotate_left
    · refine ⟨_, rfl, ?_⟩
      refine iteT ?_
      refine ⟨_, rfl, rz _ (Same.refl _) (dec_op (.inl ?_)) _ rfl⟩
      have : ¬ (1 ≤ op) := fun z => h2 (decide_eq_true z)
      omega
    have h2 := of_decide_eq_true h2
    refine ⟨X.aK, _, rfl, .inr (T.kinds _), _, _, rfl, rfl, _, rfl, ?_⟩
    cases h3 : decide (op ≤ ((kindL.map V.str).length : Nat))
    · refine iteT ?_
      refine ⟨_, rfl, rz _ (Same.refl _) (dec_op (.inr ?_)) _ rfl⟩
      have h3 : ¬ (op ≤ ((18 : Nat) : Int)) := of_decide_eq_false h3
      omega
    have h3 : op ≤ ((18 : Nat) : Int) := of_decide_eq_true h3
    refine iteF ?_
    obtain ⟨j, rfl⟩ : ∃ j : Nat, op = (j : Int) + 1 := ⟨(op - 1).toNat, by omega⟩
    have hj : j < 18 := by omega
    refine ⟨_, rfl, _, _, rfl, rfl, _, _, _, .str (kindS j), rfl, rfl, T.kinds _, ?_, ?_⟩
    · rw [show (j : Int) + 1 - 1 = (j : Nat) by omega]
      exact atI_of (by rw [List.getElem?_map, kind_at j hj]; rfl)
    refine ⟨_, rfl, X.aO, _, kindS j, .str (S (lets j)), rfl, rfl, T.ops, by rw [lookup_map, ops_at j hj]; rfl, ?_⟩
    have hlt := let_short j hj
    refine ⟨_, rfl, _, rfl, _, _, rfl, rfl, _, rfl, _, rfl, _, _, rfl, rfl, _, rfl, _, rfl, lets_size hj, _, _, rfl, rfl, _, rfl, ?_⟩
    rw [S_len]
    refine rSlQ_any rfl hs fun p1 H1 s1 g1 => ⟨p1, _, rfl, g1, fun p2 H2 s2 g2 => ?_⟩
    rw [show (n : Int) + 1 = ((n + 1 : Nat) : Int) by omega, show ((n + 1 : Nat) : Int) + ((lets j).length : Nat) = ((n + 1 + (lets j).length : Nat) : Int) by omega, cutV_nat, show n + 1 + (lets j).length - (n + 1) = (lets j).length by omega, ← List.map_drop, ← List.map_take] at g2
    have s02 := s1.trans s2
    generalize eops : (xs.drop (n + 1)).take (lets j).length = ops at g2
    have hops : ops.length ≤ (lets j).length := by rw [← eops, List.length_take]; omega
    refine ⟨_, rfl, p2, _, rfl, .inr g2, _, rfl, _, rfl, lets_size hj, _, _, rfl, rfl, _, rfl, ?_⟩
    rw [S_len, List.length_map]
    cases h4 : decide ((ops.length : Int) < ((lets j).length : Nat))
    rotate_left
    · refine iteT ?_
      have h4 := of_decide_eq_true h4
      exact ⟨_, rfl, rz _ s02 (dec_none eop (by rw [eops]; omega)) _ rfl⟩
    have h4 := of_decide_eq_false h4
    have hol : ops.length = (lets j).length := by omega
    refine iteF ?_
    refine ⟨_, rfl, a, _, rfl, sl _ s02, _, rfl, _, rfl, by show 3 ≤ sizeLine; decide, fun pb nb => ?_⟩
    rw [ln]
    have gb : SqT K (upd H2 pb (.tup [.int xs.length, .int rr, .int cc])) pb [.int xs.length, .int rr, .int cc] := new_tup
    have g3 : SqT K (upd H2 pb (.tup [.int xs.length, .int rr, .int cc])) p2 (ops.map V.int) := same_tup (same_new nb) g2
    have s03 : Same H (upd H2 pb (.tup [.int xs.length, .int rr, .int cc])) := s02.trans (same_new nb)
    generalize upd H2 pb (.tup [.int xs.length, .int rr, .int cc]) = H3 at gb g3 s03
    let fr : V → V → L2.St := fun x y => [some (.ref a), some (.int n), some (.int rr), some (.int cc), some (.int ((j : Int) + 1)), some (.str (kindS j)), some (.str (S (lets j))), some (.ref p2), some (.ref pb), some x, some y]
    refine ⟨_, rfl, _, rfl, lets_size hj, _, rfl, ?_⟩
    rw [S_len]
    refine ⟨by omega, by omega, for_range (lo := 0) (n := (lets j).length) (fun i σ H' => H3 = H' ∧ (∀ k, k < i → fitsZ ((lets j).getD k 0) (ops.getD k 0) (ops.getD (k + 1) 0) xs.length rr cc = true) ∧ σ.length = 11 ∧ σ.take 9 = [some (.ref a), some (.int n), some (.int rr), some (.int cc), some (.int ((j : Int) + 1)), some (.str (kindS j)), some (.str (S (lets j))), some (.ref p2), some (.ref pb)]) ⟨rfl, fun k hk => absurd hk (Nat.not_lt_zero _), rfl, rfl⟩ (fun i σ H' hi h => ?_) (fun σ H' h => ?_)⟩
    · obtain ⟨rfl, hf, hl, ht⟩ := h
      obtain ⟨x, y, rfl⟩ : ∃ x y, σ = [some (.ref a), some (.int n), some (.int rr), some (.int cc), some (.int ((j : Int) + 1)), some (.str (kindS j)), some (.str (S (lets j))), some (.ref p2), some (.ref pb), x, y] := by
        match σ, hl with
        | [_, _, _, _, _, _, _, _, _, x, y], _ => exact ⟨x, y, by simpa using ht⟩
      refine ⟨fun σ H4 => H3 = H4 ∧ σ = [some (.ref a), some (.int n), some (.int rr), some (.int cc), some (.int ((j : Int) + 1)), some (.str (kindS j)), some (.str (S (lets j))), some (.ref p2), some (.ref pb), some (.int (0 + (i : Int))), some (.int (ops.getD (i + 1) 0))], ?_, ?_⟩
      · refine ⟨_, rfl, _, _, rfl, rfl, _, rfl, p2, _, rfl, .inr g3, _, _, rfl, rfl, _, rfl, ?_⟩
        rw [List.length_map]
        refine ite2 (fun h => ?_) (fun h => ?_)
        · have h := of_decide_eq_true h
          refine ⟨_, rfl, _, rfl, _, _, rfl, rfl, _, _, _, .int (ops.getD (i + 1) 0), rfl, rfl, g3, ?_, rfl, rfl⟩
          rw [show (0 : Int) + (i : Int) + 1 = ((i + 1 : Nat) : Int) by omega]
          exact atI_of (at_ints (by omega))
        · have h : ¬ ((0 : Int) + (i : Int) + 1 < ops.length) := fun z => h (decide_eq_true z)
          refine ⟨rfl, ?_⟩
          rw [show ops.getD (i + 1) 0 = 0 by simp [List.getD, List.getElem?_eq_none (show ops.length ≤ i + 1 by omega)]]
          rfl
      · rintro σ H4 ⟨rfl, rfl⟩
        have hio : i < ops.length := by omega
        refine ⟨_, rfl, _, rfl, _, _, ((lets j).getD i 0), rfl, rfl, lets_size hj, ?_, _, rfl, _, rfl, _, _, _, .int (ops.getD i 0), rfl, rfl, g3, ?_, _, rfl, _, rfl, ?_⟩
        · rw [show (0 : Int) + (i : Int) = ((i : Nat) : Int) by omega]
          exact atI_of (by rw [tlS]; simp [List.getD, hi])
        · rw [show (0 : Int) + (i : Int) = ((i : Nat) : Int) by omega]
          exact atI_of (at_ints hio)
        refine ⟨(lets j).getD i 0, ops.getD i 0, ops.getD (i + 1) 0, xs.length, rr, cc, pb, rfl, ?_, gb, ?_⟩
        · have e : (lets j).getD i 0 = (lets j)[i] := by simp [List.getD, hi]
          rw [e]
          exact let_in j hj _ (List.getElem_mem hi)
        refine ⟨_, rfl, ?_⟩
        cases hfi : fitsZ ((lets j).getD i 0) (ops.getD i 0) (ops.getD (i + 1) 0) xs.length rr cc
        · refine iteT ?_
          refine ⟨_, rfl, rz _ s03 (dec_none eop fun z => ?_) _ rfl⟩
          rw [eops] at z
          have := z.2 i hi
          rw [hfi] at this
          cases this
        · refine iteF ⟨rfl, fun k hk => ?_, rfl, rfl⟩
          rcases Nat.lt_succ_iff_lt_or_eq.mp hk with z | z
          · exact hf k z
          · rw [z]
            exact hfi
    · obtain ⟨rfl, hf, hl, ht⟩ := h
      obtain ⟨x, y, rfl⟩ : ∃ x y, σ = [some (.ref a), some (.int n), some (.int rr), some (.int cc), some (.int ((j : Int) + 1)), some (.str (kindS j)), some (.str (S (lets j))), some (.ref p2), some (.ref pb), x, y] := by
        match σ, hl with
        | [_, _, _, _, _, _, _, _, _, x, y], _ => exact ⟨x, y, by simpa using ht⟩
      refine ⟨_, rfl, by show 1 ≤ sizeLine; decide, fun pk nk => ⟨_, rfl, pk, p2, _, _, rfl, rfl, new_tup, same_tup (same_new nk) g3, ?_, fun p H5 s5 g5 => q j ops ?_ hj p H5 (s03.trans ((same_new nk).trans s5)) g5⟩⟩
      · rw [List.length_map, sizeLine_eq]
        simp
        omega
      · rw [← eops]
        exact dec_some eop hn hj (by rw [eops]; exact hol) (by rw [eops]; exact hf)

abbrev s_Image_init : Stmt := inClass (topS 32) 0
abbrev N_Image_init : List Str := ["self", "slots", "cells", "registers", "entries", "claims"]
abbrev P_Image_init : List Str := ["self", "slots", "cells", "registers", "entries", "claims"]
theorem sc_Image_init : FnScope N_Image_init P_Image_init (defScope s_Image_init) := ⟨rfl, rfl, rfl, by decide +kernel, rfl, by decide +kernel, by decide +kernel⟩
-- slots: self=0 slots=1 cells=2 registers=3 entries=4 claims=5
-- uses: ['tuple']; calls: []; types {'self': 'obj:Image', 'slots': 'list', 'cells': 'list', 'registers': 'int', 'entries': 'list', 'claims': 'list'}
def spInit (K : PySem.W.Frag) (C : Addr) : Sp := fun vs H Q _ => ∃ (p dx al ac ae am : Addr) (sl ce : List Int) (R : Int) (en cl : List V), vs = [.ref p, .ref al, .ref ac, .int R, .ref ae, .ref am] ∧ H p = some (.ins C dx []) ∧ SqA K H al (sl.map V.int) ∧ SqA K H ac (ce.map V.int) ∧ SqA K H ae en ∧ SqA K H am cl ∧
  ∀ H', SB p H H' → ImgAt K C H' p sl ce R en cl → Q .non H'
theorem m_Image_init (T : Txt K w mg X) (D : DefM K X.CI "__init__" "Image.__init__" P_Image_init s_Image_init) : CalM P w K mg base 1 X.CI "__init__" P_Image_init (spInit K X.CI) := by
  refine calM0 D sc_Image_init (fun vs H Q E h => ?_) (fun f cdv A outer s H vs Q E hr h => ?_)
  · obtain ⟨p, dx, al, ac, ae, am, sl, ce, rr, en, cl, rfl, _⟩ := h; rfl
  · obtain ⟨p, dx, al, ac, ae, am, sl, ce, rr, en, cl, rfl, hp, h1, h2, h3, h4, q⟩ := h
    have nd := sc_Image_init.nd
    refine ⟨_, (pss_cons (ps_fld (pv 0) (pe_callTy cs_tuple (by rfl) T.b_tuple (by decide +kernel) (pa_cons (pv 1) pa_nil)) rfl)
    (pss_cons (ps_fld (pv 0) (pe_callTy cs_tuple (by rfl) T.b_tuple (by decide +kernel) (pa_cons (pv 2) pa_nil)) rfl)
    (pss_cons (ps_fld (pv 0) (pv 3) rfl)
    (pss_cons (ps_fld (pv 0) (pe_callTy cs_tuple (by rfl) T.b_tuple (by decide +kernel) (pa_cons (pv 4) pa_nil)) rfl)
    (pss_one (ps_fld (pv 0) (pe_callTy cs_tuple (by rfl) T.b_tuple (by decide +kernel) (pa_cons (pv 5) pa_nil)) rfl)))))), ?_⟩
    refine ⟨_, rfl, al, _, rfl, h1, fun a1 H1 s1 g1 => ?_⟩
    have hp1 := s1 _ _ hp
    refine ⟨_, rfl, p, X.CI, dx, _, rfl, hp1, T.cl_Image, T.n_slots, by show 0 < 1000; decide, ?_⟩
    refine ⟨_, rfl, ac, _, rfl, ins_sqa hp1 (same_sqa s1 h2), fun a2 H2 s2 g2 => ?_⟩
    have hp2 := s2 _ _ (upd_same (H := H1) (a := p) (o := .ins X.CI dx (putF "slots" (.ref a1) [])))
    have b2 : SB p H H2 := sbT (sbT (sbOf s1) sb_upd) (sbOf s2)
    refine ⟨_, rfl, p, X.CI, dx, _, rfl, hp2, T.cl_Image, T.n_cells, by show 1 < 1000; decide, ?_⟩
    refine ⟨_, rfl, _, rfl, p, X.CI, dx, _, rfl, upd_same, T.cl_Image, T.n_registers, by show 2 < 1000; decide, ?_⟩
    rw [upd_upd]
    have q1 := same_tup s2 (ins_tup hp1 g1)
    refine ⟨_, rfl, ae, _, rfl, ins_sqa hp2 (same_sqa s2 (ins_sqa hp1 (same_sqa s1 h3))), fun a3 H3 s3 g3 => ?_⟩
    have hp3 := s3 _ _ (upd_same (H := H2) (a := p) (o := .ins X.CI dx (putF "registers" (.int rr) (putF "cells" (.ref a2) (putF "slots" (.ref a1) [])))))
    have b3 : SB p H H3 := sbT (sbT b2 sb_upd) (sbOf s3)
    refine ⟨_, rfl, p, X.CI, dx, _, rfl, hp3, T.cl_Image, T.n_entries, by show 3 < 1000; decide, ?_⟩
    have r1 := same_tup s3 (ins_tup hp2 q1)
    have r2 := same_tup s3 (ins_tup hp2 g2)
    refine ⟨_, rfl, am, _, rfl, ins_sqa hp3 (same_sqa s3 (ins_sqa hp2 (same_sqa s2 (ins_sqa hp1 (same_sqa s1 h4))))), fun a4 H4 s4 g4 => ?_⟩
    have hp4 := s4 _ _ (upd_same (H := H3) (a := p) (o := .ins X.CI dx (putF "entries" (.ref a3) (putF "registers" (.int rr) (putF "cells" (.ref a2) (putF "slots" (.ref a1) []))))))
    have b4 : SB p H H4 := sbT (sbT b3 sb_upd) (sbOf s4)
    refine ⟨_, rfl, p, X.CI, dx, _, rfl, hp4, T.cl_Image, T.n_claims, by show 4 < 1000; decide, ?_⟩
    rw [imgFs_put]
    refine q _ (sbT b4 sb_upd) ⟨dx, a1, a2, a3, a4, upd_same, ins_tup hp4 (same_tup s4 (ins_tup hp3 r1)), ins_tup hp4 (same_tup s4 (ins_tup hp3 r2)), ins_tup hp4 (same_tup s4 (ins_tup hp3 g3)), ins_tup hp4 g4⟩

abbrev s_Image_locations : Stmt := inClass (topS 32) 1
abbrev N_Image_locations : List Str := ["self"]
abbrev P_Image_locations : List Str := ["self"]
theorem sc_Image_locations : FnScope N_Image_locations P_Image_locations (defScope s_Image_locations) := ⟨rfl, rfl, rfl, by decide +kernel, rfl, by decide +kernel, by decide +kernel⟩
-- slots: self=0
-- uses: ['len']; calls: []; types {'self': 'obj:Image', '.registers': 'int', '.cells': 'tup', 'return': 'int'}
def spLoc (K : PySem.W.Frag) (C : Addr) : Sp := fun vs H Q _ => ∃ (p : Addr) (sl ce : List Int) (R : Int) (en cl : List V), vs = [.ref p] ∧ ImgAt K C H p sl ce R en cl ∧ Q (.int (R + ce.length)) H
theorem m_Image_locations (T : Txt K w mg X) (D : DefP K X.CI "locations" "Image.locations" P_Image_locations s_Image_locations) : CalP P w K mg base 1 X.CI "locations" P_Image_locations (spLoc K X.CI) := by
  refine calP0 D sc_Image_locations (fun vs H Q E h => ?_) (fun f cdv A outer s H vs Q E hr h => ?_)
  · obtain ⟨p, sl, ce, rr, en, cl, rfl, _⟩ := h; rfl
  · obtain ⟨p, sl, ce, rr, en, cl, rfl, hi, q⟩ := h
    have nd := sc_Image_locations.nd
    refine ⟨_, (pss_one (ps_ret (pe_op op_add (pe_fld (pv 0) rfl) (pe_callB call_len_seq (by rfl) T.b_len PySem.boot_len (pa_cons (pe_fld (pv 0) rfl) pa_nil))))), ?_⟩
    obtain ⟨dx, a1, a2, a3, a4, h0, h1, h2, h3, h4⟩ := hi
    refine ⟨_, rfl, p, X.CI, dx, _, _, rfl, h0, T.cl_Image, T.n_registers, rfl, _, rfl, p, X.CI, dx, _, _, rfl, h0, T.cl_Image, T.n_cells, rfl, a2, _, rfl, .inr h2, _, _, rfl, rfl, ?_⟩
    rw [List.length_map]
    exact q

abbrev s_Image_instruction : Stmt := inClass (topS 32) 2
abbrev N_Image_instruction : List Str := ["self", "place"]
abbrev P_Image_instruction : List Str := ["self", "place"]
theorem sc_Image_instruction : FnScope N_Image_instruction P_Image_instruction (defScope s_Image_instruction) := ⟨rfl, rfl, rfl, by decide +kernel, rfl, by decide +kernel, by decide +kernel⟩
-- slots: self=0 place=1
-- uses: ['len']; calls: ['decode']; types {'self': 'obj:Image', 'place': 'int', '.slots': 'tup', '.registers': 'int', '.cells': 'tup', 'return': 'tup'}
def spIns (K : PySem.W.Frag) (C eB : Addr) : Sp := fun vs H Q E => ∃ (p : Addr) (sl ce : List Int) (R : Int) (en cl : List V) (place : Int), vs = [.ref p, .int place] ∧ ImgAt K C H p sl ce R en cl ∧ place.natAbs < 2 ^ 64 ∧ sl.length ≤ 1000000 ∧
  (∀ j ops, decZ sl place R ce.length = some (j, ops) → j < 18 → ∀ p H', Same H H' → SqT K H' p (insV j ops) → Q (.ref p) H') ∧ (decZ sl place R ce.length = none → ∀ d H', Same H H' → H' d = some (.xd [("place", .int place)]) → E (.ref eB) (some d) H')
theorem m_Image_instruction (T : Txt K w mg X) (D : DefM K X.CI "instruction" "Image.instruction" P_Image_instruction s_Image_instruction) (c_decode : Cal P w K mg base 3 "decode" P_decode (spDec K eB)) : CalM P w K mg base 4 X.CI "instruction" P_Image_instruction (spIns K X.CI eB) := by
  refine calMX D sc_Image_instruction (fun vs H Q E h => ?_) (fun f cdv A outer s H vs Q E hr h => ?_)
  · obtain ⟨p, sl, ce, rr, en, cl, place, rfl, _⟩ := h; rfl
  · obtain ⟨p, sl, ce, rr, en, cl, place, rfl, hi, hb, hx, q, e⟩ := h
    have nd := sc_Image_instruction.nd
    refine ⟨_, (pss_one (ps_ret (pe_cP c_decode hr (by decide) rfl (passes_call (takes_of rfl rfl rfl rfl) (fun _ _ _ _ h => h)) (pa_cons (pe_fld (pv 0) rfl) (pa_cons (pv 1) (pa_cons (pe_fld (pv 0) rfl) (pa_cons (pe_callB call_len_seq (by rfl) T.b_len PySem.boot_len (pa_cons (pe_fld (pv 0) rfl) pa_nil)) pa_nil))))))), ?_⟩
    obtain ⟨dx, a1, a2, a3, a4, h0, h1, h2, h3, h4⟩ := hi
    refine ⟨_, rfl, p, X.CI, dx, _, _, rfl, h0, T.cl_Image, T.n_slots, rfl, _, rfl, _, rfl, p, X.CI, dx, _, _, rfl, h0, T.cl_Image, T.n_registers, rfl, _, rfl, p, X.CI, dx, _, _, rfl, h0, T.cl_Image, T.n_cells, rfl, a2, _, rfl, .inr h2, ?_⟩
    rw [List.length_map]
    exact ⟨a1, sl, place, rr, ce.length, rfl, .inr h1, hb, hx, q, e⟩

abbrev s_Image_entry : Stmt := inClass (topS 32) 3
abbrev N_Image_entry : List Str := ["self", "name", "entry"]
abbrev P_Image_entry : List Str := ["self", "name"]
theorem sc_Image_entry : FnScope N_Image_entry P_Image_entry (defScope s_Image_entry) := ⟨rfl, rfl, rfl, by decide +kernel, rfl, by decide +kernel, by decide +kernel⟩
-- slots: self=0 name=1 entry=2
-- uses: []; calls: []; types {'self': 'obj:Image', 'name': 'str', '.entries': 'tup', '[]': 'tup', '[entry]': 'str', '[self.entries]': 'tup', 'entry': 'tup', 'return': 'tup'}
def NamesAt (K : PySem.W.Frag) (H : Hp) (ns : List Str) (en : List V) : Prop := Paired (fun n v => ∃ p xs, v = V.ref p ∧ SqT K H p (.str n :: xs)) ns en
def firstN : List Str → List V → Str → Option V
  | n :: ns, v :: vs, x => if n = x then some v else firstN ns vs x
  | _, _, _ => none
def spEnt (K : PySem.W.Frag) (C eU : Addr) : Sp := fun vs H Q E => ∃ (p : Addr) (sl ce : List Int) (R : Int) (en cl : List V) (ns : List Str) (name : Str), vs = [.ref p, .str name] ∧ ImgAt K C H p sl ce R en cl ∧ NamesAt K H ns en ∧ name.length ≤ 100000 ∧
  (∀ v, firstN ns en name = some v → Q v H) ∧ (firstN ns en name = none → ∀ d H', Same H H' → H' d = some (.xd [("name", .str name)]) → E (.ref eU) (some d) H')
theorem m_Image_entry (T : Txt K w mg X) (D : DefM K X.CI "entry" "Image.entry" P_Image_entry s_Image_entry) (E_UnknownName : Err P w K mg base "UnknownName" eU "name") : CalM P w K mg base 3 X.CI "entry" P_Image_entry (spEnt K X.CI eU) := by
  refine calMX D sc_Image_entry (fun vs H Q E h => ?_) (fun f cdv A outer s H vs Q E hr h => ?_)
  · obtain ⟨p, sl, ce, rr, en, cl, ns, name, rfl, _⟩ := h; rfl
  · obtain ⟨p, sl, ce, rr, en, cl, ns, name, rfl, hi, hn, hz, q, e⟩ := h
    have nd := sc_Image_entry.nd
    refine ⟨_, (pss_cons (ps_for (passes_of rfl) rfl (pi_tup (pe_fld (pv 0) rfl)) (pg_name (i := 2) nd rfl (.inl rfl))
      (pss_one (ps_if (pt_cmpR op_eq (pe_ix ix_tup (pv 2) pe_int (fun _ _ => rfl)) (pv 1) (nomark _)) (pss_one (ps_ret (pv 2))) pss_nil)))
    (pss_one (ps_raise rfl (takes_of rfl rfl rfl rfl) (pmk_err E_UnknownName hr (by decide) rfl (pv 1))))), ?_⟩
    obtain ⟨dx, a1, a2, a3, a4, h0, h1, h2, h3, h4⟩ := hi
    refine ⟨_, rfl, p, X.CI, dx, _, _, rfl, h0, T.cl_Image, T.n_entries, rfl, a3, rfl, ⟨_, h3⟩, ?_⟩
    refine forR_tup (xs := en) (fun r σ H' => H = H' ∧ ∃ ns' z, Paired (fun n v => ∃ p xs, v = V.ref p ∧ SqT K H p (.str n :: xs)) ns' r ∧ firstN ns' r name = firstN ns en name ∧ σ = [some (.ref p), some (.str name), z]) ⟨rfl, ns, none, hn, rfl, rfl⟩ (fun r σ H' h => h.1 ▸ h3) (fun x r σ H' hx h => ?_) (fun σ H' h => ?_)
    · obtain ⟨rfl, ns', z, hp, hf, rfl⟩ := h
      cases hp with
      | @cons n _ ns2 _ h1 h2 =>
        obtain ⟨pe, xs, rfl, hs⟩ := h1
        refine ⟨_, rfl, _, _, _, .str n, rfl, rfl, hs, atI_of (j := 0) rfl, _, rfl, rfl, _, rfl, ?_⟩
        by_cases hnn : n = name
        · subst hnn
          refine iteY (decide_eq_true rfl) ⟨_, rfl, q _ ?_⟩
          rw [← hf]
          exact if_pos rfl
        · refine iteN (decide_eq_false fun z => hnn (V.str.inj z)) ⟨rfl, ns2, _, h2, ?_, rfl⟩
          rw [← hf]
          exact (if_neg hnn).symm
    · obtain ⟨rfl, ns', z, hp, hf, rfl⟩ := h
      cases hp
      exact ⟨_, rfl, .str hz, fun d H2 s2 g => e hf.symm d H2 s2 g⟩

abbrev s_Image_eq : Stmt := inClass (topS 32) 4
abbrev N_Image_eq : List Str := ["self", "other", "mine"]
abbrev P_Image_eq : List Str := ["self", "other"]
theorem sc_Image_eq : FnScope N_Image_eq P_Image_eq (defScope s_Image_eq) := ⟨rfl, rfl, rfl, by decide +kernel, rfl, by decide +kernel, by decide +kernel⟩
-- slots: self=0 other=1 mine=2
-- uses: ['Image', 'isinstance']; calls: []; types {'self': 'obj:Image', 'other': 'obj:Image', '.slots': 'tup', '.cells': 'tup', '.registers': 'int', '.entries': 'tup', '.claims': 'tup', 'return': 'bool', 'mine': 'tup'}
/-- what an image is, as data -/
def ImgD (K : PySem.W.Frag) (C : Addr) (H : Hp) (p : Addr) (D : PyData) : Prop := ∃ sl ce R en cl dE dC, ImgAt K C H p sl ce R en cl ∧ DpAll K H en dE ∧ DpAll K H cl dC ∧ D = .tuple [tInts sl, tInts ce, .int R, .tuple dE, .tuple dC] ∧ Sh 64 D
theorem ImgD.same {K : PySem.W.Frag} {C : Addr} {H H' : Hp} {p : Addr} {D : PyData} (s : Same H H') (h : ImgD K C H p D) : ImgD K C H' p D := by
  obtain ⟨sl, ce, R, en, cl, dE, dC, h1, h2, h3, h4⟩ := h
  exact ⟨sl, ce, R, en, cl, dE, dC, h1.same s, dpAll_same s h2, dpAll_same s h3, h4⟩
def spEqI (K : PySem.W.Frag) (C : Addr) : Sp := fun vs H Q _ => ∃ (p : Addr) (y : V) (D : PyData), vs = [.ref p, y] ∧ ImgD K C H p D ∧ ((∃ b D2, y = .ref b ∧ ImgD K C H b D2 ∧ ∀ H', Same H H' → Q (.bl (PyData.eqv D D2)) H') ∨ ∃ t, TyX K H y t ∧ PySem.W.kitOne K t (.ref C) = some false ∧ Q (.bl false) H)
theorem m_Image_eq (T : Txt K w mg X) (D : DefM K X.CI "__eq__" "Image.__eq__" P_Image_eq s_Image_eq) : CalM P w K mg base 1 X.CI "__eq__" P_Image_eq (spEqI K X.CI) := by
  refine calM0 D sc_Image_eq (fun vs H Q E h => ?_) (fun f cdv A outer s H vs Q E hr h => ?_)
  · obtain ⟨p, y, d1, rfl, _⟩ := h; rfl
  · obtain ⟨p, y, d1, rfl, hi, q⟩ := h
    have nd := sc_Image_eq.nd
    refine ⟨_, (pss_cons (ps_if (pt_not (pt_val (pe_callB call_isi (by rfl) T.b_isinstance (by decide +kernel) (pa_cons (pv 1) (pa_cons (pe_gc rfl T.g_Image) pa_nil))))) (pss_one (ps_ret pe_bl)) pss_nil)
    (pss_cons (ps_set (i := 2) nd rfl (.inl rfl) (pe_tup (pa_cons (pe_fld (pv 0) rfl) (pa_cons (pe_fld (pv 0) rfl) (pa_cons (pe_fld (pv 0) rfl) (pa_cons (pe_fld (pv 0) rfl) (pa_cons (pe_fld (pv 0) rfl) pa_nil)))))))
    (pss_one (ps_ret (pe_cmpR (op_eqD hr.units) (pv 2) (pe_tup (pa_cons (pe_fld (pv 1) rfl) (pa_cons (pe_fld (pv 1) rfl) (pa_cons (pe_fld (pv 1) rfl) (pa_cons (pe_fld (pv 1) rfl) (pa_cons (pe_fld (pv 1) rfl) pa_nil)))))) (nomark _)))))), ?_⟩
    rcases q with ⟨b, d2, rfl, hb, q⟩ | ⟨t, ty, kt, q⟩
    rotate_left
    · refine ⟨_, rfl, _, _, t, _, false, rfl, .own _, ty, kt, _, rfl, iteY rfl ?_⟩
      exact q
    obtain ⟨sl, ce, rr, en, cl, dE, dC, ⟨dx, a1, a2, a3, a4, h0, h1, h2, h3, h4⟩, hE, hC, rfl, sh⟩ := hi
    obtain ⟨sl2, ce2, rr2, en2, cl2, dE2, dC2, ⟨dy, b1, b2, b3, b4, k0, k1, k2, k3, k4⟩, kE, kC, rfl, sh2⟩ := hb
    refine ⟨_, rfl, _, _, _, _, true, rfl, .own _, .base (.ins k0 T.cl_Image T.ix_Image.ha T.ix_Image.hn T.ix_Image.htk T.ix_Image.hm), T.ix_Image.me, _, rfl, iteN rfl ?_⟩
    refine ⟨_, rfl, p, X.CI, dx, _, _, rfl, h0, T.cl_Image, T.n_slots, rfl, _, rfl, p, X.CI, dx, _, _, rfl, h0, T.cl_Image, T.n_cells, rfl, _, rfl, p, X.CI, dx, _, _, rfl, h0, T.cl_Image, T.n_registers, rfl, _, rfl, p, X.CI, dx, _, _, rfl, h0, T.cl_Image, T.n_entries, rfl,
      _, rfl, p, X.CI, dx, _, _, rfl, h0, T.cl_Image, T.n_claims, rfl, by show 5 ≤ sizeLine; decide, fun pm nm => ?_⟩
    have k0' := same_new (o := .tup [.ref a1, .ref a2, .int rr, .ref a3, .ref a4]) nm _ _ k0
    refine ⟨_, rfl, _, rfl, b, X.CI, dy, _, _, rfl, k0', T.cl_Image, T.n_slots, rfl, _, rfl, b, X.CI, dy, _, _, rfl, k0', T.cl_Image, T.n_cells, rfl, _, rfl, b, X.CI, dy, _, _, rfl, k0', T.cl_Image, T.n_registers, rfl, _, rfl, b, X.CI, dy, _, _, rfl, k0', T.cl_Image, T.n_entries, rfl,
      _, rfl, b, X.CI, dy, _, _, rfl, k0', T.cl_Image, T.n_claims, rfl, by show 5 ≤ sizeLine; decide, fun po no => ?_⟩
    have s1 := (same_new (o := .tup [.ref a1, .ref a2, .int rr, .ref a3, .ref a4]) nm).trans (same_new (o := .tup [.ref b1, .ref b2, .int rr2, .ref b3, .ref b4]) no)
    refine ⟨_, _, .tup (same_tup (same_new no) new_tup) ?_, .tup new_tup ?_, sh.shaped, sh2.shaped, q _ s1⟩
    · exact .cons (dp_tints (same_tup s1 h1)) (.cons (dp_tints (same_tup s1 h2)) (.cons (.int _) (.cons (.tup (same_tup s1 h3) (dpAll_same s1 hE)) (.cons (.tup (same_tup s1 h4) (dpAll_same s1 hC)) .nil))))
    · exact .cons (dp_tints (same_tup s1 k1)) (.cons (dp_tints (same_tup s1 k2)) (.cons (.int _) (.cons (.tup (same_tup s1 k3) (dpAll_same s1 kE)) (.cons (.tup (same_tup s1 k4) (dpAll_same s1 kC)) .nil))))

end
end K88
set_option maxHeartbeats 4000000
set_option pp.deepTerms false
set_option pp.deepTerms.threshold 3
namespace K88
open PySem PySem.Spec PyProof.Rows L2 SX BB BD BQ BS BE PN BZ BC BI BV
local macro_rules | `(tactic| walk_at "side") => `(tactic| (try dsimp only) <;> (first | decide | omega | assumption | (unfold CMul; omega) | (unfold CDiv; omega)))
local macro_rules | `(tactic| walk_at "sq") => `(tactic| first
  | assumption
  | exact new_tup
  | exact same_tup (by assumption) (by assumption)
  | (refine same_tup (same_new (by assumption)) ?_; walk_at "sq"))
local macro_rules | `(tactic| walk_at "rd") => `(tactic| first
  | refine ⟨_, rfl, ?_⟩
  | refine ⟨_, _, _, _, rfl, rfl, (by walk_at "sq"), atI_of (j := 0) rfl, ?_⟩
  | refine ⟨_, _, _, _, rfl, rfl, (by walk_at "sq"), atI_of (j := 1) rfl, ?_⟩
  | refine ⟨_, _, rfl, rfl, ?_⟩
  | refine ⟨_, _, rfl, ?_⟩
  | refine And.intro rfl ?_
  | refine And.intro (by walk_at "side") ?_
  | refine Or.inl ⟨_, rfl, ?_⟩)
local macro_rules | `(tactic| walk_at "no") => `(tactic| refine ⟨_, rfl, rfl, _, rfl, iteN (by decide +kernel) ?_⟩)
local macro_rules | `(tactic| walk_at "yes") => `(tactic| refine ⟨_, rfl, rfl, _, rfl, iteY (by decide +kernel) ?_⟩)
local macro_rules | `(tactic| walk_at "rds") => `(tactic| repeat (walk_at "rd"))
section
variable {P : Program} {w : World} {K : PySem.W.Frag} {mg : Str → Option Value} {base : Heap} {X : Top} {eB eU : Addr}

abbrev s_law_cell : Stmt := topS 34
abbrev N_law_cell : List Str := ["script", "k"]
abbrev P_law_cell : List Str := ["script", "k"]
theorem sc_law_cell : FnScope N_law_cell P_law_cell (defScope s_law_cell) := ⟨rfl, rfl, rfl, by decide +kernel, rfl, by decide +kernel, by decide +kernel⟩
-- slots: script=0 k=1
def spCell (K : PySem.W.Frag) : Sp := fun vs H Q _ => ∃ (a : Addr) (ns : List Int) (k : Nat), vs = [.ref a, .int (k : Int)] ∧ SqL K H a (ns.map V.int) ∧ Q (.int (cell ns k)) H
theorem cal_law_cell (T : Txt K w mg X) (D : Def K mg "_law_cell" P_law_cell s_law_cell) : Cal P w K mg base 1 "_law_cell" P_law_cell (spCell K) := by
  refine cal0 D sc_law_cell (fun vs H Q E h => ?_) (fun f cdv A outer s H vs Q E hr h => ?_)
  · obtain ⟨a, ns, k, rfl, _⟩ := h; rfl
  · obtain ⟨a, ns, k, rfl, hS, q⟩ := h
    have nd := sc_law_cell.nd
    refine ⟨_, (pss_cons (ps_if (pt_cmpR op_lt (pv 1) (pe_callB call_len_seq (by rfl) T.b_len PySem.boot_len (pa_cons (pv 0) pa_nil)) (nomark _)) (pss_one (ps_ret (pe_callTy call_int1 (by rfl) T.b_int (by decide +kernel) (pa_cons (pe_ix ix_list (pv 0) (pv 1) (fun _ _ => rfl)) pa_nil)))) pss_nil)
    (pss_one (ps_ret pe_int))), ?_⟩
    refine ⟨_, rfl, _, rfl, _, _, rfl, .inl hS, ?_⟩
    walk_at "rds"
    refine ite2 (fun h => ?_) (fun h => ?_)
    · have hk : k < ns.length := by
        have h := of_decide_eq_true h
        rw [List.length_map] at h
        omega
      refine ⟨_, rfl, _, rfl, _, _, _, V.int (cell ns k), rfl, rfl, hS, atI_of ?_, Or.inl ⟨_, rfl, q⟩⟩
      unfold cell
      rw [List.getElem?_map, List.getD_eq_getElem?_getD, List.getElem?_eq_getElem hk]
      rfl
    · have hk : ¬ k < ns.length := fun z => h (decide_eq_true (by rw [List.length_map]; omega))
      have e : cell ns k = 0 := by
        unfold cell
        rw [List.getD_eq_getElem?_getD, List.getElem?_eq_none (by omega)]
        rfl
      rw [e] at q
      exact q

theorem alpha_at : ∀ k, k < 26 → ("abcdefghijklmnopqrstuvwxyz" : Str).cps.toList[k]? = some (97 + k) := by decide +kernel
theorem strOk_S {l : List Nat} (h : ∀ x ∈ l, x < 1114112) : PyData.strOk (S l) = true := by
  unfold PyData.strOk
  rw [Array.all_eq_true_iff_forall_mem]
  intro x hx
  exact decide_eq_true (h x (by simpa using hx))
theorem S_snoc {l : List Nat} {c : Nat} : S l ++ (⟨#[c]⟩ : Str) = S (l ++ [c]) := S_cat l [c]
abbrev s_law_row : Stmt := topS 35
abbrev N_law_row : List Str := ["cell", "count", "most", "told", "rest", "k"]
abbrev P_law_row : List Str := ["cell", "count", "most"]
theorem sc_law_row : FnScope N_law_row P_law_row (defScope s_law_row) := ⟨rfl, rfl, rfl, by decide +kernel, rfl, by decide +kernel, by decide +kernel⟩
-- slots: cell=0 count=1 most=2 told=3 rest=4 k=5
def spRow : Sp := fun vs H Q _ => ∃ (c m : Int) (n : Nat), vs = [.int c, .int n, .int m] ∧ n ≤ 1000 ∧ 0 < m ∧ ∀ (p : Addr) (H' : Hp) (xs : List Int), H p = none → Same H H' → H' p = some (.lst (xs.map V.int)) → xs.length = n → Q (.ref p) H'
theorem cal_law_row (T : Txt K w mg X) (D : Def K mg "_law_row" P_law_row s_law_row) : Cal P w K mg base 1 "_law_row" P_law_row spRow := by
  refine cal0 D sc_law_row (fun vs H Q E h => ?_) (fun f cdv A outer s H vs Q E hr h => ?_)
  · obtain ⟨c, m, n, rfl, _⟩ := h; rfl
  · obtain ⟨c, m, n, rfl, hn, hm, q⟩ := h
    have nd := sc_law_row.nd
    refine ⟨_, (pss_cons (ps_set (i := 3) nd rfl (.inl rfl) (pe_lst pa_nil))
    (pss_cons (ps_set (i := 4) nd rfl (.inl rfl) (pe_callB call_abs (by rfl) T.b_abs (by decide +kernel) (pa_cons (pv 0) pa_nil)))
    (pss_cons (ps_for PassesOwn.never rfl (pi_range1 (by rfl) T.b_range (pa_cons (pv 1) pa_nil)) (pg_name (i := 5) nd rfl (.inl rfl))
      (pss_cons (ps_set (i := 4) nd rfl (.inl rfl) (pe_op op_add (pe_op op_fdiv (pv 4) pe_int) (pe_op op_mod (pe_callTy call_int1 (by rfl) T.b_int (by decide +kernel) (pa_cons (pe_op op_add (pe_op op_mul (pe_op op_mod (pe_callB call_abs (by rfl) T.b_abs (by decide +kernel) (pa_cons (pv 0) pa_nil)) pe_int) pe_int) (pe_op op_mul (pv 5) pe_int)) pa_nil)) pe_int)))
    (pss_one (ps_expr (pe_bm PySem.F.plainAttrs_list PySem.F.slot_list_append PySem.F.type_list_append mt_append (pv 3) (pa_cons (pe_op op_sub (pe_op op_mod (pv 4) (pv 2)) pe_int) pa_nil))))))
    (pss_one (ps_ret (pv 3)))))), ?_⟩
    refine ⟨by show 0 ≤ sizeLine; decide, fun p np => ?_⟩
    refine ⟨_, rfl, _, rfl, _, rfl, _, rfl, by omega, by omega, ?_⟩
    refine for_range (lo := 0) (n := n) (fun i σ H' => Same H H' ∧ ∃ (xs : List Int) (r : Int) (z : Option V), xs.length = i ∧ H' p = some (.lst (xs.map V.int)) ∧ σ = [some (.int c), some (.int n), some (.int m), some (.ref p), some (.int r), z]) ⟨same_new np, [], _, _, rfl, upd_same, rfl⟩ (fun i σ H' hi h => ?_) (fun σ H' h => ?_)
    · obtain ⟨sm, xs, r, z, hl, hp, rfl⟩ := h
      refine ⟨_, rfl, _, _, rfl, rfl, ⟨by decide, by decide⟩, _, rfl, _, rfl, _, _, rfl, rfl, by show (0 : Int) < 1000003; decide, _, _, rfl, rfl, .inr ⟨by decide, by decide⟩, _, rfl, _, _, rfl, rfl, .inr ⟨by decide, by decide⟩, _, _, rfl, rfl, .inl ⟨_, rfl, _, _, rfl, rfl, by show (0 : Int) < 1000003; decide, _, _, rfl, rfl, ?_⟩⟩
      refine ⟨_, rfl, .inl ⟨rfl, _, .of hp⟩, _, rfl, _, rfl, _, _, rfl, rfl, hm, _, _, rfl, rfl, p, _, _, rfl, rfl, hp, by rw [List.length_map, hl, sizeLine_eq]; omega, ?_⟩
      refine ⟨fun b u e => by rw [upd_ne (ne_of_none e np)]; exact sm _ _ e, xs ++ [(r / 3 + ((if c < 0 then -c else c) % 1000003 * 48271 + (0 + (i : Int)) * 69621) % 1000003) % m - 2], _, _, by simp [hl], ?_, rfl⟩
      rw [upd_same, List.map_append]
      rfl
    · obtain ⟨sm, xs, r, z, hl, hp, rfl⟩ := h
      exact ⟨_, rfl, q p H' xs np sm hp hl⟩

abbrev s_law_name : Stmt := topS 36
abbrev N_law_name : List Str := ["cell", "text", "k"]
abbrev P_law_name : List Str := ["cell"]
theorem sc_law_name : FnScope N_law_name P_law_name (defScope s_law_name) := ⟨rfl, rfl, rfl, by decide +kernel, rfl, by decide +kernel, by decide +kernel⟩
-- slots: cell=0 text=1 k=2
def spName : Sp := fun vs H Q _ => ∃ c : Int, vs = [.int c] ∧ ∀ (z : Str) (H' : Hp), Same H H' → z.length ≤ 3 → PyData.strOk z = true → Q (.str z) H'
theorem cal_law_name (T : Txt K w mg X) (D : Def K mg "_law_name" P_law_name s_law_name) : Cal P w K mg base 1 "_law_name" P_law_name spName := by
  refine cal0 D sc_law_name (fun vs H Q E h => ?_) (fun f cdv A outer s H vs Q E hr h => ?_)
  · obtain ⟨c, rfl, _⟩ := h; rfl
  · obtain ⟨c, rfl, q⟩ := h
    have nd := sc_law_name.nd
    refine ⟨_, (pss_cons (ps_set (i := 1) nd rfl (.inl rfl) pe_str)
    (pss_cons (ps_for PassesOwn.never rfl (pi_range1 (by rfl) T.b_range (pa_cons (pe_op op_add pe_int (pe_op op_mod (pv 0) pe_int)) pa_nil)) (pg_name (i := 2) nd rfl (.inl rfl))
      (pss_one (ps_set (i := 1) nd rfl (.inl rfl) (pe_op op_add_str (pv 1) (pe_ix ix_str pe_str (pe_op op_mod (pe_callTy call_int1 (by rfl) T.b_int (by decide +kernel) (pa_cons (pe_op op_fdivW (pv 0) (pe_ix ix_list (pe_lst (pa_cons pe_int (pa_cons pe_int (pa_cons pe_int pa_nil)))) (pv 2) (fun _ _ => rfl))) pa_nil)) pe_int) (fun _ _ => rfl))))))
    (pss_one (ps_ret (pv 1))))), ?_⟩
    refine ⟨_, rfl, _, _, rfl, rfl, by show (0 : Int) < 3; decide, _, _, rfl, rfl, _, rfl, by omega, by omega, ?_⟩
    have hn : (1 + c % 3).toNat ≤ 3 := by omega
    refine for_range (lo := 0) (n := (1 + c % 3).toNat) (fun i σ H' => Same H H' ∧ ∃ (l : List Nat) (z : Option V), l.length = i ∧ (∀ x ∈ l, x < 1000) ∧ σ = [some (.int c), some (.str (S l)), z]) ⟨Same.refl _, [], _, rfl, (by simp), rfl⟩ (fun i σ H' hi h => ?_) (fun σ H' h => ?_)
    · obtain ⟨sm, l, z, hl, hx, rfl⟩ := h
      have hd : ∃ d : Int, ([.int 3, .int 12, .int 48] : List V)[i]? = some (.int d) ∧ 0 < d ∧ d ≤ 48 := by
        match i, (show i < 3 by omega) with
        | 0, _ => exact ⟨3, rfl, by decide, by decide⟩
        | 1, _ => exact ⟨12, rfl, by decide, by decide⟩
        | 2, _ => exact ⟨48, rfl, by decide, by decide⟩
      obtain ⟨d, hd, d0, d1⟩ := hd
      have e0 : (0 : Int) + (i : Int) = ((i : Nat) : Int) := by omega
      have k26 : (c / d % 26).toNat < 26 := by omega
      refine ⟨_, rfl, _, rfl, by show 3 ≤ sizeLine; decide, fun p np => ⟨_, rfl, p, _, _, .int d, rfl, rfl, new_lst, ?_, _, _, rfl, rfl, ⟨d0, ?_⟩, .inl ⟨_, rfl, _, _, rfl, rfl, by show (0 : Int) < 26; decide, _, _, 97 + (c / d % 26).toNat, rfl, rfl, by show 26 ≤ sizeLine; decide, ?_, _, _, rfl, rfl, ?_, ?_⟩⟩⟩
      · rw [e0]
        exact atI_of hd
      · have : d.natAbs < 2 ^ 6 := by omega
        exact Nat.lt_of_le_of_lt (Nat.le_of_lt_succ (Nat.lt_succ_of_lt ((Nat.log2_lt (by omega)).mpr this))) (by decide)
      · rw [show c / d % 26 = (((c / d % 26).toNat : Nat) : Int) by omega]
        exact atI_of (alpha_at _ k26)
      · rw [S_len, sizeLine_eq]
        show l.length + 1 ≤ _
        omega
      · refine ⟨sm.trans (same_new np), l ++ [97 + (c / d % 26).toNat], some (.int (0 + (i : Int))), by simp [hl], fun x hx' => ?_, ?_⟩
        · rcases List.mem_append.mp hx' with h | h
          · exact hx x h
          · rw [List.mem_singleton.mp h]
            omega
        · rw [← S_snoc]
          rfl
    · obtain ⟨sm, l, z, hl, hx, rfl⟩ := h
      refine ⟨_, rfl, q _ H' sm (by rw [S_len]; omega) ?_⟩
      exact strOk_S fun x h => Nat.lt_trans (hx x h) (by decide)

abbrev s_law_entry : Stmt := topS 37
abbrev N_law_entry : List Str := ["cell", "cells", "inputs", "k"]
abbrev P_law_entry : List Str := ["cell", "cells"]
theorem sc_law_entry : FnScope N_law_entry P_law_entry (defScope s_law_entry) := ⟨rfl, rfl, rfl, by decide +kernel, rfl, by decide +kernel, by decide +kernel⟩
-- slots: cell=0 cells=1 inputs=2 k=3
/-- an entry: its name and what it is -/
def EntAt (K : PySem.W.Frag) (H : Hp) (v : V) (n : Str) (d : PyData) : Prop := (∃ p xs, v = .ref p ∧ SqT K H p (.str n :: xs)) ∧ TD K H v d ∧ Sh 3 d ∧ n.length ≤ 3 ∧ PyData.strOk n = true
def spEntry (K : PySem.W.Frag) : Sp := fun vs H Q _ => ∃ (c n : Int), vs = [.int c, .int n] ∧ 0 ≤ n ∧ ∀ v H' s d, Same H H' → EntAt K H' v s d → Q v H'
theorem cal_law_entry (T : Txt K w mg X) (D : Def K mg "_law_entry" P_law_entry s_law_entry) (c_law_name : Cal P w K mg base 1 "_law_name" P_law_name spName) : Cal P w K mg base 2 "_law_entry" P_law_entry (spEntry K) := by
  refine cal0 D sc_law_entry (fun vs H Q E h => ?_) (fun f cdv A outer s H vs Q E hr h => ?_)
  · obtain ⟨c, n, rfl, _⟩ := h; rfl
  · obtain ⟨c, n, rfl, hn, q⟩ := h
    have nd := sc_law_entry.nd
    refine ⟨_, (pss_cons (ps_set (i := 2) nd rfl (.inl rfl) (pe_lst pa_nil))
    (C8.pss_cut (ps_if (pt_cmpR op_gt (pv 1) pe_int (nomark _)) (pss_one (ps_setLc (i := 2) (own := [("k", 3)]) (g := gName 3) (tt := tYes) rfl nd rfl rfl (sw_true rfl rfl rfl (by decide +kernel)) (pi_range1 (by rfl) T.b_range (pa_cons (pe_op op_mod (pe_callTy call_int1 (by rfl) T.b_int (by decide +kernel) (pa_cons (pe_op op_fdiv (pv 0) pe_int) pa_nil)) pe_int) pa_nil)) (blkOk_by (own := [("k", 3)]) (N := N_law_entry) (sc := defScope s_law_entry) (by decide +kernel)) (fun _ _ _ _ _ => (pg_name (i := 3) nd rfl (.inl rfl))) (fun _ _ _ _ _ => pts_nil) (fun _ _ _ _ _ => (pe_tup (pa_cons (pe_op op_mod (pe_callTy call_int1 (by rfl) T.b_int (by decide +kernel) (pa_cons (pe_op op_add (pe_op op_fdiv (pv 0) pe_int) (pv 3)) pa_nil)) (pv 1)) (pa_cons (pe_op op_sub (pe_un un_neg (pv 3)) (pe_op op_mod (pe_op op_fdiv (pv 0) pe_int) pe_int)) (pa_cons (pe_op op_mod (pe_op op_fdiv (pv 0) pe_int) pe_int) pa_nil))))))) pss_nil)
    (pss_one (ps_ret (pe_tup (pa_cons (pe_c c_law_name hr (by decide) rfl (pa_cons (pe_op op_mod (pe_op op_fdiv (pv 0) pe_int) (pe_ix ix_list (pe_lst (pa_cons pe_int (pa_cons pe_int pa_nil))) (pe_op op_mod (pv 0) pe_int) (fun _ _ => rfl))) pa_nil)) (pa_cons (pe_op op_mod (pe_callTy call_int1 (by rfl) T.b_int (by decide +kernel) (pa_cons (pv 0) pa_nil)) pe_int) (pa_cons (pe_callTy cs_tuple (by rfl) T.b_tuple (by decide +kernel) (pa_cons (pv 2) pa_nil)) (pa_cons (pe_op op_mod (pe_callTy call_int1 (by rfl) T.b_int (by decide +kernel) (pa_cons (pe_op op_fdiv (pv 0) pe_int) pa_nil)) (pe_callB (call_max2 rfl) (by rfl) T.b_max (by decide +kernel) (pa_cons pe_int (pa_cons (pv 1) pa_nil)))) pa_nil))))))))), ?_⟩
    refine ⟨by show 0 ≤ sizeLine; decide, fun p0 n0 => ?_⟩
    refine ⟨fun σ H' => Same H H' ∧ ∃ l vs ds, SqL K H' l vs ∧ TDAll K H' vs ds ∧ (∀ d ∈ ds, Sh 1 d) ∧ σ = [some (.int c), some (.int n), some (.ref l), none], ?_, ?_⟩
    · refine ⟨_, rfl, _, _, rfl, rfl, _, rfl, ?_⟩
      refine ite2 (fun h => ?_) (fun h => ?_)
      · have h := of_decide_eq_true h
        refine ⟨_, rfl, _, _, rfl, rfl, ⟨by decide, by decide⟩, .inl ⟨_, rfl, _, _, rfl, rfl, by show (0 : Int) < 4; decide, _, rfl, by omega, by omega, fun D hD => ?_⟩⟩
        refine lcG (src_range (lo := 0) (n := (c / 3 % 4).toNat)) hD (by simp; omega) (fun _ => true) (fun x y H => ∃ d, TD K H y d ∧ Sh 1 d) (fun _ _ => trivial) (fun x y H H' sb hd h => by
          obtain ⟨d, h1, h2⟩ := h
          exact ⟨d, td_sb sb hd h1, h2⟩) (fun x hx H4 Qy Qn s4 qy _ => ?_) (fun H5 ys s5 hDy pr => ?_)
        · obtain ⟨k, hk, rfl⟩ := List.mem_map.mp hx
          refine ⟨rfl, ?_⟩
          refine iteT (B := Qn H4) ?_
          refine ⟨_, rfl, _, _, rfl, rfl, ⟨by decide, by decide⟩, _, rfl, _, _, rfl, rfl, .inl ⟨_, rfl, _, rfl, _, _, rfl, rfl, h, _, rfl, _, rfl, _, rfl, _, _, rfl, rfl, ⟨by decide, by decide⟩, _, _, rfl, rfl, by show (0 : Int) < 50; decide, _, _, rfl, rfl, _, rfl, _, _, rfl, rfl, ⟨by decide, by decide⟩, _, _, rfl, rfl, by show (0 : Int) < 50; decide, by show 3 ≤ sizeLine; decide, fun p np => ?_⟩⟩
          exact qy _ _ (same_new np) rfl ⟨_, .tup new_tup (.cons (.int _) (.cons (.int _) (.cons (.int _) .nil))), .tuple fun d hd => by
            simp only [List.mem_cons, List.mem_nil_iff, or_false] at hd
            rcases hd with rfl | rfl | rfl <;> exact .int⟩
        · rw [filter_true] at pr
          obtain ⟨ds, h1, h2⟩ := tds_of pr
          exact ⟨(same_new n0).trans s5, D, ys, ds, .of hDy, h1, h2, rfl⟩
      · exact ⟨same_new n0, p0, [], [], new_lst, .nil, by simp, rfl⟩
    · rintro σ H' ⟨sm, l, vs, ds, hl, hd, hs, rfl⟩
      have hk : ∃ d : Int, ([.int 7, .int 400] : List V)[(c % 2).toNat]? = some (.int d) ∧ 0 < d := by
        match (c % 2).toNat, (show (c % 2).toNat < 2 by omega) with
        | 0, _ => exact ⟨7, rfl, by decide⟩
        | 1, _ => exact ⟨400, rfl, by decide⟩
      obtain ⟨d, hk, d0⟩ := hk
      refine ⟨_, rfl, _, _, rfl, rfl, ⟨by decide, by decide⟩, by show 2 ≤ sizeLine; decide, fun pa na => ⟨_, rfl, _, _, rfl, rfl, by show (0 : Int) < 2; decide, pa, _, _, .int d, rfl, rfl, new_lst, ?_, _, _, rfl, rfl, d0, _, rfl, fun z H2 s2 z1 z2 => ?_⟩⟩
      · rw [show c % 2 = (((c % 2).toNat : Nat) : Int) by omega]
        exact atI_of hk
      have s02 := (same_new (o := .lst [.int 7, .int 400]) na).trans s2
      refine ⟨_, rfl, .inl ⟨_, rfl, _, _, rfl, rfl, by show (0 : Int) < 60; decide, _, rfl, l, vs, rfl, .inl (same_lst s02 hl), fun pt H3 s3 g3 => ?_⟩⟩
      refine ⟨_, rfl, _, _, rfl, rfl, ⟨by decide, by decide⟩, .inl ⟨_, rfl, _, rfl, _, _, rfl, _, _, rfl, rfl, ?_, by show 4 ≤ sizeLine; decide, fun pe ne => ?_⟩⟩
      · show (0 : Int) < if n > 1 then n else 1
        split <;> omega
      have s03 := s02.trans s3
      have s05 : ∀ o, Same H' (upd H3 pe o) := fun o => s03.trans (same_new ne)
      refine q _ _ z _ (sm.trans (s05 _)) ⟨⟨pe, _, rfl, new_tup⟩, .tup new_tup (.cons (.str z) (.cons (.int _) (.cons (.tup (same_tup (same_new ne) g3) (tds_same (s05 _) hd)) (.cons (.int _) .nil)))), .tuple fun d hd => ?_, z1, z2⟩
      simp only [List.mem_cons, List.mem_nil_iff, or_false] at hd
      rcases hd with rfl | rfl | rfl | rfl
      · exact .str z2
      · exact .int
      · exact .tuple hs
      · exact .int

abbrev s_law_entry_of : Stmt := topS 38
abbrev N_law_entry_of : List Str := ["image", "name", "e"]
abbrev P_law_entry_of : List Str := ["image", "name"]
theorem sc_law_entry_of : FnScope N_law_entry_of P_law_entry_of (defScope s_law_entry_of) := ⟨rfl, rfl, rfl, by decide +kernel, rfl, by decide +kernel, by decide +kernel⟩
-- slots: image=0 name=1 e=2
def EntOf (K : PySem.W.Frag) (H : Hp) (p : Addr) (name : Str) : Option V → Prop
  | some v => SqT K H p [.str "entry", v]
  | none => SqT K H p [.str "unknown", .str name]
def spEO (K : PySem.W.Frag) (C : Addr) : Sp := fun vs H Q _ => ∃ (p : Addr) (sl ce : List Int) (R : Int) (en cl : List V) (ns : List Str) (name : Str), vs = [.ref p, .str name] ∧ ImgAt K C H p sl ce R en cl ∧ NamesAt K H ns en ∧ name.length ≤ 100000 ∧ ∀ p' H', Same H H' → EntOf K H' p' name (firstN ns en name) → Q (.ref p') H'
theorem cal_law_entry_of (T : Txt K w mg X) (D : Def K mg "_law_entry_of" P_law_entry_of s_law_entry_of) (E_UnknownName : Err P w K mg base "UnknownName" eU "name") (m_Image_entry : CalM P w K mg base 3 X.CI "entry" P_Image_entry (spEnt K X.CI eU)) : Cal P w K mg base 4 "_law_entry_of" P_law_entry_of (spEO K X.CI) := by
  refine cal0 D sc_law_entry_of (fun vs H Q E h => ?_) (fun f cdv A outer s H vs Q E hr h => ?_)
  · obtain ⟨p, sl, ce, rr, en, cl, ns, name, rfl, _⟩ := h; rfl
  · obtain ⟨p, sl, ce, rr, en, cl, ns, name, rfl, hi, hn, hz, q⟩ := h
    have nd := sc_law_entry_of.nd
    refine ⟨_, (pss_one (ps_try_as (i := 2) rfl rfl nd rfl rfl ⟨rfl, by decide, .inl E_UnknownName.hm⟩ takes0 (fun W pn xe tk _ =>
      (pss_one (ps_ret (pe_tup (pa_cons pe_str (pa_cons (pe_cmS m_Image_entry T.cl_Image hr (by decide) tk (pv 0) (pa_cons (pv 1) pa_nil)) pa_nil)))))) (fun a oe cls d pn hz hf =>
      (pss_one (ps_ret (pe_tup (pa_cons pe_str (pa_cons (pe_xf E_UnknownName.xf E_UnknownName.no hz hf (pv 2)) pa_nil)))))))), ?_⟩
    have hi0 := hi
    obtain ⟨dx, a1, a2, a3, a4, h0, _⟩ := hi
    refine ⟨_, rfl, p, dx, _, rfl, h0, rfl, _, rfl, p, sl, ce, rr, en, cl, ns, name, rfl, hi0, hn, hz, fun v hv => ?_, fun hv d H1 s1 g1 => ?_⟩
    · refine ⟨by show 2 ≤ sizeLine; decide, fun pr nr => q pr _ (same_new nr) ?_⟩
      rw [hv]
      exact new_tup
    · refine ⟨true, E_UnknownName.exm, fun _ ae na => ?_, nofun⟩
      refine ⟨_, rfl, rfl, rfl, d, _, _, rfl, g1, rfl, by show 2 ≤ sizeLine; decide, fun pr nr => q pr _ (s1.trans (same_new nr)) ?_⟩
      rw [hv]
      exact new_tup

abbrev s_law_read : Stmt := topS 39
abbrev N_law_read : List Str := ["image", "place", "e"]
abbrev P_law_read : List Str := ["image", "place"]
theorem sc_law_read : FnScope N_law_read P_law_read (defScope s_law_read) := ⟨rfl, rfl, rfl, by decide +kernel, rfl, by decide +kernel, by decide +kernel⟩
-- slots: image=0 place=1 e=2
def ReadAt (K : PySem.W.Frag) (H : Hp) (p : Addr) (place : Int) : Option (Nat × List Int) → Prop
  | some (j, ops) => j < 18 ∧ ∃ q, SqT K H p [.str "read", .ref q] ∧ SqT K H q (insV j ops)
  | none => SqT K H p [.str "refused", .int place]
def spRead (K : PySem.W.Frag) (C : Addr) : Sp := fun vs H Q _ => ∃ (p : Addr) (sl ce : List Int) (R : Int) (en cl : List V) (place : Int), vs = [.ref p, .int place] ∧ ImgAt K C H p sl ce R en cl ∧ place.natAbs < 2 ^ 64 ∧ sl.length ≤ 1000000 ∧ ∀ p' H', Same H H' → ReadAt K H' p' place (decZ sl place R ce.length) → Q (.ref p') H'
theorem cal_law_read (T : Txt K w mg X) (D : Def K mg "_law_read" P_law_read s_law_read) (E_BadImage : Err P w K mg base "BadImage" eB "place") (m_Image_instruction : CalM P w K mg base 4 X.CI "instruction" P_Image_instruction (spIns K X.CI eB)) : Cal P w K mg base 5 "_law_read" P_law_read (spRead K X.CI) := by
  refine cal0 D sc_law_read (fun vs H Q E h => ?_) (fun f cdv A outer s H vs Q E hr h => ?_)
  · obtain ⟨p, sl, ce, rr, en, cl, place, rfl, _⟩ := h; rfl
  · obtain ⟨p, sl, ce, rr, en, cl, place, rfl, hi, hb, hx, q⟩ := h
    have nd := sc_law_read.nd
    refine ⟨_, (pss_one (ps_try_as (i := 2) rfl rfl nd rfl rfl ⟨rfl, by decide, .inl E_BadImage.hm⟩ takes0 (fun W pn xe tk _ =>
      (pss_one (ps_ret (pe_tup (pa_cons pe_str (pa_cons (pe_cmS m_Image_instruction T.cl_Image hr (by decide) tk (pv 0) (pa_cons (pv 1) pa_nil)) pa_nil)))))) (fun a oe cls d pn hz hf =>
      (pss_one (ps_ret (pe_tup (pa_cons pe_str (pa_cons (pe_xf E_BadImage.xf E_BadImage.no hz hf (pv 2)) pa_nil)))))))), ?_⟩
    have hi0 := hi
    obtain ⟨dx, a1, a2, a3, a4, h0, _⟩ := hi
    refine ⟨_, rfl, p, dx, _, rfl, h0, rfl, _, rfl, p, sl, ce, rr, en, cl, place, rfl, hi0, hb, hx, fun j ops e hj p2 H1 s1 g1 => ?_, fun hv d H1 s1 g1 => ?_⟩
    · refine ⟨by show 2 ≤ sizeLine; decide, fun pr nr => q pr _ (s1.trans (same_new nr)) ?_⟩
      rw [e]
      exact ⟨hj, p2, new_tup, same_tup (same_new nr) g1⟩
    · refine ⟨true, E_BadImage.exm, fun _ ae na => ?_, nofun⟩
      refine ⟨_, rfl, rfl, rfl, d, _, _, rfl, g1, rfl, by show 2 ≤ sizeLine; decide, fun pr nr => q pr _ (s1.trans (same_new nr)) ?_⟩
      rw [hv]
      exact new_tup

abbrev s_law_due : Stmt := topS 40
abbrev N_law_due : List Str := ["slots", "place", "registers", "cells", "e"]
abbrev P_law_due : List Str := ["slots", "place", "registers", "cells"]
theorem sc_law_due : FnScope N_law_due P_law_due (defScope s_law_due) := ⟨rfl, rfl, rfl, by decide +kernel, rfl, by decide +kernel, by decide +kernel⟩
-- slots: slots=0 place=1 registers=2 cells=3 e=4
def spDue (K : PySem.W.Frag) : Sp := fun vs H Q _ => ∃ (a : Addr) (xs : List Int) (place R C : Int), vs = [.ref a, .int place, .int R, .int C] ∧ SqA K H a (xs.map V.int) ∧ place.natAbs < 2 ^ 64 ∧ xs.length ≤ 1000000 ∧ ∀ p H', Same H H' → ReadAt K H' p place (decZ xs place R C) → Q (.ref p) H'
theorem cal_law_due (T : Txt K w mg X) (D : Def K mg "_law_due" P_law_due s_law_due) (E_BadImage : Err P w K mg base "BadImage" eB "place") (c_decode : Cal P w K mg base 3 "decode" P_decode (spDec K eB)) : Cal P w K mg base 4 "_law_due" P_law_due (spDue K) := by
  refine cal0 D sc_law_due (fun vs H Q E h => ?_) (fun f cdv A outer s H vs Q E hr h => ?_)
  · obtain ⟨a, xs, place, rr, cc, rfl, _⟩ := h; rfl
  · obtain ⟨a, xs, place, rr, cc, rfl, hs, hb, hx, q⟩ := h
    have nd := sc_law_due.nd
    refine ⟨_, (pss_one (ps_try_as (i := 4) rfl rfl nd rfl rfl ⟨rfl, by decide, .inl E_BadImage.hm⟩ takes0 (fun W pn xe tk _ =>
      (pss_one (ps_ret (pe_tup (pa_cons pe_str (pa_cons (pe_cS c_decode hr (by decide) rfl tk (pa_cons (pv 0) (pa_cons (pv 1) (pa_cons (pv 2) (pa_cons (pv 3) pa_nil))))) pa_nil)))))) (fun a oe cls d pn hz hf =>
      (pss_one (ps_ret (pe_tup (pa_cons pe_str (pa_cons (pe_xf E_BadImage.xf E_BadImage.no hz hf (pv 4)) pa_nil)))))))), ?_⟩
    refine ⟨_, rfl, _, rfl, _, rfl, _, rfl, a, xs, place, rr, cc, rfl, hs, hb, hx, fun j ops e hj p H1 s1 g1 => ?_, fun e d H1 s1 g1 => ?_⟩
    · refine ⟨by show 2 ≤ sizeLine; decide, fun pr nr => q pr _ (s1.trans (same_new nr)) ?_⟩
      rw [e]
      exact ⟨hj, p, new_tup, same_tup (same_new nr) g1⟩
    · refine ⟨true, E_BadImage.exm, fun _ ae na => ?_, nofun⟩
      refine ⟨_, rfl, rfl, rfl, d, _, _, rfl, g1, rfl, by show 2 ≤ sizeLine; decide, fun pr nr => q pr _ (s1.trans (same_new nr)) ?_⟩
      rw [e]
      exact new_tup

abbrev s_law_parts : Stmt := topS 41
abbrev N_law_parts : List Str := ["image", "slots", "cells", "registers", "entries", "claims", "told", "due", "k"]
abbrev P_law_parts : List Str := ["image", "slots", "cells", "registers", "entries", "claims"]
theorem sc_law_parts : FnScope N_law_parts P_law_parts (defScope s_law_parts) := ⟨rfl, rfl, rfl, by decide +kernel, rfl, by decide +kernel, by decide +kernel⟩
-- slots: image=0 slots=1 cells=2 registers=3 entries=4 claims=5 told=6 due=7 k=8
def spParts (K : PySem.W.Frag) (C : Addr) : Sp := fun vs H Q _ => ∃ (p as ac ae am : Addr) (sl ce : List Int) (R : Int) (en cl : List V) (dE dC : List PyData), vs = [.ref p, .ref as, .ref ac, .int R, .ref ae, .ref am] ∧ ImgAt K C H p sl ce R en cl ∧ SqL K H as (sl.map V.int) ∧ SqL K H ac (ce.map V.int) ∧ SqL K H ae en ∧ SqL K H am cl ∧
  DpAll K H en dE ∧ DpAll K H cl dC ∧ Sh 60 (.list dE) ∧ Sh 60 (.list dC) ∧ ∀ H', Same H H' → Q (.bl true) H'
theorem cal_law_parts (T : Txt K w mg X) (D : Def K mg "_law_parts" P_law_parts s_law_parts) (m_Image_locations : CalP P w K mg base 1 X.CI "locations" P_Image_locations (spLoc K X.CI)) : Cal P w K mg base 3 "_law_parts" P_law_parts (spParts K X.CI) := by
  refine cal0 D sc_law_parts (fun vs H Q E h => ?_) (fun f cdv A outer s H vs Q E hr h => ?_)
  · obtain ⟨p, as, ac, ae, am, sl, ce, rr, en, cl, dE, dC, rfl, _⟩ := h; rfl
  · obtain ⟨p, as, ac, ae, am, sl, ce, rr, en, cl, dE, dC, rfl, hi, l1, l2, l3, l4, hE, hC, shE, shC, q⟩ := h
    have nd := sc_law_parts.nd
    refine ⟨_, (pss_cons (ps_set (i := 6) nd rfl (.inl rfl) (pe_lst (pa_cons (pe_fld (pv 0) rfl) (pa_cons (pe_fld (pv 0) rfl) (pa_cons (pe_fld (pv 0) rfl) (pa_cons (pe_fld (pv 0) rfl) pa_nil))))))
    (pss_cons (ps_set (i := 7) nd rfl (.inl rfl) (pe_lst (pa_cons (pv 1) (pa_cons (pv 2) (pa_cons (pv 4) (pa_cons (pv 5) pa_nil))))))
    (pss_cons (ps_for PassesOwn.never rfl (pi_range1 (by rfl) T.b_range (pa_cons pe_int pa_nil)) (pg_name (i := 8) nd rfl (.inl rfl))
      (pss_one (ps_if (PW.pt (pw_or (pt_not (pt_val (pe_callB call_isi (by rfl) T.b_isinstance (by decide +kernel) (pa_cons (pe_ix ix_list (pv 6) (pv 8) (fun _ _ => rfl)) (pa_cons (pe_bltn (v := .ty "tuple") (by rfl) T.b_tuple (by decide +kernel) rfl) pa_nil))))) (pw_or1 (pt_cmpR (op_neD hr.units) (pe_callTy call_list_of (by rfl) T.b_list (by decide +kernel) (pa_cons (pe_ix ix_list (pv 6) (pv 8) (fun _ _ => rfl)) pa_nil)) (pe_ix ix_list (pv 7) (pv 8) (fun _ _ => rfl)) (nomark _))))) (pss_one (ps_ret pe_bl)) pss_nil)))
    (pss_cons (ps_if (PW.pt (pw_or (pt_val (pe_callB call_isi (by rfl) T.b_isinstance (by decide +kernel) (pa_cons (pe_fld (pv 0) rfl) (pa_cons (pe_bltn (v := .ty "bool") (by rfl) T.b_bool (by decide +kernel) rfl) pa_nil)))) (pw_or1 (pt_cmpR op_ne (pe_fld (pv 0) rfl) (pv 3) (nomark _))))) (pss_one (ps_ret pe_bl)) pss_nil)
    (pss_one (ps_ret (pe_and (pe_cmpR op_eq (pe_pr m_Image_locations T.cl_Image hr (by decide) (pv 0)) (pe_op op_add (pv 3) (pe_callB call_len_seq (by rfl) T.b_len PySem.boot_len (pa_cons (pv 2) pa_nil))) (nomark _)) (pe_one (pe_not (pe_callB call_isi (by rfl) T.b_isinstance (by decide +kernel) (pa_cons (pe_pr m_Image_locations T.cl_Image hr (by decide) (pv 0)) (pa_cons (pe_bltn (v := .ty "bool") (by rfl) T.b_bool (by decide +kernel) rfl) pa_nil)))))))))))), ?_⟩
    have hi0 := hi
    obtain ⟨dx, a1, a2, a3, a4, h0, h1, h2, h3, h4⟩ := hi
    refine ⟨_, rfl, p, X.CI, dx, _, _, rfl, h0, T.cl_Image, T.n_slots, rfl, _, rfl, p, X.CI, dx, _, _, rfl, h0, T.cl_Image, T.n_cells, rfl, _, rfl, p, X.CI, dx, _, _, rfl, h0, T.cl_Image, T.n_entries, rfl, _, rfl, p, X.CI, dx, _, _, rfl, h0, T.cl_Image, T.n_claims, rfl, by show 4 ≤ sizeLine; decide, fun lt nt => ?_⟩
    refine ⟨_, rfl, _, rfl, _, rfl, _, rfl, by show 4 ≤ sizeLine; decide, fun ld nd2 => ?_⟩
    have s0 := (same_new (o := .lst [.ref a1, .ref a2, .ref a3, .ref a4]) nt).trans (same_new (o := .lst [.ref as, .ref ac, .ref ae, .ref am]) nd2)
    have ht : upd (upd H lt (.lst [.ref a1, .ref a2, .ref a3, .ref a4])) ld (.lst [.ref as, .ref ac, .ref ae, .ref am]) lt = some (.lst [.ref a1, .ref a2, .ref a3, .ref a4]) := same_new nd2 _ _ upd_same
    have hdu : upd (upd H lt (.lst [.ref a1, .ref a2, .ref a3, .ref a4])) ld (.lst [.ref as, .ref ac, .ref ae, .ref am]) ld = some (.lst [.ref as, .ref ac, .ref ae, .ref am]) := upd_same
    generalize upd (upd H lt (.lst [.ref a1, .ref a2, .ref a3, .ref a4])) ld (.lst [.ref as, .ref ac, .ref ae, .ref am]) = H0 at s0 ht hdu ⊢
    refine ⟨4, rfl, by decide, by decide, ?_⟩
    refine for_range (lo := 0) (n := 4) (fun i σ H' => Same H0 H' ∧ ∃ z, σ = [some (.ref p), some (.ref as), some (.ref ac), some (.int rr), some (.ref ae), some (.ref am), some (.ref lt), some (.ref ld), z]) ⟨Same.refl _, _, rfl⟩ (fun i σ H' hi h => ?_) (fun σ H' h => ?_)
    · obtain ⟨sm, z, rfl⟩ := h
      have e0 : (0 : Int) + (i : Int) = ((i : Nat) : Int) := by omega
      have row : ∃ (a l : Addr) (xs : List V) (ds : List PyData), ([.ref a1, .ref a2, .ref a3, .ref a4] : List V)[i]? = some (.ref a) ∧ ([.ref as, .ref ac, .ref ae, .ref am] : List V)[i]? = some (.ref l) ∧ SqT K H a xs ∧ SqL K H l xs ∧ DpAll K H xs ds ∧ Sh 64 (.list ds) := by
        match i, hi with
        | 0, _ => exact ⟨a1, as, _, _, rfl, rfl, h1, l1, dpAll fun x _ => .int x, sh_ints (n := 63)⟩
        | 1, _ => exact ⟨a2, ac, _, _, rfl, rfl, h2, l2, dpAll fun x _ => .int x, sh_ints (n := 63)⟩
        | 2, _ => exact ⟨a3, ae, _, _, rfl, rfl, h3, l3, hE, shE.mono (by decide)⟩
        | 3, _ => exact ⟨a4, am, _, _, rfl, rfl, h4, l4, hC, shC.mono (by decide)⟩
      obtain ⟨a, l, xs, ds, r1, r2, r3, r4, r5, r6⟩ := row
      have s1 := s0.trans sm
      have at1 : atI ([.ref a1, .ref a2, .ref a3, .ref a4] : List V) (0 + (i : Int)) = some (.ref a) := by rw [e0]; exact atI_of r1
      have at2 : atI ([.ref as, .ref ac, .ref ae, .ref am] : List V) (0 + (i : Int)) = some (.ref l) := by rw [e0]; exact atI_of r2
      refine ⟨_, rfl, _, rfl, lt, _, _, .ref a, rfl, rfl, .of (sm _ _ ht), at1, _, _, _, _, true, rfl, .ty _, tupType (same_tup s1 r3), rfl, _, rfl, iteN rfl ?_⟩
      refine ⟨_, rfl, _, rfl, lt, _, _, .ref a, rfl, rfl, .of (sm _ _ ht), at1, a, xs, rfl, .inr (same_tup s1 r3), fun ln nn => ?_⟩
      have s2 := s1.trans (same_new (o := .lst xs) nn)
      refine ⟨_, rfl, _, rfl, ld, _, _, .ref l, rfl, rfl, .of (same_new nn _ _ (sm _ _ hdu)), at2, ?_⟩
      refine ne_same (.lst new_lst (dpAll_same s2 r5)) (.lst (same_lst s2 r4) (dpAll_same s2 r5)) r6 ⟨_, rfl, iteN rfl ⟨sm.trans (same_new nn), _, rfl⟩⟩
    · obtain ⟨sm, z, rfl⟩ := h
      have s1 := s0.trans sm
      have h0' := s1 _ _ h0
      refine ⟨_, rfl, p, X.CI, dx, _, _, rfl, h0', T.cl_Image, T.n_registers, rfl, _, _, _, _, false, rfl, .ty _, .base (.int _), rfl, _, rfl, iteN rfl ?_⟩
      refine ⟨_, rfl, p, X.CI, dx, _, _, rfl, h0', T.cl_Image, T.n_registers, rfl, _, rfl, rfl, _, rfl, iteN (by simp) ?_⟩
      refine ⟨_, rfl, p, dx, _, rfl, h0', p, sl, ce, rr, en, cl, rfl, hi0.same s1, _, rfl, _, rfl, ac, _, rfl, .inl (same_lst s1 l2), _, _, rfl, rfl, rfl, _, rfl, ?_⟩
      rw [List.length_map]
      refine iteY (decide_eq_true rfl) ?_
      exact ⟨_, rfl, p, dx, _, rfl, h0', p, sl, ce, rr, en, cl, rfl, hi0.same s1, _, _, _, _, false, rfl, .ty _, .base (.int _), rfl, _, rfl, q _ s1⟩

abbrev s_law_unequal : Stmt := topS 43
abbrev N_law_unequal : List Str := ["image", "slots", "cells", "registers", "entries", "claims", "others", "other"]
abbrev P_law_unequal : List Str := ["image", "slots", "cells", "registers", "entries", "claims"]
theorem sc_law_unequal : FnScope N_law_unequal P_law_unequal (defScope s_law_unequal) := ⟨rfl, rfl, rfl, by decide +kernel, rfl, by decide +kernel, by decide +kernel⟩
-- slots: image=0 slots=1 cells=2 registers=3 entries=4 claims=5 others=6 other=7
theorem img_eqv (a b a' b' : List Int) (r r' : Int) (e c e' c' : List PyData) : PyData.eqv (.tuple [tInts a, tInts b, .int r, .tuple e, .tuple c]) (.tuple [tInts a', tInts b', .int r', .tuple e', .tuple c']) =
    (PyData.eqvAll (a.map .int) (a'.map .int) && (PyData.eqvAll (b.map .int) (b'.map .int) && ((r == r') && (PyData.eqvAll e e' && (PyData.eqvAll c c' && true))))) := by
  simp only [PyData.eqv, PyData.eqvAll]
theorem len_ne {xs ys : List PyData} (h : xs.length ≠ ys.length) : PyData.eqvAll xs ys = false := PySem.SeqAt.eqvAll_other_length h
def imgDat (sl ce : List Int) (R : Int) (dE dC : List PyData) : PyData := .tuple [tInts sl, tInts ce, .int R, .tuple dE, .tuple dC]
theorem sh_img {sl ce : List Int} {R : Int} {dE dC : List PyData} (h1 : Sh 60 (.list dE)) (h2 : Sh 60 (.list dC)) : Sh 64 (imgDat sl ce R dE dC) := by
  refine Sh.tuple (n := 63) fun d hd => ?_
  simp only [List.mem_cons, List.mem_nil_iff, or_false] at hd
  have tl : ∀ {ds : List PyData}, Sh 60 (.list ds) → Sh 63 (.tuple ds) := fun {ds} h => ⟨by have := h.1; simp only [PyData.canLay0] at this ⊢; exact this, by have := h.2; simp only [PyData.depth] at this ⊢; omega⟩
  rcases hd with rfl | rfl | rfl | rfl | rfl
  · exact sh_tints (n := 62)
  · exact sh_tints (n := 62)
  · exact .int
  · exact tl h1
  · exact tl h2
theorem tds_app {K : PySem.W.Frag} {H : Hp} {v : V} {d : PyData} (h : TD K H v d) : ∀ {vs : List V} {ds : List PyData}, TDAll K H vs ds → TDAll K H (vs ++ [v]) (ds ++ [d])
  | _, _, .nil => .cons h .nil
  | _, _, .cons a r => .cons a (tds_app h r)
theorem sh_inv {n : Nat} : ∀ {ds : List PyData}, PyData.canLayAll0 ds = true → PyData.depthAll ds ≤ n → ∀ d ∈ ds, Sh n d
  | [], _, _, _, h => by cases h
  | x :: xs, h1, h2, d, hd => by
    rw [PyData.canLayAll0, Bool.and_eq_true] at h1
    rw [PyData.depthAll] at h2
    rcases List.mem_cons.mp hd with rfl | hd
    · exact ⟨h1.1, by omega⟩
    · exact sh_inv h1.2 (by omega) d hd
theorem sh_app {n : Nat} {ds : List PyData} {d : PyData} (h : Sh (n + 1) (.list ds)) (hd : Sh n d) : Sh (n + 1) (.list (ds ++ [d])) := by
  obtain ⟨h1, h2⟩ := h
  rw [PyData.canLay0] at h1
  rw [PyData.depth] at h2
  refine Sh.list fun x hx => ?_
  rcases List.mem_append.mp hx with hx | hx
  · exact sh_inv h1 (by omega) x hx
  · rw [List.mem_singleton.mp hx]; exact hd
theorem made_img {K : PySem.W.Frag} {C : Addr} {H1 : Hp} {x dx al ac ae am : Addr} {sl ce : List Int} {R : Int} {en cl : List V} {Qr : Hp → Prop} {E : XK} (nx : H1 x = Option.none) (nd : H1 dx = Option.none) (h1 : SqA K H1 al (sl.map V.int)) (h2 : SqA K H1 ac (ce.map V.int)) (h3 : SqA K H1 ae en) (h4 : SqA K H1 am cl)
    (q : ∀ H2, Same H1 H2 → ImgAt K C H2 x sl ce R en cl → Qr H2) : spInit K C [.ref x, .ref al, .ref ac, .int R, .ref ae, .ref am] (upd (upd H1 dx (.own x)) x (.ins C dx [])) (fun v H2 => v = .non ∧ Qr H2) E := by
  have s0 := made_same0 (C := C) nx nd
  exact ⟨x, dx, al, ac, ae, am, sl, ce, R, en, cl, rfl, upd_same, same_sqa s0 h1, same_sqa s0 h2, same_sqa s0 h3, same_sqa s0 h4, fun H2 sb im => ⟨rfl, q H2 (made_same nx nd sb) im⟩⟩
def spUnq (K : PySem.W.Frag) (C : Addr) : Sp := fun vs H Q _ => ∃ (p as ac ae am : Addr) (sl ce : List Int) (R : Int) (en cl : List V) (dE dC : List PyData), vs = [.ref p, .ref as, .ref ac, .int R, .ref ae, .ref am] ∧ ImgAt K C H p sl ce R en cl ∧ H as = some (.lst (sl.map V.int)) ∧ H ac = some (.lst (ce.map V.int)) ∧ H ae = some (.lst en) ∧ H am = some (.lst cl) ∧
  TDAll K H en dE ∧ TDAll K H cl dC ∧ Sh 50 (.list dE) ∧ Sh 50 (.list dC) ∧ sl.length ≤ 1000 ∧ ce.length ≤ 1000 ∧ en.length ≤ 1000 ∧ cl.length ≤ 1000 ∧ ∀ H', Same H H' → Q (.bl true) H'
theorem cal_law_unequal (T : Txt K w mg X) (D : Def K mg "_law_unequal" P_law_unequal s_law_unequal) (i_Image : CalI P w K mg base 1 "Image" X.CI P_Image_init (spInit K X.CI)) (m_Image_eq : CalM P w K mg base 1 X.CI "__eq__" P_Image_eq (spEqI K X.CI)) : Cal P w K mg base 3 "_law_unequal" P_law_unequal (spUnq K X.CI) := by
  refine cal0 D sc_law_unequal (fun vs H Q E h => ?_) (fun f cdv A outer s H vs Q E hr h => ?_)
  · obtain ⟨p, as, ac, ae, am, sl, ce, rr, en, cl, dE, dC, rfl, _⟩ := h; rfl
  · obtain ⟨p, as, ac, ae, am, sl, ce, rr, en, cl, dE, dC, rfl, hi, l1, l2, l3, l4, hE, hC, shE, shC, z1, z2, z3, z4, q⟩ := h
    have nd := sc_law_unequal.nd
    refine ⟨_, (pss_cons (ps_set (i := 6) nd rfl (.inl rfl) (pe_lst (pa_cons (pe_ci i_Image hr (by decide) rfl (pa_cons (pe_op op_cat (pv 1) (pe_lst (pa_cons pe_int pa_nil))) (pa_cons (pv 2) (pa_cons (pv 3) (pa_cons (pv 4) (pa_cons (pv 5) pa_nil)))))) (pa_cons (pe_ci i_Image hr (by decide) rfl (pa_cons (pv 1) (pa_cons (pe_op op_cat (pv 2) (pe_lst (pa_cons pe_int pa_nil))) (pa_cons (pv 3) (pa_cons (pv 4) (pa_cons (pv 5) pa_nil)))))) (pa_cons (pe_ci i_Image hr (by decide) rfl (pa_cons (pv 1) (pa_cons (pv 2) (pa_cons (pe_op op_add pe_int (pe_op op_mod (pv 3) pe_int)) (pa_cons (pv 4) (pa_cons (pv 5) pa_nil)))))) (pa_cons (pe_ci i_Image hr (by decide) rfl (pa_cons (pv 1) (pa_cons (pv 2) (pa_cons (pv 3) (pa_cons (pe_op op_cat (pv 4) (pe_lst (pa_cons (pe_tup (pa_cons pe_str (pa_cons pe_int (pa_cons (pe_tup pa_nil) (pa_cons pe_int pa_nil))))) pa_nil))) (pa_cons (pv 5) pa_nil)))))) (pa_cons (pe_ci i_Image hr (by decide) rfl (pa_cons (pv 1) (pa_cons (pv 2) (pa_cons (pv 3) (pa_cons (pv 4) (pa_cons (pe_op op_cat (pv 5) (pe_lst (pa_cons (pe_tup (pa_cons pe_int (pa_cons pe_int pa_nil))) pa_nil))) pa_nil)))))) pa_nil)))))))
    (pss_cons (ps_for PassesOwn.never rfl (pi_list (pv 6)) (pg_name (i := 7) nd rfl (.inl rfl))
      (pss_one (ps_if (PW.pt (pw_or (pt_cmpR (op_own_eq m_Image_eq hr (by decide)) (pv 0) (pv 7) (nomark _)) (pw_or (pt_not (pt_cmpR (op_own_ne m_Image_eq T.ow_Image hr (by decide)) (pv 0) (pv 7) (nomark _))) (pw_or1 (pt_cmpR (op_own_eq m_Image_eq hr (by decide)) (pv 7) (pv 0) (nomark _)))))) (pss_one (ps_ret pe_bl)) pss_nil)))
    (pss_one (ps_ret (pe_and (pe_not (pe_cmpR (op_own_eq m_Image_eq hr (by decide)) (pv 0) pe_int (nomark _))) (pe_and (pe_not (pe_cmpR (op_own_eq m_Image_eq hr (by decide)) (pv 0) pe_str (nomark _))) (pe_one (pe_cmpR (op_own_ne m_Image_eq T.ow_Image hr (by decide)) (pv 0) (pe_tup (pa_cons (pv 1) (pa_cons (pv 2) pa_nil))) (nomark _))))))))), ?_⟩
    refine ⟨_, rfl, by show 1 ≤ sizeLine; decide, fun q1 m1 => ?_⟩
    have t1 := same_new (o := .lst [.int 1]) m1
    refine ⟨as, q1, _, [.int 1], rfl, rfl, t1 _ _ l1, upd_same, by rw [List.length_map, sizeLine_eq]; show _ + 1 ≤ _; omega, fun q2 m2 => ?_⟩
    have t2 := t1.trans (same_new (o := .lst (sl.map V.int ++ [.int 1])) m2)
    have g2 : SqA K (upd (upd H q1 (.lst [.int 1])) q2 (.lst (sl.map V.int ++ [.int 1]))) q2 ((sl ++ [1]).map V.int) := .inl (.of (by rw [upd_same, List.map_append]; rfl))
    refine ⟨_, rfl, _, rfl, _, rfl, _, rfl, fun x1 d1 nx1 nd1 _ => made_img nx1 nd1 g2 (.inl (.of (t2 _ _ l2))) (.inl (.of (t2 _ _ l3))) (.inl (.of (t2 _ _ l4))) fun H1 s1 i1 => ?_⟩
    have u1 := t2.trans s1
    clear g2 nx1 nd1 m2 m1 t1 t2
    refine ⟨_, rfl, _, rfl, by show 1 ≤ sizeLine; decide, fun q1' m1 => ?_⟩
    have t1 := u1.trans (same_new (o := .lst [.int 0]) m1)
    refine ⟨ac, q1', _, [.int 0], rfl, rfl, t1 _ _ l2, upd_same, by rw [List.length_map, sizeLine_eq]; show _ + 1 ≤ _; omega, fun q2' m2 => ?_⟩
    have t2 := t1.trans (same_new (o := .lst (ce.map V.int ++ [.int 0])) m2)
    have g2 : SqA K (upd (upd H1 q1' (.lst [.int 0])) q2' (.lst (ce.map V.int ++ [.int 0]))) q2' ((ce ++ [0]).map V.int) := .inl (.of (by rw [upd_same, List.map_append]; rfl))
    have v1 := (same_new (o := .lst [.int 0]) m1).trans (same_new (o := .lst (ce.map V.int ++ [.int 0])) m2)
    refine ⟨_, rfl, _, rfl, _, rfl, fun x2 d2 nx nd _ => made_img nx nd (.inl (.of (t2 _ _ l1))) g2 (.inl (.of (t2 _ _ l3))) (.inl (.of (t2 _ _ l4))) fun H2 s2 i2 => ?_⟩
    have u2 := t2.trans s2
    have i1 := i1.same (v1.trans s2)
    clear g2 nx nd m2 m1 t1 t2 v1
    refine ⟨_, rfl, _, rfl, _, rfl, _, _, rfl, rfl, by show (0 : Int) < 8; decide, _, _, rfl, rfl, _, rfl, _, rfl, fun x3 d3 nx nd _ => made_img nx nd (.inl (.of (u2 _ _ l1))) (.inl (.of (u2 _ _ l2))) (.inl (.of (u2 _ _ l3))) (.inl (.of (u2 _ _ l4))) fun H3 s3 i3 => ?_⟩
    have u3 := u2.trans s3
    have i1 := i1.same s3
    have i2 := i2.same s3
    clear nx nd
    refine ⟨_, rfl, _, rfl, _, rfl, _, rfl, by show 0 ≤ sizeLine; decide, fun q0 m0 => ?_⟩
    refine ⟨by show 4 ≤ sizeLine; decide, fun qe me => ?_⟩
    refine ⟨by show 1 ≤ sizeLine; decide, fun ql ml => ?_⟩
    have t0 := same_new (o := .tup []) m0
    have te := same_new (o := .tup [.str "q", .int 0, .ref q0, .int 0]) me
    have tl := same_new (o := .lst [.ref qe]) ml
    have hqe := tl _ _ (upd_same (H := upd H3 q0 (.tup [])) (a := qe) (o := .tup [.str "q", .int 0, .ref q0, .int 0]))
    have hq0 := tl _ _ (te _ _ (upd_same (H := H3) (a := q0) (o := .tup [])))
    have hql := upd_same (H := upd (upd H3 q0 (.tup [])) qe (.tup [.str "q", .int 0, .ref q0, .int 0])) (a := ql) (o := .lst [.ref qe])
    have t3 := (t0.trans te).trans tl
    generalize upd (upd (upd H3 q0 (.tup [])) qe (.tup [.str "q", .int 0, .ref q0, .int 0])) ql (.lst [.ref qe]) = H3' at hqe hq0 hql t3 ⊢
    clear t0 te tl
    have t1 := u3.trans t3
    refine ⟨ae, ql, en, [.ref qe], rfl, rfl, t1 _ _ l3, hql, by rw [sizeLine_eq]; show _ + 1 ≤ _; omega, fun q2 m2 => ?_⟩
    have t2 := t1.trans (same_new (o := .lst (en ++ [.ref qe])) m2)
    have g2 : SqA K (upd H3' q2 (.lst (en ++ [.ref qe]))) q2 (en ++ [.ref qe]) := .inl (.of upd_same)
    have v1 := t3.trans (same_new (o := .lst (en ++ [.ref qe])) m2)
    have hqe := (same_new (o := .lst (en ++ [.ref qe])) m2) _ _ hqe
    have hq0 := (same_new (o := .lst (en ++ [.ref qe])) m2) _ _ hq0
    refine ⟨_, rfl, fun x4 d4 nx nd _ => made_img nx nd (.inl (.of (t2 _ _ l1))) (.inl (.of (t2 _ _ l2))) g2 (.inl (.of (t2 _ _ l4))) fun H4 s4 i4 => ?_⟩
    have u4 := t2.trans s4
    have i1 := i1.same (v1.trans s4)
    have i2 := i2.same (v1.trans s4)
    have i3 := i3.same (v1.trans s4)
    have hqe := s4 _ _ hqe
    have hq0 := s4 _ _ hq0
    clear g2 nx nd m0 me ml m2 hql v1 t1 t2 t3
    refine ⟨_, rfl, _, rfl, _, rfl, _, rfl, _, rfl, by show 2 ≤ sizeLine; decide, fun qc mc => ?_⟩
    refine ⟨by show 1 ≤ sizeLine; decide, fun ql ml => ?_⟩
    have te := same_new (o := .tup [.int 0, .int 1]) mc
    have tl := same_new (o := .lst [.ref qc]) ml
    have hqc := tl _ _ (upd_same (H := H4) (a := qc) (o := .tup [.int 0, .int 1]))
    have hql := upd_same (H := upd H4 qc (.tup [.int 0, .int 1])) (a := ql) (o := .lst [.ref qc])
    have t3 := te.trans tl
    generalize upd (upd H4 qc (.tup [.int 0, .int 1])) ql (.lst [.ref qc]) = H4' at hqc hql t3 ⊢
    clear te tl
    have t1 := u4.trans t3
    refine ⟨am, ql, cl, [.ref qc], rfl, rfl, t1 _ _ l4, hql, by rw [sizeLine_eq]; show _ + 1 ≤ _; omega, fun q2 m2 => ?_⟩
    have t2 := t1.trans (same_new (o := .lst (cl ++ [.ref qc])) m2)
    have g2 : SqA K (upd H4' q2 (.lst (cl ++ [.ref qc]))) q2 (cl ++ [.ref qc]) := .inl (.of upd_same)
    have v1 := t3.trans (same_new (o := .lst (cl ++ [.ref qc])) m2)
    have hqc := (same_new (o := .lst (cl ++ [.ref qc])) m2) _ _ hqc
    have w1 := v1
    refine fun x5 d5 nx nd _ => made_img nx nd (.inl (.of (t2 _ _ l1))) (.inl (.of (t2 _ _ l2))) (.inl (.of (t2 _ _ l3))) g2 fun H5 s5 i5 => ?_
    have u5 := t2.trans s5
    have i1 := i1.same (v1.trans s5)
    have i2 := i2.same (v1.trans s5)
    have i3 := i3.same (v1.trans s5)
    have i4 := i4.same (v1.trans s5)
    have hqe := (v1.trans s5) _ _ hqe
    have hq0 := (v1.trans s5) _ _ hq0
    have hqc := s5 _ _ hqc
    clear g2 nx nd mc ml m2 hql v1 t1 t2 t3 w1
    refine ⟨by show 5 ≤ sizeLine; decide, fun lo no => ?_⟩
    refine ⟨_, rfl, ?_⟩
    have sl0 := same_new (o := .lst [.ref x1, .ref x2, .ref x3, .ref x4, .ref x5]) no
    have hlo := upd_same (H := H5) (a := lo) (o := .lst [.ref x1, .ref x2, .ref x3, .ref x4, .ref x5])
    generalize upd H5 lo (.lst [.ref x1, .ref x2, .ref x3, .ref x4, .ref x5]) = H6 at sl0 hlo ⊢
    have u6 := u5.trans sl0
    have i0 := hi.same u6
    have i1 := i1.same sl0
    have i2 := i2.same sl0
    have i3 := i3.same sl0
    have i4 := i4.same sl0
    have i5 := i5.same sl0
    have hqe := sl0 _ _ hqe
    have hq0 := sl0 _ _ hq0
    have hqc := sl0 _ _ hqc
    have hE6 := tds_same u6 hE
    have hC6 := tds_same u6 hC
    have hE7 : TDAll K H6 (en ++ [.ref qe]) (dE ++ [.tuple [.str "q", .int 0, .tuple [], .int 0]]) := tds_app (.tup (.of hqe) (.cons (.str _) (.cons (.int _) (.cons (.tup (.of hq0) .nil) (.cons (.int _) .nil))))) hE6
    have hC7 : TDAll K H6 (cl ++ [.ref qc]) (dC ++ [.tuple [.int 0, .int 1]]) := tds_app (.tup (.of hqc) (.cons (.int _) (.cons (.int _) .nil))) hC6
    have sE : Sh 60 (.list dE) := shE.mono (by decide)
    have sC : Sh 60 (.list dC) := shC.mono (by decide)
    have sE7 : Sh 60 (.list (dE ++ [.tuple [.str "q", .int 0, .tuple [], .int 0]])) := sh_app sE ⟨by decide +kernel, by decide +kernel⟩
    have sC7 : Sh 60 (.list (dC ++ [.tuple [.int 0, .int 1]])) := sh_app sC ⟨by decide +kernel, by decide +kernel⟩
    have im0 : ImgD K X.CI H6 p (imgDat sl ce rr dE dC) := ⟨_, _, _, _, _, _, _, i0, hE6.dp, hC6.dp, rfl, sh_img sE sC⟩
    have dat : ∀ x ∈ [V.ref x1, .ref x2, .ref x3, .ref x4, .ref x5], ∃ b D2, x = .ref b ∧ ImgD K X.CI H6 b D2 ∧ PyData.eqv (imgDat sl ce rr dE dC) D2 = false ∧ PyData.eqv D2 (imgDat sl ce rr dE dC) = false := by
      intro x hx
      simp only [List.mem_cons, List.mem_nil_iff, or_false] at hx
      have rn : rr ≠ 1 + rr % 8 := by omega
      have ln : ∀ {α : Type} (xs : List α) (y : α), xs.length ≠ (xs ++ [y]).length := fun xs y => by simp
      rcases hx with rfl | rfl | rfl | rfl | rfl
      · refine ⟨_, _, rfl, ⟨_, _, _, _, _, _, _, i1, hE6.dp, hC6.dp, rfl, sh_img sE sC⟩, ?_, ?_⟩ <;> unfold imgDat <;> rw [img_eqv]
        · rw [len_ne (xs := List.map PyData.int sl) (ys := List.map PyData.int (sl ++ [1])) (by simp)]; rfl
        · rw [len_ne (ys := List.map PyData.int sl) (xs := List.map PyData.int (sl ++ [1])) (by simp)]; rfl
      · refine ⟨_, _, rfl, ⟨_, _, _, _, _, _, _, i2, hE6.dp, hC6.dp, rfl, sh_img sE sC⟩, ?_, ?_⟩ <;> unfold imgDat <;> rw [img_eqv]
        · rw [len_ne (xs := List.map PyData.int ce) (ys := List.map PyData.int (ce ++ [0])) (by simp), Bool.false_and, Bool.and_false]
        · rw [len_ne (ys := List.map PyData.int ce) (xs := List.map PyData.int (ce ++ [0])) (by simp), Bool.false_and, Bool.and_false]
      · refine ⟨_, _, rfl, ⟨_, _, _, _, _, _, _, i3, hE6.dp, hC6.dp, rfl, sh_img sE sC⟩, ?_, ?_⟩ <;> unfold imgDat <;> rw [img_eqv]
        · rw [show (rr == 1 + rr % 8) = false from beq_false_of_ne rn, Bool.false_and, Bool.and_false, Bool.and_false]
        · rw [show (1 + rr % 8 == rr) = false from beq_false_of_ne rn.symm, Bool.false_and, Bool.and_false, Bool.and_false]
      · refine ⟨_, _, rfl, ⟨_, _, _, _, _, _, _, i4, hE7.dp, hC6.dp, rfl, sh_img sE7 sC⟩, ?_, ?_⟩ <;> unfold imgDat <;> rw [img_eqv]
        · rw [len_ne (ln dE _), Bool.false_and, Bool.and_false, Bool.and_false, Bool.and_false]
        · rw [len_ne (ln dE _).symm, Bool.false_and, Bool.and_false, Bool.and_false, Bool.and_false]
      · refine ⟨_, _, rfl, ⟨_, _, _, _, _, _, _, i5, hE6.dp, hC7.dp, rfl, sh_img sE sC7⟩, ?_, ?_⟩ <;> unfold imgDat <;> rw [img_eqv]
        · rw [len_ne (ln dC _), Bool.false_and, Bool.and_false, Bool.and_false, Bool.and_false, Bool.and_false]
        · rw [len_ne (ln dC _).symm, Bool.false_and, Bool.and_false, Bool.and_false, Bool.and_false, Bool.and_false]
    clear hE6 hC6 hE7 hC7 sE sC sE7 sC7 i0 i1 i2 i3 i4 i5 hqe hq0 hqc u1 u2 u3 u4 u5
    have own : ∀ {H' : Hp} {b : Addr} {D2 : PyData}, ImgD K X.CI H' b D2 → ∃ dx fs, H' b = some (.ins X.CI dx fs) := fun h => by
      obtain ⟨_, _, _, _, _, _, _, ⟨dx, _, _, _, _, h0, _⟩, _⟩ := h
      exact ⟨dx, _, h0⟩
    have nfC : PySem.W.notFirst K X.CI (.ref X.CI) = true := by unfold PySem.W.notFirst; simp
    refine ⟨lo, rfl, ⟨_, .of hlo⟩, ?_⟩
    refine forR_list (K := K) (a := lo) (xs := [.ref x1, .ref x2, .ref x3, .ref x4, .ref x5]) (fun r σ H' => Same H6 H' ∧ ∃ z, σ = [some (.ref p), some (.ref as), some (.ref ac), some (.int rr), some (.ref ae), some (.ref am), some (.ref lo), z]) ⟨Same.refl _, _, rfl⟩ (fun r σ H' h => .of (h.1 _ _ hlo)) (fun x r σ H' hx h => ?_) (fun σ H' h => ?_)
    · obtain ⟨sm, z, rfl⟩ := h
      obtain ⟨b, D2, rfl, ib, e1, e2⟩ := dat x hx
      have im := im0.same sm
      have ib := ib.same sm
      obtain ⟨dx, fs, hp⟩ := own im
      obtain ⟨dy, gs, hb⟩ := own ib
      refine ⟨_, rfl, _, rfl, p, dx, fs, _, rfl, hp, .base (.ins hb T.cl_Image T.ix_Image.ha T.ix_Image.hn T.ix_Image.htk T.ix_Image.hm), nfC, p, _, _, rfl, im, .inl ⟨b, D2, rfl, ib, fun H1 s1 => ⟨_, rfl, ?_⟩⟩⟩
      rw [e1]
      have im := im.same s1
      have ib := ib.same s1
      refine ⟨_, rfl, iteN rfl ?_⟩
      have hp := s1 _ _ hp
      have hb := s1 _ _ hb
      refine ⟨_, rfl, _, rfl, p, dx, fs, _, rfl, hp, .base (.ins hb T.cl_Image T.ix_Image.ha T.ix_Image.hn T.ix_Image.htk T.ix_Image.hm), nfC, p, _, _, rfl, im, .inl ⟨b, D2, rfl, ib, fun H2 s2 => ⟨_, rfl, ?_⟩⟩⟩
      rw [e1]
      have im := im.same s2
      have ib := ib.same s2
      have hp := s2 _ _ hp
      have hb := s2 _ _ hb
      refine ⟨_, rfl, iteN rfl ?_⟩
      refine ⟨_, rfl, _, rfl, b, dy, gs, _, rfl, hb, .base (.ins hp T.cl_Image T.ix_Image.ha T.ix_Image.hn T.ix_Image.htk T.ix_Image.hm), nfC, b, _, _, rfl, ib, .inl ⟨p, _, rfl, im, fun H3 s3 => ⟨_, rfl, ?_⟩⟩⟩
      rw [e2]
      refine ⟨_, rfl, iteN rfl ?_⟩
      exact ⟨sm.trans (s1.trans (s2.trans s3)), _, rfl⟩
    · obtain ⟨sm, z, rfl⟩ := h
      have im := im0.same sm
      obtain ⟨dx, fs, hp⟩ := own im
      refine ⟨_, rfl, p, dx, fs, _, rfl, hp, .base (.int _), T.nfI, p, _, _, rfl, im, .inr ⟨_, .base (.int _), T.koI, _, rfl, ?_⟩⟩
      refine ⟨_, rfl, _, rfl, iteY rfl ?_⟩
      refine ⟨_, rfl, p, dx, fs, _, rfl, hp, .base (.str _), T.nfS, p, _, _, rfl, im, .inr ⟨_, .base (.str _), T.koS, _, rfl, ?_⟩⟩
      refine ⟨_, rfl, _, rfl, iteY rfl ?_⟩
      refine ⟨_, rfl, _, rfl, _, rfl, by show 2 ≤ sizeLine; decide, fun pt nt => ?_⟩
      have st := same_new (o := .tup [.ref as, .ref ac]) nt
      refine ⟨p, dx, fs, _, rfl, st _ _ hp, tupType new_tup, T.nfT, p, _, _, rfl, im.same st, .inr ⟨_, tupType new_tup, T.koT, _, rfl, ?_⟩⟩
      exact q _ (u6.trans (sm.trans st))

end
end K88
set_option maxHeartbeats 4000000
set_option pp.deepTerms false
set_option pp.deepTerms.threshold 3
namespace K88
open PySem PySem.Spec PyProof.Rows L2 SX BB BD BQ BS BE PN BZ BC BI BV
local macro_rules | `(tactic| walk_at "side") => `(tactic| (try dsimp only) <;> (first | decide | omega | assumption | (unfold CMul; omega) | (unfold CDiv; omega)))
local macro_rules | `(tactic| walk_at "sq") => `(tactic| first
  | assumption
  | exact new_tup
  | exact same_tup (by assumption) (by assumption)
  | (refine same_tup (same_new (by assumption)) ?_; walk_at "sq"))
local macro_rules | `(tactic| walk_at "rd") => `(tactic| first
  | refine ⟨_, rfl, ?_⟩
  | refine ⟨_, _, _, _, rfl, rfl, (by walk_at "sq"), atI_of (j := 0) rfl, ?_⟩
  | refine ⟨_, _, _, _, rfl, rfl, (by walk_at "sq"), atI_of (j := 1) rfl, ?_⟩
  | refine ⟨_, _, rfl, rfl, ?_⟩
  | refine ⟨_, _, rfl, ?_⟩
  | refine And.intro rfl ?_
  | refine And.intro (by walk_at "side") ?_
  | refine Or.inl ⟨_, rfl, ?_⟩)
local macro_rules | `(tactic| walk_at "no") => `(tactic| refine ⟨_, rfl, rfl, _, rfl, iteN (by decide +kernel) ?_⟩)
local macro_rules | `(tactic| walk_at "yes") => `(tactic| refine ⟨_, rfl, rfl, _, rfl, iteY (by decide +kernel) ?_⟩)
local macro_rules | `(tactic| walk_at "rds") => `(tactic| repeat (walk_at "rd"))
section
variable {P : Program} {w : World} {K : PySem.W.Frag} {mg : Str → Option Value} {base : Heap} {X : Top} {eB eU : Addr}
/-- the classes of errors: the sixteen, and those above them -/
structure EC where
  C : Nat → Addr
  (cB cL cN cP : Addr)
def fldE (n : Int) (t : Str) (i : Nat) : List (Str × V) := if i < 4 then [("line", .int n)] else if i < 8 then [("name", .str t)] else if i < 11 then [("place", .int n)] else if i < 13 then [("what", .str t)] else if i < 14 then [("index", .int n)] else []
def fldN (i : Nat) : Str := if i < 4 then "line" else if i < 8 then "name" else if i < 11 then "place" else if i < 13 then "what" else "index"
structure TxtE (K : PySem.W.Frag) (mg : Str → Option Value) (E : EC) : Prop where
  b_isinstance : mg "isinstance" = none
  b_ValueError : mg "ValueError" = none
  b_len : mg "len" = none
  b_range : mg "range" = none
  g_BadText : ∃ u, mg "BadText" = some u ∧ RelV (.ref (E.C 0)) u
  g_BadUse : ∃ u, mg "BadUse" = some u ∧ RelV (.ref (E.C 1)) u
  g_BadMachine : ∃ u, mg "BadMachine" = some u ∧ RelV (.ref (E.C 2)) u
  g_BadFile : ∃ u, mg "BadFile" = some u ∧ RelV (.ref (E.C 3)) u
  g_UnknownName : ∃ u, mg "UnknownName" = some u ∧ RelV (.ref (E.C 4)) u
  g_DuplicateName : ∃ u, mg "DuplicateName" = some u ∧ RelV (.ref (E.C 5)) u
  g_UnresolvedName : ∃ u, mg "UnresolvedName" = some u ∧ RelV (.ref (E.C 6)) u
  g_BadPass : ∃ u, mg "BadPass" = some u ∧ RelV (.ref (E.C 7)) u
  g_BadImage : ∃ u, mg "BadImage" = some u ∧ RelV (.ref (E.C 8)) u
  g_NotNested : ∃ u, mg "NotNested" = some u ∧ RelV (.ref (E.C 9)) u
  g_NoBound : ∃ u, mg "NoBound" = some u ∧ RelV (.ref (E.C 10)) u
  g_TooMany : ∃ u, mg "TooMany" = some u ∧ RelV (.ref (E.C 11)) u
  g_Refused : ∃ u, mg "Refused" = some u ∧ RelV (.ref (E.C 12)) u
  g_BadTasks : ∃ u, mg "BadTasks" = some u ∧ RelV (.ref (E.C 13)) u
  g_BadInputs : ∃ u, mg "BadInputs" = some u ∧ RelV (.ref (E.C 14)) u
  g_BadEdit : ∃ u, mg "BadEdit" = some u ∧ RelV (.ref (E.C 15)) u
  g_BeatsError : ∃ u, mg "BeatsError" = some u ∧ RelV (.ref E.cB) u
  g_LineError : ∃ u, mg "LineError" = some u ∧ RelV (.ref E.cL) u
  g_BadName : ∃ u, mg "BadName" = some u ∧ RelV (.ref E.cN) u
  g_PlaceError : ∃ u, mg "PlaceError" = some u ∧ RelV (.ref E.cP) u
  exc : ∀ i, i < 16 → ExcC K (E.C i)
  xf : ∀ i, i < 14 → XfC K (E.C i)
  no : ∀ i, i < 14 → PySem.W.findIn K (.ref (E.C i)) (fldN i) = some none
  kit : ∀ i, i < 16 → ∀ j, j < 16 → PySem.W.kitOne K (.ref (E.C i)) (.ref (E.C j)) = some (decide (i = j))
  kB : ∀ i, i < 16 → PySem.W.kitOne K (.ref (E.C i)) (.ref E.cB) = some true
  kV : ∀ i, i < 16 → PySem.W.kitOne K (.ref (E.C i)) (.type "ValueError") = some true
  kL : ∀ i, i < 16 → PySem.W.kitOne K (.ref (E.C i)) (.ref E.cL) = some (decide (i < 4))
  kN : ∀ i, i < 16 → PySem.W.kitOne K (.ref (E.C i)) (.ref E.cN) = some (decide (4 ≤ i ∧ i < 8))
  kP : ∀ i, i < 16 → PySem.W.kitOne K (.ref (E.C i)) (.ref E.cP) = some (decide (8 ≤ i ∧ i < 11))
def szR (k : Nat) : Nat := [4, 4, 3, 1, 1, 1, 1, 1].getD k 0
def bsR (k : Nat) : Nat := [0, 4, 8, 11, 12, 13, 14, 15].getD k 0
theorem bs_lt : ∀ k, k < 8 → ∀ at', at' < szR k → bsR k + at' < 16 ∧ (k = 0 ↔ bsR k + at' < 4) ∧ (k = 1 ↔ 4 ≤ bsR k + at' ∧ bsR k + at' < 8) ∧ (k = 2 ↔ 8 ≤ bsR k + at' ∧ bsR k + at' < 11) := by decide
abbrev dBl (xs : List Bool) : PyData := .list (xs.map .bool)
theorem dp_bl {K : PySem.W.Frag} {H : Hp} {a : Addr} {xs : List Bool} (h : SqL K H a (xs.map V.bl)) : Dp K H (.ref a) (dBl xs) := .lst h (dpAll fun x _ => .bl x)
theorem sh_bl {n : Nat} {xs : List Bool} : Sh (n + 1) (dBl xs) := .list fun d hd => by
  obtain ⟨x, _, rfl⟩ := List.mem_map.mp hd
  exact .bl
theorem ne_bl {K : PySem.W.Frag} {H : Hp} {Q : VK} {a b : Addr} {xs : List Bool} (h1 : SqL K H a (xs.map V.bl)) (h2 : SqL K H b (xs.map V.bl)) (q : Q (.bl false) H) : rNeD K (.ref a) (.ref b) H Q := ne_same (dp_bl h1) (dp_bl h2) sh_bl q
/-- one row of errors, as it stands -/
def rowV (ea : Nat → Addr) (k : Nat) : List V := (List.range (szR k)).map fun at' => .ref (ea (bsR k + at'))
structure Rows (H : Hp) (E : EC) (n : Int) (t : Str) (rw : Nat → Addr) (ea : Nat → Addr) (p : Addr) : Prop where
  top : H p = some (.lst ((List.range 8).map fun k => .ref (rw k)))
  row : ∀ k, k < 8 → H (rw k) = some (.lst (rowV ea k))
  er : ∀ i, i < 16 → ErV H (ea i) (E.C i) (fldE n t i)
theorem Rows.same {H H' : Hp} {E : EC} {n : Int} {t : Str} {rw ea : Nat → Addr} {p : Addr} (s : Same H H') (h : Rows H E n t rw ea p) : Rows H' E n t rw ea p :=
  ⟨s _ _ h.top, fun k hk => s _ _ (h.row k hk), fun i hi => (h.er i hi).same s⟩
theorem rows_at {α : Type} {f : Nat → α} {n k : Nat} (h : k < n) : ((List.range n).map f)[k]? = some (f k) := by
  rw [List.getElem?_map, List.getElem?_range h]; rfl
theorem fldE0 {n : Int} {t : Str} {i : Nat} (h : i < 4) : fldE n t i = [(("line" : Str), V.int n)] := if_pos h
theorem fldE1 {n : Int} {t : Str} {i : Nat} (h0 : 4 ≤ i) (h : i < 8) : fldE n t i = [(("name" : Str), V.str t)] := by
  unfold fldE
  rw [if_neg (by omega), if_pos h]
theorem fldE2 {n : Int} {t : Str} {i : Nat} (h0 : 8 ≤ i) (h : i < 11) : fldE n t i = [(("place" : Str), V.int n)] := by
  unfold fldE
  rw [if_neg (by omega), if_neg (by omega), if_pos h]
theorem fldN0 {i : Nat} (h : i < 4) : fldN i = "line" := if_pos h
theorem fldN1 {i : Nat} (h0 : 4 ≤ i) (h : i < 8) : fldN i = "name" := by
  unfold fldN
  rw [if_neg (by omega), if_pos h]
theorem fldN2 {i : Nat} (h0 : 8 ≤ i) (h : i < 11) : fldN i = "place" := by
  unfold fldN
  rw [if_neg (by omega), if_neg (by omega), if_pos h]
/-- one field of each error of a row -/
theorem ys_const {xs ys : List V} {v : V} (h : Paired (fun _ y => y = v) xs ys) : ys = List.replicate xs.length v := by
  induction h with
  | nil => rfl
  | cons h1 _ ih => rw [h1, ih]; rfl

theorem pe_xaK {X : Cx} {e : Expr} {te : TE} {pos : Pos} {f : Str} {K : PySem.W.Frag} (hK : X.K = K) (he : PE X e te) (hb : attributeBase e f X.env (eval e X.env) = eval e X.env := by rfl) : PE X (.Attribute e f pos) (tXa K f te) := hK ▸ pe_xa he hb

abbrev s_law_errors : Stmt := topS 42
abbrev N_law_errors : List Str := ["n", "text", "rows", "k", "at", "e", "own", "mine", "j", "lines", "words"]
abbrev P_law_errors : List Str := ["n", "text"]
theorem sc_law_errors : FnScope N_law_errors P_law_errors (defScope s_law_errors) := ⟨rfl, rfl, rfl, by decide +kernel, rfl, by decide +kernel, by decide +kernel⟩
-- slots: n=0 text=1 rows=2 k=3 at=4 e=5 own=6 mine=7 j=8 lines=9 words=10
def spErrs : Sp := fun vs H Q _ => ∃ (n : Int) (t : Str), vs = [.int n, .str t] ∧ n.natAbs < 2 ^ 64 ∧ t.length ≤ 1000 ∧ PyData.strOk t = true ∧ ∀ H', Same H H' → Q (.bl true) H'
theorem cal_law_errors {EE : EC} (T : TxtE K mg EE) (D : Def K mg "_law_errors" P_law_errors s_law_errors) (E_BadText : Err P w K mg base "BadText" (EE.C 0) "line") (E_BadUse : Err P w K mg base "BadUse" (EE.C 1) "line") (E_BadMachine : Err P w K mg base "BadMachine" (EE.C 2) "line") (E_BadFile : Err P w K mg base "BadFile" (EE.C 3) "line") (E_UnknownName : Err P w K mg base "UnknownName" (EE.C 4) "name") (E_DuplicateName : Err P w K mg base "DuplicateName" (EE.C 5) "name") (E_UnresolvedName : Err P w K mg base "UnresolvedName" (EE.C 6) "name") (E_BadPass : Err P w K mg base "BadPass" (EE.C 7) "name") (E_BadImage : Err P w K mg base "BadImage" (EE.C 8) "place") (E_NotNested : Err P w K mg base "NotNested" (EE.C 9) "place") (E_NoBound : Err P w K mg base "NoBound" (EE.C 10) "place") (E_TooMany : Err P w K mg base "TooMany" (EE.C 11) "what") (E_Refused : Err P w K mg base "Refused" (EE.C 12) "what") (E_BadTasks : Err P w K mg base "BadTasks" (EE.C 13) "index") (Z_BadInputs : Err0 K mg "BadInputs" (EE.C 14) [.type "ValueError", .type "Exception", .type "BaseException", .type "object"]) (Z_BadEdit : Err0 K mg "BadEdit" (EE.C 15) [.type "ValueError", .type "Exception", .type "BaseException", .type "object"]) : Cal P w K mg base 3 "_law_errors" P_law_errors spErrs := by
  refine cal0 D sc_law_errors (fun vs H Q E h => ?_) (fun f cdv A outer s H vs Q E hr h => ?_)
  · obtain ⟨n, t, rfl, _⟩ := h; rfl
  · obtain ⟨n, t, rfl, hn, ht, hk, q⟩ := h
    have nd := sc_law_errors.nd
    refine ⟨_, (pss_cons (ps_set (i := 2) nd rfl (.inl rfl) (pe_lst (pa_cons (pe_lst (pa_cons (pe_errV E_BadText hr (by decide) rfl (pv 0)) (pa_cons (pe_errV E_BadUse hr (by decide) rfl (pv 0)) (pa_cons (pe_errV E_BadMachine hr (by decide) rfl (pv 0)) (pa_cons (pe_errV E_BadFile hr (by decide) rfl (pv 0)) pa_nil))))) (pa_cons (pe_lst (pa_cons (pe_errV E_UnknownName hr (by decide) rfl (pv 1)) (pa_cons (pe_errV E_DuplicateName hr (by decide) rfl (pv 1)) (pa_cons (pe_errV E_UnresolvedName hr (by decide) rfl (pv 1)) (pa_cons (pe_errV E_BadPass hr (by decide) rfl (pv 1)) pa_nil))))) (pa_cons (pe_lst (pa_cons (pe_errV E_BadImage hr (by decide) rfl (pv 0)) (pa_cons (pe_errV E_NotNested hr (by decide) rfl (pv 0)) (pa_cons (pe_errV E_NoBound hr (by decide) rfl (pv 0)) pa_nil)))) (pa_cons (pe_lst (pa_cons (pe_errV E_TooMany hr (by decide) rfl (pv 1)) pa_nil)) (pa_cons (pe_lst (pa_cons (pe_errV E_Refused hr (by decide) rfl (pv 1)) pa_nil)) (pa_cons (pe_lst (pa_cons (pe_errV E_BadTasks hr (by decide) rfl (pv 0)) pa_nil)) (pa_cons (pe_lst (pa_cons (pe_err0 PySem.F.excBase_ValueError Z_BadInputs rfl) pa_nil)) (pa_cons (pe_lst (pa_cons (pe_err0 PySem.F.excBase_ValueError Z_BadEdit rfl) pa_nil)) pa_nil))))))))))
    (pss_cons (ps_for PassesOwn.never rfl (pi_range1 (by rfl) T.b_range (pa_cons (pe_callB call_len_seq (by rfl) T.b_len PySem.boot_len (pa_cons (pv 2) pa_nil)) pa_nil)) (pg_name (i := 3) nd rfl (.inl rfl))
      (pss_one (ps_for PassesOwn.never rfl (pi_range1 (by rfl) T.b_range (pa_cons (pe_callB call_len_seq (by rfl) T.b_len PySem.boot_len (pa_cons (pe_ix ix_list (pv 2) (pv 3) (fun _ _ => rfl)) pa_nil)) pa_nil)) (pg_name (i := 4) nd rfl (.inl rfl))
      (pss_cons (ps_set (i := 5) nd rfl (.inl rfl) (pe_ix ix_list (pe_ix ix_list (pv 2) (pv 3) (fun _ _ => rfl)) (pv 4) (fun _ _ => rfl)))
    (pss_cons (ps_set (i := 6) nd rfl (.inl rfl) (pe_lst (pa_cons (pe_callB call_isV (by rfl) T.b_isinstance (by decide +kernel) (pa_cons (pv 5) (pa_cons (pe_gc rfl T.g_BadText) pa_nil))) (pa_cons (pe_callB call_isV (by rfl) T.b_isinstance (by decide +kernel) (pa_cons (pv 5) (pa_cons (pe_gc rfl T.g_BadUse) pa_nil))) (pa_cons (pe_callB call_isV (by rfl) T.b_isinstance (by decide +kernel) (pa_cons (pv 5) (pa_cons (pe_gc rfl T.g_BadMachine) pa_nil))) (pa_cons (pe_callB call_isV (by rfl) T.b_isinstance (by decide +kernel) (pa_cons (pv 5) (pa_cons (pe_gc rfl T.g_BadFile) pa_nil))) (pa_cons (pe_callB call_isV (by rfl) T.b_isinstance (by decide +kernel) (pa_cons (pv 5) (pa_cons (pe_gc rfl T.g_UnknownName) pa_nil))) (pa_cons (pe_callB call_isV (by rfl) T.b_isinstance (by decide +kernel) (pa_cons (pv 5) (pa_cons (pe_gc rfl T.g_DuplicateName) pa_nil))) (pa_cons (pe_callB call_isV (by rfl) T.b_isinstance (by decide +kernel) (pa_cons (pv 5) (pa_cons (pe_gc rfl T.g_UnresolvedName) pa_nil))) (pa_cons (pe_callB call_isV (by rfl) T.b_isinstance (by decide +kernel) (pa_cons (pv 5) (pa_cons (pe_gc rfl T.g_BadPass) pa_nil))) (pa_cons (pe_callB call_isV (by rfl) T.b_isinstance (by decide +kernel) (pa_cons (pv 5) (pa_cons (pe_gc rfl T.g_BadImage) pa_nil))) (pa_cons (pe_callB call_isV (by rfl) T.b_isinstance (by decide +kernel) (pa_cons (pv 5) (pa_cons (pe_gc rfl T.g_NotNested) pa_nil))) (pa_cons (pe_callB call_isV (by rfl) T.b_isinstance (by decide +kernel) (pa_cons (pv 5) (pa_cons (pe_gc rfl T.g_NoBound) pa_nil))) (pa_cons (pe_callB call_isV (by rfl) T.b_isinstance (by decide +kernel) (pa_cons (pv 5) (pa_cons (pe_gc rfl T.g_TooMany) pa_nil))) (pa_cons (pe_callB call_isV (by rfl) T.b_isinstance (by decide +kernel) (pa_cons (pv 5) (pa_cons (pe_gc rfl T.g_Refused) pa_nil))) (pa_cons (pe_callB call_isV (by rfl) T.b_isinstance (by decide +kernel) (pa_cons (pv 5) (pa_cons (pe_gc rfl T.g_BadTasks) pa_nil))) (pa_cons (pe_callB call_isV (by rfl) T.b_isinstance (by decide +kernel) (pa_cons (pv 5) (pa_cons (pe_gc rfl T.g_BadInputs) pa_nil))) (pa_cons (pe_callB call_isV (by rfl) T.b_isinstance (by decide +kernel) (pa_cons (pv 5) (pa_cons (pe_gc rfl T.g_BadEdit) pa_nil))) pa_nil))))))))))))))))))
    (pss_cons (ps_set (i := 7) nd rfl (.inr rfl) (pe_op op_add (pe_ix ix_list (pe_lst (pa_cons pe_int (pa_cons pe_int (pa_cons pe_int (pa_cons pe_int (pa_cons pe_int (pa_cons pe_int (pa_cons pe_int (pa_cons pe_int pa_nil))))))))) (pv 3) (fun _ _ => rfl)) (pv 4)))
    (pss_cons (ps_if (PW.pt (pw_or (pt_cmpR (op_neD hr.units) (pv 6) (pe_lc (own := [("j", 8)]) (g := gName 8) (tt := tYes) rfl nd (pi_range1 (by rfl) T.b_range (pa_cons pe_int pa_nil)) (blkOk_by (own := [("j", 8)]) (N := N_law_errors) (sc := defScope s_law_errors) (by decide +kernel)) (fun _ _ _ _ _ => (pg_name (i := 8) nd rfl (.inl rfl))) (fun _ _ _ _ _ => pts_nil) (fun _ _ _ _ _ => (pe_cmpR op_eq (pv 8) (pv 7) (nomark _)))) (nomark _)) (pw_or (pt_not (pt_val (pe_callB call_isV (by rfl) T.b_isinstance (by decide +kernel) (pa_cons (pv 5) (pa_cons (pe_gc rfl T.g_BeatsError) pa_nil))))) (pw_or1 (pt_not (pt_val (pe_callB call_isV (by rfl) T.b_isinstance (by decide +kernel) (pa_cons (pv 5) (pa_cons (pe_bltn (v := .ty "ValueError") (by rfl) T.b_ValueError (by decide +kernel) rfl) pa_nil))))))))) (pss_one (ps_ret pe_bl)) pss_nil)
    (pss_one (ps_if (pt_cmpR (op_neD hr.units) (pe_lst (pa_cons (pe_callB call_isV (by rfl) T.b_isinstance (by decide +kernel) (pa_cons (pv 5) (pa_cons (pe_gc rfl T.g_LineError) pa_nil))) (pa_cons (pe_callB call_isV (by rfl) T.b_isinstance (by decide +kernel) (pa_cons (pv 5) (pa_cons (pe_gc rfl T.g_BadName) pa_nil))) (pa_cons (pe_callB call_isV (by rfl) T.b_isinstance (by decide +kernel) (pa_cons (pv 5) (pa_cons (pe_gc rfl T.g_PlaceError) pa_nil))) pa_nil)))) (pe_lst (pa_cons (pe_cmpR op_eq (pv 3) pe_int (nomark _)) (pa_cons (pe_cmpR op_eq (pv 3) pe_int (nomark _)) (pa_cons (pe_cmpR op_eq (pv 3) pe_int (nomark _)) pa_nil)))) (nomark _)) (pss_one (ps_ret pe_bl)) pss_nil)))))))))
    (pss_cons (ps_set (i := 9) nd rfl (.inl rfl) (pe_op op_cat (pe_op op_cat (pe_lc (own := [("e", 5)]) (g := gName 5) (tt := tYes) rfl nd (pi_list (pe_ix ix_list (pv 2) pe_int (fun _ _ => rfl))) (blkOk_by (own := [("e", 5)]) (N := N_law_errors) (sc := defScope s_law_errors) (by decide +kernel)) (fun _ _ _ _ _ => (pg_name (i := 5) nd rfl (.inl rfl))) (fun _ _ _ _ _ => pts_nil) (fun _ _ _ _ _ => (pe_xaK (K := K) rfl (pv 5)))) (pe_lc (own := [("e", 5)]) (g := gName 5) (tt := tYes) rfl nd (pi_list (pe_ix ix_list (pv 2) pe_int (fun _ _ => rfl))) (blkOk_by (own := [("e", 5)]) (N := N_law_errors) (sc := defScope s_law_errors) (by decide +kernel)) (fun _ _ _ _ _ => (pg_name (i := 5) nd rfl (.inl rfl))) (fun _ _ _ _ _ => pts_nil) (fun _ _ _ _ _ => (pe_xaK (K := K) rfl (pv 5))))) (pe_lst (pa_cons (pe_xa (pe_ix ix_list (pe_ix ix_list (pv 2) pe_int (fun _ _ => rfl)) pe_int (fun _ _ => rfl))) pa_nil))))
    (pss_cons (ps_set (i := 10) nd rfl (.inl rfl) (pe_op op_cat (pe_lc (own := [("e", 5)]) (g := gName 5) (tt := tYes) rfl nd (pi_list (pe_ix ix_list (pv 2) pe_int (fun _ _ => rfl))) (blkOk_by (own := [("e", 5)]) (N := N_law_errors) (sc := defScope s_law_errors) (by decide +kernel)) (fun _ _ _ _ _ => (pg_name (i := 5) nd rfl (.inl rfl))) (fun _ _ _ _ _ => pts_nil) (fun _ _ _ _ _ => (pe_xaK (K := K) rfl (pv 5)))) (pe_lst (pa_cons (pe_xa (pe_ix ix_list (pe_ix ix_list (pv 2) pe_int (fun _ _ => rfl)) pe_int (fun _ _ => rfl))) (pa_cons (pe_xa (pe_ix ix_list (pe_ix ix_list (pv 2) pe_int (fun _ _ => rfl)) pe_int (fun _ _ => rfl))) pa_nil)))))
    (pss_one (ps_ret (pe_and (pe_cmpR (op_eqD hr.units) (pv 9) (pe_op op_rep (pe_lst (pa_cons (pv 0) pa_nil)) pe_int) (nomark _)) (pe_one (pe_cmpR (op_eqD hr.units) (pv 10) (pe_op op_rep (pe_lst (pa_cons (pv 1) pa_nil)) pe_int) (nomark _)))))))))), ?_⟩
    have on : OkArg (.int n) := .small hn
    have ot : OkArg (.str t) := .str (by omega)
    refine ⟨_, rfl, on, fun a0 h1 _ s0 r0 => ?_⟩
    refine ⟨_, rfl, on, fun a1 h2 _ s1 r1 => ?_⟩
    refine ⟨_, rfl, on, fun a2 h3 _ s2 r2 => ?_⟩
    refine ⟨_, rfl, on, fun a3 h4 _ s3 r3 => ?_⟩
    refine ⟨by show 4 ≤ sizeLine; decide, fun p0 n0 => ?_⟩
    obtain ⟨h5, e5⟩ : ∃ h', h' = upd h4 p0 (.lst [.ref a0, .ref a1, .ref a2, .ref a3]) := ⟨_, rfl⟩
    have s4 : Same h4 h5 := e5 ▸ same_new n0
    have g0 : h5 p0 = some (.lst [.ref a0, .ref a1, .ref a2, .ref a3]) := e5 ▸ upd_same
    rw [← e5]; clear e5
    refine ⟨_, rfl, ot, fun a4 h6 _ s5 r4 => ?_⟩
    refine ⟨_, rfl, ot, fun a5 h7 _ s6 r5 => ?_⟩
    refine ⟨_, rfl, ot, fun a6 h8 _ s7 r6 => ?_⟩
    refine ⟨_, rfl, ot, fun a7 h9 _ s8 r7 => ?_⟩
    refine ⟨by show 4 ≤ sizeLine; decide, fun p1 n1 => ?_⟩
    obtain ⟨h10, e10⟩ : ∃ h', h' = upd h9 p1 (.lst [.ref a4, .ref a5, .ref a6, .ref a7]) := ⟨_, rfl⟩
    have s9 : Same h9 h10 := e10 ▸ same_new n1
    have g1 : h10 p1 = some (.lst [.ref a4, .ref a5, .ref a6, .ref a7]) := e10 ▸ upd_same
    rw [← e10]; clear e10
    refine ⟨_, rfl, on, fun a8 h11 _ s10 r8 => ?_⟩
    refine ⟨_, rfl, on, fun a9 h12 _ s11 r9 => ?_⟩
    refine ⟨_, rfl, on, fun a10 h13 _ s12 r10 => ?_⟩
    refine ⟨by show 3 ≤ sizeLine; decide, fun p2 n2 => ?_⟩
    obtain ⟨h14, e14⟩ : ∃ h', h' = upd h13 p2 (.lst [.ref a8, .ref a9, .ref a10]) := ⟨_, rfl⟩
    have s13 : Same h13 h14 := e14 ▸ same_new n2
    have g2 : h14 p2 = some (.lst [.ref a8, .ref a9, .ref a10]) := e14 ▸ upd_same
    rw [← e14]; clear e14
    refine ⟨_, rfl, ot, fun a11 h15 _ s14 r11 => ?_⟩
    refine ⟨by show 1 ≤ sizeLine; decide, fun p3 n3 => ?_⟩
    obtain ⟨h16, e16⟩ : ∃ h', h' = upd h15 p3 (.lst [.ref a11]) := ⟨_, rfl⟩
    have s15 : Same h15 h16 := e16 ▸ same_new n3
    have g3 : h16 p3 = some (.lst [.ref a11]) := e16 ▸ upd_same
    rw [← e16]; clear e16
    refine ⟨_, rfl, ot, fun a12 h17 _ s16 r12 => ?_⟩
    refine ⟨by show 1 ≤ sizeLine; decide, fun p4 n4 => ?_⟩
    obtain ⟨h18, e18⟩ : ∃ h', h' = upd h17 p4 (.lst [.ref a12]) := ⟨_, rfl⟩
    have s17 : Same h17 h18 := e18 ▸ same_new n4
    have g4 : h18 p4 = some (.lst [.ref a12]) := e18 ▸ upd_same
    rw [← e18]; clear e18
    refine ⟨_, rfl, on, fun a13 h19 _ s18 r13 => ?_⟩
    refine ⟨by show 1 ≤ sizeLine; decide, fun p5 n5 => ?_⟩
    obtain ⟨h20, e20⟩ : ∃ h', h' = upd h19 p5 (.lst [.ref a13]) := ⟨_, rfl⟩
    have s19 : Same h19 h20 := e20 ▸ same_new n5
    have g5 : h20 p5 = some (.lst [.ref a13]) := e20 ▸ upd_same
    rw [← e20]; clear e20
    refine fun a14 h21 _ s20 r14 => ?_
    refine ⟨by show 1 ≤ sizeLine; decide, fun p6 n6 => ?_⟩
    obtain ⟨h22, e22⟩ : ∃ h', h' = upd h21 p6 (.lst [.ref a14]) := ⟨_, rfl⟩
    have s21 : Same h21 h22 := e22 ▸ same_new n6
    have g6 : h22 p6 = some (.lst [.ref a14]) := e22 ▸ upd_same
    rw [← e22]; clear e22
    refine fun a15 h23 _ s22 r15 => ?_
    refine ⟨by show 1 ≤ sizeLine; decide, fun p7 n7 => ?_⟩
    obtain ⟨h24, e24⟩ : ∃ h', h' = upd h23 p7 (.lst [.ref a15]) := ⟨_, rfl⟩
    have s23 : Same h23 h24 := e24 ▸ same_new n7
    have g7 : h24 p7 = some (.lst [.ref a15]) := e24 ▸ upd_same
    rw [← e24]; clear e24
    refine ⟨by show 8 ≤ sizeLine; decide, fun pr nr => ?_⟩
    obtain ⟨hz, ez⟩ : ∃ h', h' = upd h24 pr (.lst [.ref p0, .ref p1, .ref p2, .ref p3, .ref p4, .ref p5, .ref p6, .ref p7]) := ⟨_, rfl⟩
    have t24 : Same h24 hz := ez ▸ same_new nr
    have gz : hz pr = some (.lst [.ref p0, .ref p1, .ref p2, .ref p3, .ref p4, .ref p5, .ref p6, .ref p7]) := ez ▸ upd_same
    rw [← ez]; clear ez
    have t23 : Same h23 hz := s23.trans t24
    have t22 : Same h22 hz := s22.trans t23
    have t21 : Same h21 hz := s21.trans t22
    have t20 : Same h20 hz := s20.trans t21
    have t19 : Same h19 hz := s19.trans t20
    have t18 : Same h18 hz := s18.trans t19
    have t17 : Same h17 hz := s17.trans t18
    have t16 : Same h16 hz := s16.trans t17
    have t15 : Same h15 hz := s15.trans t16
    have t14 : Same h14 hz := s14.trans t15
    have t13 : Same h13 hz := s13.trans t14
    have t12 : Same h12 hz := s12.trans t13
    have t11 : Same h11 hz := s11.trans t12
    have t10 : Same h10 hz := s10.trans t11
    have t9 : Same h9 hz := s9.trans t10
    have t8 : Same h8 hz := s8.trans t9
    have t7 : Same h7 hz := s7.trans t8
    have t6 : Same h6 hz := s6.trans t7
    have t5 : Same h5 hz := s5.trans t6
    have t4 : Same h4 hz := s4.trans t5
    have t3 : Same h3 hz := s3.trans t4
    have t2 : Same h2 hz := s2.trans t3
    have t1 : Same h1 hz := s1.trans t2
    have t0 : Same H hz := s0.trans t1
    have RW : Rows hz EE n t (fun k => [p0, p1, p2, p3, p4, p5, p6, p7].getD k 0) (fun i => [a0, a1, a2, a3, a4, a5, a6, a7, a8, a9, a10, a11, a12, a13, a14, a15].getD i 0) pr := by
      refine ⟨gz, fun k hk => ?_, fun i hi => ?_⟩
      · match k, hk with
        | 0, _ => exact t5 _ _ g0
        | 1, _ => exact t10 _ _ g1
        | 2, _ => exact t14 _ _ g2
        | 3, _ => exact t16 _ _ g3
        | 4, _ => exact t18 _ _ g4
        | 5, _ => exact t20 _ _ g5
        | 6, _ => exact t22 _ _ g6
        | 7, _ => exact t24 _ _ g7
      · match i, hi with
        | 0, _ => exact r0.same t1
        | 1, _ => exact r1.same t2
        | 2, _ => exact r2.same t3
        | 3, _ => exact r3.same t4
        | 4, _ => exact r4.same t6
        | 5, _ => exact r5.same t7
        | 6, _ => exact r6.same t8
        | 7, _ => exact r7.same t9
        | 8, _ => exact r8.same t11
        | 9, _ => exact r9.same t12
        | 10, _ => exact r10.same t13
        | 11, _ => exact r11.same t15
        | 12, _ => exact r12.same t17
        | 13, _ => exact r13.same t19
        | 14, _ => exact r14.same t21
        | 15, _ => exact r15.same t23
        | (m + 16), h => exact absurd h (by omega)
    generalize (fun k => [p0, p1, p2, p3, p4, p5, p6, p7].getD k 0) = rw at RW
    generalize (fun i => [a0, a1, a2, a3, a4, a5, a6, a7, a8, a9, a10, a11, a12, a13, a14, a15].getD i 0) = ea at RW
    clear gz g0 g1 g2 g3 g4 g5 g6 g7 r0 r1 r2 r3 r4 r5 r6 r7 r8 r9 r10 r11 r12 r13 r14 r15 t1 t2 t3 t4 t5 t6 t7 t8 t9 t10 t11 t12 t13 t14 t15 t16 t17 t18 t19 t20 t21 t22 t23 t24 s0 s1 s2 s3 s4 s5 s6 s7 s8 s9 s10 s11 s12 s13 s14 s15 s16 s17 s18 s19 s20 s21 s22 s23
    have lk : ∀ {H'}, Rows H' EE n t rw ea pr → ∀ k, k < 8 → atI ((List.range 8).map fun k => V.ref (rw k)) ((k : Nat) : Int) = some (.ref (rw k)) := fun _ k hk => atI_of (rows_at hk)
    refine ⟨_, rfl, pr, _, rfl, .inl (.of RW.top), _, rfl, by simp, by simp, ?_⟩
    refine for_range (lo := 0) (n := 8) (fun i σ H' => Same H H' ∧ Rows H' EE n t rw ea pr ∧ ∃ z3 z4 z5 z6 z7, σ = [some (.int n), some (.str t), some (.ref pr), z3, z4, z5, z6, z7, none, none, none]) ⟨t0, RW, _, _, _, _, _, rfl⟩ (fun k σ H' hk h => ?_) (fun σ H' h => ?_)
    · obtain ⟨sm, R, z3, z4, z5, z6, z7, rfl⟩ := h
      have e0 : (0 : Int) + (k : Int) = ((k : Nat) : Int) := by omega
      have hl : (rowV ea k).length = szR k := by unfold rowV; simp
      have z4 : szR k ≤ 4 := (by decide : ∀ k, k < 8 → szR k ≤ 4) k hk
      refine ⟨_, rfl, _, rfl, pr, _, _, .ref (rw k), rfl, rfl, .of R.top, by rw [e0]; exact lk R k hk, rw k, _, rfl, .inl (.of (R.row k hk)), _, rfl, by omega, by omega, ?_⟩
      refine for_range (lo := 0) (n := (rowV ea k).length) (fun i σ H' => Same H H' ∧ Rows H' EE n t rw ea pr ∧ ∃ z4 z5 z6 z7, σ = [some (.int n), some (.str t), some (.ref pr), some (.int (0 + (k : Int))), z4, z5, z6, z7, none, none, none]) ⟨sm, R, _, _, _, _, rfl⟩ (fun j σ H' hj h => ?_) (fun σ H' h => ?_)
      · obtain ⟨sm, R, z4, z5, z6, z7, rfl⟩ := h
        have e1 : (0 : Int) + (j : Int) = ((j : Nat) : Int) := by omega
        rw [hl] at hj
        obtain ⟨hi, w0, w1, w2⟩ := bs_lt k hk j hj
        refine ⟨_, rfl, _, rfl, pr, _, _, .ref (rw k), rfl, rfl, .of R.top, by rw [e0]; exact lk R k hk, _, rfl, rw k, _, _, .ref (ea (bsR k + j)), rfl, rfl, .of (R.row k hk), by rw [e1]; exact atI_of (rows_at hj), ?_⟩
        have er := R.er _ hi
        refine ⟨_, rfl, _, _, _, _, _, _, rfl, fun _ h => h, er, T.exc _ hi, T.kit _ hi 0 (by decide), ?_⟩
        refine ⟨_, rfl, _, _, _, _, _, _, rfl, fun _ h => h, er, T.exc _ hi, T.kit _ hi 1 (by decide), ?_⟩
        refine ⟨_, rfl, _, _, _, _, _, _, rfl, fun _ h => h, er, T.exc _ hi, T.kit _ hi 2 (by decide), ?_⟩
        refine ⟨_, rfl, _, _, _, _, _, _, rfl, fun _ h => h, er, T.exc _ hi, T.kit _ hi 3 (by decide), ?_⟩
        refine ⟨_, rfl, _, _, _, _, _, _, rfl, fun _ h => h, er, T.exc _ hi, T.kit _ hi 4 (by decide), ?_⟩
        refine ⟨_, rfl, _, _, _, _, _, _, rfl, fun _ h => h, er, T.exc _ hi, T.kit _ hi 5 (by decide), ?_⟩
        refine ⟨_, rfl, _, _, _, _, _, _, rfl, fun _ h => h, er, T.exc _ hi, T.kit _ hi 6 (by decide), ?_⟩
        refine ⟨_, rfl, _, _, _, _, _, _, rfl, fun _ h => h, er, T.exc _ hi, T.kit _ hi 7 (by decide), ?_⟩
        refine ⟨_, rfl, _, _, _, _, _, _, rfl, fun _ h => h, er, T.exc _ hi, T.kit _ hi 8 (by decide), ?_⟩
        refine ⟨_, rfl, _, _, _, _, _, _, rfl, fun _ h => h, er, T.exc _ hi, T.kit _ hi 9 (by decide), ?_⟩
        refine ⟨_, rfl, _, _, _, _, _, _, rfl, fun _ h => h, er, T.exc _ hi, T.kit _ hi 10 (by decide), ?_⟩
        refine ⟨_, rfl, _, _, _, _, _, _, rfl, fun _ h => h, er, T.exc _ hi, T.kit _ hi 11 (by decide), ?_⟩
        refine ⟨_, rfl, _, _, _, _, _, _, rfl, fun _ h => h, er, T.exc _ hi, T.kit _ hi 12 (by decide), ?_⟩
        refine ⟨_, rfl, _, _, _, _, _, _, rfl, fun _ h => h, er, T.exc _ hi, T.kit _ hi 13 (by decide), ?_⟩
        refine ⟨_, rfl, _, _, _, _, _, _, rfl, fun _ h => h, er, T.exc _ hi, T.kit _ hi 14 (by decide), ?_⟩
        refine ⟨_, rfl, _, _, _, _, _, _, rfl, fun _ h => h, er, T.exc _ hi, T.kit _ hi 15 (by decide), ?_⟩
        refine ⟨by show 16 ≤ sizeLine; decide, fun po no => ?_⟩
        have so := same_new (o := .lst [.bl (decide (bsR k + j = 0)), .bl (decide (bsR k + j = 1)), .bl (decide (bsR k + j = 2)), .bl (decide (bsR k + j = 3)), .bl (decide (bsR k + j = 4)), .bl (decide (bsR k + j = 5)), .bl (decide (bsR k + j = 6)), .bl (decide (bsR k + j = 7)), .bl (decide (bsR k + j = 8)), .bl (decide (bsR k + j = 9)), .bl (decide (bsR k + j = 10)), .bl (decide (bsR k + j = 11)), .bl (decide (bsR k + j = 12)), .bl (decide (bsR k + j = 13)), .bl (decide (bsR k + j = 14)), .bl (decide (bsR k + j = 15))]) no
        have ho : upd H' po (.lst [.bl (decide (bsR k + j = 0)), .bl (decide (bsR k + j = 1)), .bl (decide (bsR k + j = 2)), .bl (decide (bsR k + j = 3)), .bl (decide (bsR k + j = 4)), .bl (decide (bsR k + j = 5)), .bl (decide (bsR k + j = 6)), .bl (decide (bsR k + j = 7)), .bl (decide (bsR k + j = 8)), .bl (decide (bsR k + j = 9)), .bl (decide (bsR k + j = 10)), .bl (decide (bsR k + j = 11)), .bl (decide (bsR k + j = 12)), .bl (decide (bsR k + j = 13)), .bl (decide (bsR k + j = 14)), .bl (decide (bsR k + j = 15))]) po = some (.lst [.bl (decide (bsR k + j = 0)), .bl (decide (bsR k + j = 1)), .bl (decide (bsR k + j = 2)), .bl (decide (bsR k + j = 3)), .bl (decide (bsR k + j = 4)), .bl (decide (bsR k + j = 5)), .bl (decide (bsR k + j = 6)), .bl (decide (bsR k + j = 7)), .bl (decide (bsR k + j = 8)), .bl (decide (bsR k + j = 9)), .bl (decide (bsR k + j = 10)), .bl (decide (bsR k + j = 11)), .bl (decide (bsR k + j = 12)), .bl (decide (bsR k + j = 13)), .bl (decide (bsR k + j = 14)), .bl (decide (bsR k + j = 15))]) := upd_same
        generalize upd H' po (.lst [.bl (decide (bsR k + j = 0)), .bl (decide (bsR k + j = 1)), .bl (decide (bsR k + j = 2)), .bl (decide (bsR k + j = 3)), .bl (decide (bsR k + j = 4)), .bl (decide (bsR k + j = 5)), .bl (decide (bsR k + j = 6)), .bl (decide (bsR k + j = 7)), .bl (decide (bsR k + j = 8)), .bl (decide (bsR k + j = 9)), .bl (decide (bsR k + j = 10)), .bl (decide (bsR k + j = 11)), .bl (decide (bsR k + j = 12)), .bl (decide (bsR k + j = 13)), .bl (decide (bsR k + j = 14)), .bl (decide (bsR k + j = 15))]) = H1 at so ho ⊢
        have R1 := R.same so
        have hb : ([V.int 0, V.int 4, V.int 8, V.int 11, V.int 12, V.int 13, V.int 14, V.int 15])[k]? = some (V.int (bsR k : Nat)) := (by decide : ∀ k, k < 8 → ([V.int 0, V.int 4, V.int 8, V.int 11, V.int 12, V.int 13, V.int 14, V.int 15])[k]? = some (V.int (bsR k : Nat))) k hk
        refine ⟨by show 8 ≤ sizeLine; decide, fun pm nm => ⟨_, rfl, pm, _, _, .int (bsR k : Nat), rfl, rfl, new_lst, by rw [e0]; exact atI_of hb, _, rfl, _, _, rfl, rfl, ?_⟩⟩
        have s2 := same_new (o := .lst [V.int 0, V.int 4, V.int 8, V.int 11, V.int 12, V.int 13, V.int 14, V.int 15]) nm
        have ho := s2 _ _ ho
        have R2 := R1.same s2
        generalize upd H1 pm (.lst [V.int 0, V.int 4, V.int 8, V.int 11, V.int 12, V.int 13, V.int 14, V.int 15]) = H2 at s2 ho R2 ⊢
        refine ⟨_, rfl, 16, rfl, by decide, by decide, fun D hD => ?_⟩
        refine lcG (src_range (lo := 0) (n := 16)) hD (by simp) (fun _ => true) (fun x y _ => y = .bl (decide (x = V.int ((bsR k : Nat) + (0 + (j : Int)))))) (fun _ _ => trivial) (fun _ _ _ _ _ _ h => h) (fun x hx H4 Qy Qn s4 qy _ => ?_) (fun H5 ys s5 hDy pr => ?_)
        · obtain ⟨jj, hjj, rfl⟩ := List.mem_map.mp hx
          refine ⟨rfl, ?_⟩
          refine iteT (B := Qn H4) ?_
          refine ⟨_, rfl, _, rfl, rfl, ?_⟩
          exact qy _ _ (Same.refl _) rfl rfl
        rw [filter_true] at pr
        have ys_e := paired_map pr
        have ey : ys = ((List.range 16).map fun jj => decide (bsR k + j = jj)).map V.bl := by
          rw [ys_e, List.map_map, List.map_map]
          refine List.map_congr_left fun jj _ => ?_
          show V.bl _ = V.bl _
          congr 1
          refine decide_eq_decide.mpr ⟨fun h => ?_, fun h => ?_⟩
          · have e : (0 : Int) + (jj : Int) = (bsR k : Int) + (0 + (j : Int)) := V.int.inj h
            omega
          · show V.int _ = V.int _
            congr 1; omega
        have ho := s5 _ _ ho
        have R3 := R2.same s5
        have sm3 := sm.trans (so.trans (s2.trans s5))
        have er := R3.er _ hi
        refine ne_bl (xs := (List.range 16).map fun jj => decide (bsR k + j = jj)) (.of ho) (.of (ey ▸ hDy)) ?_
        refine ⟨_, rfl, iteN rfl ?_⟩
        refine ⟨_, rfl, _, _, _, _, _, _, rfl, fun _ h => h, er, T.exc _ hi, T.kB _ hi, _, rfl, iteN rfl ?_⟩
        refine ⟨_, rfl, _, _, _, _, _, _, rfl, fun _ h => h, er, T.exc _ hi, T.kV _ hi, _, rfl, iteN rfl ?_⟩
        refine ⟨_, rfl, _, _, _, _, _, _, rfl, fun _ h => h, er, T.exc _ hi, T.kL _ hi, ?_⟩
        refine ⟨_, rfl, _, _, _, _, _, _, rfl, fun _ h => h, er, T.exc _ hi, T.kN _ hi, ?_⟩
        refine ⟨_, rfl, _, _, _, _, _, _, rfl, fun _ h => h, er, T.exc _ hi, T.kP _ hi, ?_⟩
        refine ⟨by show 3 ≤ sizeLine; decide, fun pa na => ?_⟩
        refine ⟨_, rfl, rfl, _, rfl, rfl, _, rfl, rfl, by show 3 ≤ sizeLine; decide, fun pb nb => ?_⟩
        have q0 : decide (V.int (0 + (k : Int)) = V.int 0) = decide (bsR k + j < 4) := decide_eq_decide.mpr ⟨fun h => w0.mp (by have := V.int.inj h; omega), fun h => by rw [w0.mpr h]; rfl⟩
        have q1 : decide (V.int (0 + (k : Int)) = V.int 1) = decide (4 ≤ bsR k + j ∧ bsR k + j < 8) := decide_eq_decide.mpr ⟨fun h => w1.mp (by have := V.int.inj h; omega), fun h => by rw [w1.mpr h]; rfl⟩
        have q2 : decide (V.int (0 + (k : Int)) = V.int 2) = decide (8 ≤ bsR k + j ∧ bsR k + j < 11) := decide_eq_decide.mpr ⟨fun h => w2.mp (by have := V.int.inj h; omega), fun h => by rw [w2.mpr h]; rfl⟩
        rw [q0, q1, q2]
        refine ne_bl (xs := [decide (bsR k + j < 4), decide (4 ≤ bsR k + j ∧ bsR k + j < 8), decide (8 ≤ bsR k + j ∧ bsR k + j < 11)]) (same_lst (same_new nb) new_lst) new_lst ?_
        refine ⟨_, rfl, iteN rfl ?_⟩
        have s9 := (same_new (o := .lst [.bl (decide (bsR k + j < 4)), .bl (decide (4 ≤ bsR k + j ∧ bsR k + j < 8)), .bl (decide (8 ≤ bsR k + j ∧ bsR k + j < 11))]) na).trans (same_new (o := .lst [.bl (decide (bsR k + j < 4)), .bl (decide (4 ≤ bsR k + j ∧ bsR k + j < 8)), .bl (decide (8 ≤ bsR k + j ∧ bsR k + j < 11))]) nb)
        exact ⟨sm3.trans s9, R3.same s9, _, _, _, _, rfl⟩
      · obtain ⟨sm, R, z4, z5, z6, z7, rfl⟩ := h
        exact ⟨sm, R, _, _, _, _, _, rfl⟩
    · obtain ⟨sm, R, z3, z4, z5, z6, z7, rfl⟩ := h
      refine ⟨_, rfl, pr, _, _, .ref (rw 0), rfl, rfl, .of R.top, lk R 0 (by decide), rw 0, rfl, ⟨_, .of (R.row 0 (by decide))⟩, fun D0 nD0 => ?_⟩
      refine lcG (src_list (K := K) (a := rw 0) (xs := rowV ea 0)) nD0 (by show (List.map _ _).length < _; simp [szR]) (fun _ => true) (fun _ y _ => y = V.int n) (fun H s => same_lst s (.of (R.row 0 (by decide)))) (fun _ _ _ _ _ _ h => h) (fun x hx H4 Qy Qn s4 qy _ => ?_) (fun H5 ys s5 hD0 pw => ?_)
      · obtain ⟨jj, hjj, rfl⟩ := List.mem_map.mp hx
        have hjj := List.mem_range.mp hjj
        have hi : 0 ≤ bsR 0 + jj ∧ bsR 0 + jj < 4 := by
          have e1 : bsR 0 = 0 := rfl
          have e2 : szR 0 = 4 := rfl
          omega
        have er := (R.er (bsR 0 + jj) (by omega)).same s4
        rw [fldE0 hi.2] at er
        have nf := T.no (bsR 0 + jj) (by omega)
        rw [fldN0 hi.2] at nf
        exact ⟨rfl, iteT (B := Qn H4) ⟨_, rfl, _, _, _, V.int n, rfl, T.xf _ (by omega), nf, er, rfl, qy _ _ (Same.refl _) rfl rfl⟩⟩
      rw [filter_true] at pw
      have eD0 := ys_const pw
      have hD0 : H5 D0 = some (.lst (List.replicate 4 (V.int n))) := by rw [hD0, eD0]; rfl
      have R := R.same s5
      have sm := sm.trans s5
      refine ⟨_, rfl, pr, _, _, .ref (rw 2), rfl, rfl, .of R.top, lk R 2 (by decide), rw 2, rfl, ⟨_, .of (R.row 2 (by decide))⟩, fun D2 nD2 => ?_⟩
      refine lcG (src_list (K := K) (a := rw 2) (xs := rowV ea 2)) nD2 (by show (List.map _ _).length < _; simp [szR]) (fun _ => true) (fun _ y _ => y = V.int n) (fun H s => same_lst s (.of (R.row 2 (by decide)))) (fun _ _ _ _ _ _ h => h) (fun x hx H4 Qy Qn s4 qy _ => ?_) (fun H6 ys s5 hD2 pw => ?_)
      · obtain ⟨jj, hjj, rfl⟩ := List.mem_map.mp hx
        have hjj := List.mem_range.mp hjj
        have hi : 8 ≤ bsR 2 + jj ∧ bsR 2 + jj < 11 := by
          have e1 : bsR 2 = 8 := rfl
          have e2 : szR 2 = 3 := rfl
          omega
        have er := (R.er (bsR 2 + jj) (by omega)).same s4
        rw [fldE2 hi.1 hi.2] at er
        have nf := T.no (bsR 2 + jj) (by omega)
        rw [fldN2 hi.1 hi.2] at nf
        exact ⟨rfl, iteT (B := Qn H4) ⟨_, rfl, _, _, _, V.int n, rfl, T.xf _ (by omega), nf, er, rfl, qy _ _ (Same.refl _) rfl rfl⟩⟩
      rw [filter_true] at pw
      have eD2 := ys_const pw
      have hD2 : H6 D2 = some (.lst (List.replicate 3 (V.int n))) := by rw [hD2, eD2]; rfl
      have R := R.same s5
      have hD0 := s5 _ _ hD0
      have sm := sm.trans s5
      refine ⟨D0, D2, _, _, rfl, rfl, hD0, hD2, by rw [List.length_replicate, List.length_replicate]; show 7 ≤ sizeLine; decide, fun pc nc => ?_⟩
      have s1 := same_new (o := .lst (List.replicate 4 (V.int n) ++ List.replicate 3 (V.int n))) nc
      have R := R.same s1
      have sm := sm.trans s1
      refine ⟨_, rfl, pr, _, _, .ref (rw 5), rfl, rfl, .of R.top, lk R 5 (by decide), rw 5, _, _, .ref (ea 13), rfl, rfl, .of (R.row 5 (by decide)), atI_of (j := 0) rfl, _, _, _, V.int n, rfl, T.xf 13 (by decide), T.no 13 (by decide), R.er 13 (by decide), rfl, by show 1 ≤ sizeLine; decide, fun pl nl => ?_⟩
      have s2 := same_new (o := .lst [V.int n]) nl
      refine ⟨pc, pl, _, _, rfl, rfl, s2 _ _ upd_same, upd_same, by rw [List.length_append, List.length_replicate, List.length_replicate]; show 8 ≤ sizeLine; decide, fun pL nL => ?_⟩
      have s3 := same_new (o := .lst (List.replicate 4 (V.int n) ++ List.replicate 3 (V.int n) ++ [V.int n])) nL
      have R := R.same (s2.trans s3)
      have sm := sm.trans (s2.trans s3)
      have hL := upd_same (H := upd (upd H6 pc (.lst (List.replicate 4 (V.int n) ++ List.replicate 3 (V.int n)))) pl (.lst [V.int n])) (a := pL) (o := .lst (List.replicate 4 (V.int n) ++ List.replicate 3 (V.int n) ++ [V.int n]))
      generalize upd (upd (upd H6 pc (.lst (List.replicate 4 (V.int n) ++ List.replicate 3 (V.int n)))) pl (.lst [V.int n])) pL (.lst (List.replicate 4 (V.int n) ++ List.replicate 3 (V.int n) ++ [V.int n])) = H7 at R sm hL ⊢
      clear s1 s2 s3 hD0 hD2 nD0 nD2
      refine ⟨_, rfl, pr, _, _, .ref (rw 1), rfl, rfl, .of R.top, lk R 1 (by decide), rw 1, rfl, ⟨_, .of (R.row 1 (by decide))⟩, fun D1 nD1 => ?_⟩
      refine lcG (src_list (K := K) (a := rw 1) (xs := rowV ea 1)) nD1 (by show (List.map _ _).length < _; simp [szR]) (fun _ => true) (fun _ y _ => y = V.str t) (fun H s => same_lst s (.of (R.row 1 (by decide)))) (fun _ _ _ _ _ _ h => h) (fun x hx H4 Qy Qn s4 qy _ => ?_) (fun H8 ys s5 hD1 pw => ?_)
      · obtain ⟨jj, hjj, rfl⟩ := List.mem_map.mp hx
        have hjj := List.mem_range.mp hjj
        have hi : 4 ≤ bsR 1 + jj ∧ bsR 1 + jj < 8 := by
          have e1 : bsR 1 = 4 := rfl
          have e2 : szR 1 = 4 := rfl
          omega
        have er := (R.er (bsR 1 + jj) (by omega)).same s4
        rw [fldE1 hi.1 hi.2] at er
        have nf := T.no (bsR 1 + jj) (by omega)
        rw [fldN1 hi.1 hi.2] at nf
        exact ⟨rfl, iteT (B := Qn H4) ⟨_, rfl, _, _, _, V.str t, rfl, T.xf _ (by omega), nf, er, rfl, qy _ _ (Same.refl _) rfl rfl⟩⟩
      rw [filter_true] at pw
      have eD1 := ys_const pw
      have hD1 : H8 D1 = some (.lst (List.replicate 4 (V.str t))) := by rw [hD1, eD1]; rfl
      have R := R.same s5
      have hL := s5 _ _ hL
      have sm := sm.trans s5
      refine ⟨_, rfl, pr, _, _, .ref (rw 3), rfl, rfl, .of R.top, lk R 3 (by decide), rw 3, _, _, .ref (ea 11), rfl, rfl, .of (R.row 3 (by decide)), atI_of (j := 0) rfl, _, _, _, V.str t, rfl, T.xf 11 (by decide), T.no 11 (by decide), R.er 11 (by decide), rfl, _, rfl, pr, _, _, .ref (rw 4), rfl, rfl, .of R.top, lk R 4 (by decide), rw 4, _, _, .ref (ea 12), rfl, rfl, .of (R.row 4 (by decide)), atI_of (j := 0) rfl, _, _, _, V.str t, rfl, T.xf 12 (by decide), T.no 12 (by decide), R.er 12 (by decide), rfl, by show 2 ≤ sizeLine; decide, fun pc nc => ?_⟩
      have s1 := same_new (o := .lst [V.str t, V.str t]) nc
      refine ⟨D1, pc, _, _, rfl, rfl, s1 _ _ hD1, upd_same, by rw [List.length_replicate]; show 6 ≤ sizeLine; decide, fun pW nW => ?_⟩
      have s2 := same_new (o := .lst (List.replicate 4 (V.str t) ++ [V.str t, V.str t])) nW
      have sm := sm.trans (s1.trans s2)
      have hL := s2 _ _ (s1 _ _ hL)
      have hW := upd_same (H := upd H8 pc (.lst [V.str t, V.str t])) (a := pW) (o := .lst (List.replicate 4 (V.str t) ++ [V.str t, V.str t]))
      generalize upd (upd H8 pc (.lst [V.str t, V.str t])) pW (.lst (List.replicate 4 (V.str t) ++ [V.str t, V.str t])) = H9 at sm hL hW ⊢
      refine ⟨_, rfl, _, rfl, by show 1 ≤ sizeLine; decide, fun pa na => ⟨pa, 8, [.int n], rfl, rfl, upd_same, by decide, by decide, by show 1 * 8 ≤ sizeLine; decide, fun pb nb => ?_⟩⟩
      refine eq_ints (xs := List.replicate 8 n) (.of (same_new nb _ _ (same_new na _ _ hL))) (.of upd_same) ?_
      refine ⟨_, rfl, iteY rfl ?_⟩
      have s3 := (same_new (o := .lst [.int n]) na).trans (same_new (o := .lst ((List.replicate (8 : Int).toNat [V.int n]).flatten)) nb)
      have hW := s3 _ _ hW
      have sm := sm.trans s3
      refine ⟨_, rfl, _, rfl, by show 1 ≤ sizeLine; decide, fun pc nc => ⟨pc, 6, [.str t], rfl, rfl, upd_same, by decide, by decide, by show 1 * 6 ≤ sizeLine; decide, fun pd nd' => ?_⟩⟩
      refine eq_same (d := dStrs (List.replicate 6 t)) (dp_strs (.of (same_new nd' _ _ (same_new nc _ _ hW)))) (dp_strs (.of upd_same)) (sh_strs fun x hx => by rw [List.eq_of_mem_replicate hx]; exact hk) ?_
      exact q _ (sm.trans ((same_new nc).trans (same_new nd')))

end
end K88
set_option maxHeartbeats 4000000
set_option pp.deepTerms false
set_option pp.deepTerms.threshold 3
namespace K88
open PySem PySem.Spec PyProof.Rows L2 SX BB BD BQ BS BE PN BZ BC BI BV
local macro_rules | `(tactic| walk_at "side") => `(tactic| (try dsimp only) <;> (first | decide | omega | assumption | (unfold CMul; omega) | (unfold CDiv; omega)))
local macro_rules | `(tactic| walk_at "sq") => `(tactic| first
  | assumption
  | exact new_tup
  | exact same_tup (by assumption) (by assumption)
  | (refine same_tup (same_new (by assumption)) ?_; walk_at "sq"))
local macro_rules | `(tactic| walk_at "rd") => `(tactic| first
  | refine ⟨_, rfl, ?_⟩
  | refine ⟨_, _, _, _, rfl, rfl, (by walk_at "sq"), atI_of (j := 0) rfl, ?_⟩
  | refine ⟨_, _, _, _, rfl, rfl, (by walk_at "sq"), atI_of (j := 1) rfl, ?_⟩
  | refine ⟨_, _, rfl, rfl, ?_⟩
  | refine ⟨_, _, rfl, ?_⟩
  | refine And.intro rfl ?_
  | refine And.intro (by walk_at "side") ?_
  | refine Or.inl ⟨_, rfl, ?_⟩)
local macro_rules | `(tactic| walk_at "no") => `(tactic| refine ⟨_, rfl, rfl, _, rfl, iteN (by decide +kernel) ?_⟩)
local macro_rules | `(tactic| walk_at "yes") => `(tactic| refine ⟨_, rfl, rfl, _, rfl, iteY (by decide +kernel) ?_⟩)
local macro_rules | `(tactic| walk_at "rds") => `(tactic| repeat (walk_at "rd"))
section
variable {P : Program} {w : World} {K : PySem.W.Frag} {mg : Str → Option Value} {base : Heap} {X : Top} {eB eU : Addr}
def rLenK (K : PySem.W.Frag) : List V → Hp → VK → Prop := fun xs H Q => ∃ p ys, xs = [.ref p] ∧ (SqL K H p ys ∨ SqT K H p ys) ∧ Q (.int ys.length) H
theorem EntAt.same {H H' : Hp} {v : V} {s : Str} {d : PyData} (sm : Same H H') (h : EntAt K H v s d) : EntAt K H' v s d := by
  obtain ⟨⟨p, xs, e, h1⟩, h2, h3⟩ := h
  exact ⟨⟨p, xs, e, same_tup sm h1⟩, td_same sm h2, h3⟩
theorem EntAt.sb {H H' : Hp} {D : Addr} {v : V} {s : Str} {d : PyData} (sm : SB D H H') (hd : ∃ zs, H D = some (.lst zs)) (h : EntAt K H v s d) : EntAt K H' v s d := by
  obtain ⟨⟨p, xs, e, h1⟩, h2, h3⟩ := h
  exact ⟨⟨p, xs, e, tup_sb sm hd h1⟩, td_sb sm hd h2, h3⟩
/-- what is known of the entries -/
structure Ents (K : PySem.W.Frag) (H : Hp) (en : List V) (ss : List Str) (ds : List PyData) : Prop where
  nm : NamesAt K H ss en
  td : TDAll K H en ds
  sh : ∀ d ∈ ds, Sh 3 d
  st : ∀ s ∈ ss, s.length ≤ 3 ∧ PyData.strOk s = true
theorem ents_of {H : Hp} {xs en : List V} (h : Paired (fun _ y => ∃ s d, EntAt K H y s d) xs en) : ∃ ss ds, Ents K H en ss ds := by
  induction h with
  | nil => exact ⟨[], [], .nil, .nil, by simp, by simp⟩
  | cons h1 _ ih =>
    obtain ⟨s, d, h1, h2, h3, h4⟩ := h1
    obtain ⟨ss, ds, i1, i2, i3, i4⟩ := ih
    refine ⟨s :: ss, d :: ds, .cons h1 i1, .cons h2 i2, fun x hx => ?_, fun x hx => ?_⟩
    · rcases List.mem_cons.mp hx with e | e
      · rw [e]; exact h3
      · exact i3 x e
    · rcases List.mem_cons.mp hx with e | e
      · rw [e]; exact h4
      · exact i4 x e
theorem NamesAt.same {H H' : Hp} {ns : List Str} {en : List V} (sm : Same H H') (h : NamesAt K H ns en) : NamesAt K H' ns en := h.mono fun a b h => by
  obtain ⟨p, xs, e, h⟩ := h
  exact ⟨p, xs, e, same_tup sm h⟩
theorem Ents.same {H H' : Hp} {en : List V} {ss : List Str} {ds : List PyData} (sm : Same H H') (h : Ents K H en ss ds) : Ents K H' en ss ds := ⟨h.nm.same sm, tds_same sm h.td, h.sh, h.st⟩
theorem names_fn {H : Hp} {en : List V} {ss : List Str} {ds : List PyData} (h : Ents K H en ss ds) : ∃ nm : V → Str, ∀ x ∈ en, ∃ p xs, x = .ref p ∧ SqT K H p (.str (nm x) :: xs) ∧ (nm x).length ≤ 3 ∧ PyData.strOk (nm x) = true := by
  have w : ∀ x ∈ en, ∃ s p xs, x = .ref p ∧ SqT K H p (.str s :: xs) ∧ s.length ≤ 3 ∧ PyData.strOk s = true := by
    have h1 := h.nm
    have h4 := h.st
    clear h
    unfold NamesAt at h1
    induction h1 with
    | nil => intro x hx; cases hx
    | cons a _ ih =>
      intro x hx
      rcases List.mem_cons.mp hx with e | e
      · subst e
        obtain ⟨p, xs, e, hs⟩ := a
        exact ⟨_, p, xs, e, hs, (h4 _ List.mem_cons_self).1, (h4 _ List.mem_cons_self).2⟩
      · exact ih (fun s hs => h4 s (List.mem_cons_of_mem _ hs)) x e
  refine ⟨fun x => if h : x ∈ en then Classical.choose (w x h) else "", fun x hx => ?_⟩
  have := Classical.choose_spec (w x hx)
  simp only [dif_pos hx]
  exact this
theorem names_map {H : Hp} {nm : V → Str} : ∀ {en : List V}, (∀ x ∈ en, ∃ p xs, x = .ref p ∧ SqT K H p (.str (nm x) :: xs)) → NamesAt K H (en.map nm) en
  | [], _ => .nil
  | x :: r, h => .cons (h x List.mem_cons_self) (names_map fun y hy => h y (List.mem_cons_of_mem _ hy))
theorem first_filter {nm : V → Str} {x : Str} : ∀ (en : List V), firstN (en.map nm) en x = (en.filter fun v => decide (nm v = x)).head?
  | [] => rfl
  | v :: r => by
    by_cases h : nm v = x
    · rw [List.filter_cons_of_pos (by simpa using h), List.map_cons]
      exact if_pos h
    · rw [List.filter_cons_of_neg (by simpa using h), List.map_cons, ← first_filter r]
      exact if_neg h
theorem td_mem {H : Hp} {vs : List V} {ds : List PyData} (h : TDAll K H vs ds) : ∀ v ∈ vs, ∃ d ∈ ds, TD K H v d := by
  match h with
  | .nil => intro v hv; cases hv
  | .cons a r =>
    intro v hv
    rcases List.mem_cons.mp hv with e | e
    · subst e; exact ⟨_, List.mem_cons_self, a⟩
    · obtain ⟨d, hd, t⟩ := td_mem r v e
      exact ⟨d, List.mem_cons_of_mem _ hd, t⟩
theorem paired_id {l ys : List V} (h : Paired (fun x y => y = x) l ys) : ys = l := by
  induction h with
  | nil => rfl
  | cons h1 _ ih => rw [h1, ih]
theorem kind_ok : ∀ j, j < 18 → PyData.strOk (kindS j) = true := by decide +kernel
/-- all but lists stand -/
def NL (H H' : Hp) : Prop := ∀ b u, (∀ xs, u ≠ .lst xs) → H b = some u → H' b = some u
theorem NL.tup {H H' : Hp} {a : Addr} {xs : List V} (e : NL H H') (h : SqT K H a xs) : SqT K H' a xs := by
  rcases h with (h | ⟨o, h⟩) | h
  · exact .inl (.inl (e _ _ (fun _ z => by cases z) h))
  · exact .inl (.inr ⟨o, e _ _ (fun _ z => by cases z) h⟩)
  · exact .inr h
theorem NL.img {C : Addr} {H H' : Hp} {p : Addr} {sl ce : List Int} {R : Int} {en cl : List V} (s : NL H H') (h : ImgAt K C H p sl ce R en cl) : ImgAt K C H' p sl ce R en cl := by
  obtain ⟨dx, a1, a2, a3, a4, h0, h1, h2, h3, h4⟩ := h
  exact ⟨dx, a1, a2, a3, a4, s _ _ (fun _ z => by cases z) h0, s.tup h1, s.tup h2, s.tup h3, s.tup h4⟩
theorem NL.put {H H' : Hp} {p : Addr} {xs ys : List V} (s : NL H H') (hp : H' p = some (.lst xs)) : NL H (upd H' p (.lst ys)) := fun b u n e => by
  rw [upd_ne (ne_of (s b u n e) hp (n xs))]
  exact s b u n e
theorem same_put {H H' : Hp} {p : Addr} {o : HO} (s : Same H H') (hp : H p = none) : Same H (upd H' p o) := fun b u e => by
  rw [upd_ne (ne_of_none e hp)]
  exact s b u e
def spLaw (K : PySem.W.Frag) : Sp := fun vs H Q _ => ∃ (a : Addr) (ns : List Int), vs = [.ref a] ∧ SqL K H a (ns.map V.int) ∧ ns.length ≤ 63 ∧ ∀ H', Q (.bl true) H'

abbrev s_law : Stmt := topS 44
abbrev N_law : List Str := ["script", "first", "second", "slots", "cells", "registers", "entries", "k", "claims", "handed", "image", "again", "row", "names", "entry", "name", "due", "told", "place"]
abbrev P_law : List Str := ["script"]
theorem sc_law : FnScope N_law P_law (defScope s_law) := ⟨rfl, rfl, rfl, by decide +kernel, rfl, by decide +kernel, by decide +kernel⟩
theorem ok_law {fL : Addr} {fdL : FuncData} (F : L2.Fun K "law" "law" s_law fL fdL) (T : Txt K w mg X) (c_law_cell : Cal P w K mg base 1 "_law_cell" P_law_cell (spCell K)) (c_law_row : Cal P w K mg base 1 "_law_row" P_law_row spRow)
    (c_law_name : Cal P w K mg base 1 "_law_name" P_law_name spName) (c_law_entry : Cal P w K mg base 2 "_law_entry" P_law_entry (spEntry K)) (c_law_parts : Cal P w K mg base 3 "_law_parts" P_law_parts (spParts K X.CI)) (c_law_unequal : Cal P w K mg base 3 "_law_unequal" P_law_unequal (spUnq K X.CI))
    (c_law_entry_of : Cal P w K mg base 4 "_law_entry_of" P_law_entry_of (spEO K X.CI)) (c_law_read : Cal P w K mg base 5 "_law_read" P_law_read (spRead K X.CI)) (c_law_due : Cal P w K mg base 4 "_law_due" P_law_due (spDue K)) (c_law_errors : Cal P w K mg base 3 "_law_errors" P_law_errors spErrs)
    (i_Image : CalI P w K mg base 1 "Image" X.CI P_Image_init (spInit K X.CI)) (m_Image_eq : CalM P w K mg base 1 X.CI "__eq__" P_Image_eq (spEqI K X.CI)) :
    FnOk P w K mg base (L2.CX P w) 6 fL fdL P_law (spLaw K) := by
  refine ok0 F sc_law (fun vs H Q E h => ?_) (fun f cdv A outer s H vs Q E hr h => ?_)
  · obtain ⟨a, ns, rfl, _⟩ := h; rfl
  · obtain ⟨a, ns, rfl, hS, hn, q⟩ := h
    have nd := sc_law.nd
    refine ⟨_, (pss_cons (ps_set (i := 1) nd rfl (.inl rfl) (pe_c c_law_cell hr (by decide) rfl (pa_cons (pv 0) (pa_cons pe_int pa_nil))))
    (pss_cons (ps_set (i := 2) nd rfl (.inl rfl) (pe_c c_law_cell hr (by decide) rfl (pa_cons (pv 0) (pa_cons pe_int pa_nil))))
    (pss_cons (ps_set (i := 3) nd rfl (.inl rfl) (pe_c c_law_row hr (by decide) rfl (pa_cons (pv 2) (pa_cons (pe_op op_mod (pe_callTy call_int1 (by rfl) T.b_int (by decide +kernel) (pa_cons (pe_op op_fdiv (pv 1) pe_int) pa_nil)) pe_int) (pa_cons pe_int pa_nil)))))
    (pss_cons (ps_set (i := 4) nd rfl (.inr rfl) (pe_c c_law_row hr (by decide) rfl (pa_cons (pe_c c_law_cell hr (by decide) rfl (pa_cons (pv 0) (pa_cons pe_int pa_nil))) (pa_cons (pe_op op_mod (pe_callTy call_int1 (by rfl) T.b_int (by decide +kernel) (pa_cons (pe_op op_add (pe_op op_fdiv (pv 1) pe_int) (pe_callB call_len_seq (by rfl) T.b_len PySem.boot_len (pa_cons (pv 0) pa_nil))) pa_nil)) pe_int) (pa_cons pe_int pa_nil)))))
    (pss_cons (ps_set (i := 5) nd rfl (.inl rfl) (pe_op op_add pe_int (pe_op op_mod (pe_callTy call_int1 (by rfl) T.b_int (by decide +kernel) (pa_cons (pv 1) pa_nil)) pe_int)))
    (pss_cons (ps_setLc (i := 6) (own := [("k", 7)]) (g := gName 7) (tt := tYes) rfl nd rfl rfl (sw_true rfl rfl rfl (by decide +kernel)) (pi_range1 (by rfl) T.b_range (pa_cons (pe_op op_mod (pe_callTy call_int1 (by rfl) T.b_int (by decide +kernel) (pa_cons (pe_op op_fdiv (pv 1) pe_int) pa_nil)) pe_int) pa_nil)) (blkOk_by (own := [("k", 7)]) (N := N_law) (sc := defScope s_law) (by decide +kernel)) (fun _ _ _ _ _ => (pg_name (i := 7) nd rfl (.inl rfl))) (fun _ _ _ _ _ => pts_nil) (fun _ _ _ _ _ => (pe_c c_law_entry hr (by decide) rfl (pa_cons (pe_op op_add (pe_callB call_abs (by rfl) T.b_abs (by decide +kernel) (pa_cons (pe_c c_law_cell hr (by decide) rfl (pa_cons (pv 0) (pa_cons (pe_op op_add pe_int (pv 7)) pa_nil))) pa_nil)) (pe_op op_mul pe_int (pv 7))) (pa_cons (pe_callB (r := rLenK K) call_len_seq (by rfl) T.b_len PySem.boot_len (pa_cons (pv 4) pa_nil)) pa_nil)))))
    (pss_cons (ps_setLc (i := 8) (own := [("k", 7)]) (g := gName 7) (tt := tYes) rfl nd rfl rfl (sw_true rfl rfl rfl (by decide +kernel)) (pi_range1 (by rfl) T.b_range (pa_cons (pe_op op_mod (pe_callTy call_int1 (by rfl) T.b_int (by decide +kernel) (pa_cons (pe_op op_fdiv (pv 1) pe_int) pa_nil)) pe_int) pa_nil)) (blkOk_by (own := [("k", 7)]) (N := N_law) (sc := defScope s_law) (by decide +kernel)) (fun _ _ _ _ _ => (pg_name (i := 7) nd rfl (.inl rfl))) (fun _ _ _ _ _ => pts_nil) (fun _ _ _ _ _ => (pe_tup (pa_cons (pe_op op_mod (pe_callTy call_int1 (by rfl) T.b_int (by decide +kernel) (pa_cons (pe_c c_law_cell hr (by decide) rfl (pa_cons (pv 0) (pa_cons (pe_op op_add pe_int (pv 7)) pa_nil))) pa_nil)) pe_int) (pa_cons (pe_op op_mod (pe_callTy call_int1 (by rfl) T.b_int (by decide +kernel) (pa_cons (pe_op op_fdiv (pe_c c_law_cell hr (by decide) rfl (pa_cons (pv 0) (pa_cons (pe_op op_add pe_int (pv 7)) pa_nil))) pe_int) pa_nil)) pe_int) pa_nil)))))
    (pss_cons (ps_set (i := 9) nd rfl (.inl rfl) (pe_lst (pa_cons (pe_callTy call_list_of (by rfl) T.b_list (by decide +kernel) (pa_cons (pv 3) pa_nil)) (pa_cons (pe_callTy call_list_of (by rfl) T.b_list (by decide +kernel) (pa_cons (pv 4) pa_nil)) (pa_cons (pe_callTy call_list_of (by rfl) T.b_list (by decide +kernel) (pa_cons (pv 6) pa_nil)) (pa_cons (pe_callTy call_list_of (by rfl) T.b_list (by decide +kernel) (pa_cons (pv 8) pa_nil)) pa_nil))))))
    (pss_cons (ps_set (i := 10) nd rfl (.inl rfl) (pe_ci i_Image hr (by decide) rfl (pa_cons (pe_ix ix_list (pv 9) pe_int (fun _ _ => rfl)) (pa_cons (pe_ix ix_list (pv 9) pe_int (fun _ _ => rfl)) (pa_cons (pv 5) (pa_cons (pe_ix ix_list (pv 9) pe_int (fun _ _ => rfl)) (pa_cons (pe_ix ix_list (pv 9) pe_int (fun _ _ => rfl)) pa_nil)))))))
    (pss_cons (ps_set (i := 11) nd rfl (.inl rfl) (pe_ci i_Image hr (by decide) rfl (pa_cons (pe_callTy call_list_of (by rfl) T.b_list (by decide +kernel) (pa_cons (pv 3) pa_nil)) (pa_cons (pe_callTy call_list_of (by rfl) T.b_list (by decide +kernel) (pa_cons (pv 4) pa_nil)) (pa_cons (pv 5) (pa_cons (pe_callTy call_list_of (by rfl) T.b_list (by decide +kernel) (pa_cons (pv 6) pa_nil)) (pa_cons (pe_callTy call_list_of (by rfl) T.b_list (by decide +kernel) (pa_cons (pv 8) pa_nil)) pa_nil)))))))
    (pss_cons (ps_for PassesOwn.never rfl (pi_list (pv 9)) (pg_name (i := 12) nd rfl (.inl rfl))
      (pss_cons (ps_expr (pe_bm PySem.F.plainAttrs_list PySem.F.slot_list_append PySem.F.type_list_append mt_append (pv 12) (pa_cons pe_int pa_nil)))
    (pss_one (ps_expr (pe_bm0 PySem.F.plainAttrs_list PySem.F.slot_list_reverse PySem.F.type_list_reverse mt_reverse (pv 12))))))
    (pss_cons (ps_if (PW.pt (pw_or (pt_not (pt_val (pe_c c_law_parts hr (by decide) rfl (pa_cons (pv 10) (pa_cons (pv 3) (pa_cons (pv 4) (pa_cons (pv 5) (pa_cons (pv 6) (pa_cons (pv 8) pa_nil))))))))) (pw_or (pt_not (pt_cmpR (op_own_eq m_Image_eq hr (by decide)) (pv 10) (pv 11) (nomark _))) (pw_or1 (pt_cmpR (op_own_ne m_Image_eq T.ow_Image hr (by decide)) (pv 10) (pv 11) (nomark _)))))) (pss_one (ps_ret pe_bl)) pss_nil)
    (pss_cons (ps_if (pt_not (pt_val (pe_c c_law_unequal hr (by decide) rfl (pa_cons (pv 10) (pa_cons (pv 3) (pa_cons (pv 4) (pa_cons (pv 5) (pa_cons (pv 6) (pa_cons (pv 8) pa_nil))))))))) (pss_one (ps_ret pe_bl)) pss_nil)
    (pss_cons (ps_set (i := 13) nd rfl (.inl rfl) (pe_op op_cat (pe_lc (own := [("entry", 14)]) (g := gName 14) (tt := tYes) rfl nd (pi_list (pv 6)) (blkOk_by (own := [("entry", 14)]) (N := N_law) (sc := defScope s_law) (by decide +kernel)) (fun _ _ _ _ _ => (pg_name (i := 14) nd rfl (.inl rfl))) (fun _ _ _ _ _ => pts_nil) (fun _ _ _ _ _ => (pe_ix (r := rIxT K) ix_tup (pv 14) pe_int (fun _ _ => rfl)))) (pe_lst (pa_cons (pe_c c_law_name hr (by decide) rfl (pa_cons (pe_callB call_abs (by rfl) T.b_abs (by decide +kernel) (pa_cons (pv 2) pa_nil)) pa_nil)) (pa_cons pe_str pa_nil)))))
    (pss_cons (ps_for PassesOwn.never rfl (pi_list (pv 13)) (pg_name (i := 15) nd rfl (.inr rfl))
      (pss_cons (ps_setLc (i := 16) (own := [("entry", 14)]) (g := gName 14) (tt := _) rfl nd rfl rfl (sw_true rfl rfl rfl (by decide +kernel)) (pi_list (pv 6)) (blkOk_by (own := [("entry", 14)]) (N := N_law) (sc := defScope s_law) (by decide +kernel)) (fun _ _ _ _ _ => (pg_name (i := 14) nd rfl (.inl rfl))) (fun _ _ _ _ _ => (pts_one (pt_cmpR op_eq (pe_ix (r := rIxT K) ix_tup (pv 14) pe_int (fun _ _ => rfl)) (pv 15) (nomark _)))) (fun _ _ _ _ _ => (pv 14)))
    (pss_cons (ps_set (i := 17) nd rfl (.inl rfl) (pe_c c_law_entry_of hr (by decide) rfl (pa_cons (pv 10) (pa_cons (pv 15) pa_nil))))
    (pss_one (ps_if (PW.pt (pw_or (PW.pt (pw_and (pt_cmpR op_eq (pe_callB call_len_seq (by rfl) T.b_len PySem.boot_len (pa_cons (pv 16) pa_nil)) pe_int (nomark _)) (pw_and1 (pt_cmpR (op_neD hr.units) (pv 17) (pe_tup (pa_cons pe_str (pa_cons (pv 15) pa_nil))) (nomark _))))) (pw_or1 (PW.pt (pw_and (pt_cmpR op_gt (pe_callB call_len_seq (by rfl) T.b_len PySem.boot_len (pa_cons (pv 16) pa_nil)) pe_int (nomark _)) (pw_and1 (pt_cmpR (op_neD hr.units) (pv 17) (pe_tup (pa_cons pe_str (pa_cons (pe_ix ix_list (pv 16) pe_int (fun _ _ => rfl)) pa_nil))) (nomark _)))))))) (pss_one (ps_ret pe_bl)) pss_nil)))))
    (pss_cons (ps_for PassesOwn.never rfl (pi_list (pe_lst (pa_cons (pe_un un_neg pe_int) (pa_cons (pe_un un_neg pe_int) (pa_cons (pe_callB call_len_seq (by rfl) T.b_len PySem.boot_len (pa_cons (pv 3) pa_nil)) (pa_cons (pe_op op_add (pe_callB call_len_seq (by rfl) T.b_len PySem.boot_len (pa_cons (pv 3) pa_nil)) pe_int) (pa_cons (pe_op op_mod (pe_callTy call_int1 (by rfl) T.b_int (by decide +kernel) (pa_cons (pv 2) pa_nil)) (pe_op op_add (pe_callB call_len_seq (by rfl) T.b_len PySem.boot_len (pa_cons (pv 3) pa_nil)) pe_int)) (pa_cons (pe_op op_mod (pe_callTy call_int1 (by rfl) T.b_int (by decide +kernel) (pa_cons (pe_op op_fdiv (pv 2) pe_int) pa_nil)) (pe_op op_add (pe_callB call_len_seq (by rfl) T.b_len PySem.boot_len (pa_cons (pv 3) pa_nil)) pe_int)) pa_nil)))))))) (pg_name (i := 18) nd rfl (.inl rfl))
      (pss_one (ps_if (pt_cmpR (op_neD hr.units) (pe_c c_law_read hr (by decide) rfl (pa_cons (pv 10) (pa_cons (pv 18) pa_nil))) (pe_c c_law_due hr (by decide) rfl (pa_cons (pv 3) (pa_cons (pv 18) (pa_cons (pv 5) (pa_cons (pe_callB call_len_seq (by rfl) T.b_len PySem.boot_len (pa_cons (pv 4) pa_nil)) pa_nil))))) (nomark _)) (pss_one (ps_ret pe_bl)) pss_nil)))
    (pss_one (ps_ret (pe_c c_law_errors hr (by decide) rfl (pa_cons (pe_op op_mod (pe_callTy call_int1 (by rfl) T.b_int (by decide +kernel) (pa_cons (pv 1) pa_nil)) (pe_op op_pow pe_int pe_int)) (pa_cons (pe_ix ix_list (pv 13) pe_int (fun _ _ => rfl)) pa_nil))))))))))))))))))))), ?_⟩
    refine ⟨_, rfl, a, ns, 0, rfl, hS, ?_⟩
    refine ⟨_, rfl, a, ns, 1, rfl, hS, ?_⟩
    generalize cell ns 0 = c0
    generalize cell ns 1 = c1
    refine ⟨_, rfl, _, rfl, _, _, rfl, rfl, ⟨by decide, by decide⟩, .inl ⟨_, rfl, _, _, rfl, rfl, by show (0 : Int) < 61; decide, c1, 23, (c0 / 8 % 61).toNat, by rw [Int.toNat_of_nonneg (by omega)]; rfl, by omega, by decide, fun p1 H1 sl n1 s1 g1 l1 => ?_⟩⟩
    have hS1 := same_lst s1 hS
    refine ⟨_, rfl, a, ns, 2, rfl, hS1, _, rfl, _, _, rfl, rfl, ⟨by decide, by decide⟩, _, rfl, a, _, rfl, .inl hS1, _, _, rfl, rfl, .inl ⟨_, rfl, _, _, rfl, rfl, by show (0 : Int) < 101; decide, cell ns 2, 1000001, ((c0 / 3 + ((ns.map V.int).length : Nat)) % 101).toNat, by rw [Int.toNat_of_nonneg (by omega)]; rfl, by omega, by decide, fun p2 H2 ce n2 s2 g2 l2 => ?_⟩⟩
    have hS2 := same_lst s2 hS1
    have g1 := s2 _ _ g1
    have hl1 : sl.length ≤ 61 := by omega
    have hl2 : ce.length ≤ 101 := by omega
    clear l1 l2 n1 n2 s1 s2 hS hS1
    refine ⟨_, rfl, .inl ⟨_, rfl, _, _, rfl, rfl, by show (0 : Int) < 8; decide, _, _, rfl, rfl, ?_⟩⟩
    refine ⟨_, rfl, _, _, rfl, rfl, ⟨by decide, by decide⟩, .inl ⟨_, rfl, _, _, rfl, rfl, by show (0 : Int) < 6; decide, _, rfl, by omega, by omega, fun D3 nD3 => ?_⟩⟩
    refine lcG (src_range (lo := 0) (n := (c0 / 5 % 6).toNat)) nD3 (by simp; omega) (fun _ => true) (fun x y H => ∃ s d, EntAt K H y s d) (fun _ _ => trivial) (fun x y H H' sb hd h => by
        obtain ⟨s, d, h⟩ := h
        exact ⟨s, d, h.sb sb hd⟩) (fun x hx H4 Qy Qn s4 qy _ => ?_) (fun H3 en s3 hen pr => ?_)
    · obtain ⟨k, hk, rfl⟩ := List.mem_map.mp hx
      have ek : (3 : Int) + (0 + (k : Int)) = ((3 + k : Nat) : Int) := by omega
      refine ⟨rfl, ?_⟩
      refine iteT (B := Qn H4) ?_
      refine ⟨_, rfl, _, rfl, _, _, rfl, rfl, a, ns, 3 + k, by rw [← ek]; rfl, same_lst s4 hS2, _, rfl, _, rfl, _, _, rfl, rfl, .inl ⟨by decide, by decide⟩, _, _, rfl, rfl, _, rfl, p2, _, rfl, .inl (.of (s4 _ _ g2)), _, _, rfl, by omega, fun v H5 s d s5 he => ?_⟩
      exact qy _ _ s5 rfl ⟨s, d, he⟩
    rw [filter_true] at pr
    have hle := pr.length
    rw [List.length_map, List.length_range] at hle
    obtain ⟨ss, dE, hE⟩ := ents_of pr
    clear pr
    have hS3 := same_lst s3 hS2
    have g1 := s3 _ _ g1
    have g2 := s3 _ _ g2
    have hen5 : en.length ≤ 5 := by omega
    clear hle hS2 s3 nD3
    refine ⟨_, rfl, _, _, rfl, rfl, ⟨by decide, by decide⟩, .inl ⟨_, rfl, _, _, rfl, rfl, by show (0 : Int) < 5; decide, _, rfl, by omega, by omega, fun D4 nD4 => ?_⟩⟩
    refine lcG (src_range (lo := 0) (n := (c0 / 7 % 5).toNat)) nD4 (by simp; omega) (fun _ => true) (fun x y H => ∃ d, TD K H y d ∧ Sh 1 d) (fun _ _ => trivial) (fun x y H H' sb hd h => by
        obtain ⟨d, h1, h2⟩ := h
        exact ⟨d, td_sb sb hd h1, h2⟩) (fun x hx H4 Qy Qn s4 qy _ => ?_) (fun H4 cl s4 hcl pr => ?_)
    · obtain ⟨k, hk, rfl⟩ := List.mem_map.mp hx
      have ek : (9 : Int) + (0 + (k : Int)) = ((9 + k : Nat) : Int) := by omega
      refine ⟨rfl, ?_⟩
      refine iteT (B := Qn H4) ?_
      refine ⟨_, rfl, _, rfl, _, _, rfl, rfl, a, ns, 9 + k, by rw [← ek]; rfl, same_lst s4 hS3, .inl ⟨_, rfl, _, _, rfl, rfl, by show (0 : Int) < 100; decide, _, rfl, _, rfl, _, _, rfl, rfl, a, ns, 9 + k, by rw [← ek]; rfl, same_lst s4 hS3, _, _, rfl, rfl, ⟨by decide, by decide⟩, .inl ⟨_, rfl, _, _, rfl, rfl, by show (0 : Int) < 1000000000001; decide, by show 2 ≤ sizeLine; decide, fun pt nt => ?_⟩⟩⟩
      exact qy _ _ (same_new nt) rfl ⟨_, .tup new_tup (.cons (.int _) (.cons (.int _) .nil)), .tuple fun d hd => by
        simp only [List.mem_cons, List.mem_nil_iff, or_false] at hd
        rcases hd with rfl | rfl <;> exact .int⟩
    rw [filter_true] at pr
    have hlc := pr.length
    rw [List.length_map, List.length_range] at hlc
    obtain ⟨dC, hC, shC⟩ := tds_of pr
    clear pr
    have g1 := s4 _ _ g1
    have g2 := s4 _ _ g2
    have hen := s4 _ _ hen
    have hE := hE.same s4
    have hcl5 : cl.length ≤ 5 := by omega
    clear hlc s4 nD4 hS3
    refine ⟨_, rfl, p1, _, rfl, .inl (.of g1), fun b1 m1 => ?_⟩
    have t1 := same_new (o := .lst (sl.map V.int)) m1
    refine ⟨_, rfl, p2, _, rfl, .inl (.of (t1 _ _ g2)), fun b2 m2 => ?_⟩
    have t2 := same_new (o := .lst (ce.map V.int)) m2
    refine ⟨_, rfl, D3, _, rfl, .inl (.of (t2 _ _ (t1 _ _ hen))), fun b3 m3 => ?_⟩
    have t3 := same_new (o := .lst en) m3
    refine ⟨_, rfl, D4, _, rfl, .inl (.of (t3 _ _ (t2 _ _ (t1 _ _ hcl)))), fun b4 m4 => ?_⟩
    have t4 := same_new (o := .lst cl) m4
    refine ⟨by show 4 ≤ sizeLine; decide, fun ph mh => ?_⟩
    have t5 := same_new (o := .lst [.ref b1, .ref b2, .ref b3, .ref b4]) mh
    have k1 := t5 _ _ (t4 _ _ (t3 _ _ (t2 _ _ (upd_same (H := H4) (a := b1) (o := .lst (sl.map V.int))))))
    have k2 := t5 _ _ (t4 _ _ (t3 _ _ (upd_same (H := upd H4 b1 (.lst (sl.map V.int))) (a := b2) (o := .lst (ce.map V.int)))))
    have k3 := t5 _ _ (t4 _ _ (upd_same (H := upd (upd H4 b1 (.lst (sl.map V.int))) b2 (.lst (ce.map V.int))) (a := b3) (o := .lst en)))
    have k4 := t5 _ _ (upd_same (H := upd (upd (upd H4 b1 (.lst (sl.map V.int))) b2 (.lst (ce.map V.int))) b3 (.lst en)) (a := b4) (o := .lst cl))
    have k5 := upd_same (H := upd (upd (upd (upd H4 b1 (.lst (sl.map V.int))) b2 (.lst (ce.map V.int))) b3 (.lst en)) b4 (.lst cl)) (a := ph) (o := .lst [.ref b1, .ref b2, .ref b3, .ref b4])
    have m2 := none_of t1 m2
    have m3 := none_of (t1.trans t2) m3
    have m4 := none_of ((t1.trans t2).trans t3) m4
    have mh := none_of (((t1.trans t2).trans t3).trans t4) mh
    have nf : ∀ b ∈ [b1, b2, b3, b4], H4 b = none ∧ ph ≠ b := by
      have z4 : upd (upd (upd (upd H4 b1 (.lst (sl.map V.int))) b2 (.lst (ce.map V.int))) b3 (.lst en)) b4 (.lst cl) ph = none := by assumption
      intro b hb
      simp only [List.mem_cons, List.mem_nil_iff, or_false] at hb
      rcases hb with rfl | rfl | rfl | rfl
      · exact ⟨m1, fun e => by rw [e, t4 _ _ (t3 _ _ (t2 _ _ upd_same))] at z4; cases z4⟩
      · exact ⟨m2, fun e => by rw [e, t4 _ _ (t3 _ _ upd_same)] at z4; cases z4⟩
      · exact ⟨m3, fun e => by rw [e, t4 _ _ upd_same] at z4; cases z4⟩
      · exact ⟨m4, fun e => by rw [e, upd_same] at z4; cases z4⟩
    have t05 := (((t1.trans t2).trans t3).trans t4).trans t5
    generalize upd (upd (upd (upd (upd H4 b1 (.lst (sl.map V.int))) b2 (.lst (ce.map V.int))) b3 (.lst en)) b4 (.lst cl)) ph (.lst [.ref b1, .ref b2, .ref b3, .ref b4]) = H5 at k1 k2 k3 k4 k5 t05 ⊢
    clear t1 t2 t3 t4 t5 m1 m2 m3 m4
    refine ⟨_, rfl, ph, _, _, .ref b1, rfl, rfl, .of k5, atI_of (j := 0) rfl, _, rfl, ph, _, _, .ref b2, rfl, rfl, .of k5, atI_of (j := 1) rfl, _, rfl, _, rfl, ph, _, _, .ref b3, rfl, rfl, .of k5, atI_of (j := 2) rfl, _, rfl, ph, _, _, .ref b4, rfl, rfl, .of k5, atI_of (j := 3) rfl, ?_⟩
    refine fun x1 d1 nx1 nd1 _ => made_img nx1 nd1 (.inl (.of k1)) (.inl (.of k2)) (.inl (.of k3)) (.inl (.of k4)) fun H6 s6 i6 => ?_
    have t06 := t05.trans s6
    have k1 := s6 _ _ k1
    have k2 := s6 _ _ k2
    have k3 := s6 _ _ k3
    have k4 := s6 _ _ k4
    have k5 := s6 _ _ k5
    refine ⟨_, rfl, p1, _, rfl, .inl (.of (t06 _ _ g1)), fun e1 m1 => ?_⟩
    have t1 := same_new (o := .lst (sl.map V.int)) m1
    refine ⟨_, rfl, p2, _, rfl, .inl (.of (t1 _ _ (t06 _ _ g2))), fun e2 m2 => ?_⟩
    have t2 := same_new (o := .lst (ce.map V.int)) m2
    refine ⟨_, rfl, _, rfl, D3, _, rfl, .inl (.of (t2 _ _ (t1 _ _ (t06 _ _ hen)))), fun e3 m3 => ?_⟩
    have t3 := same_new (o := .lst en) m3
    refine ⟨_, rfl, D4, _, rfl, .inl (.of (t3 _ _ (t2 _ _ (t1 _ _ (t06 _ _ hcl))))), fun e4 m4 => ?_⟩
    have t4 := same_new (o := .lst cl) m4
    have t61 := ((t1.trans t2).trans t3).trans t4
    refine fun x2 d2 nx2 nd2 _ => made_img nx2 nd2 (.inl (.of (t4 _ _ (t3 _ _ (t2 _ _ upd_same))))) (.inl (.of (t4 _ _ (t3 _ _ upd_same)))) (.inl (.of (t4 _ _ upd_same))) (.inl (.of upd_same)) fun H7 s7 i7 => ?_
    have t67 := t61.trans s7
    have t07 := t06.trans t67
    have i6 := i6.same t67
    have k1 := t67 _ _ k1
    have k2 := t67 _ _ k2
    have k3 := t67 _ _ k3
    have k4 := t67 _ _ k4
    have k5 := t67 _ _ k5
    clear t1 t2 t3 t4 m1 m2 m3 m4 t61 t67 s7 nx2 nd2 nx1 nd1 s6 t06 t05
    refine ⟨_, rfl, ph, rfl, ⟨_, .of k5⟩, ?_⟩
    refine forR_list (K := K) (a := ph) (xs := [.ref b1, .ref b2, .ref b3, .ref b4]) (fun r σ H' => (∀ x ∈ r, x ∈ [V.ref b1, .ref b2, .ref b3, .ref b4]) ∧ Same H4 H' ∧ NL H7 H' ∧ H' ph = some (.lst [.ref b1, .ref b2, .ref b3, .ref b4]) ∧ (∀ b ∈ [b1, b2, b3, b4], ∃ zs, H' b = some (.lst zs) ∧ zs.length + r.length ≤ 1000) ∧ ∃ z, σ = [some (.ref a), some (.int c0), some (.int c1), some (.ref p1), some (.ref p2), some (.int (1 + c0 % 8)), some (.ref D3), none, some (.ref D4), some (.ref ph), some (.ref x1), some (.ref x2), z, none, none, none, none, none, none]) ⟨fun _ h => h, t07, fun _ _ _ h => h, k5, fun b hb => ?_, _, rfl⟩ (fun r σ H' h => .of h.2.2.2.1) (fun x r σ H' hx h => ?_) (fun σ H' h => ?_)
    · simp only [List.mem_cons, List.mem_nil_iff, or_false] at hb
      rcases hb with rfl | rfl | rfl | rfl
      · exact ⟨_, k1, by rw [List.length_map]; show _ + 4 ≤ _; omega⟩
      · exact ⟨_, k2, by rw [List.length_map]; show _ + 4 ≤ _; omega⟩
      · exact ⟨_, k3, by show _ + 4 ≤ _; omega⟩
      · exact ⟨_, k4, by show _ + 4 ≤ _; omega⟩
    · obtain ⟨hr', sm, nl, hph, hb, z, rfl⟩ := h
      obtain ⟨b, rfl, hbm⟩ : ∃ b, x = .ref b ∧ b ∈ [b1, b2, b3, b4] := by
        simp only [List.mem_cons, List.mem_nil_iff, or_false] at hx
        rcases hx with rfl | rfl | rfl | rfl <;> exact ⟨_, rfl, by simp⟩
      obtain ⟨zs, hz, lz⟩ := hb b hbm
      rw [List.length_cons] at lz
      obtain ⟨f1, f2⟩ := nf b hbm
      refine ⟨_, rfl, .inl ⟨rfl, _, .of hz⟩, b, _, _, rfl, rfl, hz, by rw [sizeLine_eq]; omega, ?_⟩
      refine ⟨_, rfl, .inl ⟨rfl, _, .of upd_same⟩, b, _, rfl, rfl, upd_same, ?_⟩
      rw [upd_upd]
      refine ⟨fun x hx => hr' x (List.mem_cons_of_mem _ hx), same_put sm f1, nl.put hz, by rw [upd_ne f2]; exact hph, fun c hc => ?_, _, rfl⟩
      by_cases e : c = b
      · subst e
        exact ⟨_, upd_same, by rw [List.length_reverse, List.length_append]; show zs.length + 1 + _ ≤ _; omega⟩
      · obtain ⟨ws, hw, lw⟩ := hb c hc
        rw [List.length_cons] at lw
        exact ⟨ws, by rw [upd_ne e]; exact hw, by omega⟩
    obtain ⟨_, sm, nl, _, _, z, rfl⟩ := h
    have i6 := nl.img i6
    have i7 := nl.img i7
    have g1 := sm _ _ g1
    have g2 := sm _ _ g2
    have hen := sm _ _ hen
    have hcl := sm _ _ hcl
    have hE := hE.same sm
    have hC := tds_same sm hC
    clear nl k1 k2 k3 k4 k5 sm nf t07
    have shE : Sh 50 (.list dE) := Sh.list (n := 49) fun d hd => (hE.sh d hd).mono (by decide)
    have shC' : Sh 50 (.list dC) := Sh.list (n := 49) fun d hd => (shC d hd).mono (by decide)
    have own : ∀ {H : Hp} {b : Addr} {sl ce : List Int} {R : Int} {en cl : List V}, ImgAt K X.CI H b sl ce R en cl → ∃ dx fs, H b = some (.ins X.CI dx fs) := fun h => by
      obtain ⟨dx, _, _, _, _, h0, _⟩ := h
      exact ⟨dx, _, h0⟩
    have nfC : PySem.W.notFirst K X.CI (.ref X.CI) = true := by unfold PySem.W.notFirst; simp
    have sE : Sh 60 (.list dE) := shE.mono (by decide)
    have sC : Sh 60 (.list dC) := shC'.mono (by decide)
    have sI : Sh 64 (imgDat sl ce (1 + c0 % 8) dE dC) := sh_img sE sC
    refine ⟨_, rfl, _, rfl, _, rfl, _, rfl, _, rfl, _, rfl, x1, p1, p2, D3, D4, sl, ce, _, en, cl, dE, dC, rfl, i6, .of g1, .of g2, .of hen, .of hcl, hE.td.dp, hC.dp, sE, sC, fun H9 s9 => ?_⟩
    have i6 := i6.same s9
    have i7 := i7.same s9
    have g1 := s9 _ _ g1
    have g2 := s9 _ _ g2
    have hen := s9 _ _ hen
    have hcl := s9 _ _ hcl
    have hE := hE.same s9
    have hC := tds_same s9 hC
    have m6 : ImgD K X.CI H9 x1 (imgDat sl ce (1 + c0 % 8) dE dC) := ⟨_, _, _, _, _, _, _, i6, hE.td.dp, hC.dp, rfl, sI⟩
    have m7 : ImgD K X.CI H9 x2 (imgDat sl ce (1 + c0 % 8) dE dC) := ⟨_, _, _, _, _, _, _, i7, hE.td.dp, hC.dp, rfl, sI⟩
    obtain ⟨dx, fs, hp⟩ := own i6
    obtain ⟨dy, gs, hb⟩ := own i7
    refine ⟨_, rfl, iteN rfl ?_⟩
    refine ⟨_, rfl, _, rfl, x1, dx, fs, _, rfl, hp, .base (.ins hb T.cl_Image T.ix_Image.ha T.ix_Image.hn T.ix_Image.htk T.ix_Image.hm), nfC, x1, _, _, rfl, m6, .inl ⟨x2, _, rfl, m7, fun H1 s1 => ⟨_, rfl, ?_⟩⟩⟩
    rw [sI.refl]
    refine ⟨_, rfl, iteN rfl ?_⟩
    have hp := s1 _ _ hp
    have hb := s1 _ _ hb
    refine ⟨_, rfl, _, rfl, x1, dx, fs, _, rfl, hp, .base (.ins hb T.cl_Image T.ix_Image.ha T.ix_Image.hn T.ix_Image.htk T.ix_Image.hm), nfC, x1, _, _, rfl, m6.same s1, .inl ⟨x2, _, rfl, m7.same s1, fun H2 s2 => ⟨_, rfl, ?_⟩⟩⟩
    rw [sI.refl]
    refine ⟨_, rfl, iteN rfl ?_⟩
    have s12 := s1.trans s2
    have i6 := i6.same s12
    have g1 := s12 _ _ g1
    have g2 := s12 _ _ g2
    have hen := s12 _ _ hen
    have hcl := s12 _ _ hcl
    have hE := hE.same s12
    have hC := tds_same s12 hC
    clear m6 m7 i7 hb hp s1 s2 s12 s9
    refine ⟨_, rfl, _, rfl, _, rfl, _, rfl, _, rfl, _, rfl, x1, p1, p2, D3, D4, sl, ce, _, en, cl, dE, dC, rfl, i6, g1, g2, hen, hcl, hE.td, hC, shE, shC', by omega, by omega, by omega, by omega, fun H3 s3 => ?_⟩
    have i6 := i6.same s3
    have g1 := s3 _ _ g1
    have g2 := s3 _ _ g2
    have hen := s3 _ _ hen
    have hE := hE.same s3
    clear s3 hcl hC
    refine ⟨_, rfl, iteN rfl ?_⟩
    obtain ⟨nm, hnm⟩ := names_fn hE
    refine ⟨_, rfl, D3, rfl, ⟨_, .of hen⟩, fun D nD => ?_⟩
    refine lcG (src_list (K := K) (a := D3) (xs := en)) nD (by omega) (fun _ => true) (fun x y _ => y = .str (nm x)) (fun H s => same_lst s (.of hen)) (fun _ _ _ _ _ _ h => h) (fun x hx H4 Qy Qn s4 qy _ => ?_) (fun H4 ys s4 hD pr => ?_)
    · obtain ⟨p, xs, rfl, hs, _⟩ := hnm x hx
      refine ⟨rfl, ?_⟩
      refine iteT (B := Qn H4) ?_
      exact ⟨_, rfl, p, _, _, _, rfl, rfl, same_tup s4 hs, atI_of (j := 0) rfl, qy _ _ (Same.refl _) rfl rfl⟩
    rw [filter_true] at pr
    have ey := paired_map pr
    subst ey
    have i6 := i6.same s4
    have g1 := s4 _ _ g1
    have g2 := s4 _ _ g2
    have hen := s4 _ _ hen
    have hE := hE.same s4
    have hnm : ∀ x ∈ en, ∃ p xs, x = .ref p ∧ SqT K H4 p (.str (nm x) :: xs) ∧ (nm x).length ≤ 3 ∧ PyData.strOk (nm x) = true := fun x hx => by
      obtain ⟨p, xs, e, h1, h2⟩ := hnm x hx
      exact ⟨p, xs, e, same_tup s4 h1, h2⟩
    clear s4 nD pr
    refine ⟨_, rfl, _, rfl, _, rfl, fun z H5 s5 lz kz => ?_⟩
    refine ⟨by show 2 ≤ sizeLine; decide, fun pn nn => ?_⟩
    have s6 := same_new (o := .lst [.str z, .str "abcd"]) nn
    refine ⟨D, pn, _, _, rfl, rfl, s6 _ _ (s5 _ _ hD), upd_same, by rw [List.length_map, sizeLine_eq]; show _ + 2 ≤ _; omega, fun pN nN => ?_⟩
    have s7 := same_new (o := .lst (en.map (fun x => V.str (nm x)) ++ [.str z, .str "abcd"])) nN
    have hN : upd (upd H5 pn (.lst [.str z, .str "abcd"])) pN (.lst (en.map (fun x => V.str (nm x)) ++ [.str z, .str "abcd"])) pN = some (.lst ((en.map nm ++ [z, "abcd"]).map V.str)) := by
      rw [upd_same, List.map_append, List.map_map]
      rfl
    have s57 := s5.trans (s6.trans s7)
    have i6 := i6.same s57
    have g1 := s57 _ _ g1
    have g2 := s57 _ _ g2
    have hen := s57 _ _ hen
    have hE := hE.same s57
    have hnm : ∀ x ∈ en, ∃ p xs, x = .ref p ∧ SqT K (upd (upd H5 pn (.lst [.str z, .str "abcd"])) pN (.lst (en.map (fun x => V.str (nm x)) ++ [.str z, .str "abcd"]))) p (.str (nm x) :: xs) ∧ (nm x).length ≤ 3 ∧ PyData.strOk (nm x) = true := fun x hx => by
      obtain ⟨p, xs, e, h1, h2⟩ := hnm x hx
      exact ⟨p, xs, e, same_tup s57 h1, h2⟩
    generalize upd (upd H5 pn (.lst [.str z, .str "abcd"])) pN (.lst (en.map (fun x => V.str (nm x)) ++ [.str z, .str "abcd"])) = H8 at i6 g1 g2 hen hE hnm hN ⊢
    clear s57 s5 s6 s7 nn nN hD
    have hnames : ∀ t ∈ en.map nm ++ [z, "abcd"], t.length ≤ 4 ∧ PyData.strOk t = true := by
      intro t ht
      rcases List.mem_append.mp ht with ht | ht
      · obtain ⟨x, hx, rfl⟩ := List.mem_map.mp ht
        obtain ⟨p, xs, _, _, h3, h4⟩ := hnm x hx
        exact ⟨by omega, h4⟩
      · simp only [List.mem_cons, List.mem_nil_iff, or_false] at ht
        rcases ht with rfl | rfl
        · exact ⟨by omega, kz⟩
        · exact ⟨by decide, by decide +kernel⟩
    refine ⟨_, rfl, pN, rfl, ⟨_, .of hN⟩, ?_⟩
    refine forR_list (K := K) (a := pN) (xs := (en.map nm ++ [z, "abcd"]).map V.str) (fun r σ H' => Same H8 H' ∧ ∃ z12 z15 z16 z17, σ = [some (.ref a), some (.int c0), some (.int c1), some (.ref p1), some (.ref p2), some (.int (1 + c0 % 8)), some (.ref D3), none, some (.ref D4), some (.ref ph), some (.ref x1), some (.ref x2), z12, some (.ref pN), none, z15, z16, z17, none]) ⟨Same.refl _, _, _, _, _, rfl⟩ (fun r σ H' h => .of (h.1 _ _ hN)) (fun x r σ H' hx h => ?_) (fun σ H' h => ?_)
    · obtain ⟨sm, z12, z15, z16, z17, rfl⟩ := h
      obtain ⟨name, hname, rfl⟩ := List.mem_map.mp hx
      obtain ⟨ln, kn⟩ := hnames name hname
      refine ⟨_, rfl, D3, rfl, ⟨_, .of (sm _ _ hen)⟩, fun Dd nDd => ?_⟩
      refine lcG (src_list (K := K) (a := D3) (xs := en)) nDd (by omega) (fun x => decide (nm x = name)) (fun x y _ => y = x) (fun H s => same_lst s (.of (sm _ _ hen))) (fun _ _ _ _ _ _ h => h) (fun x hx H4 Qy Qn s4 qy qn => ?_) (fun H4 ys s4 hD pr => ?_)
      · obtain ⟨p, xs, rfl, hs, _⟩ := hnm x hx
        refine ⟨rfl, ?_⟩
        refine ⟨_, rfl, p, _, _, _, rfl, rfl, same_tup s4 (same_tup sm hs), atI_of (j := 0) rfl, _, rfl, rfl, _, rfl, ?_⟩
        by_cases e : nm (.ref p) = name
        · exact iteY (decide_eq_true (by rw [e])) ⟨_, rfl, qy _ _ (Same.refl _) (decide_eq_true e) rfl⟩
        · exact iteN (decide_eq_false fun q => e (V.str.inj q)) (qn _ (Same.refl _) (decide_eq_false e))
      have ey := paired_id pr
      have sm4 := sm.trans s4
      have fN := first_filter (nm := nm) (x := name) en
      rw [← ey] at fN
      refine ⟨_, rfl, _, rfl, x1, sl, ce, _, en, cl, en.map nm, name, rfl, i6.same sm4, names_map fun x hx => by
        obtain ⟨p, xs, e, h1, h2⟩ := hnm x hx
        exact ⟨p, xs, e, same_tup sm4 h1⟩, by omega, fun pt H5 s5 he => ?_⟩
      rw [fN] at he
      have hD := s5 _ _ hD
      have sm5 := sm4.trans s5
      have hE := hE.same sm5
      cases ys with
      | nil =>
        have he : SqT K H5 pt [.str "unknown", .str name] := he
        refine ⟨_, rfl, Dd, _, rfl, .inl (.of hD), rfl, _, rfl, iteY rfl ?_⟩
        refine ⟨_, rfl, _, rfl, by show 2 ≤ sizeLine; decide, fun pu nu => ?_⟩
        refine ne_same (d := .tuple [.str "unknown", .str name]) (.tup (same_tup (same_new nu) he) (.cons (.str _) (.cons (.str _) .nil))) (.tup new_tup (.cons (.str _) (.cons (.str _) .nil))) (.tuple (n := 63) fun d hd => ?_) ?_
        · simp only [List.mem_cons, List.mem_nil_iff, or_false] at hd
          rcases hd with rfl | rfl
          · exact .str (by decide +kernel)
          · exact .str kn
        refine ⟨_, rfl, iteN rfl ?_⟩
        refine ⟨_, rfl, Dd, _, rfl, .inl (.of (same_new nu _ _ hD)), _, _, rfl, rfl, _, rfl, iteN rfl ?_⟩
        refine iteN rfl ?_
        exact ⟨sm5.trans (same_new nu), _, _, _, _, rfl⟩
      | cons y ys =>
        have he : SqT K H5 pt [.str "entry", y] := he
        have ym : y ∈ en := by
          have : y ∈ en.filter fun v => decide (nm v = name) := ey ▸ List.mem_cons_self
          exact (List.mem_filter.mp this).1
        obtain ⟨d, hd, td⟩ := td_mem hE.td y ym
        refine ⟨_, rfl, Dd, _, rfl, .inl (.of hD), rfl, _, rfl, iteN (decide_eq_false fun q => ?_) ?_⟩
        · have q := V.int.inj q
          rw [List.length_cons] at q
          omega
        refine iteN rfl ?_
        refine ⟨_, rfl, Dd, _, rfl, .inl (.of hD), _, _, rfl, rfl, _, rfl, iteY (decide_eq_true ?_) ?_⟩
        · rw [List.length_cons]; omega
        refine ⟨_, rfl, _, rfl, Dd, _, _, y, rfl, rfl, .of hD, atI_of (j := 0) rfl, by show 2 ≤ sizeLine; decide, fun pu nu => ?_⟩
        refine ne_same (d := .tuple [.str "entry", d]) (.tup (same_tup (same_new nu) he) (.cons (.str _) (.cons (td_same (same_new nu) td).dp .nil))) (.tup new_tup (.cons (.str _) (.cons (td_same (same_new nu) td).dp .nil))) (.tuple (n := 63) fun d' hd' => ?_) ?_
        · simp only [List.mem_cons, List.mem_nil_iff, or_false] at hd'
          rcases hd' with rfl | rfl
          · exact .str (by decide +kernel)
          · exact (hE.sh _ hd).mono (by decide)
        refine ⟨_, rfl, iteN rfl ?_⟩
        exact ⟨sm5.trans (same_new nu), _, _, _, _, rfl⟩
    obtain ⟨sm, z12, z15, z16, z17, rfl⟩ := h
    have i6 := i6.same sm
    have g1 := sm _ _ g1
    have g2 := sm _ _ g2
    have hN := sm _ _ hN
    have l0 : (0 : Int) < ((sl.map V.int).length : Nat) + 1 := by omega
    refine ⟨_, rfl, _, rfl, _, rfl, p1, _, rfl, .inl (.of g1), _, rfl, p1, _, rfl, .inl (.of g1), _, _, rfl, rfl, _, rfl, .inl ⟨_, rfl, _, rfl, p1, _, rfl, .inl (.of g1), _, _, rfl, rfl, _, _, rfl, rfl, l0, _, rfl, _, _, rfl, rfl, ⟨by decide, by decide⟩, .inl ⟨_, rfl, _, rfl, p1, _, rfl, .inl (.of g1), _, _, rfl, rfl, _, _, rfl, rfl, l0, by show 6 ≤ sizeLine; decide, fun pL nL => ?_⟩⟩⟩
    have sp := same_new (o := .lst [.int (-2), .int (-1), .int ((sl.map V.int).length : Nat), .int (((sl.map V.int).length : Nat) + 1), .int (c1 % (((sl.map V.int).length : Nat) + 1)), .int (c1 / 64 % (((sl.map V.int).length : Nat) + 1))]) nL
    have hL : upd H' pL (.lst [.int (-2), .int (-1), .int ((sl.map V.int).length : Nat), .int (((sl.map V.int).length : Nat) + 1), .int (c1 % (((sl.map V.int).length : Nat) + 1)), .int (c1 / 64 % (((sl.map V.int).length : Nat) + 1))]) pL = some (.lst [.int (-2), .int (-1), .int ((sl.map V.int).length : Nat), .int (((sl.map V.int).length : Nat) + 1), .int (c1 % (((sl.map V.int).length : Nat) + 1)), .int (c1 / 64 % (((sl.map V.int).length : Nat) + 1))]) := upd_same
    have hpl : ∀ x ∈ [V.int (-2), .int (-1), .int ((sl.map V.int).length : Nat), .int (((sl.map V.int).length : Nat) + 1), .int (c1 % (((sl.map V.int).length : Nat) + 1)), .int (c1 / 64 % (((sl.map V.int).length : Nat) + 1))], ∃ k : Int, x = .int k ∧ k.natAbs < 2 ^ 64 := by
      intro x hx
      rw [List.length_map] at hx
      simp only [List.mem_cons, List.mem_nil_iff, or_false] at hx
      rcases hx with rfl | rfl | rfl | rfl | rfl | rfl
      · exact ⟨_, rfl, by decide⟩
      · exact ⟨_, rfl, by decide⟩
      · exact ⟨_, rfl, by omega⟩
      · exact ⟨_, rfl, by omega⟩
      · have a1 := Int.emod_nonneg c1 (b := (sl.length : Int) + 1) (by omega)
        have a2 := Int.emod_lt_of_pos c1 (b := (sl.length : Int) + 1) (by omega)
        exact ⟨_, rfl, by omega⟩
      · have a1 := Int.emod_nonneg (c1 / 64) (b := (sl.length : Int) + 1) (by omega)
        have a2 := Int.emod_lt_of_pos (c1 / 64) (b := (sl.length : Int) + 1) (by omega)
        exact ⟨_, rfl, by omega⟩
    refine ⟨pL, rfl, ⟨_, .of hL⟩, ?_⟩
    generalize [V.int (-2), .int (-1), .int ((sl.map V.int).length : Nat), .int (((sl.map V.int).length : Nat) + 1), .int (c1 % (((sl.map V.int).length : Nat) + 1)), .int (c1 / 64 % (((sl.map V.int).length : Nat) + 1))] = pls at sp hL hpl ⊢
    have i6 := i6.same sp
    have g1 := sp _ _ g1
    have g2 := sp _ _ g2
    have hN := sp _ _ hN
    generalize upd H' pL (.lst pls) = H9 at i6 g1 g2 hN hL ⊢
    clear sp nL
    refine forR_list (K := K) (a := pL) (xs := pls) (fun r σ H' => Same H9 H' ∧ ∃ z12 z15 z16 z17 z18, σ = [some (.ref a), some (.int c0), some (.int c1), some (.ref p1), some (.ref p2), some (.int (1 + c0 % 8)), some (.ref D3), none, some (.ref D4), some (.ref ph), some (.ref x1), some (.ref x2), z12, some (.ref pN), none, z15, z16, z17, z18]) ⟨Same.refl _, _, _, _, _, _, rfl⟩ (fun r σ H' h => .of (h.1 _ _ hL)) (fun x r σ H' hx h => ?_) (fun σ H' h => ?_)
    · obtain ⟨sm, z12, z15, z16, z17, z18, rfl⟩ := h
      obtain ⟨place, rfl, hb⟩ := hpl x hx
      refine ⟨_, rfl, _, rfl, x1, sl, ce, _, en, cl, place, rfl, i6.same sm, hb, by omega, fun pa Ha sa ra => ?_⟩
      have sma := sm.trans sa
      refine ⟨_, rfl, _, rfl, _, rfl, _, rfl, p2, _, rfl, .inl (.of (sma _ _ g2)), p1, sl, place, _, _, rfl, .inl (.of (sma _ _ g1)), hb, by omega, fun pb Hb sb rb => ?_⟩
      rw [List.length_map] at rb
      have same : ∃ d, Dp K Hb (.ref pa) d ∧ Dp K Hb (.ref pb) d ∧ Sh 64 d := by
        cases e : decZ sl place (1 + c0 % 8) ce.length with
        | none =>
          rw [e] at ra rb
          refine ⟨.tuple [.str "refused", .int place], .tup (same_tup sb ra) (.cons (.str _) (.cons (.int _) .nil)), .tup rb (.cons (.str _) (.cons (.int _) .nil)), .tuple (n := 63) fun d hd => ?_⟩
          simp only [List.mem_cons, List.mem_nil_iff, or_false] at hd
          rcases hd with rfl | rfl
          · exact .str (by decide +kernel)
          · exact .int
        | some u =>
          obtain ⟨j, ops⟩ := u
          rw [e] at ra rb
          obtain ⟨hj, q1, r1, r2⟩ := ra
          obtain ⟨_, q2, r3, r4⟩ := rb
          have dI : ∀ {H : Hp} {q : Addr}, SqT K H q (insV j ops) → Dp K H (.ref q) (.tuple (.str (kindS j) :: ops.map .int)) := fun h => .tup h (.cons (.str _) (dpAll fun x _ => .int x))
          refine ⟨.tuple [.str "read", .tuple (.str (kindS j) :: ops.map .int)], .tup (same_tup sb r1) (.cons (.str _) (.cons (dI (same_tup sb r2)) .nil)), .tup r3 (.cons (.str _) (.cons (dI r4) .nil)), .tuple (n := 63) fun d hd => ?_⟩
          simp only [List.mem_cons, List.mem_nil_iff, or_false] at hd
          rcases hd with rfl | rfl
          · exact .str (by decide +kernel)
          · refine .tuple (n := 62) fun d hd => ?_
            rcases List.mem_cons.mp hd with rfl | hd
            · exact .str (kind_ok j hj)
            · obtain ⟨x, _, rfl⟩ := List.mem_map.mp hd
              exact .int
      obtain ⟨d, d1, d2, sh⟩ := same
      refine ne_same d1 d2 sh ?_
      refine ⟨_, rfl, iteN rfl ?_⟩
      exact ⟨sma.trans sb, _, _, _, _, _, rfl⟩
    obtain ⟨sm, z12, z15, z16, z17, z18, rfl⟩ := h
    have hN := sm _ _ hN
    obtain ⟨t0, tr, et⟩ : ∃ t0 tr, en.map nm ++ [z, "abcd"] = t0 :: tr := by
      cases en.map nm with
      | nil => exact ⟨_, _, rfl⟩
      | cons x r => exact ⟨_, _, rfl⟩
    obtain ⟨ht1, ht2⟩ := hnames t0 (et ▸ List.mem_cons_self)
    rw [et] at hN
    refine ⟨_, rfl, .inl ⟨_, rfl, _, _, rfl, rfl, ⟨by decide, by decide, by decide⟩, _, _, rfl, rfl, by show (0 : Int) < 10 ^ 6; decide, _, rfl, pN, _, _, .str t0, rfl, rfl, .of hN, atI_of (j := 0) rfl, _, t0, rfl, ?_, by omega, ht2, fun H1 s1 => q _⟩⟩
    have a1 := Int.emod_nonneg c0 (b := 1000000) (by omega)
    have a2 := Int.emod_lt_of_pos c0 (b := 1000000) (by omega)
    show (c0 % 1000000).natAbs < 2 ^ 64
    omega
end
end K88
set_option maxHeartbeats 4000000
set_option pp.deepTerms false
set_option pp.deepTerms.threshold 3
set_option pp.maxSteps 300
namespace K88
open PySem PySem.Spec PyProof.Rows L2 SX BB BD BQ BS BE PN BZ BC BI BV NdefX
abbrev s_eLine : Stmt := inClass (topS 2) 0
abbrev s_eName : Stmt := inClass (topS 7) 0
abbrev s_ePlace : Stmt := inClass (topS 12) 0
abbrev s_eTooMany : Stmt := inClass (topS 18) 0
abbrev s_eRefused : Stmt := inClass (topS 19) 0
abbrev s_eBadTasks : Stmt := inClass (topS 20) 0
theorem calI_of {P : Program} {w : World} {K : PySem.W.Frag} {mg : Str → Option Value} {base : Heap} {C : Addr} {k : Nat} {x : Str} {ps : List Str} {sp : Sp} (c : CalM P w K mg base k C "__init__" ps sp) (mk : PySem.W.makesIn K C = true) (kp : PySem.W.keepIn K (.ref C) = true) (m : mg x = some (.ref C)) : CalI P w K mg base k x C ps sp := by
  obtain ⟨f, fd, F, M, b⟩ := c.ex
  exact ⟨f, fd, F, ⟨mk, M.at_, M.fn, kp⟩, b, m⟩
def excB (K : PySem.W.Frag) (C : Addr) : Bool := decide (PySem.W.findIn K (.ref C) "__getattribute__" = some (some (.builtin "BaseException.__getattribute__"))) && decide (PySem.W.findIn K (.ref C) "__getattr__" = some none) && decide (PySem.W.subIn K (.ref C) (.type "BaseException") = some true) && PySem.W.hasDictIn K C && decide (PySem.W.findIn K (.ref C) "__class__" = some (some (.builtin "object.__class__"))) && decide (PySem.W.specialIn K (.builtin "object.__class__") "__get__" = some (some (.builtin "getset_descriptor.__get__"))) && decide (PySem.W.takesIn K (.builtin "object.__class__") = some true) && decide (PySem.W.mroIn K C (.type "object") = some true)
theorem excB_ok {K : PySem.W.Frag} {C : Addr} (h : excB K C = true) : ExcC K C := by
  unfold excB at h
  simp only [Bool.and_eq_true, decide_eq_true_eq] at h
  obtain ⟨⟨⟨⟨⟨⟨⟨h1, h2⟩, h3⟩, h4⟩, h5⟩, h6⟩, h7⟩, h8⟩ := h
  exact ⟨h1, h2, h3, h4, h5, h6, h7, h8⟩
def bulkE (K : PySem.W.Frag) (E : EC) : Bool :=
  ((List.range 16).all fun i => excB K (E.C i) && decide (PySem.W.kitOne K (.ref (E.C i)) (.ref E.cB) = some true) && decide (PySem.W.kitOne K (.ref (E.C i)) (.type "ValueError") = some true) && decide (PySem.W.kitOne K (.ref (E.C i)) (.ref E.cL) = some (decide (i < 4))) && decide (PySem.W.kitOne K (.ref (E.C i)) (.ref E.cN) = some (decide (4 ≤ i ∧ i < 8))) && decide (PySem.W.kitOne K (.ref (E.C i)) (.ref E.cP) = some (decide (8 ≤ i ∧ i < 11))) &&
    (List.range 16).all fun j => decide (PySem.W.kitOne K (.ref (E.C i)) (.ref (E.C j)) = some (decide (i = j)))) && (List.range 14).all fun i => xfB K (E.C i) && decide (PySem.W.findIn K (.ref (E.C i)) (fldN i) = some none)
theorem bulk_ok {K : PySem.W.Frag} {mg : Str → Option Value} {E : EC} (h : bulkE K E = true) (b1 : mg "isinstance" = none) (b2 : mg "ValueError" = none) (b3 : mg "len" = none) (b4 : mg "range" = none) (g0 : ∃ u, mg "BadText" = some u ∧ RelV (.ref (E.C 0)) u) (g1 : ∃ u, mg "BadUse" = some u ∧ RelV (.ref (E.C 1)) u) (g2 : ∃ u, mg "BadMachine" = some u ∧ RelV (.ref (E.C 2)) u) (g3 : ∃ u, mg "BadFile" = some u ∧ RelV (.ref (E.C 3)) u) (g4 : ∃ u, mg "UnknownName" = some u ∧ RelV (.ref (E.C 4)) u) (g5 : ∃ u, mg "DuplicateName" = some u ∧ RelV (.ref (E.C 5)) u) (g6 : ∃ u, mg "UnresolvedName" = some u ∧ RelV (.ref (E.C 6)) u) (g7 : ∃ u, mg "BadPass" = some u ∧ RelV (.ref (E.C 7)) u) (g8 : ∃ u, mg "BadImage" = some u ∧ RelV (.ref (E.C 8)) u) (g9 : ∃ u, mg "NotNested" = some u ∧ RelV (.ref (E.C 9)) u) (g10 : ∃ u, mg "NoBound" = some u ∧ RelV (.ref (E.C 10)) u) (g11 : ∃ u, mg "TooMany" = some u ∧ RelV (.ref (E.C 11)) u) (g12 : ∃ u, mg "Refused" = some u ∧ RelV (.ref (E.C 12)) u) (g13 : ∃ u, mg "BadTasks" = some u ∧ RelV (.ref (E.C 13)) u) (g14 : ∃ u, mg "BadInputs" = some u ∧ RelV (.ref (E.C 14)) u) (g15 : ∃ u, mg "BadEdit" = some u ∧ RelV (.ref (E.C 15)) u) (gB : ∃ u, mg "BeatsError" = some u ∧ RelV (.ref E.cB) u) (gL : ∃ u, mg "LineError" = some u ∧ RelV (.ref E.cL) u) (gN : ∃ u, mg "BadName" = some u ∧ RelV (.ref E.cN) u) (gP : ∃ u, mg "PlaceError" = some u ∧ RelV (.ref E.cP) u) : TxtE K mg E := by
  unfold bulkE at h
  rw [Bool.and_eq_true] at h
  obtain ⟨h, h'⟩ := h
  rw [List.all_eq_true] at h h'
  have a : ∀ i, i < 16 → _ := fun i hi => h i (List.mem_range.mpr hi)
  have b : ∀ i, i < 14 → _ := fun i hi => h' i (List.mem_range.mpr hi)
  simp only [Bool.and_eq_true, decide_eq_true_eq, List.all_eq_true, List.mem_range] at a b
  exact ⟨b1, b2, b3, b4, g0, g1, g2, g3, g4, g5, g6, g7, g8, g9, g10, g11, g12, g13, g14, g15, gB, gL, gN, gP, fun i hi => excB_ok (a i hi).1.1.1.1.1.1, fun i hi => xfB_ok (b i hi).1, fun i hi => (b i hi).2, fun i hi j hj => (a i hi).2 j hj, fun i hi => (a i hi).1.1.1.1.1.2, fun i hi => (a i hi).1.1.1.1.2, fun i hi => (a i hi).1.1.1.2, fun i hi => (a i hi).1.1.2, fun i hi => (a i hi).1.2⟩
/-! ### what the top has left, the end -/
theorem tup_mk {K : PySem.W.Frag} {a : Addr} {od : Option Addr} {ar : Array Value} {n : Nat} {sl : Array (Option Value)} {xs : List V} (l : K.lookup a = some ⟨.type "tuple", od, .seq ar n, sl⟩) (v : Vals xs ar.toList) (hz : xs.length ≤ sizeLine) : ∀ H, SqT K H a xs := fun H => .inr ⟨_, ar, n, l, rfl, rfl, (by show ar.toList.length ≤ sizeLine; rw [← v.length]; exact hz), v⟩
theorem all_mk {l : PySem.W.OpenLaw} {w : World} {K : PySem.W.Frag} {h : Heap} {mg : Str → Option Value} {fa : Addr} (X : K.In h) (G : h.Ns mainGlobals mg) (hfa : mg "law" = some (.ref fa))
    {f_is_word f_fits f_decode f_law_cell f_law_row f_law_name f_law_entry f_law_entry_of f_law_read f_law_due f_law_parts f_law_errors f_law_unequal f_law : Addr}
    {C_e14 C_e15 cB cL cN cP : Addr}
    {od_is_word an_is_word od_fits an_fits od_decode an_decode od_law_cell an_law_cell od_law_row an_law_row od_law_name an_law_name od_law_entry an_law_entry od_law_entry_of an_law_entry_of od_law_read an_law_read od_law_due an_law_due od_law_parts an_law_parts od_law_errors an_law_errors od_law_unequal an_law_unequal od_law an_law : Option Addr} {sl_is_word sl_fits sl_decode sl_law_cell sl_law_row sl_law_name sl_law_entry sl_law_entry_of sl_law_read sl_law_due sl_law_parts sl_law_errors sl_law_unequal sl_law : Array (Option Value)} {oc_is_word kV_is_word dc_is_word pm_is_word cd_is_word ct_is_word oc_fits kV_fits dc_fits pm_fits cd_fits ct_fits oc_decode kV_decode dc_decode pm_decode cd_decode ct_decode oc_law_cell kV_law_cell dc_law_cell pm_law_cell cd_law_cell ct_law_cell oc_law_row kV_law_row dc_law_row pm_law_row cd_law_row ct_law_row oc_law_name kV_law_name dc_law_name pm_law_name cd_law_name ct_law_name oc_law_entry kV_law_entry dc_law_entry pm_law_entry cd_law_entry ct_law_entry oc_law_entry_of kV_law_entry_of dc_law_entry_of pm_law_entry_of cd_law_entry_of ct_law_entry_of oc_law_read kV_law_read dc_law_read pm_law_read cd_law_read ct_law_read oc_law_due kV_law_due dc_law_due pm_law_due cd_law_due ct_law_due oc_law_parts kV_law_parts dc_law_parts pm_law_parts cd_law_parts ct_law_parts oc_law_errors kV_law_errors dc_law_errors pm_law_errors cd_law_errors ct_law_errors oc_law_unequal kV_law_unequal dc_law_unequal pm_law_unequal cd_law_unequal ct_law_unequal oc_law kV_law dc_law pm_law cd_law ct_law : Value} {t_LOW t_HIGH t_MOST_CODE : Tok}
    {CI : Addr}
    {f_Image_init : Addr} {od_Image_init an_Image_init : Option Addr} {sl_Image_init : Array (Option Value)} {oc_Image_init kV_Image_init dc_Image_init pm_Image_init cd_Image_init ct_Image_init : Value}
    {f_Image_instruction : Addr} {od_Image_instruction an_Image_instruction : Option Addr} {sl_Image_instruction : Array (Option Value)} {oc_Image_instruction kV_Image_instruction dc_Image_instruction pm_Image_instruction cd_Image_instruction ct_Image_instruction : Value}
    {f_Image_entry : Addr} {od_Image_entry an_Image_entry : Option Addr} {sl_Image_entry : Array (Option Value)} {oc_Image_entry kV_Image_entry dc_Image_entry pm_Image_entry cd_Image_entry ct_Image_entry : Value}
    {f_Image_eq : Addr} {od_Image_eq an_Image_eq : Option Addr} {sl_Image_eq : Array (Option Value)} {oc_Image_eq kV_Image_eq dc_Image_eq pm_Image_eq cd_Image_eq ct_Image_eq : Value}
    {f_Image_locations : Addr} {od_Image_locations an_Image_locations : Option Addr} {sl_Image_locations : Array (Option Value)} {oc_Image_locations kV_Image_locations dc_Image_locations pm_Image_locations cd_Image_locations ct_Image_locations : Value}
    {p_Image_locations : Addr} {r_Image_locations : List Value}
    {aK : Addr} {od_t0 : Option Addr} {ar_t0 : Array Value} {n_t0 : Nat} {sl_t0 : Array (Option Value)}
    {aO : Addr} {es_d0 : Array DictEntry} {n_d0 : Nat}
    {C_e0 D_e0 fI_e0 cc_e0 cda_e0 N_e0 : Addr} {nm_e0 q_e0 file_e0 : Str} {bs_e0 bm_e0 sub_e0 : List Value} {sn_e0 : List Str} {ab_e0 : Bool} {col_e0 : Option Bool} {dd_e0 : Option Addr} {k0_e0 k1_e0 k2_e0 k3_e0 k5_e0 : Option Value}
    {kV_e0 doc_e0 pm_e0 ct_e0 oc_e0 ccl_e0 cl_e0 : Value} {an_e0 od_e0 cdd_e0 cld_e0 : Option Addr} {osl_e0 ccs_e0 csl_e0 : Array (Option Value)} {vs_e0 : Array Value} {tf_e0 : Tok} {cdD_e0 : ClassData}
    {C_e1 D_e1 fI_e1 cc_e1 cda_e1 N_e1 : Addr} {nm_e1 q_e1 file_e1 : Str} {bs_e1 bm_e1 sub_e1 : List Value} {sn_e1 : List Str} {ab_e1 : Bool} {col_e1 : Option Bool} {dd_e1 : Option Addr} {k0_e1 k1_e1 k2_e1 k3_e1 k5_e1 : Option Value}
    {kV_e1 doc_e1 pm_e1 ct_e1 oc_e1 ccl_e1 cl_e1 : Value} {an_e1 od_e1 cdd_e1 cld_e1 : Option Addr} {osl_e1 ccs_e1 csl_e1 : Array (Option Value)} {vs_e1 : Array Value} {tf_e1 : Tok} {cdD_e1 : ClassData}
    {C_e2 D_e2 fI_e2 cc_e2 cda_e2 N_e2 : Addr} {nm_e2 q_e2 file_e2 : Str} {bs_e2 bm_e2 sub_e2 : List Value} {sn_e2 : List Str} {ab_e2 : Bool} {col_e2 : Option Bool} {dd_e2 : Option Addr} {k0_e2 k1_e2 k2_e2 k3_e2 k5_e2 : Option Value}
    {kV_e2 doc_e2 pm_e2 ct_e2 oc_e2 ccl_e2 cl_e2 : Value} {an_e2 od_e2 cdd_e2 cld_e2 : Option Addr} {osl_e2 ccs_e2 csl_e2 : Array (Option Value)} {vs_e2 : Array Value} {tf_e2 : Tok} {cdD_e2 : ClassData}
    {C_e3 D_e3 fI_e3 cc_e3 cda_e3 N_e3 : Addr} {nm_e3 q_e3 file_e3 : Str} {bs_e3 bm_e3 sub_e3 : List Value} {sn_e3 : List Str} {ab_e3 : Bool} {col_e3 : Option Bool} {dd_e3 : Option Addr} {k0_e3 k1_e3 k2_e3 k3_e3 k5_e3 : Option Value}
    {kV_e3 doc_e3 pm_e3 ct_e3 oc_e3 ccl_e3 cl_e3 : Value} {an_e3 od_e3 cdd_e3 cld_e3 : Option Addr} {osl_e3 ccs_e3 csl_e3 : Array (Option Value)} {vs_e3 : Array Value} {tf_e3 : Tok} {cdD_e3 : ClassData}
    {C_e4 D_e4 fI_e4 cc_e4 cda_e4 N_e4 : Addr} {nm_e4 q_e4 file_e4 : Str} {bs_e4 bm_e4 sub_e4 : List Value} {sn_e4 : List Str} {ab_e4 : Bool} {col_e4 : Option Bool} {dd_e4 : Option Addr} {k0_e4 k1_e4 k2_e4 k3_e4 k5_e4 : Option Value}
    {kV_e4 doc_e4 pm_e4 ct_e4 oc_e4 ccl_e4 cl_e4 : Value} {an_e4 od_e4 cdd_e4 cld_e4 : Option Addr} {osl_e4 ccs_e4 csl_e4 : Array (Option Value)} {vs_e4 : Array Value} {tf_e4 : Tok} {cdD_e4 : ClassData}
    {C_e5 D_e5 fI_e5 cc_e5 cda_e5 N_e5 : Addr} {nm_e5 q_e5 file_e5 : Str} {bs_e5 bm_e5 sub_e5 : List Value} {sn_e5 : List Str} {ab_e5 : Bool} {col_e5 : Option Bool} {dd_e5 : Option Addr} {k0_e5 k1_e5 k2_e5 k3_e5 k5_e5 : Option Value}
    {kV_e5 doc_e5 pm_e5 ct_e5 oc_e5 ccl_e5 cl_e5 : Value} {an_e5 od_e5 cdd_e5 cld_e5 : Option Addr} {osl_e5 ccs_e5 csl_e5 : Array (Option Value)} {vs_e5 : Array Value} {tf_e5 : Tok} {cdD_e5 : ClassData}
    {C_e6 D_e6 fI_e6 cc_e6 cda_e6 N_e6 : Addr} {nm_e6 q_e6 file_e6 : Str} {bs_e6 bm_e6 sub_e6 : List Value} {sn_e6 : List Str} {ab_e6 : Bool} {col_e6 : Option Bool} {dd_e6 : Option Addr} {k0_e6 k1_e6 k2_e6 k3_e6 k5_e6 : Option Value}
    {kV_e6 doc_e6 pm_e6 ct_e6 oc_e6 ccl_e6 cl_e6 : Value} {an_e6 od_e6 cdd_e6 cld_e6 : Option Addr} {osl_e6 ccs_e6 csl_e6 : Array (Option Value)} {vs_e6 : Array Value} {tf_e6 : Tok} {cdD_e6 : ClassData}
    {C_e7 D_e7 fI_e7 cc_e7 cda_e7 N_e7 : Addr} {nm_e7 q_e7 file_e7 : Str} {bs_e7 bm_e7 sub_e7 : List Value} {sn_e7 : List Str} {ab_e7 : Bool} {col_e7 : Option Bool} {dd_e7 : Option Addr} {k0_e7 k1_e7 k2_e7 k3_e7 k5_e7 : Option Value}
    {kV_e7 doc_e7 pm_e7 ct_e7 oc_e7 ccl_e7 cl_e7 : Value} {an_e7 od_e7 cdd_e7 cld_e7 : Option Addr} {osl_e7 ccs_e7 csl_e7 : Array (Option Value)} {vs_e7 : Array Value} {tf_e7 : Tok} {cdD_e7 : ClassData}
    {C_e8 D_e8 fI_e8 cc_e8 cda_e8 N_e8 : Addr} {nm_e8 q_e8 file_e8 : Str} {bs_e8 bm_e8 sub_e8 : List Value} {sn_e8 : List Str} {ab_e8 : Bool} {col_e8 : Option Bool} {dd_e8 : Option Addr} {k0_e8 k1_e8 k2_e8 k3_e8 k5_e8 : Option Value}
    {kV_e8 doc_e8 pm_e8 ct_e8 oc_e8 ccl_e8 cl_e8 : Value} {an_e8 od_e8 cdd_e8 cld_e8 : Option Addr} {osl_e8 ccs_e8 csl_e8 : Array (Option Value)} {vs_e8 : Array Value} {tf_e8 : Tok} {cdD_e8 : ClassData}
    {C_e9 D_e9 fI_e9 cc_e9 cda_e9 N_e9 : Addr} {nm_e9 q_e9 file_e9 : Str} {bs_e9 bm_e9 sub_e9 : List Value} {sn_e9 : List Str} {ab_e9 : Bool} {col_e9 : Option Bool} {dd_e9 : Option Addr} {k0_e9 k1_e9 k2_e9 k3_e9 k5_e9 : Option Value}
    {kV_e9 doc_e9 pm_e9 ct_e9 oc_e9 ccl_e9 cl_e9 : Value} {an_e9 od_e9 cdd_e9 cld_e9 : Option Addr} {osl_e9 ccs_e9 csl_e9 : Array (Option Value)} {vs_e9 : Array Value} {tf_e9 : Tok} {cdD_e9 : ClassData}
    {C_e10 D_e10 fI_e10 cc_e10 cda_e10 N_e10 : Addr} {nm_e10 q_e10 file_e10 : Str} {bs_e10 bm_e10 sub_e10 : List Value} {sn_e10 : List Str} {ab_e10 : Bool} {col_e10 : Option Bool} {dd_e10 : Option Addr} {k0_e10 k1_e10 k2_e10 k3_e10 k5_e10 : Option Value}
    {kV_e10 doc_e10 pm_e10 ct_e10 oc_e10 ccl_e10 cl_e10 : Value} {an_e10 od_e10 cdd_e10 cld_e10 : Option Addr} {osl_e10 ccs_e10 csl_e10 : Array (Option Value)} {vs_e10 : Array Value} {tf_e10 : Tok} {cdD_e10 : ClassData}
    {C_e11 D_e11 fI_e11 cc_e11 cda_e11 N_e11 : Addr} {nm_e11 q_e11 file_e11 : Str} {bs_e11 bm_e11 sub_e11 : List Value} {sn_e11 : List Str} {ab_e11 : Bool} {col_e11 : Option Bool} {dd_e11 : Option Addr} {k0_e11 k1_e11 k2_e11 k3_e11 k5_e11 : Option Value}
    {kV_e11 doc_e11 pm_e11 ct_e11 oc_e11 ccl_e11 cl_e11 : Value} {an_e11 od_e11 cdd_e11 cld_e11 : Option Addr} {osl_e11 ccs_e11 csl_e11 : Array (Option Value)} {vs_e11 : Array Value} {tf_e11 : Tok} {cdD_e11 : ClassData}
    {C_e12 D_e12 fI_e12 cc_e12 cda_e12 N_e12 : Addr} {nm_e12 q_e12 file_e12 : Str} {bs_e12 bm_e12 sub_e12 : List Value} {sn_e12 : List Str} {ab_e12 : Bool} {col_e12 : Option Bool} {dd_e12 : Option Addr} {k0_e12 k1_e12 k2_e12 k3_e12 k5_e12 : Option Value}
    {kV_e12 doc_e12 pm_e12 ct_e12 oc_e12 ccl_e12 cl_e12 : Value} {an_e12 od_e12 cdd_e12 cld_e12 : Option Addr} {osl_e12 ccs_e12 csl_e12 : Array (Option Value)} {vs_e12 : Array Value} {tf_e12 : Tok} {cdD_e12 : ClassData}
    {C_e13 D_e13 fI_e13 cc_e13 cda_e13 N_e13 : Addr} {nm_e13 q_e13 file_e13 : Str} {bs_e13 bm_e13 sub_e13 : List Value} {sn_e13 : List Str} {ab_e13 : Bool} {col_e13 : Option Bool} {dd_e13 : Option Addr} {k0_e13 k1_e13 k2_e13 k3_e13 k5_e13 : Option Value}
    {kV_e13 doc_e13 pm_e13 ct_e13 oc_e13 ccl_e13 cl_e13 : Value} {an_e13 od_e13 cdd_e13 cld_e13 : Option Addr} {osl_e13 ccs_e13 csl_e13 : Array (Option Value)} {vs_e13 : Array Value} {tf_e13 : Tok} {cdD_e13 : ClassData}
    (a_is_word : PySem.W.nsIn K mainGlobals "is_word" = some (some (.ref f_is_word)))
    (l_is_word : K.lookup f_is_word = some ⟨oc_is_word, od_is_word, .func (PySem.W.fnOf "is_word" "is_word" (defArgs s_is_word) (defBody s_is_word) (defScope s_is_word) .none kV_is_word dc_is_word pm_is_word an_is_word cd_is_word ct_is_word), sl_is_word⟩)
    (c_is_word : PySem.W.codeIn K cd_is_word "is_word" = true)
    (k_is_word : PySem.W.keepIn K (.ref f_is_word) = true)
    (a_fits : PySem.W.nsIn K mainGlobals "fits" = some (some (.ref f_fits)))
    (l_fits : K.lookup f_fits = some ⟨oc_fits, od_fits, .func (PySem.W.fnOf "fits" "fits" (defArgs s_fits) (defBody s_fits) (defScope s_fits) .none kV_fits dc_fits pm_fits an_fits cd_fits ct_fits), sl_fits⟩)
    (c_fits : PySem.W.codeIn K cd_fits "fits" = true)
    (k_fits : PySem.W.keepIn K (.ref f_fits) = true)
    (a_decode : PySem.W.nsIn K mainGlobals "decode" = some (some (.ref f_decode)))
    (l_decode : K.lookup f_decode = some ⟨oc_decode, od_decode, .func (PySem.W.fnOf "decode" "decode" (defArgs s_decode) (defBody s_decode) (defScope s_decode) .none kV_decode dc_decode pm_decode an_decode cd_decode ct_decode), sl_decode⟩)
    (c_decode : PySem.W.codeIn K cd_decode "decode" = true)
    (k_decode : PySem.W.keepIn K (.ref f_decode) = true)
    (a_law_cell : PySem.W.nsIn K mainGlobals "_law_cell" = some (some (.ref f_law_cell)))
    (l_law_cell : K.lookup f_law_cell = some ⟨oc_law_cell, od_law_cell, .func (PySem.W.fnOf "_law_cell" "_law_cell" (defArgs s_law_cell) (defBody s_law_cell) (defScope s_law_cell) .none kV_law_cell dc_law_cell pm_law_cell an_law_cell cd_law_cell ct_law_cell), sl_law_cell⟩)
    (c_law_cell : PySem.W.codeIn K cd_law_cell "_law_cell" = true)
    (k_law_cell : PySem.W.keepIn K (.ref f_law_cell) = true)
    (a_law_row : PySem.W.nsIn K mainGlobals "_law_row" = some (some (.ref f_law_row)))
    (l_law_row : K.lookup f_law_row = some ⟨oc_law_row, od_law_row, .func (PySem.W.fnOf "_law_row" "_law_row" (defArgs s_law_row) (defBody s_law_row) (defScope s_law_row) .none kV_law_row dc_law_row pm_law_row an_law_row cd_law_row ct_law_row), sl_law_row⟩)
    (c_law_row : PySem.W.codeIn K cd_law_row "_law_row" = true)
    (k_law_row : PySem.W.keepIn K (.ref f_law_row) = true)
    (a_law_name : PySem.W.nsIn K mainGlobals "_law_name" = some (some (.ref f_law_name)))
    (l_law_name : K.lookup f_law_name = some ⟨oc_law_name, od_law_name, .func (PySem.W.fnOf "_law_name" "_law_name" (defArgs s_law_name) (defBody s_law_name) (defScope s_law_name) .none kV_law_name dc_law_name pm_law_name an_law_name cd_law_name ct_law_name), sl_law_name⟩)
    (c_law_name : PySem.W.codeIn K cd_law_name "_law_name" = true)
    (k_law_name : PySem.W.keepIn K (.ref f_law_name) = true)
    (a_law_entry : PySem.W.nsIn K mainGlobals "_law_entry" = some (some (.ref f_law_entry)))
    (l_law_entry : K.lookup f_law_entry = some ⟨oc_law_entry, od_law_entry, .func (PySem.W.fnOf "_law_entry" "_law_entry" (defArgs s_law_entry) (defBody s_law_entry) (defScope s_law_entry) .none kV_law_entry dc_law_entry pm_law_entry an_law_entry cd_law_entry ct_law_entry), sl_law_entry⟩)
    (c_law_entry : PySem.W.codeIn K cd_law_entry "_law_entry" = true)
    (k_law_entry : PySem.W.keepIn K (.ref f_law_entry) = true)
    (a_law_entry_of : PySem.W.nsIn K mainGlobals "_law_entry_of" = some (some (.ref f_law_entry_of)))
    (l_law_entry_of : K.lookup f_law_entry_of = some ⟨oc_law_entry_of, od_law_entry_of, .func (PySem.W.fnOf "_law_entry_of" "_law_entry_of" (defArgs s_law_entry_of) (defBody s_law_entry_of) (defScope s_law_entry_of) .none kV_law_entry_of dc_law_entry_of pm_law_entry_of an_law_entry_of cd_law_entry_of ct_law_entry_of), sl_law_entry_of⟩)
    (c_law_entry_of : PySem.W.codeIn K cd_law_entry_of "_law_entry_of" = true)
    (k_law_entry_of : PySem.W.keepIn K (.ref f_law_entry_of) = true)
    (a_law_read : PySem.W.nsIn K mainGlobals "_law_read" = some (some (.ref f_law_read)))
    (l_law_read : K.lookup f_law_read = some ⟨oc_law_read, od_law_read, .func (PySem.W.fnOf "_law_read" "_law_read" (defArgs s_law_read) (defBody s_law_read) (defScope s_law_read) .none kV_law_read dc_law_read pm_law_read an_law_read cd_law_read ct_law_read), sl_law_read⟩)
    (c_law_read : PySem.W.codeIn K cd_law_read "_law_read" = true)
    (k_law_read : PySem.W.keepIn K (.ref f_law_read) = true)
    (a_law_due : PySem.W.nsIn K mainGlobals "_law_due" = some (some (.ref f_law_due)))
    (l_law_due : K.lookup f_law_due = some ⟨oc_law_due, od_law_due, .func (PySem.W.fnOf "_law_due" "_law_due" (defArgs s_law_due) (defBody s_law_due) (defScope s_law_due) .none kV_law_due dc_law_due pm_law_due an_law_due cd_law_due ct_law_due), sl_law_due⟩)
    (c_law_due : PySem.W.codeIn K cd_law_due "_law_due" = true)
    (k_law_due : PySem.W.keepIn K (.ref f_law_due) = true)
    (a_law_parts : PySem.W.nsIn K mainGlobals "_law_parts" = some (some (.ref f_law_parts)))
    (l_law_parts : K.lookup f_law_parts = some ⟨oc_law_parts, od_law_parts, .func (PySem.W.fnOf "_law_parts" "_law_parts" (defArgs s_law_parts) (defBody s_law_parts) (defScope s_law_parts) .none kV_law_parts dc_law_parts pm_law_parts an_law_parts cd_law_parts ct_law_parts), sl_law_parts⟩)
    (c_law_parts : PySem.W.codeIn K cd_law_parts "_law_parts" = true)
    (k_law_parts : PySem.W.keepIn K (.ref f_law_parts) = true)
    (a_law_errors : PySem.W.nsIn K mainGlobals "_law_errors" = some (some (.ref f_law_errors)))
    (l_law_errors : K.lookup f_law_errors = some ⟨oc_law_errors, od_law_errors, .func (PySem.W.fnOf "_law_errors" "_law_errors" (defArgs s_law_errors) (defBody s_law_errors) (defScope s_law_errors) .none kV_law_errors dc_law_errors pm_law_errors an_law_errors cd_law_errors ct_law_errors), sl_law_errors⟩)
    (c_law_errors : PySem.W.codeIn K cd_law_errors "_law_errors" = true)
    (k_law_errors : PySem.W.keepIn K (.ref f_law_errors) = true)
    (a_law_unequal : PySem.W.nsIn K mainGlobals "_law_unequal" = some (some (.ref f_law_unequal)))
    (l_law_unequal : K.lookup f_law_unequal = some ⟨oc_law_unequal, od_law_unequal, .func (PySem.W.fnOf "_law_unequal" "_law_unequal" (defArgs s_law_unequal) (defBody s_law_unequal) (defScope s_law_unequal) .none kV_law_unequal dc_law_unequal pm_law_unequal an_law_unequal cd_law_unequal ct_law_unequal), sl_law_unequal⟩)
    (c_law_unequal : PySem.W.codeIn K cd_law_unequal "_law_unequal" = true)
    (k_law_unequal : PySem.W.keepIn K (.ref f_law_unequal) = true)
    (a_law : PySem.W.nsIn K mainGlobals "law" = some (some (.ref f_law)))
    (l_law : K.lookup f_law = some ⟨oc_law, od_law, .func (PySem.W.fnOf "law" "law" (defArgs s_law) (defBody s_law) (defScope s_law) .none kV_law dc_law pm_law an_law cd_law ct_law), sl_law⟩)
    (c_law : PySem.W.codeIn K cd_law "law" = true)
    (k_law : PySem.W.keepIn K (.ref f_law) = true)
    (z_len : PySem.W.nsIn K mainGlobals "len" = some none)
    (z_int : PySem.W.nsIn K mainGlobals "int" = some none)
    (z_bool : PySem.W.nsIn K mainGlobals "bool" = some none)
    (z_list : PySem.W.nsIn K mainGlobals "list" = some none)
    (z_tuple : PySem.W.nsIn K mainGlobals "tuple" = some none)
    (z_abs : PySem.W.nsIn K mainGlobals "abs" = some none)
    (z_max : PySem.W.nsIn K mainGlobals "max" = some none)
    (z_range : PySem.W.nsIn K mainGlobals "range" = some none)
    (z_isinstance : PySem.W.nsIn K mainGlobals "isinstance" = some none)
    (z_ValueError : PySem.W.nsIn K mainGlobals "ValueError" = some none)
    (v_LOW : PySem.W.nsIn K mainGlobals "LOW" = some (some (.int (-9223372036854775808) t_LOW)))
    (v_HIGH : PySem.W.nsIn K mainGlobals "HIGH" = some (some (.int 9223372036854775807 t_HIGH)))
    (v_MOST_CODE : PySem.W.nsIn K mainGlobals "MOST_CODE" = some (some (.int 9999 t_MOST_CODE)))
    (v_KINDS : PySem.W.nsIn K mainGlobals "KINDS" = some (some (.ref aK)))
    (v_OPERANDS : PySem.W.nsIn K mainGlobals "OPERANDS" = some (some (.ref aO)))
    (dl_0 : K.lookup aO = some ⟨.type "dict", none, .dict es_d0 n_d0, #[]⟩)
    (dw_0 : (aO == sysModules) = false)
    (dr_0 : BD.DRel w.params es_d0.toList (opsS.map fun p => (p.1, V.str p.2)))
    (tl_0 : K.lookup aK = some ⟨.type "tuple", od_t0, .seq ar_t0 n_t0, sl_t0⟩)
    (tv_0 : Vals (kindL.map V.str) ar_t0.toList)
    (eaC_e0 : PySem.W.nsIn K mainGlobals "BadText" = some (some (.ref C_e0)))
    (eaD_e0 : PySem.W.nsIn K mainGlobals "LineError" = some (some (.ref D_e0)))
    (elC_e0 : K.lookup C_e0 = some (excClassObj nm_e0 q_e0 C_e0 N_e0 bs_e0 bm_e0 true sn_e0 sub_e0 ab_e0 col_e0 dd_e0 k0_e0 k1_e0 k2_e0 k3_e0 k5_e0 "ValueError.__new__"))
    (ebm_e0 : PySem.HandSPX.refsVE bm_e0 = true)
    (esa_e0 : PySem.W.findIn K (.ref C_e0) "__setattr__" = some (some (.builtin "object.__setattr__")))
    (eex_e0 : PySem.W.subIn K (.ref C_e0) (.type "BaseException") = some true)
    (ety_e0 : PySem.W.typeIn K (.ref C_e0) = some (.type "type"))
    (ekp_e0 : PySem.W.keepIn K (.ref C_e0) = true)
    (emr_e0 : PySem.W.mroIn K C_e0 (.ref D_e0) = some true)
    (esu_e0 : PySem.W.ks_superIn K C_e0 D_e0 "__init__" = some (some (.builtin "ValueError.__init__")))
    (esb_e0 : PySem.W.subIn K (.ref C_e0) (.type "ValueError") = some true)
    (eno_e0 : PySem.W.findIn K (.ref C_e0) "line" = some none)
    (eiC_e0 : PySem.W.findIn K (.ref C_e0) "__init__" = some (some (.ref fI_e0)))
    (etI_e0 : PySem.W.typeIn K (.ref fI_e0) = some (.type "function"))
    (elk_e0 : K.lookup fI_e0 = some ⟨oc_e0, od_e0, .func (PySem.W.ksFn "__init__" "LineError.__init__" (defArgs s_eLine) (defBody s_eLine) (defScope s_eLine) .none kV_e0 doc_e0 pm_e0 an_e0 (.ref cda_e0) ct_e0 cc_e0), osl_e0⟩)
    (ecd_e0 : PySem.W.codeIn K (.ref cda_e0) "LineError.__init__" = true)
    (eco_e0 : K.lookup cda_e0 = some ⟨ccl_e0, cdd_e0, .fields vs_e0, ccs_e0⟩)
    (evs_e0 : vs_e0[2]? = some (.str file_e0 tf_e0))
    (efi_e0 : ((l.prog.main.file : Str) == file_e0) = true)
    (ece_e0 : K.lookup cc_e0 = some ⟨cl_e0, cld_e0, .cell (some (.ref D_e0)), csl_e0⟩)
    (eD_e0 : PySem.W.clsIn K D_e0 = some cdD_e0)
    (ega_e0 : PySem.W.findIn K (.ref C_e0) "__getattribute__" = some (some (.builtin "BaseException.__getattribute__")))
    (egg_e0 : PySem.W.findIn K (.ref C_e0) "__getattr__" = some none)
    (ehd_e0 : PySem.W.hasDictIn K C_e0 = true)
    (eem_e0 : PySem.W.exmOne K (.ref C_e0) (.ref C_e0) = some true)
    (eaC_e1 : PySem.W.nsIn K mainGlobals "BadUse" = some (some (.ref C_e1)))
    (eaD_e1 : PySem.W.nsIn K mainGlobals "LineError" = some (some (.ref D_e1)))
    (elC_e1 : K.lookup C_e1 = some (excClassObj nm_e1 q_e1 C_e1 N_e1 bs_e1 bm_e1 true sn_e1 sub_e1 ab_e1 col_e1 dd_e1 k0_e1 k1_e1 k2_e1 k3_e1 k5_e1 "ValueError.__new__"))
    (ebm_e1 : PySem.HandSPX.refsVE bm_e1 = true)
    (esa_e1 : PySem.W.findIn K (.ref C_e1) "__setattr__" = some (some (.builtin "object.__setattr__")))
    (eex_e1 : PySem.W.subIn K (.ref C_e1) (.type "BaseException") = some true)
    (ety_e1 : PySem.W.typeIn K (.ref C_e1) = some (.type "type"))
    (ekp_e1 : PySem.W.keepIn K (.ref C_e1) = true)
    (emr_e1 : PySem.W.mroIn K C_e1 (.ref D_e1) = some true)
    (esu_e1 : PySem.W.ks_superIn K C_e1 D_e1 "__init__" = some (some (.builtin "ValueError.__init__")))
    (esb_e1 : PySem.W.subIn K (.ref C_e1) (.type "ValueError") = some true)
    (eno_e1 : PySem.W.findIn K (.ref C_e1) "line" = some none)
    (eiC_e1 : PySem.W.findIn K (.ref C_e1) "__init__" = some (some (.ref fI_e1)))
    (etI_e1 : PySem.W.typeIn K (.ref fI_e1) = some (.type "function"))
    (elk_e1 : K.lookup fI_e1 = some ⟨oc_e1, od_e1, .func (PySem.W.ksFn "__init__" "LineError.__init__" (defArgs s_eLine) (defBody s_eLine) (defScope s_eLine) .none kV_e1 doc_e1 pm_e1 an_e1 (.ref cda_e1) ct_e1 cc_e1), osl_e1⟩)
    (ecd_e1 : PySem.W.codeIn K (.ref cda_e1) "LineError.__init__" = true)
    (eco_e1 : K.lookup cda_e1 = some ⟨ccl_e1, cdd_e1, .fields vs_e1, ccs_e1⟩)
    (evs_e1 : vs_e1[2]? = some (.str file_e1 tf_e1))
    (efi_e1 : ((l.prog.main.file : Str) == file_e1) = true)
    (ece_e1 : K.lookup cc_e1 = some ⟨cl_e1, cld_e1, .cell (some (.ref D_e1)), csl_e1⟩)
    (eD_e1 : PySem.W.clsIn K D_e1 = some cdD_e1)
    (ega_e1 : PySem.W.findIn K (.ref C_e1) "__getattribute__" = some (some (.builtin "BaseException.__getattribute__")))
    (egg_e1 : PySem.W.findIn K (.ref C_e1) "__getattr__" = some none)
    (ehd_e1 : PySem.W.hasDictIn K C_e1 = true)
    (eem_e1 : PySem.W.exmOne K (.ref C_e1) (.ref C_e1) = some true)
    (eaC_e2 : PySem.W.nsIn K mainGlobals "BadMachine" = some (some (.ref C_e2)))
    (eaD_e2 : PySem.W.nsIn K mainGlobals "LineError" = some (some (.ref D_e2)))
    (elC_e2 : K.lookup C_e2 = some (excClassObj nm_e2 q_e2 C_e2 N_e2 bs_e2 bm_e2 true sn_e2 sub_e2 ab_e2 col_e2 dd_e2 k0_e2 k1_e2 k2_e2 k3_e2 k5_e2 "ValueError.__new__"))
    (ebm_e2 : PySem.HandSPX.refsVE bm_e2 = true)
    (esa_e2 : PySem.W.findIn K (.ref C_e2) "__setattr__" = some (some (.builtin "object.__setattr__")))
    (eex_e2 : PySem.W.subIn K (.ref C_e2) (.type "BaseException") = some true)
    (ety_e2 : PySem.W.typeIn K (.ref C_e2) = some (.type "type"))
    (ekp_e2 : PySem.W.keepIn K (.ref C_e2) = true)
    (emr_e2 : PySem.W.mroIn K C_e2 (.ref D_e2) = some true)
    (esu_e2 : PySem.W.ks_superIn K C_e2 D_e2 "__init__" = some (some (.builtin "ValueError.__init__")))
    (esb_e2 : PySem.W.subIn K (.ref C_e2) (.type "ValueError") = some true)
    (eno_e2 : PySem.W.findIn K (.ref C_e2) "line" = some none)
    (eiC_e2 : PySem.W.findIn K (.ref C_e2) "__init__" = some (some (.ref fI_e2)))
    (etI_e2 : PySem.W.typeIn K (.ref fI_e2) = some (.type "function"))
    (elk_e2 : K.lookup fI_e2 = some ⟨oc_e2, od_e2, .func (PySem.W.ksFn "__init__" "LineError.__init__" (defArgs s_eLine) (defBody s_eLine) (defScope s_eLine) .none kV_e2 doc_e2 pm_e2 an_e2 (.ref cda_e2) ct_e2 cc_e2), osl_e2⟩)
    (ecd_e2 : PySem.W.codeIn K (.ref cda_e2) "LineError.__init__" = true)
    (eco_e2 : K.lookup cda_e2 = some ⟨ccl_e2, cdd_e2, .fields vs_e2, ccs_e2⟩)
    (evs_e2 : vs_e2[2]? = some (.str file_e2 tf_e2))
    (efi_e2 : ((l.prog.main.file : Str) == file_e2) = true)
    (ece_e2 : K.lookup cc_e2 = some ⟨cl_e2, cld_e2, .cell (some (.ref D_e2)), csl_e2⟩)
    (eD_e2 : PySem.W.clsIn K D_e2 = some cdD_e2)
    (ega_e2 : PySem.W.findIn K (.ref C_e2) "__getattribute__" = some (some (.builtin "BaseException.__getattribute__")))
    (egg_e2 : PySem.W.findIn K (.ref C_e2) "__getattr__" = some none)
    (ehd_e2 : PySem.W.hasDictIn K C_e2 = true)
    (eem_e2 : PySem.W.exmOne K (.ref C_e2) (.ref C_e2) = some true)
    (eaC_e3 : PySem.W.nsIn K mainGlobals "BadFile" = some (some (.ref C_e3)))
    (eaD_e3 : PySem.W.nsIn K mainGlobals "LineError" = some (some (.ref D_e3)))
    (elC_e3 : K.lookup C_e3 = some (excClassObj nm_e3 q_e3 C_e3 N_e3 bs_e3 bm_e3 true sn_e3 sub_e3 ab_e3 col_e3 dd_e3 k0_e3 k1_e3 k2_e3 k3_e3 k5_e3 "ValueError.__new__"))
    (ebm_e3 : PySem.HandSPX.refsVE bm_e3 = true)
    (esa_e3 : PySem.W.findIn K (.ref C_e3) "__setattr__" = some (some (.builtin "object.__setattr__")))
    (eex_e3 : PySem.W.subIn K (.ref C_e3) (.type "BaseException") = some true)
    (ety_e3 : PySem.W.typeIn K (.ref C_e3) = some (.type "type"))
    (ekp_e3 : PySem.W.keepIn K (.ref C_e3) = true)
    (emr_e3 : PySem.W.mroIn K C_e3 (.ref D_e3) = some true)
    (esu_e3 : PySem.W.ks_superIn K C_e3 D_e3 "__init__" = some (some (.builtin "ValueError.__init__")))
    (esb_e3 : PySem.W.subIn K (.ref C_e3) (.type "ValueError") = some true)
    (eno_e3 : PySem.W.findIn K (.ref C_e3) "line" = some none)
    (eiC_e3 : PySem.W.findIn K (.ref C_e3) "__init__" = some (some (.ref fI_e3)))
    (etI_e3 : PySem.W.typeIn K (.ref fI_e3) = some (.type "function"))
    (elk_e3 : K.lookup fI_e3 = some ⟨oc_e3, od_e3, .func (PySem.W.ksFn "__init__" "LineError.__init__" (defArgs s_eLine) (defBody s_eLine) (defScope s_eLine) .none kV_e3 doc_e3 pm_e3 an_e3 (.ref cda_e3) ct_e3 cc_e3), osl_e3⟩)
    (ecd_e3 : PySem.W.codeIn K (.ref cda_e3) "LineError.__init__" = true)
    (eco_e3 : K.lookup cda_e3 = some ⟨ccl_e3, cdd_e3, .fields vs_e3, ccs_e3⟩)
    (evs_e3 : vs_e3[2]? = some (.str file_e3 tf_e3))
    (efi_e3 : ((l.prog.main.file : Str) == file_e3) = true)
    (ece_e3 : K.lookup cc_e3 = some ⟨cl_e3, cld_e3, .cell (some (.ref D_e3)), csl_e3⟩)
    (eD_e3 : PySem.W.clsIn K D_e3 = some cdD_e3)
    (ega_e3 : PySem.W.findIn K (.ref C_e3) "__getattribute__" = some (some (.builtin "BaseException.__getattribute__")))
    (egg_e3 : PySem.W.findIn K (.ref C_e3) "__getattr__" = some none)
    (ehd_e3 : PySem.W.hasDictIn K C_e3 = true)
    (eem_e3 : PySem.W.exmOne K (.ref C_e3) (.ref C_e3) = some true)
    (eaC_e4 : PySem.W.nsIn K mainGlobals "UnknownName" = some (some (.ref C_e4)))
    (eaD_e4 : PySem.W.nsIn K mainGlobals "BadName" = some (some (.ref D_e4)))
    (elC_e4 : K.lookup C_e4 = some (excClassObj nm_e4 q_e4 C_e4 N_e4 bs_e4 bm_e4 true sn_e4 sub_e4 ab_e4 col_e4 dd_e4 k0_e4 k1_e4 k2_e4 k3_e4 k5_e4 "ValueError.__new__"))
    (ebm_e4 : PySem.HandSPX.refsVE bm_e4 = true)
    (esa_e4 : PySem.W.findIn K (.ref C_e4) "__setattr__" = some (some (.builtin "object.__setattr__")))
    (eex_e4 : PySem.W.subIn K (.ref C_e4) (.type "BaseException") = some true)
    (ety_e4 : PySem.W.typeIn K (.ref C_e4) = some (.type "type"))
    (ekp_e4 : PySem.W.keepIn K (.ref C_e4) = true)
    (emr_e4 : PySem.W.mroIn K C_e4 (.ref D_e4) = some true)
    (esu_e4 : PySem.W.ks_superIn K C_e4 D_e4 "__init__" = some (some (.builtin "ValueError.__init__")))
    (esb_e4 : PySem.W.subIn K (.ref C_e4) (.type "ValueError") = some true)
    (eno_e4 : PySem.W.findIn K (.ref C_e4) "name" = some none)
    (eiC_e4 : PySem.W.findIn K (.ref C_e4) "__init__" = some (some (.ref fI_e4)))
    (etI_e4 : PySem.W.typeIn K (.ref fI_e4) = some (.type "function"))
    (elk_e4 : K.lookup fI_e4 = some ⟨oc_e4, od_e4, .func (PySem.W.ksFn "__init__" "BadName.__init__" (defArgs s_eName) (defBody s_eName) (defScope s_eName) .none kV_e4 doc_e4 pm_e4 an_e4 (.ref cda_e4) ct_e4 cc_e4), osl_e4⟩)
    (ecd_e4 : PySem.W.codeIn K (.ref cda_e4) "BadName.__init__" = true)
    (eco_e4 : K.lookup cda_e4 = some ⟨ccl_e4, cdd_e4, .fields vs_e4, ccs_e4⟩)
    (evs_e4 : vs_e4[2]? = some (.str file_e4 tf_e4))
    (efi_e4 : ((l.prog.main.file : Str) == file_e4) = true)
    (ece_e4 : K.lookup cc_e4 = some ⟨cl_e4, cld_e4, .cell (some (.ref D_e4)), csl_e4⟩)
    (eD_e4 : PySem.W.clsIn K D_e4 = some cdD_e4)
    (ega_e4 : PySem.W.findIn K (.ref C_e4) "__getattribute__" = some (some (.builtin "BaseException.__getattribute__")))
    (egg_e4 : PySem.W.findIn K (.ref C_e4) "__getattr__" = some none)
    (ehd_e4 : PySem.W.hasDictIn K C_e4 = true)
    (eem_e4 : PySem.W.exmOne K (.ref C_e4) (.ref C_e4) = some true)
    (eaC_e5 : PySem.W.nsIn K mainGlobals "DuplicateName" = some (some (.ref C_e5)))
    (eaD_e5 : PySem.W.nsIn K mainGlobals "BadName" = some (some (.ref D_e5)))
    (elC_e5 : K.lookup C_e5 = some (excClassObj nm_e5 q_e5 C_e5 N_e5 bs_e5 bm_e5 true sn_e5 sub_e5 ab_e5 col_e5 dd_e5 k0_e5 k1_e5 k2_e5 k3_e5 k5_e5 "ValueError.__new__"))
    (ebm_e5 : PySem.HandSPX.refsVE bm_e5 = true)
    (esa_e5 : PySem.W.findIn K (.ref C_e5) "__setattr__" = some (some (.builtin "object.__setattr__")))
    (eex_e5 : PySem.W.subIn K (.ref C_e5) (.type "BaseException") = some true)
    (ety_e5 : PySem.W.typeIn K (.ref C_e5) = some (.type "type"))
    (ekp_e5 : PySem.W.keepIn K (.ref C_e5) = true)
    (emr_e5 : PySem.W.mroIn K C_e5 (.ref D_e5) = some true)
    (esu_e5 : PySem.W.ks_superIn K C_e5 D_e5 "__init__" = some (some (.builtin "ValueError.__init__")))
    (esb_e5 : PySem.W.subIn K (.ref C_e5) (.type "ValueError") = some true)
    (eno_e5 : PySem.W.findIn K (.ref C_e5) "name" = some none)
    (eiC_e5 : PySem.W.findIn K (.ref C_e5) "__init__" = some (some (.ref fI_e5)))
    (etI_e5 : PySem.W.typeIn K (.ref fI_e5) = some (.type "function"))
    (elk_e5 : K.lookup fI_e5 = some ⟨oc_e5, od_e5, .func (PySem.W.ksFn "__init__" "BadName.__init__" (defArgs s_eName) (defBody s_eName) (defScope s_eName) .none kV_e5 doc_e5 pm_e5 an_e5 (.ref cda_e5) ct_e5 cc_e5), osl_e5⟩)
    (ecd_e5 : PySem.W.codeIn K (.ref cda_e5) "BadName.__init__" = true)
    (eco_e5 : K.lookup cda_e5 = some ⟨ccl_e5, cdd_e5, .fields vs_e5, ccs_e5⟩)
    (evs_e5 : vs_e5[2]? = some (.str file_e5 tf_e5))
    (efi_e5 : ((l.prog.main.file : Str) == file_e5) = true)
    (ece_e5 : K.lookup cc_e5 = some ⟨cl_e5, cld_e5, .cell (some (.ref D_e5)), csl_e5⟩)
    (eD_e5 : PySem.W.clsIn K D_e5 = some cdD_e5)
    (ega_e5 : PySem.W.findIn K (.ref C_e5) "__getattribute__" = some (some (.builtin "BaseException.__getattribute__")))
    (egg_e5 : PySem.W.findIn K (.ref C_e5) "__getattr__" = some none)
    (ehd_e5 : PySem.W.hasDictIn K C_e5 = true)
    (eem_e5 : PySem.W.exmOne K (.ref C_e5) (.ref C_e5) = some true)
    (eaC_e6 : PySem.W.nsIn K mainGlobals "UnresolvedName" = some (some (.ref C_e6)))
    (eaD_e6 : PySem.W.nsIn K mainGlobals "BadName" = some (some (.ref D_e6)))
    (elC_e6 : K.lookup C_e6 = some (excClassObj nm_e6 q_e6 C_e6 N_e6 bs_e6 bm_e6 true sn_e6 sub_e6 ab_e6 col_e6 dd_e6 k0_e6 k1_e6 k2_e6 k3_e6 k5_e6 "ValueError.__new__"))
    (ebm_e6 : PySem.HandSPX.refsVE bm_e6 = true)
    (esa_e6 : PySem.W.findIn K (.ref C_e6) "__setattr__" = some (some (.builtin "object.__setattr__")))
    (eex_e6 : PySem.W.subIn K (.ref C_e6) (.type "BaseException") = some true)
    (ety_e6 : PySem.W.typeIn K (.ref C_e6) = some (.type "type"))
    (ekp_e6 : PySem.W.keepIn K (.ref C_e6) = true)
    (emr_e6 : PySem.W.mroIn K C_e6 (.ref D_e6) = some true)
    (esu_e6 : PySem.W.ks_superIn K C_e6 D_e6 "__init__" = some (some (.builtin "ValueError.__init__")))
    (esb_e6 : PySem.W.subIn K (.ref C_e6) (.type "ValueError") = some true)
    (eno_e6 : PySem.W.findIn K (.ref C_e6) "name" = some none)
    (eiC_e6 : PySem.W.findIn K (.ref C_e6) "__init__" = some (some (.ref fI_e6)))
    (etI_e6 : PySem.W.typeIn K (.ref fI_e6) = some (.type "function"))
    (elk_e6 : K.lookup fI_e6 = some ⟨oc_e6, od_e6, .func (PySem.W.ksFn "__init__" "BadName.__init__" (defArgs s_eName) (defBody s_eName) (defScope s_eName) .none kV_e6 doc_e6 pm_e6 an_e6 (.ref cda_e6) ct_e6 cc_e6), osl_e6⟩)
    (ecd_e6 : PySem.W.codeIn K (.ref cda_e6) "BadName.__init__" = true)
    (eco_e6 : K.lookup cda_e6 = some ⟨ccl_e6, cdd_e6, .fields vs_e6, ccs_e6⟩)
    (evs_e6 : vs_e6[2]? = some (.str file_e6 tf_e6))
    (efi_e6 : ((l.prog.main.file : Str) == file_e6) = true)
    (ece_e6 : K.lookup cc_e6 = some ⟨cl_e6, cld_e6, .cell (some (.ref D_e6)), csl_e6⟩)
    (eD_e6 : PySem.W.clsIn K D_e6 = some cdD_e6)
    (ega_e6 : PySem.W.findIn K (.ref C_e6) "__getattribute__" = some (some (.builtin "BaseException.__getattribute__")))
    (egg_e6 : PySem.W.findIn K (.ref C_e6) "__getattr__" = some none)
    (ehd_e6 : PySem.W.hasDictIn K C_e6 = true)
    (eem_e6 : PySem.W.exmOne K (.ref C_e6) (.ref C_e6) = some true)
    (eaC_e7 : PySem.W.nsIn K mainGlobals "BadPass" = some (some (.ref C_e7)))
    (eaD_e7 : PySem.W.nsIn K mainGlobals "BadName" = some (some (.ref D_e7)))
    (elC_e7 : K.lookup C_e7 = some (excClassObj nm_e7 q_e7 C_e7 N_e7 bs_e7 bm_e7 true sn_e7 sub_e7 ab_e7 col_e7 dd_e7 k0_e7 k1_e7 k2_e7 k3_e7 k5_e7 "ValueError.__new__"))
    (ebm_e7 : PySem.HandSPX.refsVE bm_e7 = true)
    (esa_e7 : PySem.W.findIn K (.ref C_e7) "__setattr__" = some (some (.builtin "object.__setattr__")))
    (eex_e7 : PySem.W.subIn K (.ref C_e7) (.type "BaseException") = some true)
    (ety_e7 : PySem.W.typeIn K (.ref C_e7) = some (.type "type"))
    (ekp_e7 : PySem.W.keepIn K (.ref C_e7) = true)
    (emr_e7 : PySem.W.mroIn K C_e7 (.ref D_e7) = some true)
    (esu_e7 : PySem.W.ks_superIn K C_e7 D_e7 "__init__" = some (some (.builtin "ValueError.__init__")))
    (esb_e7 : PySem.W.subIn K (.ref C_e7) (.type "ValueError") = some true)
    (eno_e7 : PySem.W.findIn K (.ref C_e7) "name" = some none)
    (eiC_e7 : PySem.W.findIn K (.ref C_e7) "__init__" = some (some (.ref fI_e7)))
    (etI_e7 : PySem.W.typeIn K (.ref fI_e7) = some (.type "function"))
    (elk_e7 : K.lookup fI_e7 = some ⟨oc_e7, od_e7, .func (PySem.W.ksFn "__init__" "BadName.__init__" (defArgs s_eName) (defBody s_eName) (defScope s_eName) .none kV_e7 doc_e7 pm_e7 an_e7 (.ref cda_e7) ct_e7 cc_e7), osl_e7⟩)
    (ecd_e7 : PySem.W.codeIn K (.ref cda_e7) "BadName.__init__" = true)
    (eco_e7 : K.lookup cda_e7 = some ⟨ccl_e7, cdd_e7, .fields vs_e7, ccs_e7⟩)
    (evs_e7 : vs_e7[2]? = some (.str file_e7 tf_e7))
    (efi_e7 : ((l.prog.main.file : Str) == file_e7) = true)
    (ece_e7 : K.lookup cc_e7 = some ⟨cl_e7, cld_e7, .cell (some (.ref D_e7)), csl_e7⟩)
    (eD_e7 : PySem.W.clsIn K D_e7 = some cdD_e7)
    (ega_e7 : PySem.W.findIn K (.ref C_e7) "__getattribute__" = some (some (.builtin "BaseException.__getattribute__")))
    (egg_e7 : PySem.W.findIn K (.ref C_e7) "__getattr__" = some none)
    (ehd_e7 : PySem.W.hasDictIn K C_e7 = true)
    (eem_e7 : PySem.W.exmOne K (.ref C_e7) (.ref C_e7) = some true)
    (eaC_e8 : PySem.W.nsIn K mainGlobals "BadImage" = some (some (.ref C_e8)))
    (eaD_e8 : PySem.W.nsIn K mainGlobals "PlaceError" = some (some (.ref D_e8)))
    (elC_e8 : K.lookup C_e8 = some (excClassObj nm_e8 q_e8 C_e8 N_e8 bs_e8 bm_e8 true sn_e8 sub_e8 ab_e8 col_e8 dd_e8 k0_e8 k1_e8 k2_e8 k3_e8 k5_e8 "ValueError.__new__"))
    (ebm_e8 : PySem.HandSPX.refsVE bm_e8 = true)
    (esa_e8 : PySem.W.findIn K (.ref C_e8) "__setattr__" = some (some (.builtin "object.__setattr__")))
    (eex_e8 : PySem.W.subIn K (.ref C_e8) (.type "BaseException") = some true)
    (ety_e8 : PySem.W.typeIn K (.ref C_e8) = some (.type "type"))
    (ekp_e8 : PySem.W.keepIn K (.ref C_e8) = true)
    (emr_e8 : PySem.W.mroIn K C_e8 (.ref D_e8) = some true)
    (esu_e8 : PySem.W.ks_superIn K C_e8 D_e8 "__init__" = some (some (.builtin "ValueError.__init__")))
    (esb_e8 : PySem.W.subIn K (.ref C_e8) (.type "ValueError") = some true)
    (eno_e8 : PySem.W.findIn K (.ref C_e8) "place" = some none)
    (eiC_e8 : PySem.W.findIn K (.ref C_e8) "__init__" = some (some (.ref fI_e8)))
    (etI_e8 : PySem.W.typeIn K (.ref fI_e8) = some (.type "function"))
    (elk_e8 : K.lookup fI_e8 = some ⟨oc_e8, od_e8, .func (PySem.W.ksFn "__init__" "PlaceError.__init__" (defArgs s_ePlace) (defBody s_ePlace) (defScope s_ePlace) .none kV_e8 doc_e8 pm_e8 an_e8 (.ref cda_e8) ct_e8 cc_e8), osl_e8⟩)
    (ecd_e8 : PySem.W.codeIn K (.ref cda_e8) "PlaceError.__init__" = true)
    (eco_e8 : K.lookup cda_e8 = some ⟨ccl_e8, cdd_e8, .fields vs_e8, ccs_e8⟩)
    (evs_e8 : vs_e8[2]? = some (.str file_e8 tf_e8))
    (efi_e8 : ((l.prog.main.file : Str) == file_e8) = true)
    (ece_e8 : K.lookup cc_e8 = some ⟨cl_e8, cld_e8, .cell (some (.ref D_e8)), csl_e8⟩)
    (eD_e8 : PySem.W.clsIn K D_e8 = some cdD_e8)
    (ega_e8 : PySem.W.findIn K (.ref C_e8) "__getattribute__" = some (some (.builtin "BaseException.__getattribute__")))
    (egg_e8 : PySem.W.findIn K (.ref C_e8) "__getattr__" = some none)
    (ehd_e8 : PySem.W.hasDictIn K C_e8 = true)
    (eem_e8 : PySem.W.exmOne K (.ref C_e8) (.ref C_e8) = some true)
    (eaC_e9 : PySem.W.nsIn K mainGlobals "NotNested" = some (some (.ref C_e9)))
    (eaD_e9 : PySem.W.nsIn K mainGlobals "PlaceError" = some (some (.ref D_e9)))
    (elC_e9 : K.lookup C_e9 = some (excClassObj nm_e9 q_e9 C_e9 N_e9 bs_e9 bm_e9 true sn_e9 sub_e9 ab_e9 col_e9 dd_e9 k0_e9 k1_e9 k2_e9 k3_e9 k5_e9 "ValueError.__new__"))
    (ebm_e9 : PySem.HandSPX.refsVE bm_e9 = true)
    (esa_e9 : PySem.W.findIn K (.ref C_e9) "__setattr__" = some (some (.builtin "object.__setattr__")))
    (eex_e9 : PySem.W.subIn K (.ref C_e9) (.type "BaseException") = some true)
    (ety_e9 : PySem.W.typeIn K (.ref C_e9) = some (.type "type"))
    (ekp_e9 : PySem.W.keepIn K (.ref C_e9) = true)
    (emr_e9 : PySem.W.mroIn K C_e9 (.ref D_e9) = some true)
    (esu_e9 : PySem.W.ks_superIn K C_e9 D_e9 "__init__" = some (some (.builtin "ValueError.__init__")))
    (esb_e9 : PySem.W.subIn K (.ref C_e9) (.type "ValueError") = some true)
    (eno_e9 : PySem.W.findIn K (.ref C_e9) "place" = some none)
    (eiC_e9 : PySem.W.findIn K (.ref C_e9) "__init__" = some (some (.ref fI_e9)))
    (etI_e9 : PySem.W.typeIn K (.ref fI_e9) = some (.type "function"))
    (elk_e9 : K.lookup fI_e9 = some ⟨oc_e9, od_e9, .func (PySem.W.ksFn "__init__" "PlaceError.__init__" (defArgs s_ePlace) (defBody s_ePlace) (defScope s_ePlace) .none kV_e9 doc_e9 pm_e9 an_e9 (.ref cda_e9) ct_e9 cc_e9), osl_e9⟩)
    (ecd_e9 : PySem.W.codeIn K (.ref cda_e9) "PlaceError.__init__" = true)
    (eco_e9 : K.lookup cda_e9 = some ⟨ccl_e9, cdd_e9, .fields vs_e9, ccs_e9⟩)
    (evs_e9 : vs_e9[2]? = some (.str file_e9 tf_e9))
    (efi_e9 : ((l.prog.main.file : Str) == file_e9) = true)
    (ece_e9 : K.lookup cc_e9 = some ⟨cl_e9, cld_e9, .cell (some (.ref D_e9)), csl_e9⟩)
    (eD_e9 : PySem.W.clsIn K D_e9 = some cdD_e9)
    (ega_e9 : PySem.W.findIn K (.ref C_e9) "__getattribute__" = some (some (.builtin "BaseException.__getattribute__")))
    (egg_e9 : PySem.W.findIn K (.ref C_e9) "__getattr__" = some none)
    (ehd_e9 : PySem.W.hasDictIn K C_e9 = true)
    (eem_e9 : PySem.W.exmOne K (.ref C_e9) (.ref C_e9) = some true)
    (eaC_e10 : PySem.W.nsIn K mainGlobals "NoBound" = some (some (.ref C_e10)))
    (eaD_e10 : PySem.W.nsIn K mainGlobals "PlaceError" = some (some (.ref D_e10)))
    (elC_e10 : K.lookup C_e10 = some (excClassObj nm_e10 q_e10 C_e10 N_e10 bs_e10 bm_e10 true sn_e10 sub_e10 ab_e10 col_e10 dd_e10 k0_e10 k1_e10 k2_e10 k3_e10 k5_e10 "ValueError.__new__"))
    (ebm_e10 : PySem.HandSPX.refsVE bm_e10 = true)
    (esa_e10 : PySem.W.findIn K (.ref C_e10) "__setattr__" = some (some (.builtin "object.__setattr__")))
    (eex_e10 : PySem.W.subIn K (.ref C_e10) (.type "BaseException") = some true)
    (ety_e10 : PySem.W.typeIn K (.ref C_e10) = some (.type "type"))
    (ekp_e10 : PySem.W.keepIn K (.ref C_e10) = true)
    (emr_e10 : PySem.W.mroIn K C_e10 (.ref D_e10) = some true)
    (esu_e10 : PySem.W.ks_superIn K C_e10 D_e10 "__init__" = some (some (.builtin "ValueError.__init__")))
    (esb_e10 : PySem.W.subIn K (.ref C_e10) (.type "ValueError") = some true)
    (eno_e10 : PySem.W.findIn K (.ref C_e10) "place" = some none)
    (eiC_e10 : PySem.W.findIn K (.ref C_e10) "__init__" = some (some (.ref fI_e10)))
    (etI_e10 : PySem.W.typeIn K (.ref fI_e10) = some (.type "function"))
    (elk_e10 : K.lookup fI_e10 = some ⟨oc_e10, od_e10, .func (PySem.W.ksFn "__init__" "PlaceError.__init__" (defArgs s_ePlace) (defBody s_ePlace) (defScope s_ePlace) .none kV_e10 doc_e10 pm_e10 an_e10 (.ref cda_e10) ct_e10 cc_e10), osl_e10⟩)
    (ecd_e10 : PySem.W.codeIn K (.ref cda_e10) "PlaceError.__init__" = true)
    (eco_e10 : K.lookup cda_e10 = some ⟨ccl_e10, cdd_e10, .fields vs_e10, ccs_e10⟩)
    (evs_e10 : vs_e10[2]? = some (.str file_e10 tf_e10))
    (efi_e10 : ((l.prog.main.file : Str) == file_e10) = true)
    (ece_e10 : K.lookup cc_e10 = some ⟨cl_e10, cld_e10, .cell (some (.ref D_e10)), csl_e10⟩)
    (eD_e10 : PySem.W.clsIn K D_e10 = some cdD_e10)
    (ega_e10 : PySem.W.findIn K (.ref C_e10) "__getattribute__" = some (some (.builtin "BaseException.__getattribute__")))
    (egg_e10 : PySem.W.findIn K (.ref C_e10) "__getattr__" = some none)
    (ehd_e10 : PySem.W.hasDictIn K C_e10 = true)
    (eem_e10 : PySem.W.exmOne K (.ref C_e10) (.ref C_e10) = some true)
    (eaC_e11 : PySem.W.nsIn K mainGlobals "TooMany" = some (some (.ref C_e11)))
    (eaD_e11 : PySem.W.nsIn K mainGlobals "TooMany" = some (some (.ref D_e11)))
    (elC_e11 : K.lookup C_e11 = some (excClassObj nm_e11 q_e11 C_e11 N_e11 bs_e11 bm_e11 true sn_e11 sub_e11 ab_e11 col_e11 dd_e11 k0_e11 k1_e11 k2_e11 k3_e11 k5_e11 "ValueError.__new__"))
    (ebm_e11 : PySem.HandSPX.refsVE bm_e11 = true)
    (esa_e11 : PySem.W.findIn K (.ref C_e11) "__setattr__" = some (some (.builtin "object.__setattr__")))
    (eex_e11 : PySem.W.subIn K (.ref C_e11) (.type "BaseException") = some true)
    (ety_e11 : PySem.W.typeIn K (.ref C_e11) = some (.type "type"))
    (ekp_e11 : PySem.W.keepIn K (.ref C_e11) = true)
    (emr_e11 : PySem.W.mroIn K C_e11 (.ref D_e11) = some true)
    (esu_e11 : PySem.W.ks_superIn K C_e11 D_e11 "__init__" = some (some (.builtin "ValueError.__init__")))
    (esb_e11 : PySem.W.subIn K (.ref C_e11) (.type "ValueError") = some true)
    (eno_e11 : PySem.W.findIn K (.ref C_e11) "what" = some none)
    (eiC_e11 : PySem.W.findIn K (.ref C_e11) "__init__" = some (some (.ref fI_e11)))
    (etI_e11 : PySem.W.typeIn K (.ref fI_e11) = some (.type "function"))
    (elk_e11 : K.lookup fI_e11 = some ⟨oc_e11, od_e11, .func (PySem.W.ksFn "__init__" "TooMany.__init__" (defArgs s_eTooMany) (defBody s_eTooMany) (defScope s_eTooMany) .none kV_e11 doc_e11 pm_e11 an_e11 (.ref cda_e11) ct_e11 cc_e11), osl_e11⟩)
    (ecd_e11 : PySem.W.codeIn K (.ref cda_e11) "TooMany.__init__" = true)
    (eco_e11 : K.lookup cda_e11 = some ⟨ccl_e11, cdd_e11, .fields vs_e11, ccs_e11⟩)
    (evs_e11 : vs_e11[2]? = some (.str file_e11 tf_e11))
    (efi_e11 : ((l.prog.main.file : Str) == file_e11) = true)
    (ece_e11 : K.lookup cc_e11 = some ⟨cl_e11, cld_e11, .cell (some (.ref D_e11)), csl_e11⟩)
    (eD_e11 : PySem.W.clsIn K D_e11 = some cdD_e11)
    (ega_e11 : PySem.W.findIn K (.ref C_e11) "__getattribute__" = some (some (.builtin "BaseException.__getattribute__")))
    (egg_e11 : PySem.W.findIn K (.ref C_e11) "__getattr__" = some none)
    (ehd_e11 : PySem.W.hasDictIn K C_e11 = true)
    (eem_e11 : PySem.W.exmOne K (.ref C_e11) (.ref C_e11) = some true)
    (eaC_e12 : PySem.W.nsIn K mainGlobals "Refused" = some (some (.ref C_e12)))
    (eaD_e12 : PySem.W.nsIn K mainGlobals "Refused" = some (some (.ref D_e12)))
    (elC_e12 : K.lookup C_e12 = some (excClassObj nm_e12 q_e12 C_e12 N_e12 bs_e12 bm_e12 true sn_e12 sub_e12 ab_e12 col_e12 dd_e12 k0_e12 k1_e12 k2_e12 k3_e12 k5_e12 "ValueError.__new__"))
    (ebm_e12 : PySem.HandSPX.refsVE bm_e12 = true)
    (esa_e12 : PySem.W.findIn K (.ref C_e12) "__setattr__" = some (some (.builtin "object.__setattr__")))
    (eex_e12 : PySem.W.subIn K (.ref C_e12) (.type "BaseException") = some true)
    (ety_e12 : PySem.W.typeIn K (.ref C_e12) = some (.type "type"))
    (ekp_e12 : PySem.W.keepIn K (.ref C_e12) = true)
    (emr_e12 : PySem.W.mroIn K C_e12 (.ref D_e12) = some true)
    (esu_e12 : PySem.W.ks_superIn K C_e12 D_e12 "__init__" = some (some (.builtin "ValueError.__init__")))
    (esb_e12 : PySem.W.subIn K (.ref C_e12) (.type "ValueError") = some true)
    (eno_e12 : PySem.W.findIn K (.ref C_e12) "what" = some none)
    (eiC_e12 : PySem.W.findIn K (.ref C_e12) "__init__" = some (some (.ref fI_e12)))
    (etI_e12 : PySem.W.typeIn K (.ref fI_e12) = some (.type "function"))
    (elk_e12 : K.lookup fI_e12 = some ⟨oc_e12, od_e12, .func (PySem.W.ksFn "__init__" "Refused.__init__" (defArgs s_eRefused) (defBody s_eRefused) (defScope s_eRefused) .none kV_e12 doc_e12 pm_e12 an_e12 (.ref cda_e12) ct_e12 cc_e12), osl_e12⟩)
    (ecd_e12 : PySem.W.codeIn K (.ref cda_e12) "Refused.__init__" = true)
    (eco_e12 : K.lookup cda_e12 = some ⟨ccl_e12, cdd_e12, .fields vs_e12, ccs_e12⟩)
    (evs_e12 : vs_e12[2]? = some (.str file_e12 tf_e12))
    (efi_e12 : ((l.prog.main.file : Str) == file_e12) = true)
    (ece_e12 : K.lookup cc_e12 = some ⟨cl_e12, cld_e12, .cell (some (.ref D_e12)), csl_e12⟩)
    (eD_e12 : PySem.W.clsIn K D_e12 = some cdD_e12)
    (ega_e12 : PySem.W.findIn K (.ref C_e12) "__getattribute__" = some (some (.builtin "BaseException.__getattribute__")))
    (egg_e12 : PySem.W.findIn K (.ref C_e12) "__getattr__" = some none)
    (ehd_e12 : PySem.W.hasDictIn K C_e12 = true)
    (eem_e12 : PySem.W.exmOne K (.ref C_e12) (.ref C_e12) = some true)
    (eaC_e13 : PySem.W.nsIn K mainGlobals "BadTasks" = some (some (.ref C_e13)))
    (eaD_e13 : PySem.W.nsIn K mainGlobals "BadTasks" = some (some (.ref D_e13)))
    (elC_e13 : K.lookup C_e13 = some (excClassObj nm_e13 q_e13 C_e13 N_e13 bs_e13 bm_e13 true sn_e13 sub_e13 ab_e13 col_e13 dd_e13 k0_e13 k1_e13 k2_e13 k3_e13 k5_e13 "ValueError.__new__"))
    (ebm_e13 : PySem.HandSPX.refsVE bm_e13 = true)
    (esa_e13 : PySem.W.findIn K (.ref C_e13) "__setattr__" = some (some (.builtin "object.__setattr__")))
    (eex_e13 : PySem.W.subIn K (.ref C_e13) (.type "BaseException") = some true)
    (ety_e13 : PySem.W.typeIn K (.ref C_e13) = some (.type "type"))
    (ekp_e13 : PySem.W.keepIn K (.ref C_e13) = true)
    (emr_e13 : PySem.W.mroIn K C_e13 (.ref D_e13) = some true)
    (esu_e13 : PySem.W.ks_superIn K C_e13 D_e13 "__init__" = some (some (.builtin "ValueError.__init__")))
    (esb_e13 : PySem.W.subIn K (.ref C_e13) (.type "ValueError") = some true)
    (eno_e13 : PySem.W.findIn K (.ref C_e13) "index" = some none)
    (eiC_e13 : PySem.W.findIn K (.ref C_e13) "__init__" = some (some (.ref fI_e13)))
    (etI_e13 : PySem.W.typeIn K (.ref fI_e13) = some (.type "function"))
    (elk_e13 : K.lookup fI_e13 = some ⟨oc_e13, od_e13, .func (PySem.W.ksFn "__init__" "BadTasks.__init__" (defArgs s_eBadTasks) (defBody s_eBadTasks) (defScope s_eBadTasks) .none kV_e13 doc_e13 pm_e13 an_e13 (.ref cda_e13) ct_e13 cc_e13), osl_e13⟩)
    (ecd_e13 : PySem.W.codeIn K (.ref cda_e13) "BadTasks.__init__" = true)
    (eco_e13 : K.lookup cda_e13 = some ⟨ccl_e13, cdd_e13, .fields vs_e13, ccs_e13⟩)
    (evs_e13 : vs_e13[2]? = some (.str file_e13 tf_e13))
    (efi_e13 : ((l.prog.main.file : Str) == file_e13) = true)
    (ece_e13 : K.lookup cc_e13 = some ⟨cl_e13, cld_e13, .cell (some (.ref D_e13)), csl_e13⟩)
    (eD_e13 : PySem.W.clsIn K D_e13 = some cdD_e13)
    (ega_e13 : PySem.W.findIn K (.ref C_e13) "__getattribute__" = some (some (.builtin "BaseException.__getattribute__")))
    (egg_e13 : PySem.W.findIn K (.ref C_e13) "__getattr__" = some none)
    (ehd_e13 : PySem.W.hasDictIn K C_e13 = true)
    (eem_e13 : PySem.W.exmOne K (.ref C_e13) (.ref C_e13) = some true)
    (etop : (l.prog.main.scope.names.lookup ("super" : Str)).isSome = false)
    (eopq : PySem.W.nsIn K cStatics "thirdparty.any" = some none)
    (z_super : PySem.W.nsIn K mainGlobals "super" = some none)
    (z_str : PySem.W.nsIn K mainGlobals "str" = some none)
    (ca_CI : PySem.W.nsIn K mainGlobals "Image" = some (some (.ref CI)))
    (cpg_CI : PySem.W.plainGet K CI Str.empty = true)
    (chd_CI : PySem.W.hasDictIn K CI = true)
    (cpo_CI : PySem.W.plainOver K CI = true)
    (csa_CI : PySem.W.findIn K (.ref CI) "__setattr__" = some (some (.builtin "object.__setattr__")))
    (cmk_CI : PySem.W.makesIn K CI = true)
    (ckp_CI : PySem.W.keepIn K (.ref CI) = true)
    (cha_CI : PySem.W.findIn K (.ref CI) "__class__" = some (some (.builtin "object.__class__")))
    (chn_CI : PySem.W.specialIn K (.builtin "object.__class__") "__get__" = some (some (.builtin "getset_descriptor.__get__")))
    (cht_CI : PySem.W.takesIn K (.builtin "object.__class__") = some true)
    (chm_CI : PySem.W.mroIn K CI (.type "object") = some true)
    (cme_CI : PySem.W.kitOne K (.ref CI) (.ref CI) = some true)
    (cne_CI : PySem.W.findIn K (.ref CI) "__ne__" = some (some (.builtin "object.__ne__")))
    (cn_slots_CI : PySem.W.findIn K (.ref CI) "slots" = some none)
    (cn_cells_CI : PySem.W.findIn K (.ref CI) "cells" = some none)
    (cn_registers_CI : PySem.W.findIn K (.ref CI) "registers" = some none)
    (cn_entries_CI : PySem.W.findIn K (.ref CI) "entries" = some none)
    (cn_claims_CI : PySem.W.findIn K (.ref CI) "claims" = some none)
    (cnf_int_CI : PySem.W.notFirst K CI (.type "int") = true)
    (cko_int_CI : PySem.W.kitOne K (.type "int") (.ref CI) = some false)
    (cnf_str_CI : PySem.W.notFirst K CI (.type "str") = true)
    (cko_str_CI : PySem.W.kitOne K (.type "str") (.ref CI) = some false)
    (cnf_tuple_CI : PySem.W.notFirst K CI (.type "tuple") = true)
    (cko_tuple_CI : PySem.W.kitOne K (.type "tuple") (.ref CI) = some false)
    (a_Image_init : PySem.W.findIn K (.ref CI) "__init__" = some (some (.ref f_Image_init)))
    (l_Image_init : K.lookup f_Image_init = some ⟨oc_Image_init, od_Image_init, .func (PySem.W.fnOf "__init__" "Image.__init__" (defArgs s_Image_init) (defBody s_Image_init) (defScope s_Image_init) .none kV_Image_init dc_Image_init pm_Image_init an_Image_init cd_Image_init ct_Image_init), sl_Image_init⟩)
    (c_Image_init : PySem.W.codeIn K cd_Image_init "Image.__init__" = true)
    (k_Image_init : PySem.W.keepIn K (.ref f_Image_init) = true)
    (i_Image_init : PySem.W.isFn K (.ref f_Image_init) = true)
    (a_Image_instruction : PySem.W.findIn K (.ref CI) "instruction" = some (some (.ref f_Image_instruction)))
    (l_Image_instruction : K.lookup f_Image_instruction = some ⟨oc_Image_instruction, od_Image_instruction, .func (PySem.W.fnOf "instruction" "Image.instruction" (defArgs s_Image_instruction) (defBody s_Image_instruction) (defScope s_Image_instruction) .none kV_Image_instruction dc_Image_instruction pm_Image_instruction an_Image_instruction cd_Image_instruction ct_Image_instruction), sl_Image_instruction⟩)
    (c_Image_instruction : PySem.W.codeIn K cd_Image_instruction "Image.instruction" = true)
    (k_Image_instruction : PySem.W.keepIn K (.ref f_Image_instruction) = true)
    (i_Image_instruction : PySem.W.isFn K (.ref f_Image_instruction) = true)
    (a_Image_entry : PySem.W.findIn K (.ref CI) "entry" = some (some (.ref f_Image_entry)))
    (l_Image_entry : K.lookup f_Image_entry = some ⟨oc_Image_entry, od_Image_entry, .func (PySem.W.fnOf "entry" "Image.entry" (defArgs s_Image_entry) (defBody s_Image_entry) (defScope s_Image_entry) .none kV_Image_entry dc_Image_entry pm_Image_entry an_Image_entry cd_Image_entry ct_Image_entry), sl_Image_entry⟩)
    (c_Image_entry : PySem.W.codeIn K cd_Image_entry "Image.entry" = true)
    (k_Image_entry : PySem.W.keepIn K (.ref f_Image_entry) = true)
    (i_Image_entry : PySem.W.isFn K (.ref f_Image_entry) = true)
    (a_Image_eq : PySem.W.findIn K (.ref CI) "__eq__" = some (some (.ref f_Image_eq)))
    (l_Image_eq : K.lookup f_Image_eq = some ⟨oc_Image_eq, od_Image_eq, .func (PySem.W.fnOf "__eq__" "Image.__eq__" (defArgs s_Image_eq) (defBody s_Image_eq) (defScope s_Image_eq) .none kV_Image_eq dc_Image_eq pm_Image_eq an_Image_eq cd_Image_eq ct_Image_eq), sl_Image_eq⟩)
    (c_Image_eq : PySem.W.codeIn K cd_Image_eq "Image.__eq__" = true)
    (k_Image_eq : PySem.W.keepIn K (.ref f_Image_eq) = true)
    (i_Image_eq : PySem.W.isFn K (.ref f_Image_eq) = true)
    (pa_Image_locations : PySem.W.findIn K (.ref CI) "locations" = some (some (.ref p_Image_locations)))
    (pg_Image_locations : PySem.W.specialIn K (.ref p_Image_locations) "__get__" = some (some (.builtin "property.__get__")))
    (pt_Image_locations : PySem.W.takesIn K (.ref p_Image_locations) = some true)
    (pr_Image_locations : PySem.W.recIn K p_Image_locations "property" = some (.ref f_Image_locations :: r_Image_locations))
    (l_Image_locations : K.lookup f_Image_locations = some ⟨oc_Image_locations, od_Image_locations, .func (PySem.W.fnOf "locations" "Image.locations" (defArgs s_Image_locations) (defBody s_Image_locations) (defScope s_Image_locations) .none kV_Image_locations dc_Image_locations pm_Image_locations an_Image_locations cd_Image_locations ct_Image_locations), sl_Image_locations⟩)
    (c_Image_locations : PySem.W.codeIn K cd_Image_locations "Image.locations" = true)
    (k_Image_locations : PySem.W.keepIn K (.ref f_Image_locations) = true)
    (i_Image_locations : PySem.W.isFn K (.ref f_Image_locations) = true)
    (ea_e14 : PySem.W.nsIn K mainGlobals "BadInputs" = some (some (.ref C_e14)))
    (ea_e15 : PySem.W.nsIn K mainGlobals "BadEdit" = some (some (.ref C_e15)))
    (ea_cB : PySem.W.nsIn K mainGlobals "BeatsError" = some (some (.ref cB)))
    (ea_cL : PySem.W.nsIn K mainGlobals "LineError" = some (some (.ref cL)))
    (ea_cN : PySem.W.nsIn K mainGlobals "BadName" = some (some (.ref cN)))
    (ea_cP : PySem.W.nsIn K mainGlobals "PlaceError" = some (some (.ref cP)))
    (eq_e14 : PySem.W.excIn K C_e14 [.type "ValueError", .type "Exception", .type "BaseException", .type "object"] "ValueError.__new__" = true)
    (eq_e15 : PySem.W.excIn K C_e15 [.type "ValueError", .type "Exception", .type "BaseException", .type "object"] "ValueError.__new__" = true)
    (ek_e14 : PySem.W.keepIn K (.ref C_e14) = true)
    (ek_e15 : PySem.W.keepIn K (.ref C_e15) = true)
    (bulk : bulkE K (EC.mk (fun i => ([C_e0, C_e1, C_e2, C_e3, C_e4, C_e5, C_e6, C_e7, C_e8, C_e9, C_e10, C_e11, C_e12, C_e13, C_e14, C_e15] : List Addr).getD i 0) cB cL cN cP) = true)
    : ∃ fd : FuncData, (∀ (s : Shared) (v : Value), BindsTo s fd ⟨[v], []⟩ [("script", v)]) ∧ ∀ base : Heap, K.In base → base.Ns mainGlobals mg → FnOk l.prog w K mg base (L2.CX l.prog w) 6 fa fd ["script"] (spLaw K) := by
  have e := hfa.symm.trans (PySem.W.mg_of X G a_law)
  cases e
  have Er_e0 : ∀ base, Err l.prog w K mg base "BadText" C_e0 "line" := fun base => err_mk (st := s_eLine) (y := "line") (PySem.W.mg_of X G eaC_e0) elC_e0 ebm_e0 esa_e0 eex_e0 ety_e0 ekp_e0 emr_e0 esu_e0 esb_e0 eno_e0 eiC_e0 etI_e0 elk_e0 (by rfl) ecd_e0 (nscope_by (by decide +kernel)) (by rfl) (by rfl) eco_e0 evs_e0 efi_e0 etop ece_e0 eD_e0 (PySem.W.mg_none_of X G z_super) eopq (by rfl) (by rfl) (PySem.W.mg_none_of X G z_str) (by decide) (by decide) (by decide) (fun _ => rfl) (fun _ => rfl) ega_e0 egg_e0 ehd_e0 eem_e0 (fun us hl => match us, hl with | [_, _], _ => rfl)
  have Er_e1 : ∀ base, Err l.prog w K mg base "BadUse" C_e1 "line" := fun base => err_mk (st := s_eLine) (y := "line") (PySem.W.mg_of X G eaC_e1) elC_e1 ebm_e1 esa_e1 eex_e1 ety_e1 ekp_e1 emr_e1 esu_e1 esb_e1 eno_e1 eiC_e1 etI_e1 elk_e1 (by rfl) ecd_e1 (nscope_by (by decide +kernel)) (by rfl) (by rfl) eco_e1 evs_e1 efi_e1 etop ece_e1 eD_e1 (PySem.W.mg_none_of X G z_super) eopq (by rfl) (by rfl) (PySem.W.mg_none_of X G z_str) (by decide) (by decide) (by decide) (fun _ => rfl) (fun _ => rfl) ega_e1 egg_e1 ehd_e1 eem_e1 (fun us hl => match us, hl with | [_, _], _ => rfl)
  have Er_e2 : ∀ base, Err l.prog w K mg base "BadMachine" C_e2 "line" := fun base => err_mk (st := s_eLine) (y := "line") (PySem.W.mg_of X G eaC_e2) elC_e2 ebm_e2 esa_e2 eex_e2 ety_e2 ekp_e2 emr_e2 esu_e2 esb_e2 eno_e2 eiC_e2 etI_e2 elk_e2 (by rfl) ecd_e2 (nscope_by (by decide +kernel)) (by rfl) (by rfl) eco_e2 evs_e2 efi_e2 etop ece_e2 eD_e2 (PySem.W.mg_none_of X G z_super) eopq (by rfl) (by rfl) (PySem.W.mg_none_of X G z_str) (by decide) (by decide) (by decide) (fun _ => rfl) (fun _ => rfl) ega_e2 egg_e2 ehd_e2 eem_e2 (fun us hl => match us, hl with | [_, _], _ => rfl)
  have Er_e3 : ∀ base, Err l.prog w K mg base "BadFile" C_e3 "line" := fun base => err_mk (st := s_eLine) (y := "line") (PySem.W.mg_of X G eaC_e3) elC_e3 ebm_e3 esa_e3 eex_e3 ety_e3 ekp_e3 emr_e3 esu_e3 esb_e3 eno_e3 eiC_e3 etI_e3 elk_e3 (by rfl) ecd_e3 (nscope_by (by decide +kernel)) (by rfl) (by rfl) eco_e3 evs_e3 efi_e3 etop ece_e3 eD_e3 (PySem.W.mg_none_of X G z_super) eopq (by rfl) (by rfl) (PySem.W.mg_none_of X G z_str) (by decide) (by decide) (by decide) (fun _ => rfl) (fun _ => rfl) ega_e3 egg_e3 ehd_e3 eem_e3 (fun us hl => match us, hl with | [_, _], _ => rfl)
  have Er_e4 : ∀ base, Err l.prog w K mg base "UnknownName" C_e4 "name" := fun base => err_mk (st := s_eName) (y := "name") (PySem.W.mg_of X G eaC_e4) elC_e4 ebm_e4 esa_e4 eex_e4 ety_e4 ekp_e4 emr_e4 esu_e4 esb_e4 eno_e4 eiC_e4 etI_e4 elk_e4 (by rfl) ecd_e4 (nscope_by (by decide +kernel)) (by rfl) (by rfl) eco_e4 evs_e4 efi_e4 etop ece_e4 eD_e4 (PySem.W.mg_none_of X G z_super) eopq (by rfl) (by rfl) (PySem.W.mg_none_of X G z_str) (by decide) (by decide) (by decide) (fun _ => rfl) (fun _ => rfl) ega_e4 egg_e4 ehd_e4 eem_e4 (fun us hl => match us, hl with | [_, _], _ => rfl)
  have Er_e5 : ∀ base, Err l.prog w K mg base "DuplicateName" C_e5 "name" := fun base => err_mk (st := s_eName) (y := "name") (PySem.W.mg_of X G eaC_e5) elC_e5 ebm_e5 esa_e5 eex_e5 ety_e5 ekp_e5 emr_e5 esu_e5 esb_e5 eno_e5 eiC_e5 etI_e5 elk_e5 (by rfl) ecd_e5 (nscope_by (by decide +kernel)) (by rfl) (by rfl) eco_e5 evs_e5 efi_e5 etop ece_e5 eD_e5 (PySem.W.mg_none_of X G z_super) eopq (by rfl) (by rfl) (PySem.W.mg_none_of X G z_str) (by decide) (by decide) (by decide) (fun _ => rfl) (fun _ => rfl) ega_e5 egg_e5 ehd_e5 eem_e5 (fun us hl => match us, hl with | [_, _], _ => rfl)
  have Er_e6 : ∀ base, Err l.prog w K mg base "UnresolvedName" C_e6 "name" := fun base => err_mk (st := s_eName) (y := "name") (PySem.W.mg_of X G eaC_e6) elC_e6 ebm_e6 esa_e6 eex_e6 ety_e6 ekp_e6 emr_e6 esu_e6 esb_e6 eno_e6 eiC_e6 etI_e6 elk_e6 (by rfl) ecd_e6 (nscope_by (by decide +kernel)) (by rfl) (by rfl) eco_e6 evs_e6 efi_e6 etop ece_e6 eD_e6 (PySem.W.mg_none_of X G z_super) eopq (by rfl) (by rfl) (PySem.W.mg_none_of X G z_str) (by decide) (by decide) (by decide) (fun _ => rfl) (fun _ => rfl) ega_e6 egg_e6 ehd_e6 eem_e6 (fun us hl => match us, hl with | [_, _], _ => rfl)
  have Er_e7 : ∀ base, Err l.prog w K mg base "BadPass" C_e7 "name" := fun base => err_mk (st := s_eName) (y := "name") (PySem.W.mg_of X G eaC_e7) elC_e7 ebm_e7 esa_e7 eex_e7 ety_e7 ekp_e7 emr_e7 esu_e7 esb_e7 eno_e7 eiC_e7 etI_e7 elk_e7 (by rfl) ecd_e7 (nscope_by (by decide +kernel)) (by rfl) (by rfl) eco_e7 evs_e7 efi_e7 etop ece_e7 eD_e7 (PySem.W.mg_none_of X G z_super) eopq (by rfl) (by rfl) (PySem.W.mg_none_of X G z_str) (by decide) (by decide) (by decide) (fun _ => rfl) (fun _ => rfl) ega_e7 egg_e7 ehd_e7 eem_e7 (fun us hl => match us, hl with | [_, _], _ => rfl)
  have Er_e8 : ∀ base, Err l.prog w K mg base "BadImage" C_e8 "place" := fun base => err_mk (st := s_ePlace) (y := "place") (PySem.W.mg_of X G eaC_e8) elC_e8 ebm_e8 esa_e8 eex_e8 ety_e8 ekp_e8 emr_e8 esu_e8 esb_e8 eno_e8 eiC_e8 etI_e8 elk_e8 (by rfl) ecd_e8 (nscope_by (by decide +kernel)) (by rfl) (by rfl) eco_e8 evs_e8 efi_e8 etop ece_e8 eD_e8 (PySem.W.mg_none_of X G z_super) eopq (by rfl) (by rfl) (PySem.W.mg_none_of X G z_str) (by decide) (by decide) (by decide) (fun _ => rfl) (fun _ => rfl) ega_e8 egg_e8 ehd_e8 eem_e8 (fun us hl => match us, hl with | [_, _], _ => rfl)
  have Er_e9 : ∀ base, Err l.prog w K mg base "NotNested" C_e9 "place" := fun base => err_mk (st := s_ePlace) (y := "place") (PySem.W.mg_of X G eaC_e9) elC_e9 ebm_e9 esa_e9 eex_e9 ety_e9 ekp_e9 emr_e9 esu_e9 esb_e9 eno_e9 eiC_e9 etI_e9 elk_e9 (by rfl) ecd_e9 (nscope_by (by decide +kernel)) (by rfl) (by rfl) eco_e9 evs_e9 efi_e9 etop ece_e9 eD_e9 (PySem.W.mg_none_of X G z_super) eopq (by rfl) (by rfl) (PySem.W.mg_none_of X G z_str) (by decide) (by decide) (by decide) (fun _ => rfl) (fun _ => rfl) ega_e9 egg_e9 ehd_e9 eem_e9 (fun us hl => match us, hl with | [_, _], _ => rfl)
  have Er_e10 : ∀ base, Err l.prog w K mg base "NoBound" C_e10 "place" := fun base => err_mk (st := s_ePlace) (y := "place") (PySem.W.mg_of X G eaC_e10) elC_e10 ebm_e10 esa_e10 eex_e10 ety_e10 ekp_e10 emr_e10 esu_e10 esb_e10 eno_e10 eiC_e10 etI_e10 elk_e10 (by rfl) ecd_e10 (nscope_by (by decide +kernel)) (by rfl) (by rfl) eco_e10 evs_e10 efi_e10 etop ece_e10 eD_e10 (PySem.W.mg_none_of X G z_super) eopq (by rfl) (by rfl) (PySem.W.mg_none_of X G z_str) (by decide) (by decide) (by decide) (fun _ => rfl) (fun _ => rfl) ega_e10 egg_e10 ehd_e10 eem_e10 (fun us hl => match us, hl with | [_, _], _ => rfl)
  have Er_e11 : ∀ base, Err l.prog w K mg base "TooMany" C_e11 "what" := fun base => err_mk (st := s_eTooMany) (y := "what") (PySem.W.mg_of X G eaC_e11) elC_e11 ebm_e11 esa_e11 eex_e11 ety_e11 ekp_e11 emr_e11 esu_e11 esb_e11 eno_e11 eiC_e11 etI_e11 elk_e11 (by rfl) ecd_e11 (nscope_by (by decide +kernel)) (by rfl) (by rfl) eco_e11 evs_e11 efi_e11 etop ece_e11 eD_e11 (PySem.W.mg_none_of X G z_super) eopq (by rfl) (by rfl) (PySem.W.mg_none_of X G z_str) (by decide) (by decide) (by decide) (fun _ => rfl) (fun _ => rfl) ega_e11 egg_e11 ehd_e11 eem_e11 (fun us hl => match us, hl with | [_, _], _ => rfl)
  have Er_e12 : ∀ base, Err l.prog w K mg base "Refused" C_e12 "what" := fun base => err_mk (st := s_eRefused) (y := "what") (PySem.W.mg_of X G eaC_e12) elC_e12 ebm_e12 esa_e12 eex_e12 ety_e12 ekp_e12 emr_e12 esu_e12 esb_e12 eno_e12 eiC_e12 etI_e12 elk_e12 (by rfl) ecd_e12 (nscope_by (by decide +kernel)) (by rfl) (by rfl) eco_e12 evs_e12 efi_e12 etop ece_e12 eD_e12 (PySem.W.mg_none_of X G z_super) eopq (by rfl) (by rfl) (PySem.W.mg_none_of X G z_str) (by decide) (by decide) (by decide) (fun _ => rfl) (fun _ => rfl) ega_e12 egg_e12 ehd_e12 eem_e12 (fun us hl => match us, hl with | [_, _], _ => rfl)
  have Er_e13 : ∀ base, Err l.prog w K mg base "BadTasks" C_e13 "index" := fun base => err_mk (st := s_eBadTasks) (y := "index") (PySem.W.mg_of X G eaC_e13) elC_e13 ebm_e13 esa_e13 eex_e13 ety_e13 ekp_e13 emr_e13 esu_e13 esb_e13 eno_e13 eiC_e13 etI_e13 elk_e13 (by rfl) ecd_e13 (nscope_by (by decide +kernel)) (by rfl) (by rfl) eco_e13 evs_e13 efi_e13 etop ece_e13 eD_e13 (PySem.W.mg_none_of X G z_super) eopq (by rfl) (by rfl) (PySem.W.mg_none_of X G z_str) (by decide) (by decide) (by decide) (fun _ => rfl) (fun _ => rfl) ega_e13 egg_e13 ehd_e13 eem_e13 (fun us hl => match us, hl with | [_, _], _ => rfl)
  have cl_CI : Cls K CI := ⟨cpg_CI, chd_CI, cpo_CI, csa_CI⟩
  have ix_CI : C8.InsC K CI := ⟨cl_CI, cha_CI, chn_CI, cht_CI, chm_CI, cme_CI⟩
  have ow_CI : BC.OwnE K CI := ⟨cne_CI, chm_CI⟩
  have D_Image_init : BC.DefM K CI "__init__" "Image.__init__" P_Image_init s_Image_init := BC.defM_mk (fun_mk (st := s_Image_init) l_Image_init c_Image_init k_Image_init) ⟨a_Image_init, i_Image_init, k_Image_init⟩ fun _ _ _ _ _ _ us hl => match us, hl with | [_, _, _, _, _, _], _ => rfl
  have Mk_CI : L2.Mk K CI f_Image_init := ⟨cmk_CI, a_Image_init, i_Image_init, ckp_CI⟩
  have D_Image_instruction : BC.DefM K CI "instruction" "Image.instruction" P_Image_instruction s_Image_instruction := BC.defM_mk (fun_mk (st := s_Image_instruction) l_Image_instruction c_Image_instruction k_Image_instruction) ⟨a_Image_instruction, i_Image_instruction, k_Image_instruction⟩ fun _ _ _ _ _ _ us hl => match us, hl with | [_, _], _ => rfl
  have D_Image_entry : BC.DefM K CI "entry" "Image.entry" P_Image_entry s_Image_entry := BC.defM_mk (fun_mk (st := s_Image_entry) l_Image_entry c_Image_entry k_Image_entry) ⟨a_Image_entry, i_Image_entry, k_Image_entry⟩ fun _ _ _ _ _ _ us hl => match us, hl with | [_, _], _ => rfl
  have D_Image_eq : BC.DefM K CI "__eq__" "Image.__eq__" P_Image_eq s_Image_eq := BC.defM_mk (fun_mk (st := s_Image_eq) l_Image_eq c_Image_eq k_Image_eq) ⟨a_Image_eq, i_Image_eq, k_Image_eq⟩ fun _ _ _ _ _ _ us hl => match us, hl with | [_, _], _ => rfl
  have D_Image_locations : BC.DefP K CI "locations" "Image.locations" P_Image_locations s_Image_locations := by
    have F := fun_mk (st := s_Image_locations) l_Image_locations c_Image_locations k_Image_locations
    exact ⟨p_Image_locations, f_Image_locations, _, F, ⟨pa_Image_locations, pg_Image_locations, pt_Image_locations, r_Image_locations, pr_Image_locations⟩, F.binds fun _ _ _ _ _ _ us hl => match us, hl with | [_], _ => rfl⟩
  have T : Txt K w mg ⟨aK, aO, CI⟩ := { b_len := PySem.W.mg_none_of X G z_len, b_int := PySem.W.mg_none_of X G z_int, b_bool := PySem.W.mg_none_of X G z_bool, b_list := PySem.W.mg_none_of X G z_list, b_tuple := PySem.W.mg_none_of X G z_tuple, b_abs := PySem.W.mg_none_of X G z_abs, b_max := PySem.W.mg_none_of X G z_max, b_range := PySem.W.mg_none_of X G z_range, b_isinstance := PySem.W.mg_none_of X G z_isinstance, b_ValueError := PySem.W.mg_none_of X G z_ValueError, c_LOW := ⟨_, PySem.W.mg_of X G v_LOW, ⟨_, rfl⟩⟩, c_HIGH := ⟨_, PySem.W.mg_of X G v_HIGH, ⟨_, rfl⟩⟩, c_MOST_CODE := ⟨_, PySem.W.mg_of X G v_MOST_CODE, ⟨_, rfl⟩⟩, c_KINDS := ⟨_, PySem.W.mg_of X G v_KINDS, rfl⟩, c_OPERANDS := ⟨_, PySem.W.mg_of X G v_OPERANDS, rfl⟩, kinds := tup_mk tl_0 tv_0 (by decide), ops := BD.stab_of dl_0 dw_0 dr_0, cl_Image := cl_CI, ow_Image := ow_CI, ix_Image := ix_CI, n_slots := cn_slots_CI, n_cells := cn_cells_CI, n_registers := cn_registers_CI, n_entries := cn_entries_CI, n_claims := cn_claims_CI, nfI := cnf_int_CI, nfS := cnf_str_CI, nfT := cnf_tuple_CI, koI := cko_int_CI, koS := cko_str_CI, koT := cko_tuple_CI, g_Image := ⟨_, PySem.W.mg_of X G ca_CI, rfl⟩ }
  have D_is_word : Def K mg "is_word" P_is_word s_is_word := def_mk (fun_mk (st := s_is_word) l_is_word c_is_word k_is_word) (PySem.W.mg_of X G a_is_word) fun _ _ _ _ _ _ us hl => match us, hl with | [_], _ => rfl
  have D_fits : Def K mg "fits" P_fits s_fits := def_mk (fun_mk (st := s_fits) l_fits c_fits k_fits) (PySem.W.mg_of X G a_fits) fun _ _ _ _ _ _ us hl => match us, hl with | [_, _, _, _], _ => rfl
  have D_decode : Def K mg "decode" P_decode s_decode := def_mk (fun_mk (st := s_decode) l_decode c_decode k_decode) (PySem.W.mg_of X G a_decode) fun _ _ _ _ _ _ us hl => match us, hl with | [_, _, _, _], _ => rfl
  have D_law_cell : Def K mg "_law_cell" P_law_cell s_law_cell := def_mk (fun_mk (st := s_law_cell) l_law_cell c_law_cell k_law_cell) (PySem.W.mg_of X G a_law_cell) fun _ _ _ _ _ _ us hl => match us, hl with | [_, _], _ => rfl
  have D_law_row : Def K mg "_law_row" P_law_row s_law_row := def_mk (fun_mk (st := s_law_row) l_law_row c_law_row k_law_row) (PySem.W.mg_of X G a_law_row) fun _ _ _ _ _ _ us hl => match us, hl with | [_, _, _], _ => rfl
  have D_law_name : Def K mg "_law_name" P_law_name s_law_name := def_mk (fun_mk (st := s_law_name) l_law_name c_law_name k_law_name) (PySem.W.mg_of X G a_law_name) fun _ _ _ _ _ _ us hl => match us, hl with | [_], _ => rfl
  have D_law_entry : Def K mg "_law_entry" P_law_entry s_law_entry := def_mk (fun_mk (st := s_law_entry) l_law_entry c_law_entry k_law_entry) (PySem.W.mg_of X G a_law_entry) fun _ _ _ _ _ _ us hl => match us, hl with | [_, _], _ => rfl
  have D_law_entry_of : Def K mg "_law_entry_of" P_law_entry_of s_law_entry_of := def_mk (fun_mk (st := s_law_entry_of) l_law_entry_of c_law_entry_of k_law_entry_of) (PySem.W.mg_of X G a_law_entry_of) fun _ _ _ _ _ _ us hl => match us, hl with | [_, _], _ => rfl
  have D_law_read : Def K mg "_law_read" P_law_read s_law_read := def_mk (fun_mk (st := s_law_read) l_law_read c_law_read k_law_read) (PySem.W.mg_of X G a_law_read) fun _ _ _ _ _ _ us hl => match us, hl with | [_, _], _ => rfl
  have D_law_due : Def K mg "_law_due" P_law_due s_law_due := def_mk (fun_mk (st := s_law_due) l_law_due c_law_due k_law_due) (PySem.W.mg_of X G a_law_due) fun _ _ _ _ _ _ us hl => match us, hl with | [_, _, _, _], _ => rfl
  have D_law_parts : Def K mg "_law_parts" P_law_parts s_law_parts := def_mk (fun_mk (st := s_law_parts) l_law_parts c_law_parts k_law_parts) (PySem.W.mg_of X G a_law_parts) fun _ _ _ _ _ _ us hl => match us, hl with | [_, _, _, _, _, _], _ => rfl
  have D_law_errors : Def K mg "_law_errors" P_law_errors s_law_errors := def_mk (fun_mk (st := s_law_errors) l_law_errors c_law_errors k_law_errors) (PySem.W.mg_of X G a_law_errors) fun _ _ _ _ _ _ us hl => match us, hl with | [_, _], _ => rfl
  have D_law_unequal : Def K mg "_law_unequal" P_law_unequal s_law_unequal := def_mk (fun_mk (st := s_law_unequal) l_law_unequal c_law_unequal k_law_unequal) (PySem.W.mg_of X G a_law_unequal) fun _ _ _ _ _ _ us hl => match us, hl with | [_, _, _, _, _, _], _ => rfl
  have TE : TxtE K mg (EC.mk (fun i => ([C_e0, C_e1, C_e2, C_e3, C_e4, C_e5, C_e6, C_e7, C_e8, C_e9, C_e10, C_e11, C_e12, C_e13, C_e14, C_e15] : List Addr).getD i 0) cB cL cN cP) := bulk_ok bulk (PySem.W.mg_none_of X G z_isinstance) (PySem.W.mg_none_of X G z_ValueError) (PySem.W.mg_none_of X G z_len) (PySem.W.mg_none_of X G z_range) ⟨_, PySem.W.mg_of X G eaC_e0, rfl⟩ ⟨_, PySem.W.mg_of X G eaC_e1, rfl⟩ ⟨_, PySem.W.mg_of X G eaC_e2, rfl⟩ ⟨_, PySem.W.mg_of X G eaC_e3, rfl⟩ ⟨_, PySem.W.mg_of X G eaC_e4, rfl⟩ ⟨_, PySem.W.mg_of X G eaC_e5, rfl⟩ ⟨_, PySem.W.mg_of X G eaC_e6, rfl⟩ ⟨_, PySem.W.mg_of X G eaC_e7, rfl⟩ ⟨_, PySem.W.mg_of X G eaC_e8, rfl⟩ ⟨_, PySem.W.mg_of X G eaC_e9, rfl⟩ ⟨_, PySem.W.mg_of X G eaC_e10, rfl⟩ ⟨_, PySem.W.mg_of X G eaC_e11, rfl⟩ ⟨_, PySem.W.mg_of X G eaC_e12, rfl⟩ ⟨_, PySem.W.mg_of X G eaC_e13, rfl⟩ ⟨_, PySem.W.mg_of X G ea_e14, rfl⟩ ⟨_, PySem.W.mg_of X G ea_e15, rfl⟩ ⟨_, PySem.W.mg_of X G ea_cB, rfl⟩ ⟨_, PySem.W.mg_of X G ea_cL, rfl⟩ ⟨_, PySem.W.mg_of X G ea_cN, rfl⟩ ⟨_, PySem.W.mg_of X G ea_cP, rfl⟩
  exact ⟨PySem.W.fnOf "law" "law" (defArgs s_law) (defBody s_law) (defScope s_law) .none kV_law dc_law pm_law an_law cd_law ct_law, fun s v => .of_eq rfl, fun base _ _ => by
    have c_is_word : Cal l.prog w K mg base 1 "is_word" P_is_word spIsW := cal_is_word T D_is_word
    have c_fits := cal_fits (base := base) T D_fits c_is_word
    have c_decode := cal_decode T D_decode (Er_e8 base) c_fits
    have m_init : BC.CalM l.prog w K mg base 1 CI "__init__" P_Image_init (spInit K CI) := m_Image_init T D_Image_init
    have i_Image := calI_of m_init cmk_CI ckp_CI (PySem.W.mg_of X G ca_CI)
    have m_loc : BC.CalP l.prog w K mg base 1 CI "locations" P_Image_locations (spLoc K CI) := m_Image_locations T D_Image_locations
    have m_ins := m_Image_instruction T D_Image_instruction c_decode
    have m_ent := m_Image_entry T D_Image_entry (Er_e4 base)
    have m_eq : BC.CalM l.prog w K mg base 1 CI "__eq__" P_Image_eq (spEqI K CI) := m_Image_eq T D_Image_eq
    have c_cell : Cal l.prog w K mg base 1 "_law_cell" P_law_cell (spCell K) := cal_law_cell T D_law_cell
    have c_row : Cal l.prog w K mg base 1 "_law_row" P_law_row spRow := cal_law_row T D_law_row
    have c_name : Cal l.prog w K mg base 1 "_law_name" P_law_name spName := cal_law_name T D_law_name
    have c_entry := cal_law_entry T D_law_entry c_name
    have c_eo := cal_law_entry_of T D_law_entry_of (Er_e4 base) m_ent
    have c_read := cal_law_read T D_law_read (Er_e8 base) m_ins
    have c_due := cal_law_due T D_law_due (Er_e8 base) c_decode
    have c_parts := cal_law_parts T D_law_parts m_loc
    have c_unq := cal_law_unequal T D_law_unequal i_Image m_eq
    have c_errs := cal_law_errors TE D_law_errors (Er_e0 base) (Er_e1 base) (Er_e2 base) (Er_e3 base) (Er_e4 base) (Er_e5 base) (Er_e6 base) (Er_e7 base) (Er_e8 base) (Er_e9 base) (Er_e10 base) (Er_e11 base) (Er_e12 base) (Er_e13 base) ⟨eq_e14, PySem.W.mg_of X G ea_e14, ek_e14⟩ ⟨eq_e15, PySem.W.mg_of X G ea_e15, ek_e15⟩
    exact ok_law (fun_mk (st := s_law) l_law c_law k_law) T c_cell c_row c_name c_entry c_parts c_unq c_eo c_read c_due c_errs i_Image m_eq⟩
end K88

open PySem PySem.W PyProof.Rows in
set_option maxRecDepth 100000 in
set_option maxHeartbeats 0 in
theorem PySem.Challenge.cw_beatsbounded_k88_images_and_errors_holds : PySem.Challenge.rw_beatsbounded_k88_images_and_errors.Holds := by
  w_on; o_law; k_head; (case hw => w_witness2)
  k_fill
  refine BB.walkB (l := PySem.Challenge.rw_beatsbounded_k88_images_and_errors) (k := 6) (sp := K88.spLaw) rfl rfl ⟨rfl, by decide, by decide⟩ (fun w h Y => PySem.W.kIn_of Y) ?F ?S
  case F =>
    intro w mg fa h KX G hmg
    refine' K88.all_mk KX G hmg ?a_is_word ?l_is_word ?c_is_word ?k_is_word ?a_fits ?l_fits ?c_fits ?k_fits ?a_decode ?l_decode ?c_decode ?k_decode ?a_law_cell ?l_law_cell ?c_law_cell ?k_law_cell ?a_law_row ?l_law_row ?c_law_row ?k_law_row ?a_law_name ?l_law_name ?c_law_name ?k_law_name ?a_law_entry ?l_law_entry ?c_law_entry ?k_law_entry ?a_law_entry_of ?l_law_entry_of ?c_law_entry_of ?k_law_entry_of ?a_law_read ?l_law_read ?c_law_read ?k_law_read ?a_law_due ?l_law_due ?c_law_due ?k_law_due ?a_law_parts ?l_law_parts ?c_law_parts ?k_law_parts ?a_law_errors ?l_law_errors ?c_law_errors ?k_law_errors ?a_law_unequal ?l_law_unequal ?c_law_unequal ?k_law_unequal ?a_law ?l_law ?c_law ?k_law ?z_len ?z_int ?z_bool ?z_list ?z_tuple ?z_abs ?z_max ?z_range ?z_isinstance ?z_ValueError ?v_LOW ?v_HIGH ?v_MOST_CODE ?v_KINDS ?v_OPERANDS ?dl_0 ?dw_0 ?dr_0 ?tl_0 ?tv_0 ?eaC_e0 ?eaD_e0 ?elC_e0 ?ebm_e0 ?esa_e0 ?eex_e0 ?ety_e0 ?ekp_e0 ?emr_e0 ?esu_e0 ?esb_e0 ?eno_e0 ?eiC_e0 ?etI_e0 ?elk_e0 ?ecd_e0 ?eco_e0 ?evs_e0 ?efi_e0 ?ece_e0 ?eD_e0 ?ega_e0 ?egg_e0 ?ehd_e0 ?eem_e0 ?eaC_e1 ?eaD_e1 ?elC_e1 ?ebm_e1 ?esa_e1 ?eex_e1 ?ety_e1 ?ekp_e1 ?emr_e1 ?esu_e1 ?esb_e1 ?eno_e1 ?eiC_e1 ?etI_e1 ?elk_e1 ?ecd_e1 ?eco_e1 ?evs_e1 ?efi_e1 ?ece_e1 ?eD_e1 ?ega_e1 ?egg_e1 ?ehd_e1 ?eem_e1 ?eaC_e2 ?eaD_e2 ?elC_e2 ?ebm_e2 ?esa_e2 ?eex_e2 ?ety_e2 ?ekp_e2 ?emr_e2 ?esu_e2 ?esb_e2 ?eno_e2 ?eiC_e2 ?etI_e2 ?elk_e2 ?ecd_e2 ?eco_e2 ?evs_e2 ?efi_e2 ?ece_e2 ?eD_e2 ?ega_e2 ?egg_e2 ?ehd_e2 ?eem_e2 ?eaC_e3 ?eaD_e3 ?elC_e3 ?ebm_e3 ?esa_e3 ?eex_e3 ?ety_e3 ?ekp_e3 ?emr_e3 ?esu_e3 ?esb_e3 ?eno_e3 ?eiC_e3 ?etI_e3 ?elk_e3 ?ecd_e3 ?eco_e3 ?evs_e3 ?efi_e3 ?ece_e3 ?eD_e3 ?ega_e3 ?egg_e3 ?ehd_e3 ?eem_e3 ?eaC_e4 ?eaD_e4 ?elC_e4 ?ebm_e4 ?esa_e4 ?eex_e4 ?ety_e4 ?ekp_e4 ?emr_e4 ?esu_e4 ?esb_e4 ?eno_e4 ?eiC_e4 ?etI_e4 ?elk_e4 ?ecd_e4 ?eco_e4 ?evs_e4 ?efi_e4 ?ece_e4 ?eD_e4 ?ega_e4 ?egg_e4 ?ehd_e4 ?eem_e4 ?eaC_e5 ?eaD_e5 ?elC_e5 ?ebm_e5 ?esa_e5 ?eex_e5 ?ety_e5 ?ekp_e5 ?emr_e5 ?esu_e5 ?esb_e5 ?eno_e5 ?eiC_e5 ?etI_e5 ?elk_e5 ?ecd_e5 ?eco_e5 ?evs_e5 ?efi_e5 ?ece_e5 ?eD_e5 ?ega_e5 ?egg_e5 ?ehd_e5 ?eem_e5 ?eaC_e6 ?eaD_e6 ?elC_e6 ?ebm_e6 ?esa_e6 ?eex_e6 ?ety_e6 ?ekp_e6 ?emr_e6 ?esu_e6 ?esb_e6 ?eno_e6 ?eiC_e6 ?etI_e6 ?elk_e6 ?ecd_e6 ?eco_e6 ?evs_e6 ?efi_e6 ?ece_e6 ?eD_e6 ?ega_e6 ?egg_e6 ?ehd_e6 ?eem_e6 ?eaC_e7 ?eaD_e7 ?elC_e7 ?ebm_e7 ?esa_e7 ?eex_e7 ?ety_e7 ?ekp_e7 ?emr_e7 ?esu_e7 ?esb_e7 ?eno_e7 ?eiC_e7 ?etI_e7 ?elk_e7 ?ecd_e7 ?eco_e7 ?evs_e7 ?efi_e7 ?ece_e7 ?eD_e7 ?ega_e7 ?egg_e7 ?ehd_e7 ?eem_e7 ?eaC_e8 ?eaD_e8 ?elC_e8 ?ebm_e8 ?esa_e8 ?eex_e8 ?ety_e8 ?ekp_e8 ?emr_e8 ?esu_e8 ?esb_e8 ?eno_e8 ?eiC_e8 ?etI_e8 ?elk_e8 ?ecd_e8 ?eco_e8 ?evs_e8 ?efi_e8 ?ece_e8 ?eD_e8 ?ega_e8 ?egg_e8 ?ehd_e8 ?eem_e8 ?eaC_e9 ?eaD_e9 ?elC_e9 ?ebm_e9 ?esa_e9 ?eex_e9 ?ety_e9 ?ekp_e9 ?emr_e9 ?esu_e9 ?esb_e9 ?eno_e9 ?eiC_e9 ?etI_e9 ?elk_e9 ?ecd_e9 ?eco_e9 ?evs_e9 ?efi_e9 ?ece_e9 ?eD_e9 ?ega_e9 ?egg_e9 ?ehd_e9 ?eem_e9 ?eaC_e10 ?eaD_e10 ?elC_e10 ?ebm_e10 ?esa_e10 ?eex_e10 ?ety_e10 ?ekp_e10 ?emr_e10 ?esu_e10 ?esb_e10 ?eno_e10 ?eiC_e10 ?etI_e10 ?elk_e10 ?ecd_e10 ?eco_e10 ?evs_e10 ?efi_e10 ?ece_e10 ?eD_e10 ?ega_e10 ?egg_e10 ?ehd_e10 ?eem_e10 ?eaC_e11 ?eaD_e11 ?elC_e11 ?ebm_e11 ?esa_e11 ?eex_e11 ?ety_e11 ?ekp_e11 ?emr_e11 ?esu_e11 ?esb_e11 ?eno_e11 ?eiC_e11 ?etI_e11 ?elk_e11 ?ecd_e11 ?eco_e11 ?evs_e11 ?efi_e11 ?ece_e11 ?eD_e11 ?ega_e11 ?egg_e11 ?ehd_e11 ?eem_e11 ?eaC_e12 ?eaD_e12 ?elC_e12 ?ebm_e12 ?esa_e12 ?eex_e12 ?ety_e12 ?ekp_e12 ?emr_e12 ?esu_e12 ?esb_e12 ?eno_e12 ?eiC_e12 ?etI_e12 ?elk_e12 ?ecd_e12 ?eco_e12 ?evs_e12 ?efi_e12 ?ece_e12 ?eD_e12 ?ega_e12 ?egg_e12 ?ehd_e12 ?eem_e12 ?eaC_e13 ?eaD_e13 ?elC_e13 ?ebm_e13 ?esa_e13 ?eex_e13 ?ety_e13 ?ekp_e13 ?emr_e13 ?esu_e13 ?esb_e13 ?eno_e13 ?eiC_e13 ?etI_e13 ?elk_e13 ?ecd_e13 ?eco_e13 ?evs_e13 ?efi_e13 ?ece_e13 ?eD_e13 ?ega_e13 ?egg_e13 ?ehd_e13 ?eem_e13 ?etop ?eopq ?z_super ?z_str ?ca_CI ?cpg_CI ?chd_CI ?cpo_CI ?csa_CI ?cmk_CI ?ckp_CI ?cha_CI ?chn_CI ?cht_CI ?chm_CI ?cme_CI ?cne_CI ?cn_slots_CI ?cn_cells_CI ?cn_registers_CI ?cn_entries_CI ?cn_claims_CI ?cnf_int_CI ?cko_int_CI ?cnf_str_CI ?cko_str_CI ?cnf_tuple_CI ?cko_tuple_CI ?a_Image_init ?l_Image_init ?c_Image_init ?k_Image_init ?i_Image_init ?a_Image_instruction ?l_Image_instruction ?c_Image_instruction ?k_Image_instruction ?i_Image_instruction ?a_Image_entry ?l_Image_entry ?c_Image_entry ?k_Image_entry ?i_Image_entry ?a_Image_eq ?l_Image_eq ?c_Image_eq ?k_Image_eq ?i_Image_eq ?pa_Image_locations ?pg_Image_locations ?pt_Image_locations ?pr_Image_locations ?l_Image_locations ?c_Image_locations ?k_Image_locations ?i_Image_locations ?ea_e14 ?ea_e15 ?ea_cB ?ea_cL ?ea_cN ?ea_cP ?eq_e14 ?eq_e15 ?ek_e14 ?ek_e15 ?bulk
    (case a_is_word => k_is)
    (case l_is_word => k_is)
    (case c_is_word => k_is)
    (case k_is_word => k_is)
    (case a_fits => k_is)
    (case l_fits => k_is)
    (case c_fits => k_is)
    (case k_fits => k_is)
    (case a_decode => k_is)
    (case l_decode => k_is)
    (case c_decode => k_is)
    (case k_decode => k_is)
    (case a_law_cell => k_is)
    (case l_law_cell => k_is)
    (case c_law_cell => k_is)
    (case k_law_cell => k_is)
    (case a_law_row => k_is)
    (case l_law_row => k_is)
    (case c_law_row => k_is)
    (case k_law_row => k_is)
    (case a_law_name => k_is)
    (case l_law_name => k_is)
    (case c_law_name => k_is)
    (case k_law_name => k_is)
    (case a_law_entry => k_is)
    (case l_law_entry => k_is)
    (case c_law_entry => k_is)
    (case k_law_entry => k_is)
    (case a_law_entry_of => k_is)
    (case l_law_entry_of => k_is)
    (case c_law_entry_of => k_is)
    (case k_law_entry_of => k_is)
    (case a_law_read => k_is)
    (case l_law_read => k_is)
    (case c_law_read => k_is)
    (case k_law_read => k_is)
    (case a_law_due => k_is)
    (case l_law_due => k_is)
    (case c_law_due => k_is)
    (case k_law_due => k_is)
    (case a_law_parts => k_is)
    (case l_law_parts => k_is)
    (case c_law_parts => k_is)
    (case k_law_parts => k_is)
    (case a_law_errors => k_is)
    (case l_law_errors => k_is)
    (case c_law_errors => k_is)
    (case k_law_errors => k_is)
    (case a_law_unequal => k_is)
    (case l_law_unequal => k_is)
    (case c_law_unequal => k_is)
    (case k_law_unequal => k_is)
    (case a_law => k_is)
    (case l_law => k_is)
    (case c_law => k_is)
    (case k_law => k_is)
    (case z_len => k_is)
    (case z_int => k_is)
    (case z_bool => k_is)
    (case z_list => k_is)
    (case z_tuple => k_is)
    (case z_abs => k_is)
    (case z_max => k_is)
    (case z_range => k_is)
    (case z_isinstance => k_is)
    (case z_ValueError => k_is)
    (case v_LOW => k_is)
    (case v_HIGH => k_is)
    (case v_MOST_CODE => k_is)
    (case v_KINDS => k_is)
    (case v_OPERANDS => k_is)
    (case dl_0 => k_is)
    (case dw_0 => decide)
    (case dr_0 => (repeat (first | exact True.intro | refine ⟨⟨_, rfl⟩, rfl, ⟨_, rfl⟩, ?_⟩ | refine ⟨⟨_, rfl⟩, rfl, rfl, ?_⟩)))
    (case tl_0 => k_is)
    (case tv_0 => repeat (first | exact .nil | refine .cons ⟨_, rfl⟩ ?_ | refine .cons rfl ?_))
    (case eaC_e0 => k_is)
    (case eaD_e0 => k_is)
    (case elC_e0 => k_is)
    (case ebm_e0 => first | exact rfl | k_is | decide)
    (case esa_e0 => k_is)
    (case eex_e0 => k_is)
    (case ety_e0 => k_is)
    (case ekp_e0 => k_is)
    (case emr_e0 => k_is)
    (case esu_e0 => first | exact rfl | kernel_rfl)
    (case esb_e0 => k_is)
    (case eno_e0 => k_is)
    (case eiC_e0 => k_is)
    (case etI_e0 => k_is)
    (case elk_e0 => k_is)
    (case ecd_e0 => k_is)
    (case eco_e0 => k_is)
    (case evs_e0 => exact rfl)
    (case efi_e0 => first | exact rfl | decide)
    (case ece_e0 => k_is)
    (case eD_e0 => k_is)
    (case ega_e0 => k_is)
    (case egg_e0 => k_is)
    (case ehd_e0 => first | exact rfl | k_is)
    (case eem_e0 => first | k_is | exact rfl)
    (case eaC_e1 => k_is)
    (case eaD_e1 => k_is)
    (case elC_e1 => k_is)
    (case ebm_e1 => first | exact rfl | k_is | decide)
    (case esa_e1 => k_is)
    (case eex_e1 => k_is)
    (case ety_e1 => k_is)
    (case ekp_e1 => k_is)
    (case emr_e1 => k_is)
    (case esu_e1 => first | exact rfl | kernel_rfl)
    (case esb_e1 => k_is)
    (case eno_e1 => k_is)
    (case eiC_e1 => k_is)
    (case etI_e1 => k_is)
    (case elk_e1 => k_is)
    (case ecd_e1 => k_is)
    (case eco_e1 => k_is)
    (case evs_e1 => exact rfl)
    (case efi_e1 => first | exact rfl | decide)
    (case ece_e1 => k_is)
    (case eD_e1 => k_is)
    (case ega_e1 => k_is)
    (case egg_e1 => k_is)
    (case ehd_e1 => first | exact rfl | k_is)
    (case eem_e1 => first | k_is | exact rfl)
    (case eaC_e2 => k_is)
    (case eaD_e2 => k_is)
    (case elC_e2 => k_is)
    (case ebm_e2 => first | exact rfl | k_is | decide)
    (case esa_e2 => k_is)
    (case eex_e2 => k_is)
    (case ety_e2 => k_is)
    (case ekp_e2 => k_is)
    (case emr_e2 => k_is)
    (case esu_e2 => first | exact rfl | kernel_rfl)
    (case esb_e2 => k_is)
    (case eno_e2 => k_is)
    (case eiC_e2 => k_is)
    (case etI_e2 => k_is)
    (case elk_e2 => k_is)
    (case ecd_e2 => k_is)
    (case eco_e2 => k_is)
    (case evs_e2 => exact rfl)
    (case efi_e2 => first | exact rfl | decide)
    (case ece_e2 => k_is)
    (case eD_e2 => k_is)
    (case ega_e2 => k_is)
    (case egg_e2 => k_is)
    (case ehd_e2 => first | exact rfl | k_is)
    (case eem_e2 => first | k_is | exact rfl)
    (case eaC_e3 => k_is)
    (case eaD_e3 => k_is)
    (case elC_e3 => k_is)
    (case ebm_e3 => first | exact rfl | k_is | decide)
    (case esa_e3 => k_is)
    (case eex_e3 => k_is)
    (case ety_e3 => k_is)
    (case ekp_e3 => k_is)
    (case emr_e3 => k_is)
    (case esu_e3 => first | exact rfl | kernel_rfl)
    (case esb_e3 => k_is)
    (case eno_e3 => k_is)
    (case eiC_e3 => k_is)
    (case etI_e3 => k_is)
    (case elk_e3 => k_is)
    (case ecd_e3 => k_is)
    (case eco_e3 => k_is)
    (case evs_e3 => exact rfl)
    (case efi_e3 => first | exact rfl | decide)
    (case ece_e3 => k_is)
    (case eD_e3 => k_is)
    (case ega_e3 => k_is)
    (case egg_e3 => k_is)
    (case ehd_e3 => first | exact rfl | k_is)
    (case eem_e3 => first | k_is | exact rfl)
    (case eaC_e4 => k_is)
    (case eaD_e4 => k_is)
    (case elC_e4 => k_is)
    (case ebm_e4 => first | exact rfl | k_is | decide)
    (case esa_e4 => k_is)
    (case eex_e4 => k_is)
    (case ety_e4 => k_is)
    (case ekp_e4 => k_is)
    (case emr_e4 => k_is)
    (case esu_e4 => first | exact rfl | kernel_rfl)
    (case esb_e4 => k_is)
    (case eno_e4 => k_is)
    (case eiC_e4 => k_is)
    (case etI_e4 => k_is)
    (case elk_e4 => k_is)
    (case ecd_e4 => k_is)
    (case eco_e4 => k_is)
    (case evs_e4 => exact rfl)
    (case efi_e4 => first | exact rfl | decide)
    (case ece_e4 => k_is)
    (case eD_e4 => k_is)
    (case ega_e4 => k_is)
    (case egg_e4 => k_is)
    (case ehd_e4 => first | exact rfl | k_is)
    (case eem_e4 => first | k_is | exact rfl)
    (case eaC_e5 => k_is)
    (case eaD_e5 => k_is)
    (case elC_e5 => k_is)
    (case ebm_e5 => first | exact rfl | k_is | decide)
    (case esa_e5 => k_is)
    (case eex_e5 => k_is)
    (case ety_e5 => k_is)
    (case ekp_e5 => k_is)
    (case emr_e5 => k_is)
    (case esu_e5 => first | exact rfl | kernel_rfl)
    (case esb_e5 => k_is)
    (case eno_e5 => k_is)
    (case eiC_e5 => k_is)
    (case etI_e5 => k_is)
    (case elk_e5 => k_is)
    (case ecd_e5 => k_is)
    (case eco_e5 => k_is)
    (case evs_e5 => exact rfl)
    (case efi_e5 => first | exact rfl | decide)
    (case ece_e5 => k_is)
    (case eD_e5 => k_is)
    (case ega_e5 => k_is)
    (case egg_e5 => k_is)
    (case ehd_e5 => first | exact rfl | k_is)
    (case eem_e5 => first | k_is | exact rfl)
    (case eaC_e6 => k_is)
    (case eaD_e6 => k_is)
    (case elC_e6 => k_is)
    (case ebm_e6 => first | exact rfl | k_is | decide)
    (case esa_e6 => k_is)
    (case eex_e6 => k_is)
    (case ety_e6 => k_is)
    (case ekp_e6 => k_is)
    (case emr_e6 => k_is)
    (case esu_e6 => first | exact rfl | kernel_rfl)
    (case esb_e6 => k_is)
    (case eno_e6 => k_is)
    (case eiC_e6 => k_is)
    (case etI_e6 => k_is)
    (case elk_e6 => k_is)
    (case ecd_e6 => k_is)
    (case eco_e6 => k_is)
    (case evs_e6 => exact rfl)
    (case efi_e6 => first | exact rfl | decide)
    (case ece_e6 => k_is)
    (case eD_e6 => k_is)
    (case ega_e6 => k_is)
    (case egg_e6 => k_is)
    (case ehd_e6 => first | exact rfl | k_is)
    (case eem_e6 => first | k_is | exact rfl)
    (case eaC_e7 => k_is)
    (case eaD_e7 => k_is)
    (case elC_e7 => k_is)
    (case ebm_e7 => first | exact rfl | k_is | decide)
    (case esa_e7 => k_is)
    (case eex_e7 => k_is)
    (case ety_e7 => k_is)
    (case ekp_e7 => k_is)
    (case emr_e7 => k_is)
    (case esu_e7 => first | exact rfl | kernel_rfl)
    (case esb_e7 => k_is)
    (case eno_e7 => k_is)
    (case eiC_e7 => k_is)
    (case etI_e7 => k_is)
    (case elk_e7 => k_is)
    (case ecd_e7 => k_is)
    (case eco_e7 => k_is)
    (case evs_e7 => exact rfl)
    (case efi_e7 => first | exact rfl | decide)
    (case ece_e7 => k_is)
    (case eD_e7 => k_is)
    (case ega_e7 => k_is)
    (case egg_e7 => k_is)
    (case ehd_e7 => first | exact rfl | k_is)
    (case eem_e7 => first | k_is | exact rfl)
    (case eaC_e8 => k_is)
    (case eaD_e8 => k_is)
    (case elC_e8 => k_is)
    (case ebm_e8 => first | exact rfl | k_is | decide)
    (case esa_e8 => k_is)
    (case eex_e8 => k_is)
    (case ety_e8 => k_is)
    (case ekp_e8 => k_is)
    (case emr_e8 => k_is)
    (case esu_e8 => first | exact rfl | kernel_rfl)
    (case esb_e8 => k_is)
    (case eno_e8 => k_is)
    (case eiC_e8 => k_is)
    (case etI_e8 => k_is)
    (case elk_e8 => k_is)
    (case ecd_e8 => k_is)
    (case eco_e8 => k_is)
    (case evs_e8 => exact rfl)
    (case efi_e8 => first | exact rfl | decide)
    (case ece_e8 => k_is)
    (case eD_e8 => k_is)
    (case ega_e8 => k_is)
    (case egg_e8 => k_is)
    (case ehd_e8 => first | exact rfl | k_is)
    (case eem_e8 => first | k_is | exact rfl)
    (case eaC_e9 => k_is)
    (case eaD_e9 => k_is)
    (case elC_e9 => k_is)
    (case ebm_e9 => first | exact rfl | k_is | decide)
    (case esa_e9 => k_is)
    (case eex_e9 => k_is)
    (case ety_e9 => k_is)
    (case ekp_e9 => k_is)
    (case emr_e9 => k_is)
    (case esu_e9 => first | exact rfl | kernel_rfl)
    (case esb_e9 => k_is)
    (case eno_e9 => k_is)
    (case eiC_e9 => k_is)
    (case etI_e9 => k_is)
    (case elk_e9 => k_is)
    (case ecd_e9 => k_is)
    (case eco_e9 => k_is)
    (case evs_e9 => exact rfl)
    (case efi_e9 => first | exact rfl | decide)
    (case ece_e9 => k_is)
    (case eD_e9 => k_is)
    (case ega_e9 => k_is)
    (case egg_e9 => k_is)
    (case ehd_e9 => first | exact rfl | k_is)
    (case eem_e9 => first | k_is | exact rfl)
    (case eaC_e10 => k_is)
    (case eaD_e10 => k_is)
    (case elC_e10 => k_is)
    (case ebm_e10 => first | exact rfl | k_is | decide)
    (case esa_e10 => k_is)
    (case eex_e10 => k_is)
    (case ety_e10 => k_is)
    (case ekp_e10 => k_is)
    (case emr_e10 => k_is)
    (case esu_e10 => first | exact rfl | kernel_rfl)
    (case esb_e10 => k_is)
    (case eno_e10 => k_is)
    (case eiC_e10 => k_is)
    (case etI_e10 => k_is)
    (case elk_e10 => k_is)
    (case ecd_e10 => k_is)
    (case eco_e10 => k_is)
    (case evs_e10 => exact rfl)
    (case efi_e10 => first | exact rfl | decide)
    (case ece_e10 => k_is)
    (case eD_e10 => k_is)
    (case ega_e10 => k_is)
    (case egg_e10 => k_is)
    (case ehd_e10 => first | exact rfl | k_is)
    (case eem_e10 => first | k_is | exact rfl)
    (case eaC_e11 => k_is)
    (case eaD_e11 => k_is)
    (case elC_e11 => k_is)
    (case ebm_e11 => first | exact rfl | k_is | decide)
    (case esa_e11 => k_is)
    (case eex_e11 => k_is)
    (case ety_e11 => k_is)
    (case ekp_e11 => k_is)
    (case emr_e11 => k_is)
    (case esu_e11 => first | exact rfl | kernel_rfl)
    (case esb_e11 => k_is)
    (case eno_e11 => k_is)
    (case eiC_e11 => k_is)
    (case etI_e11 => k_is)
    (case elk_e11 => k_is)
    (case ecd_e11 => k_is)
    (case eco_e11 => k_is)
    (case evs_e11 => exact rfl)
    (case efi_e11 => first | exact rfl | decide)
    (case ece_e11 => k_is)
    (case eD_e11 => k_is)
    (case ega_e11 => k_is)
    (case egg_e11 => k_is)
    (case ehd_e11 => first | exact rfl | k_is)
    (case eem_e11 => first | k_is | exact rfl)
    (case eaC_e12 => k_is)
    (case eaD_e12 => k_is)
    (case elC_e12 => k_is)
    (case ebm_e12 => first | exact rfl | k_is | decide)
    (case esa_e12 => k_is)
    (case eex_e12 => k_is)
    (case ety_e12 => k_is)
    (case ekp_e12 => k_is)
    (case emr_e12 => k_is)
    (case esu_e12 => first | exact rfl | kernel_rfl)
    (case esb_e12 => k_is)
    (case eno_e12 => k_is)
    (case eiC_e12 => k_is)
    (case etI_e12 => k_is)
    (case elk_e12 => k_is)
    (case ecd_e12 => k_is)
    (case eco_e12 => k_is)
    (case evs_e12 => exact rfl)
    (case efi_e12 => first | exact rfl | decide)
    (case ece_e12 => k_is)
    (case eD_e12 => k_is)
    (case ega_e12 => k_is)
    (case egg_e12 => k_is)
    (case ehd_e12 => first | exact rfl | k_is)
    (case eem_e12 => first | k_is | exact rfl)
    (case eaC_e13 => k_is)
    (case eaD_e13 => k_is)
    (case elC_e13 => k_is)
    (case ebm_e13 => first | exact rfl | k_is | decide)
    (case esa_e13 => k_is)
    (case eex_e13 => k_is)
    (case ety_e13 => k_is)
    (case ekp_e13 => k_is)
    (case emr_e13 => k_is)
    (case esu_e13 => first | exact rfl | kernel_rfl)
    (case esb_e13 => k_is)
    (case eno_e13 => k_is)
    (case eiC_e13 => k_is)
    (case etI_e13 => k_is)
    (case elk_e13 => k_is)
    (case ecd_e13 => k_is)
    (case eco_e13 => k_is)
    (case evs_e13 => exact rfl)
    (case efi_e13 => first | exact rfl | decide)
    (case ece_e13 => k_is)
    (case eD_e13 => k_is)
    (case ega_e13 => k_is)
    (case egg_e13 => k_is)
    (case ehd_e13 => first | exact rfl | k_is)
    (case eem_e13 => first | k_is | exact rfl)
    (case etop => first | exact rfl | decide)
    (case eopq => k_is)
    (case z_super => k_is)
    (case z_str => k_is)
    (case ca_CI => k_is)
    (case cpg_CI => first | exact rfl | k_is)
    (case chd_CI => first | exact rfl | k_is)
    (case cpo_CI => first | exact rfl | k_is)
    (case csa_CI => k_is)
    (case cmk_CI => first | exact rfl | k_is)
    (case ckp_CI => k_is)
    (case cha_CI => k_is)
    (case chn_CI => k_is)
    (case cht_CI => k_is)
    (case chm_CI => k_is)
    (case cme_CI => first | exact rfl | k_is)
    (case cne_CI => k_is)
    (case cn_slots_CI => k_is)
    (case cn_cells_CI => k_is)
    (case cn_registers_CI => k_is)
    (case cn_entries_CI => k_is)
    (case cn_claims_CI => k_is)
    (case cnf_int_CI => first | exact rfl | k_is)
    (case cko_int_CI => first | exact rfl | k_is)
    (case cnf_str_CI => first | exact rfl | k_is)
    (case cko_str_CI => first | exact rfl | k_is)
    (case cnf_tuple_CI => first | exact rfl | k_is)
    (case cko_tuple_CI => first | exact rfl | k_is)
    (case a_Image_init => k_is)
    (case l_Image_init => k_is)
    (case c_Image_init => k_is)
    (case k_Image_init => k_is)
    (case i_Image_init => k_is)
    (case a_Image_instruction => k_is)
    (case l_Image_instruction => k_is)
    (case c_Image_instruction => k_is)
    (case k_Image_instruction => k_is)
    (case i_Image_instruction => k_is)
    (case a_Image_entry => k_is)
    (case l_Image_entry => k_is)
    (case c_Image_entry => k_is)
    (case k_Image_entry => k_is)
    (case i_Image_entry => k_is)
    (case a_Image_eq => k_is)
    (case l_Image_eq => k_is)
    (case c_Image_eq => k_is)
    (case k_Image_eq => k_is)
    (case i_Image_eq => k_is)
    (case pa_Image_locations => k_is)
    (case pg_Image_locations => k_is)
    (case pt_Image_locations => k_is)
    (case pr_Image_locations => k_is)
    (case l_Image_locations => k_is)
    (case c_Image_locations => k_is)
    (case k_Image_locations => k_is)
    (case i_Image_locations => k_is)
    (case ea_e14 => k_is)
    (case ea_e15 => k_is)
    (case ea_cB => k_is)
    (case ea_cL => k_is)
    (case ea_cN => k_is)
    (case ea_cP => k_is)
    (case eq_e14 => k_exc)
    (case eq_e15 => k_exc)
    (case ek_e14 => k_is)
    (case ek_e15 => k_is)
    (case bulk => kernel_rfl)
  case S =>
    intro K H a ns hl hb hO hS
    exact ⟨a, ns, rfl, hS, hl, fun _ => rfl⟩
#print axioms PySem.Challenge.cw_beatsbounded_k88_images_and_errors_holds
