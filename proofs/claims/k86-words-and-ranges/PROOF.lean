import PyProof.Rows.All
import Wide.All
import OpenK.AllK
import Wide.FinOn
import HandS.ForMost
import HandS.ForExc
import HandS.Codes
import HandS.IsInst
import HandS.Replace
import HandS.EndBits
import HandS.Wide
import KE.IntTextLaws
import PySem.Challenge.RW_beatsbounded_k86_words_and_ranges
set_option Elab.async false
set_option linter.all false
set_option maxRecDepth 100000
namespace BB
open PySem PySem.Spec PyProof.Rows L2 SX

/-- a def of the top, under its name -/
structure Def (K : PySem.W.Frag) (mg : Str → Option Value) (x : Str) (ps : List Str) (st : Stmt) : Prop where
  ex : ∃ (f : Addr) (fd : FuncData), L2.Fun K x x st f fd ∧ mg x = some (.ref f) ∧ Binds K fd ps []
theorem def_mk {K : PySem.W.Frag} {mg : Str → Option Value} {x : Str} {ps : List Str} {st : Stmt} {f : Addr} {fd : FuncData} (F : L2.Fun K x x st f fd) (m : mg x = some (.ref f))
    (h : ∀ (kV doc pm : Value) (an : Option Addr) (cdv ct : Value) (us : List Value), us.length = ps.length → bindArgs (PySem.W.fnOf x x (defArgs st) (defBody st) (defScope st) .none kV doc pm an cdv ct) ⟨us, []⟩ = pure (ps.zip us)) : Def K mg x ps st :=
  ⟨f, fd, F, m, F.binds h⟩

/-- a def that may be called by its name; errors may leave it -/
structure Cal (P : Program) (w : World) (K : PySem.W.Frag) (mg : Str → Option Value) (base : Heap) (k : Nat) (x : Str) (ps : List Str) (sp : Sp) : Prop where
  ex : ∃ (f : Addr) (fd : FuncData), FnOk P w K mg base (L2.CX P w) k f fd ps sp ∧ mg x = some (.ref f) ∧ PySem.W.keepIn K (.ref f) = true ∧ Binds K fd ps []

section
variable {P : Program} {w : World} {K : PySem.W.Frag} {mg : Str → Option Value} {base : Heap}
theorem ok0 {x : Str} {st : Stmt} {N ps : List Str} {k : Nat} {sp : Sp} {f : Addr} {fd : FuncData} (F : L2.Fun K x x st f fd) (S : FnScope N ps (defScope st)) (len : ∀ vs H Q E, sp vs H Q E → vs.length = ps.length)
    (hbody : ∀ (f : Addr) (cdv : Value) (A : Around) (outer : List Env) (s : Shared) (H : Hp) (vs : List V) (Q : VK) (E : XK), Room k (A.deeper (envOfC x (defScope st) s.heap.objs.size f cdv)) → sp vs H Q E →
      ∃ t, PSs (cxOf (L2.CX P w) P w K mg base N x (defScope st) f cdv A outer s H E).nox (defBody st) t ∧ t { nx := fun _ H' => Q .non H', rt := Q } (start N vs) H) : FnOk P w K mg base (L2.CX P w) (k + 1) f fd ps sp := by
  refine L2.Fun.okX F S len fun cdv A outer s H vs Q E hr hsp => ?_
  obtain ⟨t, h, q⟩ := hbody f cdv A outer s H vs Q E hr hsp
  exact ⟨t, h.nox, q⟩
/-- by its body, where nothing is raised out -/
theorem cal0 {x : Str} {st : Stmt} {N ps : List Str} {k : Nat} {sp : Sp} (D : Def K mg x ps st) (S : FnScope N ps (defScope st)) (len : ∀ vs H Q E, sp vs H Q E → vs.length = ps.length)
    (hbody : ∀ (f : Addr) (cdv : Value) (A : Around) (outer : List Env) (s : Shared) (H : Hp) (vs : List V) (Q : VK) (E : XK), Room k (A.deeper (envOfC x (defScope st) s.heap.objs.size f cdv)) → sp vs H Q E →
      ∃ t, PSs (cxOf (L2.CX P w) P w K mg base N x (defScope st) f cdv A outer s H E).nox (defBody st) t ∧ t { nx := fun _ H' => Q .non H', rt := Q } (start N vs) H) : Cal P w K mg base (k + 1) x ps sp := by
  obtain ⟨f, fd, F, m, b⟩ := D.ex
  refine ⟨f, fd, ?_, m, F.kp, b⟩
  refine L2.Fun.okX F S len fun cdv A outer s H vs Q E hr hsp => ?_
  obtain ⟨t, h, q⟩ := hbody f cdv A outer s H vs Q E hr hsp
  exact ⟨t, h.nox, q⟩
/-- by its body, where an error may leave -/
theorem calX {x : Str} {st : Stmt} {N ps : List Str} {k : Nat} {sp : Sp} (D : Def K mg x ps st) (S : FnScope N ps (defScope st)) (len : ∀ vs H Q E, sp vs H Q E → vs.length = ps.length)
    (hbody : ∀ (f : Addr) (cdv : Value) (A : Around) (outer : List Env) (s : Shared) (H : Hp) (vs : List V) (Q : VK) (E : XK), Room k (A.deeper (envOfC x (defScope st) s.heap.objs.size f cdv)) → sp vs H Q E →
      ∃ t, PSs (cxOf (L2.CX P w) P w K mg base N x (defScope st) f cdv A outer s H E) (defBody st) t ∧ t { nx := fun _ H' => Q .non H', rt := Q } (start N vs) H) : Cal P w K mg base (k + 1) x ps sp := by
  obtain ⟨f, fd, F, m, b⟩ := D.ex
  refine ⟨f, fd, ?_, m, F.kp, b⟩
  exact L2.Fun.okX F S len fun cdv A outer s H vs Q E hr hsp => hbody f cdv A outer s H vs Q E hr hsp
end
section
variable {X : Cx} {k j : Nat} {x : Str} {ps : List Str} {sp : Sp} {p pos : Pos} {e : Expr} {es : List Expr} {t : TA}
/-- f(e, ..), nothing raised -/
theorem pe_c (c : Cal X.prog X.w X.K X.mg X.base k x ps sp) (hr : Room j X.A) (hk : k ≤ j) (hg : Gl X x) (ha : PA X (e :: es) t)
    (hdb : (x == ("__debug__" : Str)) = false := by decide) (he : starEach (e :: es) X.env = (false, eval e X.env) :: starEach es X.env := by rfl) (hpl : (backTo pos (starEach es X.env)).any (·.1) = false := by rfl) :
    PE X (.Call (.Name x p) (e :: es) [] pos) (tCall sp [] L2.E0 t) := by
  obtain ⟨f, fd, F, hm, kp, b⟩ := c.ex
  exact pe_call F (hr.mono hk) hg hm kp b .nil passL ha hdb he hpl
end
/-- a name of the module, by its value -/
theorem pe_gc {X : Cx} {x : Str} {v : V} {pos : Pos} (hg : Gl X x) (h : ∃ u, X.mg x = some u ∧ RelV v u) (hd : (x == ("__debug__" : Str)) = false := by decide) : PE X (.Name x pos) (tC v) := by
  obtain ⟨u, hm, r⟩ := h
  exact pe_glob hg hm r hd

/-! ### loops by what is left to come -/
theorem forR_list {K : PySem.W.Frag} {a : Addr} {xs : List V} {g : TG} {tb : TS} {D : Ends} {σ : L2.St} {H : Hp} (Pv : List V → L2.St → Hp → Prop) (h0 : Pv xs σ H) (hl : ∀ r σ H, Pv r σ H → SqL K H a xs)
    (hs : ∀ x r σ H, x ∈ xs → Pv (x :: r) σ H → g x σ H fun σ2 H2 => tb { D with nx := Pv r, ct := Pv r, bk := D.nx } σ2 H2) (hd : ∀ σ H, Pv [] σ H → D.nx σ H) :
    ∃ W : Nat → Nat → L2.St → Hp → Prop, (∃ m, W 0 m σ H) ∧ ∀ i m σ H, W i m σ H →
      ((Itl K a).stop i H ∧ D.nx σ H) ∨ ((Itl K a).go i H ∧ ∃ N : L2.St → Hp → Prop, (∀ σ' H', N σ' H' → ∃ m', m' < m ∧ W (i + 1) m' σ' H') ∧ ∀ x H', (Itl K a).yld i H x H' → g x σ H' fun σ2 H2 => tb { D with nx := N, ct := N, bk := D.nx } σ2 H2) := by
  refine for_list (K := K) (a := a) (xs := xs) (fun i σ H => Pv (xs.drop i) σ H) h0 (fun i σ H _ h => hl _ _ _ h) (fun i x σ H hx h => ?_) fun σ H h => ?_
  · have e : xs.drop i = x :: xs.drop (i + 1) := by
      obtain ⟨hi, hv⟩ := List.getElem?_eq_some_iff.mp hx
      rw [List.drop_eq_getElem_cons hi, hv]
    have h' : Pv (x :: xs.drop (i + 1)) σ H := by rw [← e]; exact h
    exact hs x _ σ H (List.mem_of_getElem? hx) h'
  · have e : xs.drop xs.length = [] := List.drop_length
    have h' : Pv [] σ H := by rw [← e]; exact h
    exact hd σ H h'
theorem forR_tup {K : PySem.W.Frag} {a : Addr} {xs : List V} {g : TG} {tb : TS} {D : Ends} {σ : L2.St} {H : Hp} (Pv : List V → L2.St → Hp → Prop) (h0 : Pv xs σ H) (hl : ∀ r σ H, Pv r σ H → SqT K H a xs)
    (hs : ∀ x r σ H, x ∈ xs → Pv (x :: r) σ H → g x σ H fun σ2 H2 => tb { D with nx := Pv r, ct := Pv r, bk := D.nx } σ2 H2) (hd : ∀ σ H, Pv [] σ H → D.nx σ H) :
    ∃ W : Nat → Nat → L2.St → Hp → Prop, (∃ m, W 0 m σ H) ∧ ∀ i m σ H, W i m σ H →
      ((Itt K a).stop i H ∧ D.nx σ H) ∨ ((Itt K a).go i H ∧ ∃ N : L2.St → Hp → Prop, (∀ σ' H', N σ' H' → ∃ m', m' < m ∧ W (i + 1) m' σ' H') ∧ ∀ x H', (Itt K a).yld i H x H' → g x σ H' fun σ2 H2 => tb { D with nx := N, ct := N, bk := D.nx } σ2 H2) := by
  refine for_tup (K := K) (a := a) (xs := xs) (fun i σ H => Pv (xs.drop i) σ H) h0 (fun i σ H _ h => hl _ _ _ h) (fun i x σ H hx h => ?_) fun σ H h => ?_
  · have e : xs.drop i = x :: xs.drop (i + 1) := by
      obtain ⟨hi, hv⟩ := List.getElem?_eq_some_iff.mp hx
      rw [List.drop_eq_getElem_cons hi, hv]
    have h' : Pv (x :: xs.drop (i + 1)) σ H := by rw [← e]; exact h
    exact hs x _ σ H (List.mem_of_getElem? hx) h'
  · have e : xs.drop xs.length = [] := List.drop_length
    have h' : Pv [] σ H := by rw [← e]; exact h
    exact hd σ H h'
/-- over a text's signs -/
theorem forR_str {l : List Nat} {g : TG} {tb : TS} {D : Ends} {σ : L2.St} {H : Hp} (Pv : List Nat → L2.St → Hp → Prop) (h0 : Pv l σ H)
    (hs : ∀ c r σ H, c ∈ l → Pv (c :: r) σ H → g (.str (S [c])) σ H fun σ2 H2 => tb { D with nx := Pv r, ct := Pv r, bk := D.nx } σ2 H2) (hd : ∀ σ H, Pv [] σ H → D.nx σ H) :
    ∃ W : Nat → Nat → L2.St → Hp → Prop, (∃ m, W 0 m σ H) ∧ ∀ i m σ H, W i m σ H →
      ((Its (S l)).stop i H ∧ D.nx σ H) ∨ ((Its (S l)).go i H ∧ ∃ N : L2.St → Hp → Prop, (∀ σ' H', N σ' H' → ∃ m', m' < m ∧ W (i + 1) m' σ' H') ∧ ∀ x H', (Its (S l)).yld i H x H' → g x σ H' fun σ2 H2 => tb { D with nx := N, ct := N, bk := D.nx } σ2 H2) := by
  have sz : (S l).cps.size = l.length := by simp
  refine ⟨fun i m σ H => m = l.length - i ∧ i ≤ l.length ∧ Pv (l.drop i) σ H, ⟨l.length, by simp, Nat.zero_le _, h0⟩, ?_⟩
  rintro i m σ H ⟨rfl, hi, p⟩
  by_cases hlt : i < l.length
  · refine .inr ⟨by show i < (S l).cps.size; rw [sz]; exact hlt, fun σ H => Pv (l.drop (i + 1)) σ H, fun σ' H' p' => ⟨l.length - (i + 1), by omega, rfl, hlt, p'⟩, fun x H' y => ?_⟩
    obtain ⟨e, c, hc, ex⟩ := y
    subst e
    subst ex
    have hc' : l[i]? = some c := by simpa using hc
    have ed : l.drop i = c :: l.drop (i + 1) := by
      obtain ⟨h1, hv⟩ := List.getElem?_eq_some_iff.mp hc'
      rw [List.drop_eq_getElem_cons h1, hv]
    have p' : Pv (c :: l.drop (i + 1)) σ H' := by rw [← ed]; exact p
    exact hs c _ σ H' (List.mem_of_getElem? hc') p'
  · have e : i = l.length := by omega
    subst e
    have e2 : l.drop l.length = [] := List.drop_length
    have p' : Pv [] σ H := by rw [← e2]; exact p
    exact .inl ⟨by show (S l).cps.size ≤ l.length; rw [sz]; exact Nat.le_refl _, hd σ H p'⟩

/-! ### heaps that only grow -/
theorem same_new {H : Hp} {p : Addr} {o : HO} (h : H p = Option.none) : Same H (upd H p o) := fun b u e => by
  rw [upd_ne (ne_of_none e h)]
  exact e
theorem same_tup {K : PySem.W.Frag} {H H' : Hp} {a : Addr} {xs : List V} (e : Same H H') (h : SqT K H a xs) : SqT K H' a xs := by
  rcases h with (h | ⟨o, h⟩) | h
  · exact .inl (.inl (e _ _ h))
  · exact .inl (.inr ⟨o, e _ _ h⟩)
  · exact .inr h
theorem new_tup {K : PySem.W.Frag} {H : Hp} {p : Addr} {xs : List V} : SqT K (upd H p (.tup xs)) p xs := SqT.of upd_same
theorem new_lst {K : PySem.W.Frag} {H : Hp} {p : Addr} {xs : List V} : SqL K (upd H p (.lst xs)) p xs := SqL.of upd_same
/-- a tuple stands also where a list is changed -/
theorem put_tup {K : PySem.W.Frag} {H : Hp} {a l : Addr} {xs ys zs : List V} (hl : H l = some (.lst ys)) (h : SqT K H a xs) : SqT K (upd H l (.lst zs)) a xs := by
  rcases h with (h | ⟨o, h⟩) | h
  · exact .inl (.inl (by rw [upd_ne (ne_of h hl (by intro z; cases z))]; exact h))
  · exact .inl (.inr ⟨o, by rw [upd_ne (ne_of h hl (by intro z; cases z))]; exact h⟩)
  · exact .inr h
theorem tupType {K : PySem.W.Frag} {H : Hp} {a : Addr} {xs : List V} (h : SqT K H a xs) : TyX K H (.ref a) (.type "tuple") := by
  rcases h with (h | ⟨o, h⟩) | ⟨o, its, n, h, c, _⟩
  · exact .base (.tup h)
  · exact .fTuple h
  · exact .kTuple h c

/-! ### texts by their codes -/
theorem tlS (l : List Nat) : (S l).cps.toList = l := rfl
theorem cutS_S (l : List Nat) (lo hi : Option Int) : cutS (S l) lo hi = S ((l.drop (HT.sIx l.length 0 lo)).take (HT.sIx l.length l.length hi - HT.sIx l.length 0 lo)) := by
  unfold cutS
  rw [S_len]
theorem sIx_nat (n d k : Nat) : HT.sIx n d (some (k : Int)) = min k n := by
  unfold HT.sIx
  simp only [if_neg (show ¬ ((k : Int) < 0) by omega), Int.toNat_natCast]
theorem sIx_none (n d : Nat) : HT.sIx n d none = d := rfl
theorem cut_from (l : List Nat) (k : Nat) : cutS (S l) (some (k : Int)) none = S (l.drop k) := by
  rw [cutS_S, sIx_nat, sIx_none]
  congr 1
  by_cases h : k ≤ l.length
  · rw [Nat.min_eq_left h, List.take_of_length_le (by rw [List.length_drop]; exact Nat.le_refl _)]
  · rw [Nat.min_eq_right (by omega), List.drop_length, List.take_nil, List.drop_of_length_le (by omega)]
theorem cut_to (l : List Nat) (k : Nat) : cutS (S l) none (some (k : Int)) = S (l.take k) := by
  rw [cutS_S, sIx_nat, sIx_none, List.drop_zero, Nat.sub_zero]
  congr 1
  by_cases h : k ≤ l.length
  · rw [Nat.min_eq_left h]
  · rw [Nat.min_eq_right (by omega), List.take_length, List.take_of_length_le (by omega)]

/-! ### the end of a law's row -/
theorem walkB {l : PySem.W.OpenLaw} {k : Nat} {q : Program} {loose : List Str} {XP : (Str → Option Value) → Heap → Prop} {YP : World → Heap → Prop} {d : DefRec} {K : Params → PySem.W.Frag} {sp : PySem.W.Frag → Sp}
    (hn : l.most = some 63) (hdf : d.params.defaults = []) (hr : Room k callerA) (hY : ∀ (w : World) (h : Heap), YP w h → (K w.params).In h)
    (F : ∀ (w : World) (mg : Str → Option Value) (fa : Addr) (h : Heap), (K w.params).In h → h.Ns mainGlobals mg → mg d.name = some (.ref fa) →
      ∃ fd : FuncData, (∀ (s : Shared) (u : Value), BindsTo s fd ⟨[u], []⟩ [("script", u)]) ∧
        ∀ base : Heap, (K w.params).In base → base.Ns mainGlobals mg → FnOk l.prog w (K w.params) mg base (L2.CX l.prog w) k fa fd ["script"] (sp (K w.params)))
    (hsp : ∀ (K : PySem.W.Frag) (H : Hp) (a : Addr) (ns : List Int), ns.length ≤ 63 → (∀ z ∈ ns, Builtin.Int.intBits z ≤ 1048576) → Only H → SqL K H a (ns.map V.int) → sp K [.ref a] H (fun v _ => v = .bl true) fun _ _ _ => False) :
    PySem.W.WalkO q loose XP YP l.row.toRowW d [] (fun f vs => PySem.call f vs) :=
  walk_ofB (K := K) (CX := fun w => L2.CX l.prog w) (sp := fun w => sp (K w.params)) hn (by decide) hdf hr hY F (fun w H a ns h1 h2 h3 h4 => hsp (K w.params) H a ns h1 h2 h3 h4) fun w H s e s' h => by
    obtain ⟨_, _, _, _, _, _, _, _, _, _, _, _, z⟩ := h
    exact z.elim

/-- a cell of the script -/
def cell (ns : List Int) (k : Nat) : Int := ns.getD k 0
theorem atI_of {α : Type} {xs : List α} {j : Nat} {v : α} (h : xs[j]? = some v) : atI xs (j : Int) = some v := atI_nat h
end BB
set_option maxHeartbeats 4000000
namespace K86
open PySem PySem.Spec PyProof.Rows L2 SX BB
def topS (i : Nat) : Stmt := PySem.Challenge.pw_beatsbounded_k86_words_and_ranges.main.body.getD i (.Pass ⟨0, 0, 0, 0⟩)
structure Txt (K : PySem.W.Frag) (mg : Str → Option Value) (aE : Addr) : Prop where
  b_len : mg "len" = none
  b_int : mg "int" = none
  b_bool : mg "bool" = none
  b_tuple : mg "tuple" = none
  b_abs : mg "abs" = none
  b_min : mg "min" = none
  b_max : mg "max" = none
  b_sorted : mg "sorted" = none
  b_range : mg "range" = none
  b_isinstance : mg "isinstance" = none
  c_LOW : ∃ u, mg "LOW" = some u ∧ RelV (.int (-9223372036854775808)) u
  c_HIGH : ∃ u, mg "HIGH" = some u ∧ RelV (.int 9223372036854775807) u
  c_COUNT : ∃ u, mg "COUNT" = some u ∧ RelV (.int 18446744073709551616) u
  c_EVERY : ∃ u, mg "EVERY" = some u ∧ RelV (.ref aE) u
  every : ∀ H, SqT K H aE [.int (-9223372036854775808), .int 9223372036854775807]
local macro_rules | `(tactic| walk_at "side") => `(tactic| (try dsimp only) <;> (first | decide | omega | assumption | (unfold CMul; omega) | (unfold CDiv; omega)))
local macro_rules | `(tactic| walk_at "sq") => `(tactic| first
  | assumption
  | exact new_tup
  | exact same_tup (by assumption) (by assumption)
  | (refine same_tup (same_new (by assumption)) ?_; walk_at "sq"))
local macro_rules | `(tactic| walk_at "rd") => `(tactic| first
  | refine ⟨_, rfl, ?_⟩
  | refine ⟨_, _, _, _, rfl, rfl, (by walk_at "sq"), atI_of (j := 0) rfl, ?_⟩
  | refine ⟨_, _, _, _, rfl, rfl, (by walk_at "sq"), atI_of (j := 1) rfl, ?_⟩
  | refine ⟨_, _, rfl, rfl, ?_⟩
  | refine ⟨_, _, rfl, ?_⟩
  | refine And.intro rfl ?_
  | refine And.intro (by walk_at "side") ?_
  | refine Or.inl ⟨_, rfl, ?_⟩)
local macro_rules | `(tactic| walk_at "rds") => `(tactic| repeat (walk_at "rd"))
abbrev LO : Int := -9223372036854775808
abbrev HI : Int := 9223372036854775807
def wrapZ (n : Int) : Int := (n + 9223372036854775808) % 18446744073709551616 + -9223372036854775808
def isW (n : Int) : Bool := decide (LO ≤ n) && decide (n ≤ HI)
def cut (l h : Int) : Int × Int := if l < LO ∨ h > HI then (LO, HI) else (l, h)
def OptAt (K : PySem.W.Frag) (H : Hp) (v : V) (o : Option (Int × Int)) : Prop := match o with
  | none => v = .non
  | some (l, h) => ∃ p, v = .ref p ∧ SqT K H p [.int l, .int h]
section
variable {P : Program} {w : World} {K : PySem.W.Frag} {mg : Str → Option Value} {base : Heap} {aE : Addr}

abbrev s_wrap : Stmt := topS 5
abbrev N_wrap : List Str := ["n"]
abbrev P_wrap : List Str := ["n"]
theorem sc_wrap : FnScope N_wrap P_wrap (defScope s_wrap) := ⟨rfl, rfl, rfl, by decide +kernel, rfl, by decide +kernel, by decide +kernel⟩
def spWrap : Sp := fun vs H Q _ => ∃ n : Int, vs = [.int n] ∧ Q (.int (wrapZ n)) H
theorem cal_wrap (T : Txt K mg aE) (D : Def K mg "wrap" P_wrap s_wrap) : Cal P w K mg base 1 "wrap" P_wrap spWrap := by
  refine cal0 D sc_wrap (fun vs H Q E h => ?_) (fun f cdv A outer s H vs Q E hr h => ?_)
  · obtain ⟨n, rfl, _⟩ := h; rfl
  · obtain ⟨n, rfl, q⟩ := h
    have nd := sc_wrap.nd
    refine ⟨_, (pss_one (ps_ret (pe_op op_add (pe_op op_mod (pe_op op_sub (pv 0) (pe_gc rfl T.c_LOW)) (pe_gc rfl T.c_COUNT)) (pe_gc rfl T.c_LOW)))), ?_⟩
    walk_at "rds"
    have e : (n - -9223372036854775808) % 18446744073709551616 + -9223372036854775808 = wrapZ n := by unfold wrapZ; omega
    rw [← e] at q
    exact q

abbrev s_is_word : Stmt := topS 6
abbrev N_is_word : List Str := ["n"]
abbrev P_is_word : List Str := ["n"]
theorem sc_is_word : FnScope N_is_word P_is_word (defScope s_is_word) := ⟨rfl, rfl, rfl, by decide +kernel, rfl, by decide +kernel, by decide +kernel⟩
def spIsW : Sp := fun vs H Q _ => ∃ n : Int, vs = [.int n] ∧ Q (.bl (isW n)) H
theorem cal_is_word (T : Txt K mg aE) (D : Def K mg "is_word" P_is_word s_is_word) : Cal P w K mg base 1 "is_word" P_is_word spIsW := by
  refine cal0 D sc_is_word (fun vs H Q E h => ?_) (fun f cdv A outer s H vs Q E hr h => ?_)
  · obtain ⟨n, rfl, _⟩ := h; rfl
  · obtain ⟨n, rfl, q⟩ := h
    have nd := sc_is_word.nd
    refine ⟨_, (pss_one (ps_ret (pe_chain op_le op_le (pe_gc rfl T.c_LOW) (pv 0) (pe_gc rfl T.c_HIGH)))), ?_⟩
    walk_at "rds"
    unfold isW at q
    refine ite2 (fun h => ?_) (fun h => ?_)
    · rw [h, Bool.true_and] at q
      walk_at "rds"
      exact q
    · have h : decide (LO ≤ n) = false := by simpa using h
      rw [h, Bool.false_and] at q
      exact q

abbrev s_hull : Stmt := topS 7
abbrev N_hull : List Str := ["a", "b"]
abbrev P_hull : List Str := ["a", "b"]
theorem sc_hull : FnScope N_hull P_hull (defScope s_hull) := ⟨rfl, rfl, rfl, by decide +kernel, rfl, by decide +kernel, by decide +kernel⟩
def sp2 (K : PySem.W.Frag) (f : Int → Int → Int → Int → Option (Int × Int)) : Sp := fun vs H Q _ => ∃ (a b : Addr) (a0 a1 b0 b1 : Int), vs = [.ref a, .ref b] ∧ SqT K H a [.int a0, .int a1] ∧ SqT K H b [.int b0, .int b1] ∧ ∀ v H', Same H H' → OptAt K H' v (f a0 a1 b0 b1) → Q v H'
def hullF (a0 a1 b0 b1 : Int) : Option (Int × Int) := some (if b0 < a0 then b0 else a0, if b1 > a1 then b1 else a1)
theorem cal_hull (T : Txt K mg aE) (D : Def K mg "hull" P_hull s_hull) : Cal P w K mg base 1 "hull" P_hull (sp2 K hullF) := by
  refine cal0 D sc_hull (fun vs H Q E h => ?_) (fun f cdv A outer s H vs Q E hr h => ?_)
  · obtain ⟨a, b, a0, a1, b0, b1, rfl, _⟩ := h; rfl
  · obtain ⟨a, b, a0, a1, b0, b1, rfl, ha, hb, q⟩ := h
    have nd := sc_hull.nd
    refine ⟨_, (pss_one (ps_ret (pe_tup (pa_cons (pe_callB (call_min2 rfl) (by rfl) T.b_min (by decide +kernel) (pa_cons (pe_ix ix_tup (pv 0) pe_int (fun _ _ => rfl)) (pa_cons (pe_ix ix_tup (pv 1) pe_int (fun _ _ => rfl)) pa_nil))) (pa_cons (pe_callB (call_max2 rfl) (by rfl) T.b_max (by decide +kernel) (pa_cons (pe_ix ix_tup (pv 0) pe_int (fun _ _ => rfl)) (pa_cons (pe_ix ix_tup (pv 1) pe_int (fun _ _ => rfl)) pa_nil))) pa_nil))))), ?_⟩
    walk_at "rds"
    refine ⟨by show 2 ≤ sizeLine; decide, fun p hp => ?_⟩
    exact q _ _ (same_new hp) ⟨p, rfl, new_tup⟩

abbrev s_meet : Stmt := topS 8
abbrev N_meet : List Str := ["a", "b", "low", "high"]
abbrev P_meet : List Str := ["a", "b"]
theorem sc_meet : FnScope N_meet P_meet (defScope s_meet) := ⟨rfl, rfl, rfl, by decide +kernel, rfl, by decide +kernel, by decide +kernel⟩
def meetF (a0 a1 b0 b1 : Int) : Option (Int × Int) := if (if b0 > a0 then b0 else a0) > (if b1 < a1 then b1 else a1) then none else some (if b0 > a0 then b0 else a0, if b1 < a1 then b1 else a1)
theorem cal_meet (T : Txt K mg aE) (D : Def K mg "meet" P_meet s_meet) : Cal P w K mg base 1 "meet" P_meet (sp2 K meetF) := by
  refine cal0 D sc_meet (fun vs H Q E h => ?_) (fun f cdv A outer s H vs Q E hr h => ?_)
  · obtain ⟨a, b, a0, a1, b0, b1, rfl, _⟩ := h; rfl
  · obtain ⟨a, b, a0, a1, b0, b1, rfl, ha, hb, q⟩ := h
    have nd := sc_meet.nd
    refine ⟨_, (pss_cons (ps_set (i := 2) nd rfl (.inl rfl) (pe_callB (call_max2 rfl) (by rfl) T.b_max (by decide +kernel) (pa_cons (pe_ix ix_tup (pv 0) pe_int (fun _ _ => rfl)) (pa_cons (pe_ix ix_tup (pv 1) pe_int (fun _ _ => rfl)) pa_nil))))
    (pss_cons (ps_set (i := 3) nd rfl (.inl rfl) (pe_callB (call_min2 rfl) (by rfl) T.b_min (by decide +kernel) (pa_cons (pe_ix ix_tup (pv 0) pe_int (fun _ _ => rfl)) (pa_cons (pe_ix ix_tup (pv 1) pe_int (fun _ _ => rfl)) pa_nil))))
    (pss_cons (ps_if (pt_cmpR op_gt (pv 2) (pv 3) (nomark _)) (pss_one (ps_ret pe_non)) pss_nil)
    (pss_one (ps_ret (pe_tup (pa_cons (pv 2) (pa_cons (pv 3) pa_nil)))))))), ?_⟩
    walk_at "rds"
    refine ite2 (fun h => ?_) (fun h => ?_)
    · have h := of_decide_eq_true h
      refine q _ _ (Same.refl _) ?_
      unfold meetF
      rw [if_pos h]
      rfl
    · have h := fun z => h (decide_eq_true z)
      walk_at "rds"
      refine ⟨by show 2 ≤ sizeLine; decide, fun p hp => q _ _ (same_new hp) ?_⟩
      unfold meetF
      rw [if_neg h]
      exact ⟨p, rfl, new_tup⟩

abbrev s_inside : Stmt := topS 9
abbrev N_inside : List Str := ["a", "b"]
abbrev P_inside : List Str := ["a", "b"]
theorem sc_inside : FnScope N_inside P_inside (defScope s_inside) := ⟨rfl, rfl, rfl, by decide +kernel, rfl, by decide +kernel, by decide +kernel⟩
def insF (a0 a1 b0 b1 : Int) : Bool := decide (b0 ≤ a0) && decide (a1 ≤ b1)
def spIns (K : PySem.W.Frag) : Sp := fun vs H Q _ => ∃ (a b : Addr) (a0 a1 b0 b1 : Int), vs = [.ref a, .ref b] ∧ SqT K H a [.int a0, .int a1] ∧ SqT K H b [.int b0, .int b1] ∧ Q (.bl (insF a0 a1 b0 b1)) H
theorem cal_inside (T : Txt K mg aE) (D : Def K mg "inside" P_inside s_inside) : Cal P w K mg base 1 "inside" P_inside (spIns K) := by
  refine cal0 D sc_inside (fun vs H Q E h => ?_) (fun f cdv A outer s H vs Q E hr h => ?_)
  · obtain ⟨a, b, a0, a1, b0, b1, rfl, _⟩ := h; rfl
  · obtain ⟨a, b, a0, a1, b0, b1, rfl, ha, hb, q⟩ := h
    have nd := sc_inside.nd
    refine ⟨_, (pss_one (ps_ret (pe_and (pe_cmpR op_le (pe_ix ix_tup (pv 1) pe_int (fun _ _ => rfl)) (pe_ix ix_tup (pv 0) pe_int (fun _ _ => rfl)) (nomark _)) (pe_one (pe_cmpR op_le (pe_ix ix_tup (pv 0) pe_int (fun _ _ => rfl)) (pe_ix ix_tup (pv 1) pe_int (fun _ _ => rfl)) (nomark _)))))), ?_⟩
    walk_at "rds"
    unfold insF at q
    refine ite2 (fun h => ?_) (fun h => ?_)
    · rw [h, Bool.true_and] at q
      walk_at "rds"
      exact q
    · have h : decide (b0 ≤ a0) = false := by simpa using h
      rw [h, Bool.false_and] at q
      exact q

abbrev s_in_words : Stmt := topS 10
abbrev N_in_words : List Str := ["low", "high"]
abbrev P_in_words : List Str := ["low", "high"]
theorem sc_in_words : FnScope N_in_words P_in_words (defScope s_in_words) := ⟨rfl, rfl, rfl, by decide +kernel, rfl, by decide +kernel, by decide +kernel⟩
def spCut (K : PySem.W.Frag) : Sp := fun vs H Q _ => ∃ l h : Int, vs = [.int l, .int h] ∧ ∀ v H', Same H H' → OptAt K H' v (some (cut l h)) → Q v H'
theorem cal_in_words (T : Txt K mg aE) (D : Def K mg "in_words" P_in_words s_in_words) : Cal P w K mg base 1 "in_words" P_in_words (spCut K) := by
  refine cal0 D sc_in_words (fun vs H Q E h => ?_) (fun f cdv A outer s H vs Q E hr h => ?_)
  · obtain ⟨l, h, rfl, _⟩ := h; rfl
  · obtain ⟨l, h, rfl, q⟩ := h
    have nd := sc_in_words.nd
    refine ⟨_, (pss_cons (ps_if (PW.pt (pw_or (pt_cmpR op_lt (pv 0) (pe_gc rfl T.c_LOW) (nomark _)) (pw_or1 (pt_cmpR op_gt (pv 1) (pe_gc rfl T.c_HIGH) (nomark _))))) (pss_one (ps_ret (pe_gc rfl T.c_EVERY))) pss_nil)
    (pss_one (ps_ret (pe_tup (pa_cons (pv 0) (pa_cons (pv 1) pa_nil)))))), ?_⟩
    refine ⟨_, rfl, _, _, rfl, rfl, _, rfl, ?_⟩
    refine ite2 (fun h1 => ?_) (fun h1 => ?_)
    · have h1 := of_decide_eq_true h1
      refine iteT ?_
      have e : cut l h = (LO, HI) := if_pos (.inl h1)
      rw [e] at q
      exact q _ _ (Same.refl _) ⟨aE, rfl, T.every _⟩
    · have h1 : ¬ l < LO := fun z => h1 (decide_eq_true z)
      refine ⟨_, rfl, _, _, rfl, rfl, _, rfl, ?_⟩
      refine ite2 (fun h2 => ?_) (fun h2 => ?_)
      · have h2 := of_decide_eq_true h2
        have e : cut l h = (LO, HI) := if_pos (.inr h2)
        rw [e] at q
        exact q _ _ (Same.refl _) ⟨aE, rfl, T.every _⟩
      · have h2 : ¬ HI < h := fun z => h2 (decide_eq_true z)
        have e : cut l h = (l, h) := if_neg (fun z => z.elim h1 h2)
        rw [e] at q
        walk_at "rds"
        refine ⟨by show 2 ≤ sizeLine; decide, fun p hp => q _ _ (same_new hp) ⟨p, rfl, new_tup⟩⟩

abbrev s_law_cut : Stmt := topS 19
abbrev N_law_cut : List Str := ["low", "high"]
abbrev P_law_cut : List Str := ["low", "high"]
theorem sc_law_cut : FnScope N_law_cut P_law_cut (defScope s_law_cut) := ⟨rfl, rfl, rfl, by decide +kernel, rfl, by decide +kernel, by decide +kernel⟩

theorem cal_law_cut (T : Txt K mg aE) (D : Def K mg "_law_cut" P_law_cut s_law_cut) : Cal P w K mg base 1 "_law_cut" P_law_cut (spCut K) := by
  refine cal0 D sc_law_cut (fun vs H Q E h => ?_) (fun f cdv A outer s H vs Q E hr h => ?_)
  · obtain ⟨l, h, rfl, _⟩ := h; rfl
  · obtain ⟨l, h, rfl, q⟩ := h
    have nd := sc_law_cut.nd
    refine ⟨_, (pss_cons (ps_if (PW.pt (pw_or (pt_cmpR op_lt (pv 0) (pe_un un_neg pe_int) (nomark _)) (pw_or1 (pt_cmpR op_gt (pv 1) pe_int (nomark _))))) (pss_one (ps_ret (pe_tup (pa_cons (pe_un un_neg pe_int) (pa_cons pe_int pa_nil))))) pss_nil)
    (pss_one (ps_ret (pe_tup (pa_cons (pv 0) (pa_cons (pv 1) pa_nil)))))), ?_⟩
    refine ⟨_, rfl, _, rfl, _, _, rfl, rfl, _, rfl, ?_⟩
    refine ite2 (fun h1 => ?_) (fun h1 => ?_)
    · have h1 := of_decide_eq_true h1
      refine iteT ?_
      have e : cut l h = (LO, HI) := if_pos (.inl h1)
      rw [e] at q
      exact ⟨_, rfl, by show 2 ≤ sizeLine; decide, fun p hp => q _ _ (same_new hp) ⟨p, rfl, new_tup⟩⟩
    · have h1 : ¬ l < LO := fun z => h1 (decide_eq_true z)
      refine ⟨_, rfl, _, _, rfl, rfl, _, rfl, ?_⟩
      refine ite2 (fun h2 => ?_) (fun h2 => ?_)
      · have h2 := of_decide_eq_true h2
        have e : cut l h = (LO, HI) := if_pos (.inr h2)
        rw [e] at q
        exact ⟨_, rfl, by show 2 ≤ sizeLine; decide, fun p hp => q _ _ (same_new hp) ⟨p, rfl, new_tup⟩⟩
      · have h2 : ¬ HI < h := fun z => h2 (decide_eq_true z)
        have e : cut l h = (l, h) := if_neg (fun z => z.elim h1 h2)
        rw [e] at q
        walk_at "rds"
        refine ⟨by show 2 ≤ sizeLine; decide, fun p hp => q _ _ (same_new hp) ⟨p, rfl, new_tup⟩⟩

abbrev s_add_ranges : Stmt := topS 11
abbrev N_add_ranges : List Str := ["a", "b"]
abbrev P_add_ranges : List Str := ["a", "b"]
theorem sc_add_ranges : FnScope N_add_ranges P_add_ranges (defScope s_add_ranges) := ⟨rfl, rfl, rfl, by decide +kernel, rfl, by decide +kernel, by decide +kernel⟩
def addF (a0 a1 b0 b1 : Int) : Option (Int × Int) := some (cut (a0 + b0) (a1 + b1))
theorem cal_add_ranges (T : Txt K mg aE) (D : Def K mg "add_ranges" P_add_ranges s_add_ranges) (c_in_words : Cal P w K mg base 1 "in_words" P_in_words (spCut K)) : Cal P w K mg base 2 "add_ranges" P_add_ranges (sp2 K addF) := by
  refine cal0 D sc_add_ranges (fun vs H Q E h => ?_) (fun f cdv A outer s H vs Q E hr h => ?_)
  · obtain ⟨a, b, a0, a1, b0, b1, rfl, _⟩ := h; rfl
  · obtain ⟨a, b, a0, a1, b0, b1, rfl, ha, hb, q⟩ := h
    have nd := sc_add_ranges.nd
    refine ⟨_, (pss_one (ps_ret (pe_c c_in_words hr (by decide) rfl (pa_cons (pe_op op_add (pe_ix ix_tup (pv 0) pe_int (fun _ _ => rfl)) (pe_ix ix_tup (pv 1) pe_int (fun _ _ => rfl))) (pa_cons (pe_op op_add (pe_ix ix_tup (pv 0) pe_int (fun _ _ => rfl)) (pe_ix ix_tup (pv 1) pe_int (fun _ _ => rfl))) pa_nil))))), ?_⟩
    walk_at "rds"
    exact q

abbrev s_sub_ranges : Stmt := topS 12
abbrev N_sub_ranges : List Str := ["a", "b"]
abbrev P_sub_ranges : List Str := ["a", "b"]
theorem sc_sub_ranges : FnScope N_sub_ranges P_sub_ranges (defScope s_sub_ranges) := ⟨rfl, rfl, rfl, by decide +kernel, rfl, by decide +kernel, by decide +kernel⟩
def subF (a0 a1 b0 b1 : Int) : Option (Int × Int) := some (cut (a0 - b1) (a1 - b0))
theorem cal_sub_ranges (T : Txt K mg aE) (D : Def K mg "sub_ranges" P_sub_ranges s_sub_ranges) (c_in_words : Cal P w K mg base 1 "in_words" P_in_words (spCut K)) : Cal P w K mg base 2 "sub_ranges" P_sub_ranges (sp2 K subF) := by
  refine cal0 D sc_sub_ranges (fun vs H Q E h => ?_) (fun f cdv A outer s H vs Q E hr h => ?_)
  · obtain ⟨a, b, a0, a1, b0, b1, rfl, _⟩ := h; rfl
  · obtain ⟨a, b, a0, a1, b0, b1, rfl, ha, hb, q⟩ := h
    have nd := sc_sub_ranges.nd
    refine ⟨_, (pss_one (ps_ret (pe_c c_in_words hr (by decide) rfl (pa_cons (pe_op op_sub (pe_ix ix_tup (pv 0) pe_int (fun _ _ => rfl)) (pe_ix ix_tup (pv 1) pe_int (fun _ _ => rfl))) (pa_cons (pe_op op_sub (pe_ix ix_tup (pv 0) pe_int (fun _ _ => rfl)) (pe_ix ix_tup (pv 1) pe_int (fun _ _ => rfl))) pa_nil))))), ?_⟩
    walk_at "rds"
    exact q

theorem lc2_tup {a b : Addr} {xs ys : List V} {ia ib i j : Nat} {te : TE} {vs vs1 : List Nat} {σ : L2.St} {H : Hp} {Q : VK} (f : V → V → V) (ea : σ[ia]? = some (some (.ref a))) (eb : ∀ x, ((wipe σ vs).set i (some x))[ib]? = some (some (.ref b)))
    (ha : SqT K H a xs) (hb : SqT K H b ys) (hw : ∀ x, wipe ((wipe σ vs).set i (some x)) vs = wipe σ vs) (hw1 : ∀ x y, wipe ((wipe ((wipe σ vs).set i (some x)) vs1).set j (some y)) vs1 = wipe ((wipe σ vs).set i (some x)) vs1)
    (sz : xs.length * ys.length ≤ 1000000) (he : ∀ x y H' R, x ∈ xs → y ∈ ys → R (f x y) H' → te ((wipe ((wipe σ vs).set i (some x)) vs1).set j (some y)) H' R)
    (q : ∀ D, H D = none → Q (.ref D) (upd H D (.lst (xs.flatMap fun x => ys.map (f x))))) :
    tLc2 (iTup K (tVar ia)) (gName i) tYes (iTup K (tVar ib)) (gName j) tYes te vs vs1 σ H Q := by
  refine ⟨_, ea, a, rfl, ⟨_, ha⟩, fun D hD => ?_⟩
  have row : ∀ k, ((xs.take k).flatMap fun x => ys.map (f x)).length = (xs.take k).length * ys.length := fun k => by
    rw [List.length_flatMap]
    simp only [List.length_map]
    rw [List.map_const', List.sum_replicate_nat]
  refine ⟨fun k m H' => m = xs.length - k ∧ k ≤ xs.length ∧ H' = upd H D (.lst ((xs.take k).flatMap fun x => ys.map (f x))), ⟨xs.length, by simp, Nat.zero_le _, rfl⟩, ?_⟩
  rintro k m H' ⟨rfl, hk, rfl⟩
  have qa : SqT K (upd H D (.lst ((xs.take k).flatMap fun x => ys.map (f x)))) a xs := same_tup (same_new hD) ha
  by_cases hlt : k < xs.length
  · refine .inr ⟨⟨xs, xs[k], qa, by simp [hlt]⟩, fun H' => H' = upd H D (.lst ((xs.take (k + 1)).flatMap fun x => ys.map (f x))), fun H' e => ⟨xs.length - (k + 1), by omega, rfl, hlt, e⟩, fun x H' y => ?_⟩
    obtain ⟨e, y⟩ := y
    subst e
    have hx := y xs qa
    have hxm : x ∈ xs := List.mem_of_getElem? hx
    have et : xs.take (k + 1) = xs.take k ++ [x] := by
      obtain ⟨h1, h2⟩ := List.getElem?_eq_some_iff.mp hx
      rw [List.take_succ_eq_append_getElem h1, h2]
    refine ⟨hw x, ?_⟩
    simp only [tYes, if_true]
    refine ⟨_, eb x, b, rfl, ⟨_, same_tup (same_new hD) hb⟩, ?_⟩
    refine ⟨fun l m H' => m = ys.length - l ∧ l ≤ ys.length ∧ H' = upd H D (.lst (((xs.take k).flatMap fun x => ys.map (f x)) ++ (ys.take l).map (f x))), ⟨ys.length, by simp, Nat.zero_le _, by simp⟩, ?_⟩
    rintro l m H' ⟨rfl, hl, rfl⟩
    have qb : SqT K (upd H D (.lst (((xs.take k).flatMap fun x => ys.map (f x)) ++ (ys.take l).map (f x)))) b ys := same_tup (same_new hD) hb
    by_cases hlt2 : l < ys.length
    · refine .inr ⟨⟨ys, ys[l], qb, by simp [hlt2]⟩, fun H' => H' = upd H D (.lst (((xs.take k).flatMap fun x => ys.map (f x)) ++ (ys.take (l + 1)).map (f x))), fun H' e => ⟨ys.length - (l + 1), by omega, rfl, hlt2, e⟩, fun u H' y => ?_⟩
      obtain ⟨e, y⟩ := y
      subst e
      have hu := y ys qb
      have hum : u ∈ ys := List.mem_of_getElem? hu
      have et2 : ys.take (l + 1) = ys.take l ++ [u] := by
        obtain ⟨h1, h2⟩ := List.getElem?_eq_some_iff.mp hu
        rw [List.take_succ_eq_append_getElem h1, h2]
      refine ⟨hw1 x u, he x u _ _ hxm hum ⟨_, upd_same, ?_, ?_⟩⟩
      · rw [List.length_append, row k, List.length_map, List.length_take, List.length_take]
        have h1 : min k xs.length * ys.length ≤ xs.length * ys.length := Nat.mul_le_mul_right _ (by omega)
        have h2 : ys.length ≤ xs.length * ys.length := Nat.le_mul_of_pos_left _ (by omega)
        exact Nat.lt_of_le_of_lt (show _ ≤ 2000000 by omega) (by decide)
      · rw [upd_upd, et2, List.map_append, List.append_assoc]
        rfl
    · have e : l = ys.length := by omega
      subst e
      refine .inl ⟨⟨ys, qb, Nat.le_refl _⟩, ?_⟩
      rw [et, List.flatMap_append, List.take_length]
      simp
  · have e : k = xs.length := by omega
    subst e
    refine .inl ⟨⟨xs, qa, Nat.le_refl _⟩, ?_⟩
    rw [List.take_length]
    exact q D hD

def mulL (a0 a1 b0 b1 : Int) : List Int := [a0 * b0, a0 * b1, a1 * b0, a1 * b1]
def MinOf (m : Int) (l : List Int) : Prop := m ∈ l ∧ ∀ y ∈ l, m ≤ y
def MaxOf (m : Int) (l : List Int) : Prop := m ∈ l ∧ ∀ y ∈ l, y ≤ m
theorem MinOf.eq {m n : Int} {l : List Int} (h : MinOf m l) (h' : MinOf n l) : m = n := Int.le_antisymm (h.2 _ h'.1) (h'.2 _ h.1)
theorem MaxOf.eq {m n : Int} {l : List Int} (h : MaxOf m l) (h' : MaxOf n l) : m = n := Int.le_antisymm (h'.2 _ h.1) (h.2 _ h'.1)
/-- a word -/
def Wd (x : Int) : Prop := -9223372036854775808 ≤ x ∧ x ≤ 9223372036854775807
theorem Wd.abs {x : Int} (h : Wd x) : x.natAbs < 2 ^ 64 := by
  unfold Wd at h
  omega
theorem Wd.mul {x y : Int} (h : Wd x) (h' : Wd y) : CMulW x y := wide_mul h.abs h'.abs (by decide) (by decide) (by decide)
theorem Wd.cmul {x y : Int} (h : Wd x) : CMul x y := by
  unfold Wd at h
  unfold CMul
  omega

abbrev s_mul_ranges : Stmt := topS 13
abbrev N_mul_ranges : List Str := ["a", "b", "products", "x", "y"]
abbrev P_mul_ranges : List Str := ["a", "b"]
theorem sc_mul_ranges : FnScope N_mul_ranges P_mul_ranges (defScope s_mul_ranges) := ⟨rfl, rfl, rfl, by decide +kernel, rfl, by decide +kernel, by decide +kernel⟩
def spMul (K : PySem.W.Frag) : Sp := fun vs H Q _ => ∃ (a b : Addr) (a0 a1 b0 b1 : Int), vs = [.ref a, .ref b] ∧ SqT K H a [.int a0, .int a1] ∧ SqT K H b [.int b0, .int b1] ∧ Wd a0 ∧ Wd a1 ∧ ∀ v H' m n, Same H H' → MinOf m (mulL a0 a1 b0 b1) → MaxOf n (mulL a0 a1 b0 b1) → OptAt K H' v (some (cut m n)) → Q v H'
theorem cal_mul_ranges (T : Txt K mg aE) (D : Def K mg "mul_ranges" P_mul_ranges s_mul_ranges) (c_in_words : Cal P w K mg base 1 "in_words" P_in_words (spCut K)) : Cal P w K mg base 2 "mul_ranges" P_mul_ranges (spMul K) := by
  refine cal0 D sc_mul_ranges (fun vs H Q E h => ?_) (fun f cdv A outer s H vs Q E hr h => ?_)
  · obtain ⟨a, b, a0, a1, b0, b1, rfl, _⟩ := h; rfl
  · obtain ⟨a, b, a0, a1, b0, b1, rfl, ha, hb, w0, w1, q⟩ := h
    have nd := sc_mul_ranges.nd
    refine ⟨_, (pss_cons (ps_setLc2 (i := 2) (own := [("x", 3), ("y", 4)]) (vs1 := [4]) (g := gName 3) (tt := tYes) (g1 := gName 4) (tt1 := tYes) (wi1 := iTup K (tVar 1)) rfl nd rfl rfl (sw_true rfl rfl rfl (by decide +kernel)) (pi_tup (pv 0)) (blkOk_by (own := [("x", 3), ("y", 4)]) (N := N_mul_ranges) (sc := defScope s_mul_ranges) (by decide +kernel)) (by decide) (fun _ _ _ _ _ => (pg_name (i := 3) nd rfl (.inl rfl))) (fun _ _ _ _ _ => pts_nil) (fun _ _ _ _ _ => (pi_tup (pv 1))) (fun _ _ _ _ _ => (pg_name (i := 4) nd rfl (.inl rfl))) (fun _ _ _ _ _ => pts_nil) (fun _ _ _ _ _ => (pe_op op_mul (pv 3) (pv 4))))
    (pss_one (ps_ret (pe_c c_in_words hr (by decide) rfl (pa_cons (pe_callB (cr_min rfl) (by rfl) T.b_min (by decide +kernel) (pa_cons (pv 2) pa_nil)) (pa_cons (pe_callB (cr_max rfl) (by rfl) T.b_max (by decide +kernel) (pa_cons (pv 2) pa_nil)) pa_nil)))))), ?_⟩
    unfold tSeq tAsg
    refine lc2_tup (a := a) (b := b) (ib := 1) (xs := [.int a0, .int a1]) (ys := [.int b0, .int b1]) (fun x y => match x, y with | .int i, .int j => .int (i * j) | _, _ => .non) (by rfl) (by intro _; rfl) ha hb (by intro _; rfl) (by intro _ _; rfl) (by show 2 * 2 ≤ 1000000; decide) ?_ ?_
    · intro x y H' R hx hy r
      have hx : x = .int a0 ∨ x = .int a1 := by simpa using hx
      have hy : y = .int b0 ∨ y = .int b1 := by simpa using hy
      rcases hx with rfl | rfl <;> rcases hy with rfl | rfl
      · exact ⟨_, rfl, _, rfl, _, _, rfl, rfl, w0.cmul, r⟩
      · exact ⟨_, rfl, _, rfl, _, _, rfl, rfl, w0.cmul, r⟩
      · exact ⟨_, rfl, _, rfl, _, _, rfl, rfl, w1.cmul, r⟩
      · exact ⟨_, rfl, _, rfl, _, _, rfl, rfl, w1.cmul, r⟩
    · intro D hD
      refine ⟨_, rfl, D, mulL a0 a1 b0 b1, rfl, new_lst, (by show 0 < 4; decide), fun m m1 m2 => ?_⟩
      refine ⟨_, rfl, D, mulL a0 a1 b0 b1, rfl, new_lst, (by show 0 < 4; decide), fun n n1 n2 => ?_⟩
      exact ⟨_, _, rfl, fun v H' e o => q v H' m n ((same_new hD).trans e) ⟨m1, m2⟩ ⟨n1, n2⟩ o⟩

abbrev s_law_cell : Stmt := topS 15
abbrev N_law_cell : List Str := ["script", "k"]
abbrev P_law_cell : List Str := ["script", "k"]
theorem sc_law_cell : FnScope N_law_cell P_law_cell (defScope s_law_cell) := ⟨rfl, rfl, rfl, by decide +kernel, rfl, by decide +kernel, by decide +kernel⟩
def spCell (K : PySem.W.Frag) : Sp := fun vs H Q _ => ∃ (a : Addr) (ns : List Int) (k : Nat), vs = [.ref a, .int (k : Int)] ∧ SqL K H a (ns.map V.int) ∧ Q (.int (cell ns k)) H
theorem cal_law_cell (T : Txt K mg aE) (D : Def K mg "_law_cell" P_law_cell s_law_cell) : Cal P w K mg base 1 "_law_cell" P_law_cell (spCell K) := by
  refine cal0 D sc_law_cell (fun vs H Q E h => ?_) (fun f cdv A outer s H vs Q E hr h => ?_)
  · obtain ⟨a, ns, k, rfl, _⟩ := h; rfl
  · obtain ⟨a, ns, k, rfl, hS, q⟩ := h
    have nd := sc_law_cell.nd
    refine ⟨_, (pss_cons (ps_if (pt_cmpR op_lt (pv 1) (pe_callB call_len_seq (by rfl) T.b_len PySem.boot_len (pa_cons (pv 0) pa_nil)) (nomark _)) (pss_one (ps_ret (pe_callTy call_int1 (by rfl) T.b_int (by decide +kernel) (pa_cons (pe_ix ix_list (pv 0) (pv 1) (fun _ _ => rfl)) pa_nil)))) pss_nil)
    (pss_one (ps_ret pe_int))), ?_⟩
    refine ⟨_, rfl, _, rfl, _, _, rfl, .inl hS, ?_⟩
    walk_at "rds"
    refine ite2 (fun h => ?_) (fun h => ?_)
    · have hk : k < ns.length := by
        have h := of_decide_eq_true h
        rw [List.length_map] at h
        omega
      refine ⟨_, rfl, _, rfl, _, _, _, V.int (cell ns k), rfl, rfl, hS, atI_of ?_, Or.inl ⟨_, rfl, q⟩⟩
      unfold cell
      rw [List.getElem?_map, List.getD_eq_getElem?_getD, List.getElem?_eq_getElem hk]
      rfl
    · have hk : ¬ k < ns.length := fun z => h (decide_eq_true (by rw [List.length_map]; omega))
      have e : cell ns k = 0 := by
        unfold cell
        rw [List.getD_eq_getElem?_getD, List.getElem?_eq_none (by omega)]
        rfl
      rw [e] at q
      exact q

abbrev s_law_end : Stmt := topS 16
abbrev N_law_end : List Str := ["cell", "rest"]
abbrev P_law_end : List Str := ["cell"]
theorem sc_law_end : FnScope N_law_end P_law_end (defScope s_law_end) := ⟨rfl, rfl, rfl, by decide +kernel, rfl, by decide +kernel, by decide +kernel⟩
def spEnd : Sp := fun vs H Q _ => ∃ c : Int, vs = [.int c] ∧ ∀ e, Wd e → Q (.int e) H
theorem cal_law_end (T : Txt K mg aE) (D : Def K mg "_law_end" P_law_end s_law_end) : Cal P w K mg base 1 "_law_end" P_law_end spEnd := by
  refine cal0 D sc_law_end (fun vs H Q E h => ?_) (fun f cdv A outer s H vs Q E hr h => ?_)
  · obtain ⟨c, rfl, _⟩ := h; rfl
  · obtain ⟨c, rfl, q⟩ := h
    have nd := sc_law_end.nd
    refine ⟨_, (pss_cons (ps_set (i := 1) nd rfl (.inl rfl) (pe_op op_fdiv (pv 0) pe_int))
    (pss_cons (ps_if (pt_cmpR op_eq (pe_op op_mod (pv 0) pe_int) pe_int (nomark _)) (pss_one (ps_ret (pe_op op_sub (pe_op op_mod (pv 1) pe_int) pe_int))) pss_nil)
    (pss_cons (ps_if (pt_cmpR op_eq (pe_op op_mod (pv 0) pe_int) pe_int (nomark _)) (pss_one (ps_ret (pe_op op_add (pe_un un_neg pe_int) (pe_op op_mod (pv 1) pe_int)))) pss_nil)
    (pss_cons (ps_if (pt_cmpR op_eq (pe_op op_mod (pv 0) pe_int) pe_int (nomark _)) (pss_one (ps_ret (pe_op op_sub pe_int (pe_op op_mod (pv 1) pe_int)))) pss_nil)
    (pss_cons (ps_if (pt_cmpR op_lt (pe_callB call_abs (by rfl) T.b_abs (by decide +kernel) (pa_cons (pv 1) pa_nil)) pe_int (nomark _)) (pss_one (ps_set (i := 1) nd rfl (.inl rfl) (pe_op op_add (pe_op op_mul (pv 1) pe_int) pe_int))) pss_nil)
    (pss_one (ps_ret (pe_op op_sub (pe_op op_mod (pv 1) pe_int) pe_int)))))))), ?_⟩
    have m1 : ∀ x : Int, 0 ≤ x % 10 ∧ x % 10 < 10 := fun x => ⟨Int.emod_nonneg _ (by decide), Int.emod_lt_of_pos _ (by decide)⟩
    have m2 : ∀ x : Int, 0 ≤ x % 19 ∧ x % 19 < 19 := fun x => ⟨Int.emod_nonneg _ (by decide), Int.emod_lt_of_pos _ (by decide)⟩
    have m3 : ∀ x : Int, 0 ≤ x % 18446744073709551616 ∧ x % 18446744073709551616 < 18446744073709551616 := fun x => ⟨Int.emod_nonneg _ (by decide), Int.emod_lt_of_pos _ (by decide)⟩
    refine ⟨_, rfl, _, _, rfl, rfl, (by unfold CDiv; omega), ?_⟩
    generalize c / 4 = r
    refine ⟨_, rfl, _, _, rfl, rfl, (by show (0 : Int) < 4; decide), rfl, _, rfl, ?_⟩
    refine ite2 (fun h => ?_) (fun h => ?_)
    · refine ⟨_, rfl, _, _, rfl, rfl, (by show (0 : Int) < 19; decide), _, _, rfl, rfl, q _ ?_⟩
      have := m2 r
      unfold Wd
      omega
    refine ⟨_, rfl, _, _, rfl, rfl, (by show (0 : Int) < 4; decide), rfl, _, rfl, ?_⟩
    refine ite2 (fun h => ?_) (fun h => ?_)
    · refine ⟨_, rfl, _, rfl, _, _, rfl, rfl, (by show (0 : Int) < 10; decide), _, _, rfl, rfl, q _ ?_⟩
      have := m1 r
      unfold Wd
      omega
    refine ⟨_, rfl, _, _, rfl, rfl, (by show (0 : Int) < 4; decide), rfl, _, rfl, ?_⟩
    refine ite2 (fun h => ?_) (fun h => ?_)
    · refine ⟨_, rfl, _, _, rfl, rfl, (by show (0 : Int) < 10; decide), _, _, rfl, rfl, q _ ?_⟩
      have := m1 r
      unfold Wd
      omega
    refine ⟨_, rfl, _, rfl, _, _, rfl, rfl, _, rfl, ?_⟩
    refine ite2 (fun h => ?_) (fun h => ?_)
    · have h := of_decide_eq_true h
      refine ⟨_, rfl, _, _, rfl, rfl, (by unfold CMul; omega), _, _, rfl, rfl, ?_⟩
      refine ⟨_, rfl, _, _, rfl, rfl, (by show (0 : Int) < 18446744073709551616; decide), _, _, rfl, rfl, q _ ?_⟩
      have := m3 (r * 11400714819323198485 + 7046029254386353131)
      unfold Wd
      omega
    · refine ⟨_, rfl, _, _, rfl, rfl, (by show (0 : Int) < 18446744073709551616; decide), _, _, rfl, rfl, q _ ?_⟩
      have := m3 r
      unfold Wd
      omega

theorem OptAt.mono {H H' : Hp} {v : V} {o : Option (Int × Int)} (e : Same H H') (h : OptAt K H v o) : OptAt K H' v o := by
  cases o with
  | none => exact h
  | some z =>
    obtain ⟨p, hv, hp⟩ := h
    exact ⟨p, hv, same_tup e hp⟩
theorem v_ne {a b : Int} (h : ¬ a = b) : (!decide (V.int a = V.int b)) = true := by
  have y : ¬ V.int a = V.int b := fun z => h (by injection z)
  rw [decide_eq_false y]
  rfl
theorem v_eq {a b : Int} (h : a = b) : (!decide (V.int a = V.int b)) = false := by
  rw [h, decide_eq_true rfl]
  rfl

abbrev s_law_tuple : Stmt := topS 17
abbrev N_law_tuple : List Str := ["actual", "due", "k"]
abbrev P_law_tuple : List Str := ["actual", "due"]
theorem sc_law_tuple : FnScope N_law_tuple P_law_tuple (defScope s_law_tuple) := ⟨rfl, rfl, rfl, by decide +kernel, rfl, by decide +kernel, by decide +kernel⟩
def spLt (K : PySem.W.Frag) : Sp := fun vs H Q _ => ∃ (x y : V) (ox oy : Option (Int × Int)), vs = [x, y] ∧ OptAt K H x ox ∧ OptAt K H y oy ∧ Q (.bl (decide (ox = oy))) H
theorem cal_law_tuple (T : Txt K mg aE) (D : Def K mg "_law_tuple" P_law_tuple s_law_tuple) : Cal P w K mg base 1 "_law_tuple" P_law_tuple (spLt K) := by
  refine cal0 D sc_law_tuple (fun vs H Q E h => ?_) (fun f cdv A outer s H vs Q E hr h => ?_)
  · obtain ⟨x, y, ox, oy, rfl, _⟩ := h; rfl
  · obtain ⟨x, y, ox, oy, rfl, hx, hy, q⟩ := h
    have nd := sc_law_tuple.nd
    refine ⟨_, (pss_cons (ps_if (pt_cmpR op_isN (pv 1) pe_non (nomark _)) (pss_one (ps_ret (pe_cmpR op_isN (pv 0) pe_non (nomark _)))) pss_nil)
    (pss_cons (ps_if (PW.pt (pw_or (pt_not (pt_val (pe_callB call_isi (by rfl) T.b_isinstance (by decide +kernel) (pa_cons (pv 0) (pa_cons (pe_bltn (v := .ty "tuple") (by rfl) T.b_tuple (by decide +kernel) rfl) pa_nil))))) (pw_or1 (pt_cmpR op_ne (pe_callB call_len_seq (by rfl) T.b_len PySem.boot_len (pa_cons (pv 0) pa_nil)) pe_int (nomark _))))) (pss_one (ps_ret pe_bl)) pss_nil)
    (pss_cons (ps_for PassesOwn.never rfl (pi_range1 (by rfl) T.b_range (pa_cons pe_int pa_nil)) (pg_name (i := 2) nd rfl (.inl rfl))
      (pss_one (ps_if (PW.pt (pw_or (pt_not (pt_val (pe_callB call_isi (by rfl) T.b_isinstance (by decide +kernel) (pa_cons (pe_ix ix_tup (pv 0) (pv 2) (fun _ _ => rfl)) (pa_cons (pe_bltn (v := .ty "int") (by rfl) T.b_int (by decide +kernel) rfl) pa_nil))))) (pw_or (pt_val (pe_callB call_isi (by rfl) T.b_isinstance (by decide +kernel) (pa_cons (pe_ix ix_tup (pv 0) (pv 2) (fun _ _ => rfl)) (pa_cons (pe_bltn (v := .ty "bool") (by rfl) T.b_bool (by decide +kernel) rfl) pa_nil)))) (pw_or1 (pt_cmpR op_ne (pe_ix ix_tup (pv 0) (pv 2) (fun _ _ => rfl)) (pe_ix ix_tup (pv 1) (pv 2) (fun _ _ => rfl)) (nomark _)))))) (pss_one (ps_ret pe_bl)) pss_nil)))
    (pss_one (ps_ret pe_bl))))), ?_⟩
    refine ⟨_, rfl, rfl, _, rfl, ?_⟩
    cases oy with
    | none =>
      have hy : y = .non := hy
      subst hy
      refine iteT ⟨_, rfl, rfl, ?_⟩
      cases ox with
      | none =>
        have hx : x = .non := hx
        subst hx
        exact q
      | some z =>
        obtain ⟨p, rfl, _⟩ := hx
        exact q
    | some d =>
      obtain ⟨d0, d1⟩ := d
      obtain ⟨py, rfl, hy⟩ := hy
      refine iteF ?_
      cases ox with
      | none =>
        have hx : x = .non := hx
        subst hx
        exact ⟨_, rfl, _, _, _, _, false, rfl, .ty "tuple", .base .non, kit_ty (by decide +kernel), _, rfl, iteT q⟩
      | some c =>
        obtain ⟨c0, c1⟩ := c
        obtain ⟨px, rfl, hx⟩ := hx
        refine ⟨_, rfl, _, _, _, _, true, rfl, .ty "tuple", tupType hx, kit_ty (by decide +kernel), _, rfl, iteF ?_⟩
        refine ⟨_, rfl, _, _, rfl, .inr hx, rfl, _, rfl, iteF ?_⟩
        refine ⟨_, rfl, by decide, by decide, for_range (lo := 0) (n := 2) (fun i σ H' => H' = H ∧ (∃ v, σ = [some (.ref px), some (.ref py), v]) ∧ (1 ≤ i → c0 = d0) ∧ (2 ≤ i → c1 = d1)) ⟨rfl, ⟨_, rfl⟩, fun z => by omega, fun z => by omega⟩ ?_ ?_⟩
        · rintro i σ H' hi ⟨rfl, ⟨v, rfl⟩, h1, h2⟩
          have hi' : i = 0 ∨ i = 1 := by omega
          rcases hi' with rfl | rfl
          · refine ⟨_, rfl, _, rfl, _, _, _, _, rfl, rfl, hx, atI_of (j := 0) rfl, _, _, _, _, true, rfl, .ty "int", .base (.int _), kit_ty (by decide +kernel), _, rfl, iteF ?_⟩
            refine ⟨_, rfl, _, rfl, _, _, _, _, rfl, rfl, hx, atI_of (j := 0) rfl, _, _, _, _, false, rfl, .ty "bool", .base (.int _), kit_ty (by decide +kernel), _, rfl, iteF ?_⟩
            refine ⟨_, rfl, _, rfl, _, _, _, _, rfl, rfl, hx, atI_of (j := 0) rfl, _, rfl, _, rfl, _, _, _, _, rfl, rfl, hy, atI_of (j := 0) rfl, rfl, _, rfl, ?_⟩
            by_cases hc : c0 = d0
            · rw [v_eq hc]
              exact iteF ⟨rfl, ⟨_, rfl⟩, fun _ => hc, fun z => by omega⟩
            · rw [v_ne hc]
              have e : decide (some (c0, c1) = some (d0, d1)) = false := decide_eq_false fun z => hc (by injection z with z; injection z)
              rw [e] at q
              exact iteT q
          · refine ⟨_, rfl, _, rfl, _, _, _, _, rfl, rfl, hx, atI_of (j := 1) rfl, _, _, _, _, true, rfl, .ty "int", .base (.int _), kit_ty (by decide +kernel), _, rfl, iteF ?_⟩
            refine ⟨_, rfl, _, rfl, _, _, _, _, rfl, rfl, hx, atI_of (j := 1) rfl, _, _, _, _, false, rfl, .ty "bool", .base (.int _), kit_ty (by decide +kernel), _, rfl, iteF ?_⟩
            refine ⟨_, rfl, _, rfl, _, _, _, _, rfl, rfl, hx, atI_of (j := 1) rfl, _, rfl, _, rfl, _, _, _, _, rfl, rfl, hy, atI_of (j := 1) rfl, rfl, _, rfl, ?_⟩
            by_cases hc : c1 = d1
            · rw [v_eq hc]
              exact iteF ⟨rfl, ⟨_, rfl⟩, fun _ => h1 (by omega), fun _ => hc⟩
            · rw [v_ne hc]
              have e : decide (some (c0, c1) = some (d0, d1)) = false := decide_eq_false fun z => hc (by injection z with z; injection z)
              rw [e] at q
              exact iteT q
        · rintro σ H' ⟨rfl, ⟨v, rfl⟩, h1, h2⟩
          have e : decide (some (c0, c1) = some (d0, d1)) = true := decide_eq_true (by rw [h1 (by decide), h2 (by decide)])
          rw [e] at q
          exact q

abbrev s_law_bool : Stmt := topS 18
abbrev N_law_bool : List Str := ["actual", "due"]
abbrev P_law_bool : List Str := ["actual", "due"]
theorem sc_law_bool : FnScope N_law_bool P_law_bool (defScope s_law_bool) := ⟨rfl, rfl, rfl, by decide +kernel, rfl, by decide +kernel, by decide +kernel⟩
def spLb : Sp := fun vs H Q _ => ∃ x y : Bool, vs = [.bl x, .bl y] ∧ Q (.bl (decide (x = y))) H
theorem cal_law_bool (T : Txt K mg aE) (D : Def K mg "_law_bool" P_law_bool s_law_bool) : Cal P w K mg base 1 "_law_bool" P_law_bool spLb := by
  refine cal0 D sc_law_bool (fun vs H Q E h => ?_) (fun f cdv A outer s H vs Q E hr h => ?_)
  · obtain ⟨x, y, rfl, _⟩ := h; rfl
  · obtain ⟨x, y, rfl, q⟩ := h
    have nd := sc_law_bool.nd
    refine ⟨_, (pss_one (ps_ret (pe_and (pe_callB call_isi (by rfl) T.b_isinstance (by decide +kernel) (pa_cons (pv 0) (pa_cons (pe_bltn (v := .ty "bool") (by rfl) T.b_bool (by decide +kernel) rfl) pa_nil))) (pe_one (pe_cmpR op_eq (pv 0) (pv 1) (nomark _)))))), ?_⟩
    refine ⟨_, rfl, _, _, _, _, true, rfl, .ty "bool", .base (.bl x), kit_ty (by decide +kernel), _, rfl, iteT ?_⟩
    refine ⟨_, rfl, _, rfl, rfl, ?_⟩
    have e : decide (V.bl x = V.bl y) = decide (x = y) := by
      cases x <;> cases y <;> decide
    rw [e]
    exact q

def nums (a0 a1 b0 b1 g : Int) : List Int := [a0, a1, b0, a0 + b0, a1 + b1, a0 - b1, a1 - b0, a0 * b0, a1 * b1, g, a0 - 1, a1 + 1]
theorem nums_small {a0 a1 b0 b1 g : Int} (wa0 : Wd a0) (wa1 : Wd a1) (wb0 : Wd b0) (wb1 : Wd b1) (hg : g.natAbs < 2 ^ 160) : ∀ n ∈ nums a0 a1 b0 b1 g, n.natAbs < 2 ^ 160 := by
  intro n h
  unfold nums at h
  simp only [List.mem_cons, List.not_mem_nil, or_false] at h
  have p0 : (a0 * b0).natAbs < 2 ^ (64 + 64) := wide_lt wa0.abs wb0.abs
  have p1 : (a1 * b1).natAbs < 2 ^ (64 + 64) := wide_lt wa1.abs wb1.abs
  unfold Wd at wa0 wa1 wb0 wb1
  rcases h with h | h | h | h | h | h | h | h | h | h | h | h <;> subst h <;> omega

abbrev s_law_numbers : Stmt := topS 20
abbrev N_law_numbers : List Str := ["a", "b", "great"]
abbrev P_law_numbers : List Str := ["a", "b", "great"]
theorem sc_law_numbers : FnScope N_law_numbers P_law_numbers (defScope s_law_numbers) := ⟨rfl, rfl, rfl, by decide +kernel, rfl, by decide +kernel, by decide +kernel⟩
def spNums (K : PySem.W.Frag) : Sp := fun vs H Q _ => ∃ (a b : Addr) (a0 a1 b0 b1 g : Int), vs = [.ref a, .ref b, .int g] ∧ SqT K H a [.int a0, .int a1] ∧ SqT K H b [.int b0, .int b1] ∧ Wd a0 ∧ Wd a1 ∧ Wd b0 ∧ Wd b1 ∧ ∀ p H', Same H H' → SqL K H' p ((nums a0 a1 b0 b1 g).map V.int) → Q (.ref p) H'
theorem cal_law_numbers (T : Txt K mg aE) (D : Def K mg "_law_numbers" P_law_numbers s_law_numbers) : Cal P w K mg base 1 "_law_numbers" P_law_numbers (spNums K) := by
  refine cal0 D sc_law_numbers (fun vs H Q E h => ?_) (fun f cdv A outer s H vs Q E hr h => ?_)
  · obtain ⟨a, b, a0, a1, b0, b1, g, rfl, _⟩ := h; rfl
  · obtain ⟨a, b, a0, a1, b0, b1, g, rfl, ha, hb, wa0, wa1, wb0, wb1, q⟩ := h
    have nd := sc_law_numbers.nd
    refine ⟨_, (pss_one (ps_ret (pe_lst (pa_cons (pe_ix ix_tup (pv 0) pe_int (fun _ _ => rfl)) (pa_cons (pe_ix ix_tup (pv 0) pe_int (fun _ _ => rfl)) (pa_cons (pe_ix ix_tup (pv 1) pe_int (fun _ _ => rfl)) (pa_cons (pe_op op_add (pe_ix ix_tup (pv 0) pe_int (fun _ _ => rfl)) (pe_ix ix_tup (pv 1) pe_int (fun _ _ => rfl))) (pa_cons (pe_op op_add (pe_ix ix_tup (pv 0) pe_int (fun _ _ => rfl)) (pe_ix ix_tup (pv 1) pe_int (fun _ _ => rfl))) (pa_cons (pe_op op_sub (pe_ix ix_tup (pv 0) pe_int (fun _ _ => rfl)) (pe_ix ix_tup (pv 1) pe_int (fun _ _ => rfl))) (pa_cons (pe_op op_sub (pe_ix ix_tup (pv 0) pe_int (fun _ _ => rfl)) (pe_ix ix_tup (pv 1) pe_int (fun _ _ => rfl))) (pa_cons (pe_op op_mulW (pe_ix ix_tup (pv 0) pe_int (fun _ _ => rfl)) (pe_ix ix_tup (pv 1) pe_int (fun _ _ => rfl))) (pa_cons (pe_op op_mulW (pe_ix ix_tup (pv 0) pe_int (fun _ _ => rfl)) (pe_ix ix_tup (pv 1) pe_int (fun _ _ => rfl))) (pa_cons (pv 2) (pa_cons (pe_op op_sub (pe_ix ix_tup (pv 0) pe_int (fun _ _ => rfl)) pe_int) (pa_cons (pe_op op_add (pe_ix ix_tup (pv 0) pe_int (fun _ _ => rfl)) pe_int) pa_nil))))))))))))))), ?_⟩
    have c0 : CMulW a0 b0 := wa0.mul wb0
    have c1 : CMulW a1 b1 := wa1.mul wb1
    walk_at "rds"
    exact ⟨by show 12 ≤ sizeLine; decide, fun p hp => q p _ (same_new hp) new_lst⟩

abbrev s_law_words : Stmt := topS 21
abbrev N_law_words : List Str := ["a", "b", "great", "n", "turns", "due", "actual"]
abbrev P_law_words : List Str := ["a", "b", "great"]
theorem sc_law_words : FnScope N_law_words P_law_words (defScope s_law_words) := ⟨rfl, rfl, rfl, by decide +kernel, rfl, by decide +kernel, by decide +kernel⟩
def spWords (K : PySem.W.Frag) : Sp := fun vs H Q _ => ∃ (a b : Addr) (a0 a1 b0 b1 g : Int), vs = [.ref a, .ref b, .int g] ∧ SqT K H a [.int a0, .int a1] ∧ SqT K H b [.int b0, .int b1] ∧ Wd a0 ∧ Wd a1 ∧ Wd b0 ∧ Wd b1 ∧ g.natAbs < 2 ^ 160 ∧ ∀ H', Same H H' → Q (.bl true) H'
theorem cal_law_words (T : Txt K mg aE) (D : Def K mg "_law_words" P_law_words s_law_words) (c_law_numbers : Cal P w K mg base 1 "_law_numbers" P_law_numbers (spNums K)) (c_wrap : Cal P w K mg base 1 "wrap" P_wrap spWrap) (c_law_bool : Cal P w K mg base 1 "_law_bool" P_law_bool spLb) (c_is_word : Cal P w K mg base 1 "is_word" P_is_word spIsW) : Cal P w K mg base 2 "_law_words" P_law_words (spWords K) := by
  refine cal0 D sc_law_words (fun vs H Q E h => ?_) (fun f cdv A outer s H vs Q E hr h => ?_)
  · obtain ⟨a, b, a0, a1, b0, b1, g, rfl, _⟩ := h; rfl
  · obtain ⟨a, b, a0, a1, b0, b1, g, rfl, ha, hb, wa0, wa1, wb0, wb1, hg, q⟩ := h
    have nd := sc_law_words.nd
    refine ⟨_, (pss_cons (ps_for PassesOwn.never rfl (pi_list (pe_c c_law_numbers hr (by decide) rfl (pa_cons (pv 0) (pa_cons (pv 1) (pa_cons (pv 2) pa_nil))))) (pg_name (i := 3) nd rfl (.inl rfl))
      (pss_cons (ps_set (i := 4) nd rfl (.inl rfl) (pe_op op_fdivW (pe_op op_add (pv 3) pe_int) pe_int))
    (pss_cons (ps_set (i := 5) nd rfl (.inl rfl) (pe_op op_sub (pv 3) (pe_op op_mulW (pv 4) pe_int)))
    (pss_cons (ps_set (i := 6) nd rfl (.inl rfl) (pe_c c_wrap hr (by decide) rfl (pa_cons (pv 3) pa_nil)))
    (pss_cons (ps_if (PW.pt (pw_or (pt_not (pt_val (pe_callB call_isi (by rfl) T.b_isinstance (by decide +kernel) (pa_cons (pv 6) (pa_cons (pe_bltn (v := .ty "int") (by rfl) T.b_int (by decide +kernel) rfl) pa_nil))))) (pw_or (pt_val (pe_callB call_isi (by rfl) T.b_isinstance (by decide +kernel) (pa_cons (pv 6) (pa_cons (pe_bltn (v := .ty "bool") (by rfl) T.b_bool (by decide +kernel) rfl) pa_nil)))) (pw_or1 (pt_cmpR op_ne (pv 6) (pv 5) (nomark _)))))) (pss_one (ps_ret pe_bl)) pss_nil)
    (pss_one (ps_if (pt_not (pt_val (pe_c c_law_bool hr (by decide) rfl (pa_cons (pe_c c_is_word hr (by decide) rfl (pa_cons (pv 3) pa_nil)) (pa_cons (pe_cmpR op_eq (pv 4) pe_int (nomark _)) pa_nil))))) (pss_one (ps_ret pe_bl)) pss_nil)))))))
    (pss_one (ps_ret pe_bl))), ?_⟩
    refine ⟨_, rfl, _, rfl, _, rfl, a, b, a0, a1, b0, b1, g, rfl, ha, hb, wa0, wa1, wb0, wb1, fun p H1 e1 hL => ?_⟩
    have sm := nums_small wa0 wa1 wb0 wb1 hg
    refine ⟨p, rfl, ⟨_, hL⟩, forR_list (K := K) (a := p) (xs := (nums a0 a1 b0 b1 g).map V.int) (fun r σ H2 => H2 = H1 ∧ ∃ v1 v2 v3 v4, σ = [some (.ref a), some (.ref b), some (.int g), v1, v2, v3, v4]) ⟨rfl, _, _, _, _, rfl⟩ (fun r σ H2 h => by rw [h.1]; exact hL) ?_ ?_⟩
    · rintro x r σ H2 hx ⟨rfl, v1, v2, v3, v4, rfl⟩
      obtain ⟨n, hn, rfl⟩ := List.mem_map.mp hx
      have hn := sm n hn
      have ht : ((n + 9223372036854775808) / 18446744073709551616).natAbs < 2 ^ 170 := by omega
      refine ⟨_, rfl, _, _, rfl, rfl, _, _, rfl, rfl, wide_div (b := 65) (by decide) (by decide) (by decide) (by decide), ?_⟩
      refine ⟨_, rfl, _, rfl, _, _, rfl, rfl, wide_mul (b := 65) ht (by decide) (by decide) (by decide) (by decide), _, _, rfl, rfl, ?_⟩
      refine ⟨_, rfl, n, rfl, ?_⟩
      refine ⟨_, rfl, _, _, _, _, true, rfl, .ty "int", .base (.int _), kit_ty (by decide +kernel), _, rfl, iteF ?_⟩
      refine ⟨_, rfl, _, _, _, _, false, rfl, .ty "bool", .base (.int _), kit_ty (by decide +kernel), _, rfl, iteF ?_⟩
      refine ⟨_, rfl, _, rfl, rfl, _, rfl, ?_⟩
      have ew : wrapZ n = n - (n + 9223372036854775808) / 18446744073709551616 * 18446744073709551616 := by unfold wrapZ; omega
      rw [v_eq ew]
      refine iteF ?_
      refine ⟨_, rfl, n, rfl, _, rfl, rfl, _, _, rfl, _, rfl, ?_⟩
      have eb : isW n = decide (V.int ((n + 9223372036854775808) / 18446744073709551616) = V.int 0) := by
        have e2 : decide (V.int ((n + 9223372036854775808) / 18446744073709551616) = V.int 0) = decide ((n + 9223372036854775808) / 18446744073709551616 = 0) := by
          refine decide_eq_decide.mpr ⟨fun z => by injection z, fun z => by rw [z]⟩
        rw [e2]
        unfold isW
        rw [← Bool.decide_and]
        refine decide_eq_decide.mpr ?_
        show (-9223372036854775808 ≤ n ∧ n ≤ 9223372036854775807) ↔ _
        omega
      rw [decide_eq_true eb]
      exact iteF ⟨rfl, _, _, _, _, rfl⟩
    · rintro σ H2 ⟨rfl, v1, v2, v3, v4, rfl⟩
      exact q _ e1

theorem four_sorted {ns : List Int} {a0 a1 b0 b1 : Int} (perm : ns.Perm (mulL a0 a1 b0 b1)) (srt : ns.Pairwise (· ≤ ·)) : ∃ m n s1 s2, ns = [m, s1, s2, n] ∧ MinOf m (mulL a0 a1 b0 b1) ∧ MaxOf n (mulL a0 a1 b0 b1) := by
  have hl := perm.length_eq
  match ns, hl, perm, srt with
  | [m, s1, s2, n], _, perm, srt =>
    refine ⟨m, n, s1, s2, rfl, ⟨perm.mem_iff.mp List.mem_cons_self, fun y hy => ?_⟩, ⟨perm.mem_iff.mp (by simp), fun y hy => ?_⟩⟩
    · have hy := perm.mem_iff.mpr hy
      simp only [List.pairwise_cons, List.mem_cons, List.not_mem_nil, or_false] at srt hy
      rcases hy with h | h | h | h <;> subst h
      · exact Int.le_refl _
      · exact srt.1 _ (.inl rfl)
      · exact srt.1 _ (.inr (.inl rfl))
      · exact srt.1 _ (.inr (.inr rfl))
    · have hy := perm.mem_iff.mpr hy
      simp only [List.pairwise_cons, List.mem_cons, List.not_mem_nil, or_false] at srt hy
      rcases hy with h | h | h | h <;> subst h
      · exact srt.1 _ (.inr (.inr rfl))
      · exact srt.2.1 _ (.inr rfl)
      · exact srt.2.2.1 _ rfl
      · exact Int.le_refl _

abbrev s_law_sums : Stmt := topS 22
abbrev N_law_sums : List Str := ["a", "b", "products"]
abbrev P_law_sums : List Str := ["a", "b"]
theorem sc_law_sums : FnScope N_law_sums P_law_sums (defScope s_law_sums) := ⟨rfl, rfl, rfl, by decide +kernel, rfl, by decide +kernel, by decide +kernel⟩
def spSums (K : PySem.W.Frag) : Sp := fun vs H Q _ => ∃ (a b : Addr) (a0 a1 b0 b1 : Int), vs = [.ref a, .ref b] ∧ SqT K H a [.int a0, .int a1] ∧ SqT K H b [.int b0, .int b1] ∧ Wd a0 ∧ Wd a1 ∧ Wd b0 ∧ Wd b1 ∧ ∀ H', Same H H' → Q (.bl true) H'
theorem cal_law_sums (T : Txt K mg aE) (D : Def K mg "_law_sums" P_law_sums s_law_sums) (c_law_tuple : Cal P w K mg base 1 "_law_tuple" P_law_tuple (spLt K)) (c_law_cut : Cal P w K mg base 1 "_law_cut" P_law_cut (spCut K)) (c_add_ranges : Cal P w K mg base 2 "add_ranges" P_add_ranges (sp2 K addF)) (c_sub_ranges : Cal P w K mg base 2 "sub_ranges" P_sub_ranges (sp2 K subF)) (c_mul_ranges : Cal P w K mg base 2 "mul_ranges" P_mul_ranges (spMul K)) : Cal P w K mg base 3 "_law_sums" P_law_sums (spSums K) := by
  refine cal0 D sc_law_sums (fun vs H Q E h => ?_) (fun f cdv A outer s H vs Q E hr h => ?_)
  · obtain ⟨a, b, a0, a1, b0, b1, rfl, _⟩ := h; rfl
  · obtain ⟨a, b, a0, a1, b0, b1, rfl, ha, hb, wa0, wa1, wb0, wb1, q⟩ := h
    have nd := sc_law_sums.nd
    refine ⟨_, (pss_cons (ps_if (pt_not (pt_val (pe_c c_law_tuple hr (by decide) rfl (pa_cons (pe_c c_add_ranges hr (by decide) rfl (pa_cons (pv 0) (pa_cons (pv 1) pa_nil))) (pa_cons (pe_c c_law_cut hr (by decide) rfl (pa_cons (pe_op op_add (pe_ix ix_tup (pv 0) pe_int (fun _ _ => rfl)) (pe_ix ix_tup (pv 1) pe_int (fun _ _ => rfl))) (pa_cons (pe_op op_add (pe_ix ix_tup (pv 0) pe_int (fun _ _ => rfl)) (pe_ix ix_tup (pv 1) pe_int (fun _ _ => rfl))) pa_nil))) pa_nil))))) (pss_one (ps_ret pe_bl)) pss_nil)
    (pss_cons (ps_if (pt_not (pt_val (pe_c c_law_tuple hr (by decide) rfl (pa_cons (pe_c c_sub_ranges hr (by decide) rfl (pa_cons (pv 0) (pa_cons (pv 1) pa_nil))) (pa_cons (pe_c c_law_cut hr (by decide) rfl (pa_cons (pe_op op_sub (pe_ix ix_tup (pv 0) pe_int (fun _ _ => rfl)) (pe_ix ix_tup (pv 1) pe_int (fun _ _ => rfl))) (pa_cons (pe_op op_sub (pe_ix ix_tup (pv 0) pe_int (fun _ _ => rfl)) (pe_ix ix_tup (pv 1) pe_int (fun _ _ => rfl))) pa_nil))) pa_nil))))) (pss_one (ps_ret pe_bl)) pss_nil)
    (pss_cons (ps_set (i := 2) nd rfl (.inl rfl) (pe_callB cr_sorted (by rfl) T.b_sorted (by decide +kernel) (pa_cons (pe_lst (pa_cons (pe_op op_mulW (pe_ix ix_tup (pv 0) pe_int (fun _ _ => rfl)) (pe_ix ix_tup (pv 1) pe_int (fun _ _ => rfl))) (pa_cons (pe_op op_mulW (pe_ix ix_tup (pv 0) pe_int (fun _ _ => rfl)) (pe_ix ix_tup (pv 1) pe_int (fun _ _ => rfl))) (pa_cons (pe_op op_mulW (pe_ix ix_tup (pv 0) pe_int (fun _ _ => rfl)) (pe_ix ix_tup (pv 1) pe_int (fun _ _ => rfl))) (pa_cons (pe_op op_mulW (pe_ix ix_tup (pv 0) pe_int (fun _ _ => rfl)) (pe_ix ix_tup (pv 1) pe_int (fun _ _ => rfl))) pa_nil))))) pa_nil)))
    (pss_one (ps_ret (pe_c c_law_tuple hr (by decide) rfl (pa_cons (pe_c c_mul_ranges hr (by decide) rfl (pa_cons (pv 0) (pa_cons (pv 1) pa_nil))) (pa_cons (pe_c c_law_cut hr (by decide) rfl (pa_cons (pe_ix ix_list (pv 2) pe_int (fun _ _ => rfl)) (pa_cons (pe_ix ix_list (pv 2) pe_int (fun _ _ => rfl)) pa_nil))) pa_nil)))))))), ?_⟩
    have c00 : CMulW a0 b0 := wa0.mul wb0
    have c01 : CMulW a0 b1 := wa0.mul wb1
    have c10 : CMulW a1 b0 := wa1.mul wb0
    have c11 : CMulW a1 b1 := wa1.mul wb1
    refine ⟨_, rfl, _, rfl, a, b, a0, a1, b0, b1, rfl, ha, hb, fun v1 H1 e1 o1 => ?_⟩
    have ha := same_tup e1 ha
    have hb := same_tup e1 hb
    walk_at "rds"
    refine fun v2 H2 e2 o2 => ⟨v1, v2, _, _, rfl, o1.mono e2, o2, _, rfl, ?_⟩
    have z : decide (addF a0 a1 b0 b1 = some (cut (a0 + b0) (a1 + b1))) = true := decide_eq_true rfl
    rw [z]
    refine iteF ?_
    have ha := same_tup e2 ha
    have hb := same_tup e2 hb
    refine ⟨_, rfl, _, rfl, a, b, a0, a1, b0, b1, rfl, ha, hb, fun v3 H3 e3 o3 => ?_⟩
    have ha := same_tup e3 ha
    have hb := same_tup e3 hb
    walk_at "rds"
    refine fun v4 H4 e4 o4 => ⟨v3, v4, _, _, rfl, o3.mono e4, o4, _, rfl, ?_⟩
    have z : decide (subF a0 a1 b0 b1 = some (cut (a0 - b1) (a1 - b0))) = true := decide_eq_true rfl
    rw [z]
    refine iteF ?_
    have ha := same_tup e4 ha
    have hb := same_tup e4 hb
    walk_at "rds"
    refine ⟨by show 4 ≤ sizeLine; decide, fun p hp => ⟨p, mulL a0 a1 b0 b1, rfl, new_lst, (by show 4 < 64; decide), fun ns p2 perm srt hp2 => ?_⟩⟩
    have e5 : Same H4 (upd (upd H4 p (.lst ((mulL a0 a1 b0 b1).map V.int))) p2 (.lst (ns.map V.int))) := (same_new hp).trans (same_new hp2)
    have hl5 : SqL K (upd (upd H4 p (.lst ((mulL a0 a1 b0 b1).map V.int))) p2 (.lst (ns.map V.int))) p2 (ns.map V.int) := new_lst
    have e6 : upd (upd H4 p (.lst ((mulL a0 a1 b0 b1).map V.int))) p2 (.lst (ns.map V.int)) = upd (upd H4 p (.lst [.int (a0 * b0), .int (a0 * b1), .int (a1 * b0), .int (a1 * b1)])) p2 (.lst (ns.map V.int)) := rfl
    rw [e6] at e5 hl5
    generalize upd (upd H4 p (.lst [.int (a0 * b0), .int (a0 * b1), .int (a1 * b0), .int (a1 * b1)])) p2 (.lst (ns.map V.int)) = H5 at e5 hl5 ⊢
    obtain ⟨m, n, s1, s2, rfl, mn, mx⟩ := four_sorted perm srt
    have ha := same_tup e5 ha
    have hb := same_tup e5 hb
    refine ⟨_, rfl, _, rfl, a, b, a0, a1, b0, b1, rfl, ha, hb, wa0, wa1, fun v6 H6 m' n' e7 mn' mx' o6 => ?_⟩
    have em : m' = m := mn'.eq mn
    have en : n' = n := mx'.eq mx
    subst em
    subst en
    have hl6 := e7.seq hl5
    refine ⟨_, rfl, _, _, _, _, rfl, rfl, hl6, atI_of (j := 0) rfl, _, rfl, _, _, _, _, rfl, rfl, hl6, atI_of (j := 3) rfl, _, _, rfl, fun v8 H8 e8 o8 => ⟨v6, v8, _, _, rfl, o6.mono e8, o8, ?_⟩⟩
    rw [decide_eq_true rfl]
    exact q _ ((((((e1.trans e2).trans e3).trans e4).trans e5).trans e7).trans e8)

abbrev s_law : Stmt := topS 23
abbrev N_law : List Str := ["script", "ends", "k", "one", "two", "a", "b", "great", "due"]
abbrev P_law : List Str := ["script"]
theorem sc_law : FnScope N_law P_law (defScope s_law) := ⟨rfl, rfl, rfl, by decide +kernel, rfl, by decide +kernel, by decide +kernel⟩
def spLaw (K : PySem.W.Frag) : Sp := fun vs H Q _ => ∃ (a : Addr) (ns : List Int), vs = [.ref a] ∧ SqL K H a (ns.map V.int) ∧ ∀ H', Q (.bl true) H'
theorem two_of {ns : List Int} {x y : Int} (perm : ns.Perm [x, y]) (hx : Wd x) (hy : Wd y) : ∃ u v, ns = [u, v] ∧ Wd u ∧ Wd v := by
  have hl := perm.length_eq
  have hm : ∀ z ∈ ns, Wd z := fun z hz => by
    have hz := perm.mem_iff.mp hz
    simp only [List.mem_cons, List.not_mem_nil, or_false] at hz
    rcases hz with h | h <;> subst h <;> assumption
  match ns, hl, hm with
  | [u, v], _, hm => exact ⟨u, v, rfl, hm u (by simp), hm v (by simp)⟩
theorem max_wd {x y : Int} (hx : Wd x) (hy : Wd y) : Wd (if y > x then y else x) := by
  split <;> assumption
theorem ok_law {fL : Addr} {fdL : FuncData} (F : L2.Fun K "law" "law" s_law fL fdL) (T : Txt K mg aE) (c_law_cell : Cal P w K mg base 1 "_law_cell" P_law_cell (spCell K)) (c_law_end : Cal P w K mg base 1 "_law_end" P_law_end spEnd)
    (c_law_tuple : Cal P w K mg base 1 "_law_tuple" P_law_tuple (spLt K)) (c_meet : Cal P w K mg base 1 "meet" P_meet (sp2 K meetF)) (c_hull : Cal P w K mg base 1 "hull" P_hull (sp2 K hullF)) (c_law_bool : Cal P w K mg base 1 "_law_bool" P_law_bool spLb)
    (c_inside : Cal P w K mg base 1 "inside" P_inside (spIns K)) (c_law_words : Cal P w K mg base 2 "_law_words" P_law_words (spWords K)) (c_law_sums : Cal P w K mg base 3 "_law_sums" P_law_sums (spSums K)) : FnOk P w K mg base (L2.CX P w) 4 fL fdL P_law (spLaw K) := by
  refine ok0 F sc_law (fun vs H Q E h => ?_) (fun f cdv A outer s H vs Q E hr h => ?_)
  · obtain ⟨a, ns, rfl, _⟩ := h; rfl
  · obtain ⟨a, ns, rfl, hS, q⟩ := h
    have nd := sc_law.nd

    refine ⟨_, (pss_cons (ps_setLc (i := 1) (own := [("k", 2)]) (g := gName 2) (tt := tYes) rfl nd rfl rfl (sw_true rfl rfl rfl (by decide +kernel)) (pi_range1 (by rfl) T.b_range (pa_cons pe_int pa_nil)) (blkOk_by (own := [("k", 2)]) (N := N_law) (sc := defScope s_law) (by decide +kernel)) (fun _ _ _ _ _ => (pg_name (i := 2) nd rfl (.inl rfl))) (fun _ _ _ _ _ => pts_nil) (fun _ _ _ _ _ => (pe_c c_law_end hr (by decide) rfl (pa_cons (pe_c c_law_cell hr (by decide) rfl (pa_cons (pv 0) (pa_cons (pv 2) pa_nil))) pa_nil))))
    (pss_cons (ps_set (i := 3) nd rfl (.inl rfl) (pe_callB cr_sorted (by rfl) T.b_sorted (by decide +kernel) (pa_cons (pe_slice sl_list (pv 1) po_none (po_some pe_int)) pa_nil)))
    (pss_cons (ps_set (i := 4) nd rfl (.inl rfl) (pe_callB cr_sorted (by rfl) T.b_sorted (by decide +kernel) (pa_cons (pe_slice sl_list (pv 1) (po_some pe_int) po_none) pa_nil)))
    (C8.pss_cut (ps_if (pt_cmpR op_eq (pe_op op_mod (pe_c c_law_cell hr (by decide) rfl (pa_cons (pv 0) (pa_cons pe_int pa_nil))) pe_int) pe_int (nomark _)) (pss_one (ps_set (i := 4) nd rfl (.inl rfl) (pe_lst (pa_cons (pe_ix ix_list (pv 3) pe_int (fun _ _ => rfl)) (pa_cons (pe_callB (call_max2 rfl) (by rfl) T.b_max (by decide +kernel) (pa_cons (pe_ix ix_list (pv 3) pe_int (fun _ _ => rfl)) (pa_cons (pe_ix ix_list (pv 4) pe_int (fun _ _ => rfl)) pa_nil))) pa_nil))))) pss_nil)
    (C8.pss_cut (ps_if (pt_cmpR op_eq (pe_op op_mod (pe_c c_law_cell hr (by decide) rfl (pa_cons (pv 0) (pa_cons pe_int pa_nil))) pe_int) pe_int (nomark _)) (pss_one (ps_set (i := 4) nd rfl (.inl rfl) (pe_lst (pa_cons (pe_ix ix_list (pv 3) pe_int (fun _ _ => rfl)) (pa_cons (pe_ix ix_list (pv 3) pe_int (fun _ _ => rfl)) pa_nil))))) pss_nil)
    (pss_cons (ps_set (i := 5) nd rfl (.inl rfl) (pe_tup (pa_cons (pe_ix ix_list (pv 3) pe_int (fun _ _ => rfl)) (pa_cons (pe_ix ix_list (pv 3) pe_int (fun _ _ => rfl)) pa_nil))))
    (pss_cons (ps_set (i := 6) nd rfl (.inl rfl) (pe_tup (pa_cons (pe_ix ix_list (pv 4) pe_int (fun _ _ => rfl)) (pa_cons (pe_ix ix_list (pv 4) pe_int (fun _ _ => rfl)) pa_nil))))
    (pss_cons (ps_set (i := 7) nd rfl (.inl rfl) (pe_op op_sub (pe_op op_mod (pe_callTy call_int1 (by rfl) T.b_int (by decide +kernel) (pa_cons (pe_c c_law_cell hr (by decide) rfl (pa_cons (pv 0) (pa_cons pe_int pa_nil))) pa_nil)) pe_int) pe_int))
    (pss_cons (ps_if (PW.pt (pw_or (pt_cmpR op_ne (pe_gc rfl T.c_LOW) (pe_un un_neg pe_int) (nomark _)) (pw_or (pt_cmpR op_ne (pe_gc rfl T.c_HIGH) pe_int (nomark _)) (pw_or1 (pt_not (pt_val (pe_c c_law_tuple hr (by decide) rfl (pa_cons (pe_gc rfl T.c_EVERY) (pa_cons (pe_tup (pa_cons (pe_gc rfl T.c_LOW) (pa_cons (pe_gc rfl T.c_HIGH) pa_nil))) pa_nil))))))))) (pss_one (ps_ret pe_bl)) pss_nil)
    (pss_cons (ps_set (i := 8) nd rfl (.inl rfl) (pe_tup (pa_cons (pe_callB (call_max2 rfl) (by rfl) T.b_max (by decide +kernel) (pa_cons (pe_ix ix_tup (pv 5) pe_int (fun _ _ => rfl)) (pa_cons (pe_ix ix_tup (pv 6) pe_int (fun _ _ => rfl)) pa_nil))) (pa_cons (pe_callB (call_min2 rfl) (by rfl) T.b_min (by decide +kernel) (pa_cons (pe_ix ix_tup (pv 5) pe_int (fun _ _ => rfl)) (pa_cons (pe_ix ix_tup (pv 6) pe_int (fun _ _ => rfl)) pa_nil))) pa_nil))))
    (C8.pss_cut (ps_if (pt_cmpR op_gt (pe_ix ix_tup (pv 8) pe_int (fun _ _ => rfl)) (pe_ix ix_tup (pv 8) pe_int (fun _ _ => rfl)) (nomark _)) (pss_one (ps_set (i := 8) nd rfl (.inl rfl) pe_non)) pss_nil)
    (pss_cons (ps_if (PW.pt (pw_or (pt_not (pt_val (pe_c c_law_tuple hr (by decide) rfl (pa_cons (pe_c c_meet hr (by decide) rfl (pa_cons (pv 5) (pa_cons (pv 6) pa_nil))) (pa_cons (pv 8) pa_nil))))) (pw_or1 (pt_not (pt_val (pe_c c_law_tuple hr (by decide) rfl (pa_cons (pe_c c_hull hr (by decide) rfl (pa_cons (pv 5) (pa_cons (pv 6) pa_nil))) (pa_cons (pe_tup (pa_cons (pe_callB (call_min2 rfl) (by rfl) T.b_min (by decide +kernel) (pa_cons (pe_ix ix_tup (pv 5) pe_int (fun _ _ => rfl)) (pa_cons (pe_ix ix_tup (pv 6) pe_int (fun _ _ => rfl)) pa_nil))) (pa_cons (pe_callB (call_max2 rfl) (by rfl) T.b_max (by decide +kernel) (pa_cons (pe_ix ix_tup (pv 5) pe_int (fun _ _ => rfl)) (pa_cons (pe_ix ix_tup (pv 6) pe_int (fun _ _ => rfl)) pa_nil))) pa_nil))) pa_nil)))))))) (pss_one (ps_ret pe_bl)) pss_nil)
    (C8.pss_cut (ps_if (PW.pt (pw_or (pt_not (pt_val (pe_c c_law_bool hr (by decide) rfl (pa_cons (pe_c c_inside hr (by decide) rfl (pa_cons (pv 5) (pa_cons (pv 6) pa_nil))) (pa_cons (pe_and (pe_cmpR op_le (pe_ix ix_tup (pv 6) pe_int (fun _ _ => rfl)) (pe_ix ix_tup (pv 5) pe_int (fun _ _ => rfl)) (nomark _)) (pe_one (pe_cmpR op_le (pe_ix ix_tup (pv 5) pe_int (fun _ _ => rfl)) (pe_ix ix_tup (pv 6) pe_int (fun _ _ => rfl)) (nomark _)))) pa_nil))))) (pw_or1 (pt_not (pt_val (pe_c c_law_bool hr (by decide) rfl (pa_cons (pe_c c_inside hr (by decide) rfl (pa_cons (pv 6) (pa_cons (pv 5) pa_nil))) (pa_cons (pe_and (pe_cmpR op_le (pe_ix ix_tup (pv 5) pe_int (fun _ _ => rfl)) (pe_ix ix_tup (pv 6) pe_int (fun _ _ => rfl)) (nomark _)) (pe_one (pe_cmpR op_le (pe_ix ix_tup (pv 6) pe_int (fun _ _ => rfl)) (pe_ix ix_tup (pv 5) pe_int (fun _ _ => rfl)) (nomark _)))) pa_nil)))))))) (pss_one (ps_ret pe_bl)) pss_nil)
    (pss_one (ps_ret (pe_and (pe_c c_law_words hr (by decide) rfl (pa_cons (pv 5) (pa_cons (pv 6) (pa_cons (pv 7) pa_nil)))) (pe_and (pe_c c_law_sums hr (by decide) rfl (pa_cons (pv 5) (pa_cons (pv 6) pa_nil))) (pe_one (pe_c c_law_sums hr (by decide) rfl (pa_cons (pv 6) (pa_cons (pv 5) pa_nil))))))))))))))))))))), ?_⟩
    unfold tSeq tAsg
    refine ⟨_, rfl, by decide, by decide, fun D hD => lc_range (lo := 0) (n := 4) (fun i H' => ∃ es : List Int, H' = upd H D (.lst (es.map V.int)) ∧ es.length = i ∧ ∀ e ∈ es, Wd e) ⟨[], rfl, rfl, fun _ z => by cases z⟩ ?_ ?_⟩
    · rintro i H' hi ⟨es, rfl, hl, he⟩
      refine ⟨rfl, ?_⟩
      refine ⟨_, rfl, _, rfl, a, ns, i, ?_, (same_new hD).seq hS, ?_⟩
      · show [V.ref a, V.int (0 + (i : Int))] ++ [] = [V.ref a, V.int (i : Int)]
        rw [Int.zero_add]
        rfl
      · refine ⟨_, rfl, fun e we => ⟨_, upd_same, ?_, es ++ [e], ?_, by simp [hl], fun x hx => ?_⟩⟩
        · rw [List.length_map, hl]
          exact Nat.lt_of_lt_of_le hi (by decide)
        · rw [upd_upd, List.map_append]
          rfl
        · rcases List.mem_append.mp hx with z | z
          · exact he x z
          · rw [List.mem_singleton.mp z]
            exact we
    rintro H' ⟨es, rfl, hl, he⟩
    obtain ⟨z0, z1, z2, z3, rfl⟩ : ∃ z0 z1 z2 z3, es = [z0, z1, z2, z3] := by
      match es, hl with
      | [z0, z1, z2, z3], _ => exact ⟨_, _, _, _, rfl⟩
    have w0 : Wd z0 := he _ (by simp)
    have w1 : Wd z1 := he _ (by simp)
    have w2 : Wd z2 := he _ (by simp)
    have w3 : Wd z3 := he _ (by simp)
    have hE : SqL K (upd H D (.lst ([z0, z1, z2, z3].map V.int))) D [.int z0, .int z1, .int z2, .int z3] := new_lst
    have hS1 := (same_new (o := .lst ([z0, z1, z2, z3].map V.int)) hD).seq hS
    generalize upd H D (.lst ([z0, z1, z2, z3].map V.int)) = H1 at hE hS1 ⊢
    refine ⟨_, rfl, _, rfl, D, _, rfl, hE, fun p hp => ⟨p, [z0, z1], rfl, new_lst, (by show 2 < 64; decide), fun ns1 p2 perm srt hp2 => ?_⟩⟩
    obtain ⟨x0, x1, rfl, wx0, wx1⟩ := two_of perm w0 w1
    generalize hG : upd (upd H1 p _) p2 _ = H2
    have e2 : Same H1 H2 := by rw [← hG]; exact (same_new hp).trans (same_new hp2)
    have hO : SqL K H2 p2 [.int x0, .int x1] := by rw [← hG]; exact new_lst
    have hE := e2.seq hE
    have hS2 := e2.seq hS1
    clear hG
    refine ⟨_, rfl, _, rfl, D, _, rfl, hE, fun p3 hp3 => ⟨p3, [z2, z3], rfl, new_lst, (by show 2 < 64; decide), fun ns2 p4 perm2 srt2 hp4 => ?_⟩⟩
    obtain ⟨y0, y1, rfl, wy0, wy1⟩ := two_of perm2 w2 w3
    generalize hG : upd (upd H2 p3 _) p4 _ = H3
    have e3 : Same H2 H3 := by rw [← hG]; exact (same_new hp3).trans (same_new hp4)
    have hO := e3.seq hO
    have hT : SqL K H3 p4 [.int y0, .int y1] := by rw [← hG]; exact new_lst
    have hS3 := e3.seq hS2
    clear hG
    refine ⟨fun σ H' => ∃ (p5 : Addr) (u0 u1 : Int), σ = [some (.ref a), some (.ref D), none, some (.ref p2), some (.ref p5), none, none, none, none] ∧ Same H3 H' ∧ SqL K H' p5 [.int u0, .int u1] ∧ Wd u0 ∧ Wd u1, ?_, ?_⟩
    · refine ⟨_, rfl, a, ns, 4, rfl, hS3, _, _, rfl, rfl, (by show (0 : Int) < 5; decide), rfl, _, rfl, ?_⟩
      refine ite2 (fun h => ?_) (fun h => ?_)
      · refine ⟨_, rfl, _, _, _, _, rfl, rfl, hO, atI_of (j := 1) rfl, _, rfl, _, _, _, _, rfl, rfl, hO, atI_of (j := 1) rfl, _, rfl, _, _, _, _, rfl, rfl, hT, atI_of (j := 1) rfl, _, _, rfl, by show 2 ≤ sizeLine; decide, fun p5 hp5 => ?_⟩
        exact ⟨p5, x1, _, rfl, same_new hp5, new_lst, wx1, max_wd wx1 wy1⟩
      · exact ⟨p4, y0, y1, rfl, Same.refl _, hT, wy0, wy1⟩
    rintro σ H4 ⟨p5, u0, u1, rfl, e4, hT, wu0, wu1⟩
    have hO := e4.seq hO
    have hS4 := e4.seq hS3
    refine ⟨fun σ H' => ∃ (p6 : Addr) (v0 v1 : Int), σ = [some (.ref a), some (.ref D), none, some (.ref p2), some (.ref p6), none, none, none, none] ∧ Same H4 H' ∧ SqL K H' p6 [.int v0, .int v1] ∧ Wd v0 ∧ Wd v1, ?_, ?_⟩
    · refine ⟨_, rfl, a, ns, 4, rfl, hS4, _, _, rfl, rfl, (by show (0 : Int) < 5; decide), rfl, _, rfl, ?_⟩
      refine ite2 (fun h => ?_) (fun h => ?_)
      · refine ⟨_, rfl, _, _, _, _, rfl, rfl, hO, atI_of (j := 0) rfl, _, rfl, _, _, _, _, rfl, rfl, hO, atI_of (j := 1) rfl, by show 2 ≤ sizeLine; decide, fun p6 hp6 => ?_⟩
        exact ⟨p6, x0, x1, rfl, same_new hp6, new_lst, wx0, wx1⟩
      · exact ⟨p5, u0, u1, rfl, Same.refl _, hT, wu0, wu1⟩
    rintro σ H5 ⟨p6, v0, v1, rfl, e5, hT, wv0, wv1⟩
    have hO := e5.seq hO
    have hS5 := e5.seq hS4
    -- a, b
    refine ⟨_, rfl, _, _, _, _, rfl, rfl, hO, atI_of (j := 0) rfl, _, rfl, _, _, _, _, rfl, rfl, hO, atI_of (j := 1) rfl, by show 2 ≤ sizeLine; decide, fun pa hpa => ?_⟩
    have hT6 := (same_new (o := .tup [.int x0, .int x1]) hpa).seq hT
    have hS6 := (same_new (o := .tup [.int x0, .int x1]) hpa).seq hS5
    have ha : SqT K (upd H5 pa (.tup [.int x0, .int x1])) pa [.int x0, .int x1] := new_tup
    generalize upd H5 pa (.tup [.int x0, .int x1]) = H6 at hT6 hS6 ha ⊢
    refine ⟨_, rfl, _, _, _, _, rfl, rfl, hT6, atI_of (j := 0) rfl, _, rfl, _, _, _, _, rfl, rfl, hT6, atI_of (j := 1) rfl, by show 2 ≤ sizeLine; decide, fun pb hpb => ?_⟩
    have hS7 := (same_new (o := .tup [.int v0, .int v1]) hpb).seq hS6
    have ha := same_tup (same_new (o := .tup [.int v0, .int v1]) hpb) ha
    have hb : SqT K (upd H6 pb (.tup [.int v0, .int v1])) pb [.int v0, .int v1] := new_tup
    generalize upd H6 pb (.tup [.int v0, .int v1]) = H7 at hS7 ha hb ⊢
    -- great
    refine ⟨_, rfl, a, ns, 5, rfl, hS7, .inl ⟨_, rfl, _, _, rfl, rfl, (by show (0 : Int) < 2000000000000000000000000000000000000000000007; decide), _, _, rfl, rfl, ?_⟩⟩
    have g0 : 0 ≤ cell ns 5 % 2000000000000000000000000000000000000000000007 := Int.emod_nonneg _ (by decide)
    have g1 : cell ns 5 % 2000000000000000000000000000000000000000000007 < 2000000000000000000000000000000000000000000007 := Int.emod_lt_of_pos _ (by decide)
    have hg : (cell ns 5 % 2000000000000000000000000000000000000000000007 - 1000000000000000000000000000000000000000000003).natAbs < 2 ^ 160 := by omega
    -- the constants
    refine ⟨_, rfl, rfl, _, rfl, ?_⟩
    rw [v_eq rfl]
    refine iteF ⟨rfl, _, rfl, ?_⟩
    rw [v_eq rfl]
    refine iteF ⟨by show 2 ≤ sizeLine; decide, fun pc hpc => ⟨_, _, some (LO, HI), some (LO, HI), rfl, ⟨aE, rfl, T.every _⟩, ⟨pc, rfl, new_tup⟩, _, rfl, ?_⟩⟩
    rw [decide_eq_true rfl]
    refine iteF ?_
    have ha := same_tup (same_new (o := .tup [.int LO, .int HI]) hpc) ha
    have hb := same_tup (same_new (o := .tup [.int LO, .int HI]) hpc) hb
    have e8 : upd H7 pc (.tup [.int LO, .int HI]) = upd H7 pc (.tup [.int (-9223372036854775808), .int 9223372036854775807]) := rfl
    rw [e8] at ha hb
    generalize upd H7 pc (.tup [.int (-9223372036854775808), .int 9223372036854775807]) = H8 at ha hb ⊢
    -- due
    walk_at "rds"
    refine ⟨by show 2 ≤ sizeLine; decide, fun pd hpd => ?_⟩
    have ha := same_tup (same_new (o := .tup [.int (if v0 > x0 then v0 else x0), .int (if v1 < x1 then v1 else x1)]) hpd) ha
    have hb := same_tup (same_new (o := .tup [.int (if v0 > x0 then v0 else x0), .int (if v1 < x1 then v1 else x1)]) hpd) hb
    have hd : SqT K (upd H8 pd (.tup [.int (if v0 > x0 then v0 else x0), .int (if v1 < x1 then v1 else x1)])) pd [.int (if v0 > x0 then v0 else x0), .int (if v1 < x1 then v1 else x1)] := new_tup
    generalize upd H8 pd (.tup [.int (if v0 > x0 then v0 else x0), .int (if v1 < x1 then v1 else x1)]) = H9 at ha hb hd ⊢
    refine ⟨fun σ H' => H' = H9 ∧ ∃ v g, OptAt K H9 v (meetF x0 x1 v0 v1) ∧ g.natAbs < 2 ^ 160 ∧ σ = [some (.ref a), some (.ref D), none, some (.ref p2), some (.ref p6), some (.ref pa), some (.ref pb), some (.int g), some v], ?_, ?_⟩
    · refine ⟨_, rfl, _, _, _, _, rfl, rfl, hd, atI_of (j := 0) rfl, _, rfl, _, _, _, _, rfl, rfl, hd, atI_of (j := 1) rfl, _, _, rfl, rfl, _, rfl, ?_⟩
      refine ite2 (fun h => ?_) (fun h => ?_)
      · have h := of_decide_eq_true h
        refine ⟨rfl, .non, _, ?_, hg, rfl⟩
        unfold meetF
        rw [if_pos h]
        rfl
      · have h := fun z => h (decide_eq_true z)
        refine ⟨rfl, .ref pd, _, ?_, hg, rfl⟩
        unfold meetF
        rw [if_neg h]
        exact ⟨pd, rfl, hd⟩
    rintro σ H' ⟨rfl, vd, g, od, hg, rfl⟩
    refine ⟨_, rfl, _, rfl, pa, pb, x0, x1, v0, v1, rfl, ha, hb, fun vm H10 e10 om => ?_⟩
    refine ⟨_, rfl, vm, vd, _, _, rfl, om, od.mono e10, _, rfl, ?_⟩
    rw [decide_eq_true rfl]
    refine iteF ?_
    have ha := same_tup e10 ha
    have hb := same_tup e10 hb
    refine ⟨_, rfl, _, rfl, pa, pb, x0, x1, v0, v1, rfl, ha, hb, fun vh H11 e11 oh => ?_⟩
    have ha := same_tup e11 ha
    have hb := same_tup e11 hb
    walk_at "rds"
    refine ⟨by show 2 ≤ sizeLine; decide, fun pe hpe => ⟨vh, .ref pe, _, hullF x0 x1 v0 v1, rfl, oh.mono (same_new hpe), ⟨pe, rfl, new_tup⟩, _, rfl, ?_⟩⟩
    rw [decide_eq_true rfl]
    refine iteF ?_
    have ha := same_tup (same_new (o := .tup [.int (if v0 < x0 then v0 else x0), .int (if v1 > x1 then v1 else x1)]) hpe) ha
    have hb := same_tup (same_new (o := .tup [.int (if v0 < x0 then v0 else x0), .int (if v1 > x1 then v1 else x1)]) hpe) hb
    generalize upd H11 pe (.tup [.int (if v0 < x0 then v0 else x0), .int (if v1 > x1 then v1 else x1)]) = H12 at ha hb ⊢
    -- inside, twice
    refine ⟨fun σ H' => H' = H12 ∧ σ = [some (.ref a), some (.ref D), none, some (.ref p2), some (.ref p6), some (.ref pa), some (.ref pb), some (.int g), some vd], ?_, ?_⟩
    · refine ⟨_, rfl, _, rfl, pa, pb, x0, x1, v0, v1, rfl, ha, hb, ?_⟩
      have finish : ∀ R : Bool → Hp → Prop, R false H12 → tNot (tB (tCall spLb [] L2.E0 (tCons (tCall (spIns K) [] L2.E0 (tCons (tVar 6) (tCons (tVar 5) tNil))) (tCons (tAndV (tOp (rI0 fun i j => .bl (decide (i ≤ j))) (tOp (rIxT K) (tVar 5) (tC (.int 0))) (tOp (rIxT K) (tVar 6) (tC (.int 0)))) (tOp (rI0 fun i j => .bl (decide (i ≤ j))) (tOp (rIxT K) (tVar 6) (tC (.int 1))) (tOp (rIxT K) (tVar 5) (tC (.int 1))))) tNil))))
          [some (.ref a), some (.ref D), none, some (.ref p2), some (.ref p6), some (.ref pa), some (.ref pb), some (.int g), some vd] H12 R := fun R r => by
        refine ⟨_, rfl, _, rfl, pb, pa, v0, v1, x0, x1, rfl, hb, ha, ?_⟩
        refine ⟨_, rfl, _, _, _, _, rfl, rfl, ha, atI_of (j := 0) rfl, _, rfl, _, _, _, _, rfl, rfl, hb, atI_of (j := 0) rfl, _, _, rfl, rfl, _, rfl, ?_⟩
        refine ite2 (fun h => ?_) (fun h => ?_)
        · refine ⟨_, rfl, _, _, _, _, rfl, rfl, hb, atI_of (j := 1) rfl, _, rfl, _, _, _, _, rfl, rfl, ha, atI_of (j := 1) rfl, _, _, rfl, rfl, _, _, rfl, _, rfl, ?_⟩
          have e : insF v0 v1 x0 x1 = decide (v1 ≤ x1) := by unfold insF; rw [h]; rfl
          rw [decide_eq_true e]
          exact r
        · refine ⟨_, _, rfl, _, rfl, ?_⟩
          have h : decide (x0 ≤ v0) = false := by simpa using h
          have e : insF v0 v1 x0 x1 = false := by unfold insF; rw [h]; rfl
          rw [decide_eq_true e]
          exact r
      refine ⟨_, rfl, _, _, _, _, rfl, rfl, hb, atI_of (j := 0) rfl, _, rfl, _, _, _, _, rfl, rfl, ha, atI_of (j := 0) rfl, _, _, rfl, rfl, _, rfl, ?_⟩
      refine ite2 (fun h => ?_) (fun h => ?_)
      · refine ⟨_, rfl, _, _, _, _, rfl, rfl, ha, atI_of (j := 1) rfl, _, rfl, _, _, _, _, rfl, rfl, hb, atI_of (j := 1) rfl, _, _, rfl, rfl, _, _, rfl, _, rfl, ?_⟩
        have e : insF x0 x1 v0 v1 = decide (x1 ≤ v1) := by unfold insF; rw [h]; rfl
        rw [decide_eq_true e]
        exact iteF (finish _ (iteF ⟨rfl, rfl⟩))
      · refine ⟨_, _, rfl, _, rfl, ?_⟩
        have h : decide (v0 ≤ x0) = false := by simpa using h
        have e : insF x0 x1 v0 v1 = false := by unfold insF; rw [h]; rfl
        rw [decide_eq_true e]
        exact iteF (finish _ (iteF ⟨rfl, rfl⟩))
    rintro σ H' ⟨rfl, rfl⟩
    refine ⟨_, rfl, _, rfl, _, rfl, pa, pb, x0, x1, v0, v1, g, rfl, ha, hb, wx0, wx1, wv0, wv1, hg, fun H13 e13 => ⟨_, rfl, iteT ?_⟩⟩
    refine ⟨_, rfl, _, rfl, pa, pb, x0, x1, v0, v1, rfl, same_tup e13 ha, same_tup e13 hb, wx0, wx1, wv0, wv1, fun H14 e14 => ⟨_, rfl, iteT ?_⟩⟩
    exact ⟨_, rfl, _, rfl, pb, pa, v0, v1, x0, x1, rfl, same_tup e14 (same_tup e13 hb), same_tup e14 (same_tup e13 ha), wv0, wv1, wx0, wx1, fun H15 e15 => q _⟩

end
/-! ### what the top has left, the end -/
theorem all_mk {l : PySem.W.OpenLaw} {w : World} {K : PySem.W.Frag} {h : Heap} {mg : Str → Option Value} {fa : Addr} (X : K.In h) (G : h.Ns mainGlobals mg) (hfa : mg "law" = some (.ref fa))
    {f_wrap f_is_word f_hull f_meet f_inside f_in_words f_add_ranges f_sub_ranges f_mul_ranges f_law_cell f_law_end f_law_tuple f_law_bool f_law_cut f_law_numbers f_law_words f_law_sums f_law : Addr}
    {aE : Addr} {odE : Option Addr} {tE1 tE2 : Tok} {nE : Nat} {slE : Array (Option Value)}
    {od_wrap an_wrap od_is_word an_is_word od_hull an_hull od_meet an_meet od_inside an_inside od_in_words an_in_words od_add_ranges an_add_ranges od_sub_ranges an_sub_ranges od_mul_ranges an_mul_ranges od_law_cell an_law_cell od_law_end an_law_end od_law_tuple an_law_tuple od_law_bool an_law_bool od_law_cut an_law_cut od_law_numbers an_law_numbers od_law_words an_law_words od_law_sums an_law_sums od_law an_law : Option Addr} {sl_wrap sl_is_word sl_hull sl_meet sl_inside sl_in_words sl_add_ranges sl_sub_ranges sl_mul_ranges sl_law_cell sl_law_end sl_law_tuple sl_law_bool sl_law_cut sl_law_numbers sl_law_words sl_law_sums sl_law : Array (Option Value)} {oc_wrap kV_wrap dc_wrap pm_wrap cd_wrap ct_wrap oc_is_word kV_is_word dc_is_word pm_is_word cd_is_word ct_is_word oc_hull kV_hull dc_hull pm_hull cd_hull ct_hull oc_meet kV_meet dc_meet pm_meet cd_meet ct_meet oc_inside kV_inside dc_inside pm_inside cd_inside ct_inside oc_in_words kV_in_words dc_in_words pm_in_words cd_in_words ct_in_words oc_add_ranges kV_add_ranges dc_add_ranges pm_add_ranges cd_add_ranges ct_add_ranges oc_sub_ranges kV_sub_ranges dc_sub_ranges pm_sub_ranges cd_sub_ranges ct_sub_ranges oc_mul_ranges kV_mul_ranges dc_mul_ranges pm_mul_ranges cd_mul_ranges ct_mul_ranges oc_law_cell kV_law_cell dc_law_cell pm_law_cell cd_law_cell ct_law_cell oc_law_end kV_law_end dc_law_end pm_law_end cd_law_end ct_law_end oc_law_tuple kV_law_tuple dc_law_tuple pm_law_tuple cd_law_tuple ct_law_tuple oc_law_bool kV_law_bool dc_law_bool pm_law_bool cd_law_bool ct_law_bool oc_law_cut kV_law_cut dc_law_cut pm_law_cut cd_law_cut ct_law_cut oc_law_numbers kV_law_numbers dc_law_numbers pm_law_numbers cd_law_numbers ct_law_numbers oc_law_words kV_law_words dc_law_words pm_law_words cd_law_words ct_law_words oc_law_sums kV_law_sums dc_law_sums pm_law_sums cd_law_sums ct_law_sums oc_law kV_law dc_law pm_law cd_law ct_law : Value} {t_LOW t_HIGH t_COUNT : Tok}
    (a_wrap : PySem.W.nsIn K mainGlobals "wrap" = some (some (.ref f_wrap))) (l_wrap : K.lookup f_wrap = some ⟨oc_wrap, od_wrap, .func (PySem.W.fnOf "wrap" "wrap" (defArgs s_wrap) (defBody s_wrap) (defScope s_wrap) .none kV_wrap dc_wrap pm_wrap an_wrap cd_wrap ct_wrap), sl_wrap⟩) (c_wrap : PySem.W.codeIn K cd_wrap "wrap" = true) (k_wrap : PySem.W.keepIn K (.ref f_wrap) = true)
    (a_is_word : PySem.W.nsIn K mainGlobals "is_word" = some (some (.ref f_is_word))) (l_is_word : K.lookup f_is_word = some ⟨oc_is_word, od_is_word, .func (PySem.W.fnOf "is_word" "is_word" (defArgs s_is_word) (defBody s_is_word) (defScope s_is_word) .none kV_is_word dc_is_word pm_is_word an_is_word cd_is_word ct_is_word), sl_is_word⟩) (c_is_word : PySem.W.codeIn K cd_is_word "is_word" = true) (k_is_word : PySem.W.keepIn K (.ref f_is_word) = true)
    (a_hull : PySem.W.nsIn K mainGlobals "hull" = some (some (.ref f_hull))) (l_hull : K.lookup f_hull = some ⟨oc_hull, od_hull, .func (PySem.W.fnOf "hull" "hull" (defArgs s_hull) (defBody s_hull) (defScope s_hull) .none kV_hull dc_hull pm_hull an_hull cd_hull ct_hull), sl_hull⟩) (c_hull : PySem.W.codeIn K cd_hull "hull" = true) (k_hull : PySem.W.keepIn K (.ref f_hull) = true)
    (a_meet : PySem.W.nsIn K mainGlobals "meet" = some (some (.ref f_meet))) (l_meet : K.lookup f_meet = some ⟨oc_meet, od_meet, .func (PySem.W.fnOf "meet" "meet" (defArgs s_meet) (defBody s_meet) (defScope s_meet) .none kV_meet dc_meet pm_meet an_meet cd_meet ct_meet), sl_meet⟩) (c_meet : PySem.W.codeIn K cd_meet "meet" = true) (k_meet : PySem.W.keepIn K (.ref f_meet) = true)
    (a_inside : PySem.W.nsIn K mainGlobals "inside" = some (some (.ref f_inside))) (l_inside : K.lookup f_inside = some ⟨oc_inside, od_inside, .func (PySem.W.fnOf "inside" "inside" (defArgs s_inside) (defBody s_inside) (defScope s_inside) .none kV_inside dc_inside pm_inside an_inside cd_inside ct_inside), sl_inside⟩) (c_inside : PySem.W.codeIn K cd_inside "inside" = true) (k_inside : PySem.W.keepIn K (.ref f_inside) = true)
    (a_in_words : PySem.W.nsIn K mainGlobals "in_words" = some (some (.ref f_in_words))) (l_in_words : K.lookup f_in_words = some ⟨oc_in_words, od_in_words, .func (PySem.W.fnOf "in_words" "in_words" (defArgs s_in_words) (defBody s_in_words) (defScope s_in_words) .none kV_in_words dc_in_words pm_in_words an_in_words cd_in_words ct_in_words), sl_in_words⟩) (c_in_words : PySem.W.codeIn K cd_in_words "in_words" = true) (k_in_words : PySem.W.keepIn K (.ref f_in_words) = true)
    (a_add_ranges : PySem.W.nsIn K mainGlobals "add_ranges" = some (some (.ref f_add_ranges))) (l_add_ranges : K.lookup f_add_ranges = some ⟨oc_add_ranges, od_add_ranges, .func (PySem.W.fnOf "add_ranges" "add_ranges" (defArgs s_add_ranges) (defBody s_add_ranges) (defScope s_add_ranges) .none kV_add_ranges dc_add_ranges pm_add_ranges an_add_ranges cd_add_ranges ct_add_ranges), sl_add_ranges⟩) (c_add_ranges : PySem.W.codeIn K cd_add_ranges "add_ranges" = true) (k_add_ranges : PySem.W.keepIn K (.ref f_add_ranges) = true)
    (a_sub_ranges : PySem.W.nsIn K mainGlobals "sub_ranges" = some (some (.ref f_sub_ranges))) (l_sub_ranges : K.lookup f_sub_ranges = some ⟨oc_sub_ranges, od_sub_ranges, .func (PySem.W.fnOf "sub_ranges" "sub_ranges" (defArgs s_sub_ranges) (defBody s_sub_ranges) (defScope s_sub_ranges) .none kV_sub_ranges dc_sub_ranges pm_sub_ranges an_sub_ranges cd_sub_ranges ct_sub_ranges), sl_sub_ranges⟩) (c_sub_ranges : PySem.W.codeIn K cd_sub_ranges "sub_ranges" = true) (k_sub_ranges : PySem.W.keepIn K (.ref f_sub_ranges) = true)
    (a_mul_ranges : PySem.W.nsIn K mainGlobals "mul_ranges" = some (some (.ref f_mul_ranges))) (l_mul_ranges : K.lookup f_mul_ranges = some ⟨oc_mul_ranges, od_mul_ranges, .func (PySem.W.fnOf "mul_ranges" "mul_ranges" (defArgs s_mul_ranges) (defBody s_mul_ranges) (defScope s_mul_ranges) .none kV_mul_ranges dc_mul_ranges pm_mul_ranges an_mul_ranges cd_mul_ranges ct_mul_ranges), sl_mul_ranges⟩) (c_mul_ranges : PySem.W.codeIn K cd_mul_ranges "mul_ranges" = true) (k_mul_ranges : PySem.W.keepIn K (.ref f_mul_ranges) = true)
    (a_law_cell : PySem.W.nsIn K mainGlobals "_law_cell" = some (some (.ref f_law_cell))) (l_law_cell : K.lookup f_law_cell = some ⟨oc_law_cell, od_law_cell, .func (PySem.W.fnOf "_law_cell" "_law_cell" (defArgs s_law_cell) (defBody s_law_cell) (defScope s_law_cell) .none kV_law_cell dc_law_cell pm_law_cell an_law_cell cd_law_cell ct_law_cell), sl_law_cell⟩) (c_law_cell : PySem.W.codeIn K cd_law_cell "_law_cell" = true) (k_law_cell : PySem.W.keepIn K (.ref f_law_cell) = true)
    (a_law_end : PySem.W.nsIn K mainGlobals "_law_end" = some (some (.ref f_law_end))) (l_law_end : K.lookup f_law_end = some ⟨oc_law_end, od_law_end, .func (PySem.W.fnOf "_law_end" "_law_end" (defArgs s_law_end) (defBody s_law_end) (defScope s_law_end) .none kV_law_end dc_law_end pm_law_end an_law_end cd_law_end ct_law_end), sl_law_end⟩) (c_law_end : PySem.W.codeIn K cd_law_end "_law_end" = true) (k_law_end : PySem.W.keepIn K (.ref f_law_end) = true)
    (a_law_tuple : PySem.W.nsIn K mainGlobals "_law_tuple" = some (some (.ref f_law_tuple))) (l_law_tuple : K.lookup f_law_tuple = some ⟨oc_law_tuple, od_law_tuple, .func (PySem.W.fnOf "_law_tuple" "_law_tuple" (defArgs s_law_tuple) (defBody s_law_tuple) (defScope s_law_tuple) .none kV_law_tuple dc_law_tuple pm_law_tuple an_law_tuple cd_law_tuple ct_law_tuple), sl_law_tuple⟩) (c_law_tuple : PySem.W.codeIn K cd_law_tuple "_law_tuple" = true) (k_law_tuple : PySem.W.keepIn K (.ref f_law_tuple) = true)
    (a_law_bool : PySem.W.nsIn K mainGlobals "_law_bool" = some (some (.ref f_law_bool))) (l_law_bool : K.lookup f_law_bool = some ⟨oc_law_bool, od_law_bool, .func (PySem.W.fnOf "_law_bool" "_law_bool" (defArgs s_law_bool) (defBody s_law_bool) (defScope s_law_bool) .none kV_law_bool dc_law_bool pm_law_bool an_law_bool cd_law_bool ct_law_bool), sl_law_bool⟩) (c_law_bool : PySem.W.codeIn K cd_law_bool "_law_bool" = true) (k_law_bool : PySem.W.keepIn K (.ref f_law_bool) = true)
    (a_law_cut : PySem.W.nsIn K mainGlobals "_law_cut" = some (some (.ref f_law_cut))) (l_law_cut : K.lookup f_law_cut = some ⟨oc_law_cut, od_law_cut, .func (PySem.W.fnOf "_law_cut" "_law_cut" (defArgs s_law_cut) (defBody s_law_cut) (defScope s_law_cut) .none kV_law_cut dc_law_cut pm_law_cut an_law_cut cd_law_cut ct_law_cut), sl_law_cut⟩) (c_law_cut : PySem.W.codeIn K cd_law_cut "_law_cut" = true) (k_law_cut : PySem.W.keepIn K (.ref f_law_cut) = true)
    (a_law_numbers : PySem.W.nsIn K mainGlobals "_law_numbers" = some (some (.ref f_law_numbers))) (l_law_numbers : K.lookup f_law_numbers = some ⟨oc_law_numbers, od_law_numbers, .func (PySem.W.fnOf "_law_numbers" "_law_numbers" (defArgs s_law_numbers) (defBody s_law_numbers) (defScope s_law_numbers) .none kV_law_numbers dc_law_numbers pm_law_numbers an_law_numbers cd_law_numbers ct_law_numbers), sl_law_numbers⟩) (c_law_numbers : PySem.W.codeIn K cd_law_numbers "_law_numbers" = true) (k_law_numbers : PySem.W.keepIn K (.ref f_law_numbers) = true)
    (a_law_words : PySem.W.nsIn K mainGlobals "_law_words" = some (some (.ref f_law_words))) (l_law_words : K.lookup f_law_words = some ⟨oc_law_words, od_law_words, .func (PySem.W.fnOf "_law_words" "_law_words" (defArgs s_law_words) (defBody s_law_words) (defScope s_law_words) .none kV_law_words dc_law_words pm_law_words an_law_words cd_law_words ct_law_words), sl_law_words⟩) (c_law_words : PySem.W.codeIn K cd_law_words "_law_words" = true) (k_law_words : PySem.W.keepIn K (.ref f_law_words) = true)
    (a_law_sums : PySem.W.nsIn K mainGlobals "_law_sums" = some (some (.ref f_law_sums))) (l_law_sums : K.lookup f_law_sums = some ⟨oc_law_sums, od_law_sums, .func (PySem.W.fnOf "_law_sums" "_law_sums" (defArgs s_law_sums) (defBody s_law_sums) (defScope s_law_sums) .none kV_law_sums dc_law_sums pm_law_sums an_law_sums cd_law_sums ct_law_sums), sl_law_sums⟩) (c_law_sums : PySem.W.codeIn K cd_law_sums "_law_sums" = true) (k_law_sums : PySem.W.keepIn K (.ref f_law_sums) = true)
    (a_law : PySem.W.nsIn K mainGlobals "law" = some (some (.ref f_law))) (l_law : K.lookup f_law = some ⟨oc_law, od_law, .func (PySem.W.fnOf "law" "law" (defArgs s_law) (defBody s_law) (defScope s_law) .none kV_law dc_law pm_law an_law cd_law ct_law), sl_law⟩) (c_law : PySem.W.codeIn K cd_law "law" = true) (k_law : PySem.W.keepIn K (.ref f_law) = true)
    (z_len : PySem.W.nsIn K mainGlobals "len" = some none)
    (z_int : PySem.W.nsIn K mainGlobals "int" = some none)
    (z_bool : PySem.W.nsIn K mainGlobals "bool" = some none)
    (z_tuple : PySem.W.nsIn K mainGlobals "tuple" = some none)
    (z_abs : PySem.W.nsIn K mainGlobals "abs" = some none)
    (z_min : PySem.W.nsIn K mainGlobals "min" = some none)
    (z_max : PySem.W.nsIn K mainGlobals "max" = some none)
    (z_sorted : PySem.W.nsIn K mainGlobals "sorted" = some none)
    (z_range : PySem.W.nsIn K mainGlobals "range" = some none)
    (z_isinstance : PySem.W.nsIn K mainGlobals "isinstance" = some none)
    (v_LOW : PySem.W.nsIn K mainGlobals "LOW" = some (some (.int (-9223372036854775808) t_LOW)))
    (v_HIGH : PySem.W.nsIn K mainGlobals "HIGH" = some (some (.int 9223372036854775807 t_HIGH)))
    (v_COUNT : PySem.W.nsIn K mainGlobals "COUNT" = some (some (.int 18446744073709551616 t_COUNT)))
    (v_EVERY : PySem.W.nsIn K mainGlobals "EVERY" = some (some (.ref aE)))
    (lE : K.lookup aE = some ⟨.type "tuple", odE, .seq #[.int (-9223372036854775808) tE1, .int 9223372036854775807 tE2] nE, slE⟩)
    : ∃ fd : FuncData, (∀ (s : Shared) (v : Value), BindsTo s fd ⟨[v], []⟩ [("script", v)]) ∧ ∀ base : Heap, K.In base → base.Ns mainGlobals mg → FnOk l.prog w K mg base (L2.CX l.prog w) 4 fa fd ["script"] (spLaw K) := by
  have e := hfa.symm.trans (PySem.W.mg_of X G a_law)
  cases e
  have T : Txt K mg aE := { b_len := PySem.W.mg_none_of X G z_len, b_int := PySem.W.mg_none_of X G z_int, b_bool := PySem.W.mg_none_of X G z_bool, b_tuple := PySem.W.mg_none_of X G z_tuple, b_abs := PySem.W.mg_none_of X G z_abs, b_min := PySem.W.mg_none_of X G z_min, b_max := PySem.W.mg_none_of X G z_max, b_sorted := PySem.W.mg_none_of X G z_sorted, b_range := PySem.W.mg_none_of X G z_range, b_isinstance := PySem.W.mg_none_of X G z_isinstance, c_LOW := ⟨_, PySem.W.mg_of X G v_LOW, ⟨_, rfl⟩⟩, c_HIGH := ⟨_, PySem.W.mg_of X G v_HIGH, ⟨_, rfl⟩⟩, c_COUNT := ⟨_, PySem.W.mg_of X G v_COUNT, ⟨_, rfl⟩⟩, c_EVERY := ⟨_, PySem.W.mg_of X G v_EVERY, rfl⟩, every := fun H => .inr ⟨_, _, _, lE, rfl, rfl, (by show 2 ≤ sizeLine; decide), .cons ⟨_, rfl⟩ (.cons ⟨_, rfl⟩ .nil)⟩ }
  have D_wrap : Def K mg "wrap" P_wrap s_wrap := def_mk (fun_mk (st := s_wrap) l_wrap c_wrap k_wrap) (PySem.W.mg_of X G a_wrap) fun _ _ _ _ _ _ us hl => match us, hl with | [_], _ => rfl
  have D_is_word : Def K mg "is_word" P_is_word s_is_word := def_mk (fun_mk (st := s_is_word) l_is_word c_is_word k_is_word) (PySem.W.mg_of X G a_is_word) fun _ _ _ _ _ _ us hl => match us, hl with | [_], _ => rfl
  have D_hull : Def K mg "hull" P_hull s_hull := def_mk (fun_mk (st := s_hull) l_hull c_hull k_hull) (PySem.W.mg_of X G a_hull) fun _ _ _ _ _ _ us hl => match us, hl with | [_, _], _ => rfl
  have D_meet : Def K mg "meet" P_meet s_meet := def_mk (fun_mk (st := s_meet) l_meet c_meet k_meet) (PySem.W.mg_of X G a_meet) fun _ _ _ _ _ _ us hl => match us, hl with | [_, _], _ => rfl
  have D_inside : Def K mg "inside" P_inside s_inside := def_mk (fun_mk (st := s_inside) l_inside c_inside k_inside) (PySem.W.mg_of X G a_inside) fun _ _ _ _ _ _ us hl => match us, hl with | [_, _], _ => rfl
  have D_in_words : Def K mg "in_words" P_in_words s_in_words := def_mk (fun_mk (st := s_in_words) l_in_words c_in_words k_in_words) (PySem.W.mg_of X G a_in_words) fun _ _ _ _ _ _ us hl => match us, hl with | [_, _], _ => rfl
  have D_add_ranges : Def K mg "add_ranges" P_add_ranges s_add_ranges := def_mk (fun_mk (st := s_add_ranges) l_add_ranges c_add_ranges k_add_ranges) (PySem.W.mg_of X G a_add_ranges) fun _ _ _ _ _ _ us hl => match us, hl with | [_, _], _ => rfl
  have D_sub_ranges : Def K mg "sub_ranges" P_sub_ranges s_sub_ranges := def_mk (fun_mk (st := s_sub_ranges) l_sub_ranges c_sub_ranges k_sub_ranges) (PySem.W.mg_of X G a_sub_ranges) fun _ _ _ _ _ _ us hl => match us, hl with | [_, _], _ => rfl
  have D_mul_ranges : Def K mg "mul_ranges" P_mul_ranges s_mul_ranges := def_mk (fun_mk (st := s_mul_ranges) l_mul_ranges c_mul_ranges k_mul_ranges) (PySem.W.mg_of X G a_mul_ranges) fun _ _ _ _ _ _ us hl => match us, hl with | [_, _], _ => rfl
  have D_law_cell : Def K mg "_law_cell" P_law_cell s_law_cell := def_mk (fun_mk (st := s_law_cell) l_law_cell c_law_cell k_law_cell) (PySem.W.mg_of X G a_law_cell) fun _ _ _ _ _ _ us hl => match us, hl with | [_, _], _ => rfl
  have D_law_end : Def K mg "_law_end" P_law_end s_law_end := def_mk (fun_mk (st := s_law_end) l_law_end c_law_end k_law_end) (PySem.W.mg_of X G a_law_end) fun _ _ _ _ _ _ us hl => match us, hl with | [_], _ => rfl
  have D_law_tuple : Def K mg "_law_tuple" P_law_tuple s_law_tuple := def_mk (fun_mk (st := s_law_tuple) l_law_tuple c_law_tuple k_law_tuple) (PySem.W.mg_of X G a_law_tuple) fun _ _ _ _ _ _ us hl => match us, hl with | [_, _], _ => rfl
  have D_law_bool : Def K mg "_law_bool" P_law_bool s_law_bool := def_mk (fun_mk (st := s_law_bool) l_law_bool c_law_bool k_law_bool) (PySem.W.mg_of X G a_law_bool) fun _ _ _ _ _ _ us hl => match us, hl with | [_, _], _ => rfl
  have D_law_cut : Def K mg "_law_cut" P_law_cut s_law_cut := def_mk (fun_mk (st := s_law_cut) l_law_cut c_law_cut k_law_cut) (PySem.W.mg_of X G a_law_cut) fun _ _ _ _ _ _ us hl => match us, hl with | [_, _], _ => rfl
  have D_law_numbers : Def K mg "_law_numbers" P_law_numbers s_law_numbers := def_mk (fun_mk (st := s_law_numbers) l_law_numbers c_law_numbers k_law_numbers) (PySem.W.mg_of X G a_law_numbers) fun _ _ _ _ _ _ us hl => match us, hl with | [_, _, _], _ => rfl
  have D_law_words : Def K mg "_law_words" P_law_words s_law_words := def_mk (fun_mk (st := s_law_words) l_law_words c_law_words k_law_words) (PySem.W.mg_of X G a_law_words) fun _ _ _ _ _ _ us hl => match us, hl with | [_, _, _], _ => rfl
  have D_law_sums : Def K mg "_law_sums" P_law_sums s_law_sums := def_mk (fun_mk (st := s_law_sums) l_law_sums c_law_sums k_law_sums) (PySem.W.mg_of X G a_law_sums) fun _ _ _ _ _ _ us hl => match us, hl with | [_, _], _ => rfl
  exact ⟨PySem.W.fnOf "law" "law" (defArgs s_law) (defBody s_law) (defScope s_law) .none kV_law dc_law pm_law an_law cd_law ct_law, fun s v => .of_eq rfl, fun base _ _ => by
    have I : Cal l.prog w K mg base 1 "in_words" P_in_words (spCut K) := cal_in_words T D_in_words
    have C : Cal l.prog w K mg base 1 "_law_cut" P_law_cut (spCut K) := cal_law_cut T D_law_cut
    have B : Cal l.prog w K mg base 1 "_law_bool" P_law_bool spLb := cal_law_bool T D_law_bool
    have U : Cal l.prog w K mg base 1 "_law_tuple" P_law_tuple (spLt K) := cal_law_tuple T D_law_tuple
    exact ok_law (fun_mk (st := s_law) l_law c_law k_law) T (cal_law_cell T D_law_cell) (cal_law_end T D_law_end) U (cal_meet T D_meet) (cal_hull T D_hull) B (cal_inside T D_inside) (cal_law_words T D_law_words (cal_law_numbers T D_law_numbers) (cal_wrap T D_wrap) B (cal_is_word T D_is_word)) (cal_law_sums T D_law_sums U C (cal_add_ranges T D_add_ranges I) (cal_sub_ranges T D_sub_ranges I) (cal_mul_ranges T D_mul_ranges I))⟩
end K86

open PySem PySem.W PyProof.Rows in
set_option maxRecDepth 100000 in
set_option maxHeartbeats 0 in
theorem PySem.Challenge.cw_beatsbounded_k86_words_and_ranges_holds : PySem.Challenge.rw_beatsbounded_k86_words_and_ranges.Holds := by
  w_on; o_law; k_head; (case hw => w_witness2)
  k_fill
  refine BB.walkB (l := PySem.Challenge.rw_beatsbounded_k86_words_and_ranges) (k := 4) (sp := K86.spLaw) rfl rfl ⟨rfl, by decide, by decide⟩ (fun w h Y => PySem.W.kIn_of Y) ?F ?S
  case F =>
    intro w mg fa h KX G hmg
    refine' K86.all_mk KX G hmg ?a_wrap ?l_wrap ?c_wrap ?k_wrap ?a_is_word ?l_is_word ?c_is_word ?k_is_word ?a_hull ?l_hull ?c_hull ?k_hull ?a_meet ?l_meet ?c_meet ?k_meet ?a_inside ?l_inside ?c_inside ?k_inside ?a_in_words ?l_in_words ?c_in_words ?k_in_words ?a_add_ranges ?l_add_ranges ?c_add_ranges ?k_add_ranges ?a_sub_ranges ?l_sub_ranges ?c_sub_ranges ?k_sub_ranges ?a_mul_ranges ?l_mul_ranges ?c_mul_ranges ?k_mul_ranges ?a_law_cell ?l_law_cell ?c_law_cell ?k_law_cell ?a_law_end ?l_law_end ?c_law_end ?k_law_end ?a_law_tuple ?l_law_tuple ?c_law_tuple ?k_law_tuple ?a_law_bool ?l_law_bool ?c_law_bool ?k_law_bool ?a_law_cut ?l_law_cut ?c_law_cut ?k_law_cut ?a_law_numbers ?l_law_numbers ?c_law_numbers ?k_law_numbers ?a_law_words ?l_law_words ?c_law_words ?k_law_words ?a_law_sums ?l_law_sums ?c_law_sums ?k_law_sums ?a_law ?l_law ?c_law ?k_law ?z_len ?z_int ?z_bool ?z_tuple ?z_abs ?z_min ?z_max ?z_sorted ?z_range ?z_isinstance ?v_LOW ?v_HIGH ?v_COUNT ?v_EVERY ?lE
    (case a_wrap => k_is)
    (case l_wrap => k_is)
    (case c_wrap => k_is)
    (case k_wrap => k_is)
    (case a_is_word => k_is)
    (case l_is_word => k_is)
    (case c_is_word => k_is)
    (case k_is_word => k_is)
    (case a_hull => k_is)
    (case l_hull => k_is)
    (case c_hull => k_is)
    (case k_hull => k_is)
    (case a_meet => k_is)
    (case l_meet => k_is)
    (case c_meet => k_is)
    (case k_meet => k_is)
    (case a_inside => k_is)
    (case l_inside => k_is)
    (case c_inside => k_is)
    (case k_inside => k_is)
    (case a_in_words => k_is)
    (case l_in_words => k_is)
    (case c_in_words => k_is)
    (case k_in_words => k_is)
    (case a_add_ranges => k_is)
    (case l_add_ranges => k_is)
    (case c_add_ranges => k_is)
    (case k_add_ranges => k_is)
    (case a_sub_ranges => k_is)
    (case l_sub_ranges => k_is)
    (case c_sub_ranges => k_is)
    (case k_sub_ranges => k_is)
    (case a_mul_ranges => k_is)
    (case l_mul_ranges => k_is)
    (case c_mul_ranges => k_is)
    (case k_mul_ranges => k_is)
    (case a_law_cell => k_is)
    (case l_law_cell => k_is)
    (case c_law_cell => k_is)
    (case k_law_cell => k_is)
    (case a_law_end => k_is)
    (case l_law_end => k_is)
    (case c_law_end => k_is)
    (case k_law_end => k_is)
    (case a_law_tuple => k_is)
    (case l_law_tuple => k_is)
    (case c_law_tuple => k_is)
    (case k_law_tuple => k_is)
    (case a_law_bool => k_is)
    (case l_law_bool => k_is)
    (case c_law_bool => k_is)
    (case k_law_bool => k_is)
    (case a_law_cut => k_is)
    (case l_law_cut => k_is)
    (case c_law_cut => k_is)
    (case k_law_cut => k_is)
    (case a_law_numbers => k_is)
    (case l_law_numbers => k_is)
    (case c_law_numbers => k_is)
    (case k_law_numbers => k_is)
    (case a_law_words => k_is)
    (case l_law_words => k_is)
    (case c_law_words => k_is)
    (case k_law_words => k_is)
    (case a_law_sums => k_is)
    (case l_law_sums => k_is)
    (case c_law_sums => k_is)
    (case k_law_sums => k_is)
    (case a_law => k_is)
    (case l_law => k_is)
    (case c_law => k_is)
    (case k_law => k_is)
    (case z_len => k_is)
    (case z_int => k_is)
    (case z_bool => k_is)
    (case z_tuple => k_is)
    (case z_abs => k_is)
    (case z_min => k_is)
    (case z_max => k_is)
    (case z_sorted => k_is)
    (case z_range => k_is)
    (case z_isinstance => k_is)
    (case v_LOW => k_is)
    (case v_HIGH => k_is)
    (case v_COUNT => k_is)
    (case v_EVERY => k_is)
    (case lE => k_is)
  case S =>
    intro K H a ns hl hb hO hS
    exact ⟨a, ns, rfl, hS, fun _ => rfl⟩
#print axioms PySem.Challenge.cw_beatsbounded_k86_words_and_ranges_holds
