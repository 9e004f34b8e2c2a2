import PyProof.Rows.All
import Wide.All
import OpenK.AllK
import Wide.FinOn
import HandS.ForMost
import HandS.ForExc
import HandS.Codes
import HandS.IsInst
import HandS.Replace
import HandS.EndBits
import HandS.Wide
import KE.IntTextLaws
import PySem.Challenge.RW_beatsbounded_k85_written_numbers
set_option Elab.async false
set_option linter.all false
set_option maxRecDepth 100000
namespace BB
open PySem PySem.Spec PyProof.Rows L2 SX

/-- a def of the top, under its name -/
structure Def (K : PySem.W.Frag) (mg : Str → Option Value) (x : Str) (ps : List Str) (st : Stmt) : Prop where
  ex : ∃ (f : Addr) (fd : FuncData), L2.Fun K x x st f fd ∧ mg x = some (.ref f) ∧ Binds K fd ps []
theorem def_mk {K : PySem.W.Frag} {mg : Str → Option Value} {x : Str} {ps : List Str} {st : Stmt} {f : Addr} {fd : FuncData} (F : L2.Fun K x x st f fd) (m : mg x = some (.ref f))
    (h : ∀ (kV doc pm : Value) (an : Option Addr) (cdv ct : Value) (us : List Value), us.length = ps.length → bindArgs (PySem.W.fnOf x x (defArgs st) (defBody st) (defScope st) .none kV doc pm an cdv ct) ⟨us, []⟩ = pure (ps.zip us)) : Def K mg x ps st :=
  ⟨f, fd, F, m, F.binds h⟩

/-- a def that may be called by its name; errors may leave it -/
structure Cal (P : Program) (w : World) (K : PySem.W.Frag) (mg : Str → Option Value) (base : Heap) (k : Nat) (x : Str) (ps : List Str) (sp : Sp) : Prop where
  ex : ∃ (f : Addr) (fd : FuncData), FnOk P w K mg base (L2.CX P w) k f fd ps sp ∧ mg x = some (.ref f) ∧ PySem.W.keepIn K (.ref f) = true ∧ Binds K fd ps []

section
variable {P : Program} {w : World} {K : PySem.W.Frag} {mg : Str → Option Value} {base : Heap}
theorem ok0 {x : Str} {st : Stmt} {N ps : List Str} {k : Nat} {sp : Sp} {f : Addr} {fd : FuncData} (F : L2.Fun K x x st f fd) (S : FnScope N ps (defScope st)) (len : ∀ vs H Q E, sp vs H Q E → vs.length = ps.length)
    (hbody : ∀ (f : Addr) (cdv : Value) (A : Around) (outer : List Env) (s : Shared) (H : Hp) (vs : List V) (Q : VK) (E : XK), Room k (A.deeper (envOfC x (defScope st) s.heap.objs.size f cdv)) → sp vs H Q E →
      ∃ t, PSs (cxOf (L2.CX P w) P w K mg base N x (defScope st) f cdv A outer s H E).nox (defBody st) t ∧ t { nx := fun _ H' => Q .non H', rt := Q } (start N vs) H) : FnOk P w K mg base (L2.CX P w) (k + 1) f fd ps sp := by
  refine L2.Fun.okX F S len fun cdv A outer s H vs Q E hr hsp => ?_
  obtain ⟨t, h, q⟩ := hbody f cdv A outer s H vs Q E hr hsp
  exact ⟨t, h.nox, q⟩
/-- by its body, where nothing is raised out -/
theorem cal0 {x : Str} {st : Stmt} {N ps : List Str} {k : Nat} {sp : Sp} (D : Def K mg x ps st) (S : FnScope N ps (defScope st)) (len : ∀ vs H Q E, sp vs H Q E → vs.length = ps.length)
    (hbody : ∀ (f : Addr) (cdv : Value) (A : Around) (outer : List Env) (s : Shared) (H : Hp) (vs : List V) (Q : VK) (E : XK), Room k (A.deeper (envOfC x (defScope st) s.heap.objs.size f cdv)) → sp vs H Q E →
      ∃ t, PSs (cxOf (L2.CX P w) P w K mg base N x (defScope st) f cdv A outer s H E).nox (defBody st) t ∧ t { nx := fun _ H' => Q .non H', rt := Q } (start N vs) H) : Cal P w K mg base (k + 1) x ps sp := by
  obtain ⟨f, fd, F, m, b⟩ := D.ex
  refine ⟨f, fd, ?_, m, F.kp, b⟩
  refine L2.Fun.okX F S len fun cdv A outer s H vs Q E hr hsp => ?_
  obtain ⟨t, h, q⟩ := hbody f cdv A outer s H vs Q E hr hsp
  exact ⟨t, h.nox, q⟩
/-- by its body, where an error may leave -/
theorem calX {x : Str} {st : Stmt} {N ps : List Str} {k : Nat} {sp : Sp} (D : Def K mg x ps st) (S : FnScope N ps (defScope st)) (len : ∀ vs H Q E, sp vs H Q E → vs.length = ps.length)
    (hbody : ∀ (f : Addr) (cdv : Value) (A : Around) (outer : List Env) (s : Shared) (H : Hp) (vs : List V) (Q : VK) (E : XK), Room k (A.deeper (envOfC x (defScope st) s.heap.objs.size f cdv)) → sp vs H Q E →
      ∃ t, PSs (cxOf (L2.CX P w) P w K mg base N x (defScope st) f cdv A outer s H E) (defBody st) t ∧ t { nx := fun _ H' => Q .non H', rt := Q } (start N vs) H) : Cal P w K mg base (k + 1) x ps sp := by
  obtain ⟨f, fd, F, m, b⟩ := D.ex
  refine ⟨f, fd, ?_, m, F.kp, b⟩
  exact L2.Fun.okX F S len fun cdv A outer s H vs Q E hr hsp => hbody f cdv A outer s H vs Q E hr hsp
end
section
variable {X : Cx} {k j : Nat} {x : Str} {ps : List Str} {sp : Sp} {p pos : Pos} {e : Expr} {es : List Expr} {t : TA}
/-- f(e, ..), nothing raised -/
theorem pe_c (c : Cal X.prog X.w X.K X.mg X.base k x ps sp) (hr : Room j X.A) (hk : k ≤ j) (hg : Gl X x) (ha : PA X (e :: es) t)
    (hdb : (x == ("__debug__" : Str)) = false := by decide) (he : starEach (e :: es) X.env = (false, eval e X.env) :: starEach es X.env := by rfl) (hpl : (backTo pos (starEach es X.env)).any (·.1) = false := by rfl) :
    PE X (.Call (.Name x p) (e :: es) [] pos) (tCall sp [] L2.E0 t) := by
  obtain ⟨f, fd, F, hm, kp, b⟩ := c.ex
  exact pe_call F (hr.mono hk) hg hm kp b .nil passL ha hdb he hpl
end
/-- a name of the module, by its value -/
theorem pe_gc {X : Cx} {x : Str} {v : V} {pos : Pos} (hg : Gl X x) (h : ∃ u, X.mg x = some u ∧ RelV v u) (hd : (x == ("__debug__" : Str)) = false := by decide) : PE X (.Name x pos) (tC v) := by
  obtain ⟨u, hm, r⟩ := h
  exact pe_glob hg hm r hd

/-! ### loops by what is left to come -/
theorem forR_list {K : PySem.W.Frag} {a : Addr} {xs : List V} {g : TG} {tb : TS} {D : Ends} {σ : L2.St} {H : Hp} (Pv : List V → L2.St → Hp → Prop) (h0 : Pv xs σ H) (hl : ∀ r σ H, Pv r σ H → SqL K H a xs)
    (hs : ∀ x r σ H, x ∈ xs → Pv (x :: r) σ H → g x σ H fun σ2 H2 => tb { D with nx := Pv r, ct := Pv r, bk := D.nx } σ2 H2) (hd : ∀ σ H, Pv [] σ H → D.nx σ H) :
    ∃ W : Nat → Nat → L2.St → Hp → Prop, (∃ m, W 0 m σ H) ∧ ∀ i m σ H, W i m σ H →
      ((Itl K a).stop i H ∧ D.nx σ H) ∨ ((Itl K a).go i H ∧ ∃ N : L2.St → Hp → Prop, (∀ σ' H', N σ' H' → ∃ m', m' < m ∧ W (i + 1) m' σ' H') ∧ ∀ x H', (Itl K a).yld i H x H' → g x σ H' fun σ2 H2 => tb { D with nx := N, ct := N, bk := D.nx } σ2 H2) := by
  refine for_list (K := K) (a := a) (xs := xs) (fun i σ H => Pv (xs.drop i) σ H) h0 (fun i σ H _ h => hl _ _ _ h) (fun i x σ H hx h => ?_) fun σ H h => ?_
  · have e : xs.drop i = x :: xs.drop (i + 1) := by
      obtain ⟨hi, hv⟩ := List.getElem?_eq_some_iff.mp hx
      rw [List.drop_eq_getElem_cons hi, hv]
    have h' : Pv (x :: xs.drop (i + 1)) σ H := by rw [← e]; exact h
    exact hs x _ σ H (List.mem_of_getElem? hx) h'
  · have e : xs.drop xs.length = [] := List.drop_length
    have h' : Pv [] σ H := by rw [← e]; exact h
    exact hd σ H h'
theorem forR_tup {K : PySem.W.Frag} {a : Addr} {xs : List V} {g : TG} {tb : TS} {D : Ends} {σ : L2.St} {H : Hp} (Pv : List V → L2.St → Hp → Prop) (h0 : Pv xs σ H) (hl : ∀ r σ H, Pv r σ H → SqT K H a xs)
    (hs : ∀ x r σ H, x ∈ xs → Pv (x :: r) σ H → g x σ H fun σ2 H2 => tb { D with nx := Pv r, ct := Pv r, bk := D.nx } σ2 H2) (hd : ∀ σ H, Pv [] σ H → D.nx σ H) :
    ∃ W : Nat → Nat → L2.St → Hp → Prop, (∃ m, W 0 m σ H) ∧ ∀ i m σ H, W i m σ H →
      ((Itt K a).stop i H ∧ D.nx σ H) ∨ ((Itt K a).go i H ∧ ∃ N : L2.St → Hp → Prop, (∀ σ' H', N σ' H' → ∃ m', m' < m ∧ W (i + 1) m' σ' H') ∧ ∀ x H', (Itt K a).yld i H x H' → g x σ H' fun σ2 H2 => tb { D with nx := N, ct := N, bk := D.nx } σ2 H2) := by
  refine for_tup (K := K) (a := a) (xs := xs) (fun i σ H => Pv (xs.drop i) σ H) h0 (fun i σ H _ h => hl _ _ _ h) (fun i x σ H hx h => ?_) fun σ H h => ?_
  · have e : xs.drop i = x :: xs.drop (i + 1) := by
      obtain ⟨hi, hv⟩ := List.getElem?_eq_some_iff.mp hx
      rw [List.drop_eq_getElem_cons hi, hv]
    have h' : Pv (x :: xs.drop (i + 1)) σ H := by rw [← e]; exact h
    exact hs x _ σ H (List.mem_of_getElem? hx) h'
  · have e : xs.drop xs.length = [] := List.drop_length
    have h' : Pv [] σ H := by rw [← e]; exact h
    exact hd σ H h'
/-- over a text's signs -/
theorem forR_str {l : List Nat} {g : TG} {tb : TS} {D : Ends} {σ : L2.St} {H : Hp} (Pv : List Nat → L2.St → Hp → Prop) (h0 : Pv l σ H)
    (hs : ∀ c r σ H, c ∈ l → Pv (c :: r) σ H → g (.str (S [c])) σ H fun σ2 H2 => tb { D with nx := Pv r, ct := Pv r, bk := D.nx } σ2 H2) (hd : ∀ σ H, Pv [] σ H → D.nx σ H) :
    ∃ W : Nat → Nat → L2.St → Hp → Prop, (∃ m, W 0 m σ H) ∧ ∀ i m σ H, W i m σ H →
      ((Its (S l)).stop i H ∧ D.nx σ H) ∨ ((Its (S l)).go i H ∧ ∃ N : L2.St → Hp → Prop, (∀ σ' H', N σ' H' → ∃ m', m' < m ∧ W (i + 1) m' σ' H') ∧ ∀ x H', (Its (S l)).yld i H x H' → g x σ H' fun σ2 H2 => tb { D with nx := N, ct := N, bk := D.nx } σ2 H2) := by
  have sz : (S l).cps.size = l.length := by simp
  refine ⟨fun i m σ H => m = l.length - i ∧ i ≤ l.length ∧ Pv (l.drop i) σ H, ⟨l.length, by simp, Nat.zero_le _, h0⟩, ?_⟩
  rintro i m σ H ⟨rfl, hi, p⟩
  by_cases hlt : i < l.length
  · refine .inr ⟨by show i < (S l).cps.size; rw [sz]; exact hlt, fun σ H => Pv (l.drop (i + 1)) σ H, fun σ' H' p' => ⟨l.length - (i + 1), by omega, rfl, hlt, p'⟩, fun x H' y => ?_⟩
    obtain ⟨e, c, hc, ex⟩ := y
    subst e
    subst ex
    have hc' : l[i]? = some c := by simpa using hc
    have ed : l.drop i = c :: l.drop (i + 1) := by
      obtain ⟨h1, hv⟩ := List.getElem?_eq_some_iff.mp hc'
      rw [List.drop_eq_getElem_cons h1, hv]
    have p' : Pv (c :: l.drop (i + 1)) σ H' := by rw [← ed]; exact p
    exact hs c _ σ H' (List.mem_of_getElem? hc') p'
  · have e : i = l.length := by omega
    subst e
    have e2 : l.drop l.length = [] := List.drop_length
    have p' : Pv [] σ H := by rw [← e2]; exact p
    exact .inl ⟨by show (S l).cps.size ≤ l.length; rw [sz]; exact Nat.le_refl _, hd σ H p'⟩

/-! ### texts by their codes -/
theorem tlS (l : List Nat) : (S l).cps.toList = l := rfl
theorem cutS_S (l : List Nat) (lo hi : Option Int) : cutS (S l) lo hi = S ((l.drop (HT.sIx l.length 0 lo)).take (HT.sIx l.length l.length hi - HT.sIx l.length 0 lo)) := by
  unfold cutS
  rw [S_len]
theorem sIx_nat (n d k : Nat) : HT.sIx n d (some (k : Int)) = min k n := by
  unfold HT.sIx
  simp only [if_neg (show ¬ ((k : Int) < 0) by omega), Int.toNat_natCast]
theorem sIx_none (n d : Nat) : HT.sIx n d none = d := rfl
theorem cut_from (l : List Nat) (k : Nat) : cutS (S l) (some (k : Int)) none = S (l.drop k) := by
  rw [cutS_S, sIx_nat, sIx_none]
  congr 1
  by_cases h : k ≤ l.length
  · rw [Nat.min_eq_left h, List.take_of_length_le (by rw [List.length_drop]; exact Nat.le_refl _)]
  · rw [Nat.min_eq_right (by omega), List.drop_length, List.take_nil, List.drop_of_length_le (by omega)]
theorem cut_to (l : List Nat) (k : Nat) : cutS (S l) none (some (k : Int)) = S (l.take k) := by
  rw [cutS_S, sIx_nat, sIx_none, List.drop_zero, Nat.sub_zero]
  congr 1
  by_cases h : k ≤ l.length
  · rw [Nat.min_eq_left h]
  · rw [Nat.min_eq_right (by omega), List.take_length, List.take_of_length_le (by omega)]

/-! ### the end of a law's row -/
theorem walkB {l : PySem.W.OpenLaw} {k : Nat} {q : Program} {loose : List Str} {XP : (Str → Option Value) → Heap → Prop} {YP : World → Heap → Prop} {d : DefRec} {K : Params → PySem.W.Frag} {sp : PySem.W.Frag → Sp}
    (hn : l.most = some 63) (hdf : d.params.defaults = []) (hr : Room k callerA) (hY : ∀ (w : World) (h : Heap), YP w h → (K w.params).In h)
    (F : ∀ (w : World) (mg : Str → Option Value) (fa : Addr) (h : Heap), (K w.params).In h → h.Ns mainGlobals mg → mg d.name = some (.ref fa) →
      ∃ fd : FuncData, (∀ (s : Shared) (u : Value), BindsTo s fd ⟨[u], []⟩ [("script", u)]) ∧
        ∀ base : Heap, (K w.params).In base → base.Ns mainGlobals mg → FnOk l.prog w (K w.params) mg base (L2.CX l.prog w) k fa fd ["script"] (sp (K w.params)))
    (hsp : ∀ (K : PySem.W.Frag) (H : Hp) (a : Addr) (ns : List Int), ns.length ≤ 63 → (∀ z ∈ ns, Builtin.Int.intBits z ≤ 1048576) → Only H → SqL K H a (ns.map V.int) → sp K [.ref a] H (fun v _ => v = .bl true) fun _ _ _ => False) :
    PySem.W.WalkO q loose XP YP l.row.toRowW d [] (fun f vs => PySem.call f vs) :=
  walk_ofB (K := K) (CX := fun w => L2.CX l.prog w) (sp := fun w => sp (K w.params)) hn (by decide) hdf hr hY F (fun w H a ns h1 h2 h3 h4 => hsp (K w.params) H a ns h1 h2 h3 h4) fun w H s e s' h => by
    obtain ⟨_, _, _, _, _, _, _, _, _, _, _, _, z⟩ := h
    exact z.elim

/-- a cell of the script -/
def cell (ns : List Int) (k : Nat) : Int := ns.getD k 0
theorem atI_of {α : Type} {xs : List α} {j : Nat} {v : α} (h : xs[j]? = some v) : atI xs (j : Int) = some v := atI_nat h
end BB
set_option maxHeartbeats 4000000
namespace K85
open PySem PySem.Spec PyProof.Rows L2 SX BB NumText
/-! ### the mathematics -/
def dig (c : Nat) : Bool := decide (48 ≤ c) && decide (c ≤ 57)
def digs (t : List Nat) : List Nat := if t.take 1 = [45] then t.drop 1 else t
/-- what read_number answers -/
def rn (t : List Nat) : V :=
  if digs t = [] ∨ 60 < (digs t).length then .non
  else if (digs t).all dig = false then .non
  else if (digs t).head? = some 48 ∧ t ≠ [48] then .non
  else if t.take 1 = [45] then .int (-((digitsVal (digs t) : Nat) : Int)) else .int ((digitsVal (digs t) : Nat) : Int)
theorem dig_iff {c : Nat} : dig c = true ↔ 48 ≤ c ∧ c ≤ 57 := by
  unfold dig
  simp only [Bool.and_eq_true, decide_eq_true_eq]
theorem all_dig {l : List Nat} : l.all dig = true ↔ AllDigits l := by
  rw [List.all_eq_true]
  exact ⟨fun h c hc => dig_iff.mp (h c hc), fun h c hc => dig_iff.mpr (h c hc)⟩
theorem not_all {l : List Nat} {c : Nat} (hc : c ∈ l) (h : ¬ (48 ≤ c ∧ c ≤ 57)) : l.all dig = false := by
  cases e : l.all dig with
  | false => rfl
  | true => exact absurd (all_dig.mp e c hc) h
theorem lit_digits : (Str.ofString "0123456789") = S [48, 49, 50, 51, 52, 53, 54, 55, 56, 57] := by decide +kernel
theorem lit_digits9 : (Str.ofString "123456789") = S [49, 50, 51, 52, 53, 54, 55, 56, 57] := by decide +kernel
theorem lit_minus : (Str.ofString "-") = S [45] := by decide +kernel
theorem lit_zero : (Str.ofString "0") = S [48] := by decide +kernel
theorem lit_nil : (Str.ofString "") = S [] := by decide +kernel
theorem mem_digits {c : Nat} : c ∈ [48, 49, 50, 51, 52, 53, 54, 55, 56, 57] ↔ 48 ≤ c ∧ c ≤ 57 := by
  simp only [List.mem_cons, List.not_mem_nil, or_false]
  omega
theorem str_inj {a b : List Nat} (h : V.str (S a) = V.str (S b)) : a = b := by
  injection h with h
  exact S_inj h
theorem dig_at {i : Int} (h0 : 0 ≤ i) (h1 : i < 10) : atI [48, 49, 50, 51, 52, 53, 54, 55, 56, 57] i = some (48 + i.toNat) := by
  have : i = 0 ∨ i = 1 ∨ i = 2 ∨ i = 3 ∨ i = 4 ∨ i = 5 ∨ i = 6 ∨ i = 7 ∨ i = 8 ∨ i = 9 := by omega
  rcases this with h | h | h | h | h | h | h | h | h | h <;> subst h <;> decide
theorem dig9_at {i : Int} (h0 : 0 ≤ i) (h1 : i < 9) : atI [49, 50, 51, 52, 53, 54, 55, 56, 57] i = some (49 + i.toNat) := by
  have : i = 0 ∨ i = 1 ∨ i = 2 ∨ i = 3 ∨ i = 4 ∨ i = 5 ∨ i = 6 ∨ i = 7 ∨ i = 8 := by omega
  rcases this with h | h | h | h | h | h | h | h | h <;> subst h <;> decide
theorem occ_dig {c : Nat} (h : 48 ≤ c ∧ c ≤ 57) : Builtin.Str.occurrences (S [48, 49, 50, 51, 52, 53, 54, 55, 56, 57]) (S [c]) 0 (S [48, 49, 50, 51, 52, 53, 54, 55, 56, 57]).length 1 = [c - 48] := by
  have : c = 48 ∨ c = 49 ∨ c = 50 ∨ c = 51 ∨ c = 52 ∨ c = 53 ∨ c = 54 ∨ c = 55 ∨ c = 56 ∨ c = 57 := by omega
  rcases this with h | h | h | h | h | h | h | h | h | h <;> subst h <;> decide +kernel

/-! ### the text -/
def topS (i : Nat) : Stmt := PySem.Challenge.pw_beatsbounded_k85_written_numbers.main.body.getD i (.Pass ⟨0, 0, 0, 0⟩)
structure Txt (mg : Str → Option Value) : Prop where
  b_len : mg "len" = none
  b_int : mg "int" = none
  b_bool : mg "bool" = none
  b_abs : mg "abs" = none
  b_range : mg "range" = none
  b_isinstance : mg "isinstance" = none
  c_DIGITS : ∃ u, mg "DIGITS" = some u ∧ RelV (.str "0123456789") u
  c_MOST_DIGITS : ∃ u, mg "MOST_DIGITS" = some u ∧ RelV (.int 60) u
/-- one step of a reading -/
local macro_rules | `(tactic| walk_at "side") => `(tactic| (try dsimp only) <;> (first | decide | omega | assumption | (unfold CMul; omega) | (unfold CDiv; omega)))
local macro_rules | `(tactic| walk_at "rd") => `(tactic| first
  | refine ⟨_, rfl, ?_⟩
  | refine ⟨_, _, rfl, rfl, ?_⟩
  | refine And.intro rfl ?_
  | refine And.intro (by walk_at "side") ?_
  | refine Or.inl ⟨_, rfl, ?_⟩)
local macro_rules | `(tactic| walk_at "rds") => `(tactic| repeat (walk_at "rd"))
section
variable {P : Program} {w : World} {K : PySem.W.Frag} {mg : Str → Option Value} {base : Heap}

abbrev s_law_cell : Stmt := topS 5
abbrev N_law_cell : List Str := ["script", "k"]
abbrev P_law_cell : List Str := ["script", "k"]
theorem sc_law_cell : FnScope N_law_cell P_law_cell (defScope s_law_cell) := ⟨rfl, rfl, rfl, by decide +kernel, rfl, by decide +kernel, by decide +kernel⟩
def spCell (K : PySem.W.Frag) : Sp := fun vs H Q _ => ∃ (a : Addr) (ns : List Int) (k : Nat), vs = [.ref a, .int (k : Int)] ∧ SqL K H a (ns.map V.int) ∧ Q (.int (cell ns k)) H
theorem cal_law_cell (T : Txt mg) (D : Def K mg "_law_cell" P_law_cell s_law_cell) : Cal P w K mg base 1 "_law_cell" P_law_cell (spCell K) := by
  refine cal0 D sc_law_cell (fun vs H Q E h => ?_) (fun f cdv A outer s H vs Q E hr h => ?_)
  · obtain ⟨a, ns, k, rfl, _⟩ := h; rfl
  · obtain ⟨a, ns, k, rfl, hS, q⟩ := h
    have nd := sc_law_cell.nd
    refine ⟨_, (pss_cons (ps_if (pt_cmpR op_lt (pv 1) (pe_callB call_len_seq (by rfl) T.b_len PySem.boot_len (pa_cons (pv 0) pa_nil)) (nomark _)) (pss_one (ps_ret (pe_callTy call_int1 (by rfl) T.b_int (by decide +kernel) (pa_cons (pe_ix ix_list (pv 0) (pv 1) (fun _ _ => rfl)) pa_nil)))) pss_nil)
    (pss_one (ps_ret pe_int))), ?_⟩
    refine ⟨_, rfl, _, rfl, _, _, rfl, .inl hS, ?_⟩
    walk_at "rds"
    refine ite2 (fun h => ?_) (fun h => ?_)
    · have hk : k < ns.length := by
        have h := of_decide_eq_true h
        rw [List.length_map] at h
        omega
      refine ⟨_, rfl, _, rfl, _, _, _, V.int (cell ns k), rfl, rfl, hS, atI_of ?_, Or.inl ⟨_, rfl, q⟩⟩
      unfold cell
      rw [List.getElem?_map, List.getD_eq_getElem?_getD, List.getElem?_eq_getElem hk]
      rfl
    · have hk : ¬ k < ns.length := fun z => h (decide_eq_true (by rw [List.length_map]; omega))
      have e : cell ns k = 0 := by
        unfold cell
        rw [List.getD_eq_getElem?_getD, List.getElem?_eq_none (by omega)]
        rfl
      rw [e] at q
      exact q

abbrev s_read_number : Stmt := topS 3
abbrev N_read_number : List Str := ["token", "digits", "char"]
abbrev P_read_number : List Str := ["token"]
theorem sc_read_number : FnScope N_read_number P_read_number (defScope s_read_number) := ⟨rfl, rfl, rfl, by decide +kernel, rfl, by decide +kernel, by decide +kernel⟩
def spRead : Sp := fun vs H Q _ => ∃ (t : List Nat), vs = [.str (S t)] ∧ t.length ≤ 600 ∧ Q (rn t) H
theorem digs_len (t : List Nat) : (digs t).length ≤ t.length := by
  unfold digs
  split
  · rw [List.length_drop]; omega
  · exact Nat.le_refl _
theorem sz600 {t : List Nat} (h : t.length ≤ 600) : (S t).length ≤ sizeLine := by
  rw [S_len]
  exact Nat.le_trans h (by decide)
theorem cal_read_number (T : Txt mg) (D : Def K mg "read_number" P_read_number s_read_number) : Cal P w K mg base 1 "read_number" P_read_number spRead := by
  refine cal0 D sc_read_number (fun vs H Q E h => ?_) (fun f cdv A outer s H vs Q E hr h => ?_)
  · obtain ⟨t, rfl, _⟩ := h; rfl
  · obtain ⟨t, rfl, hl, q⟩ := h
    have nd := sc_read_number.nd
    refine ⟨_, (C8.pss_cut (ps_set (i := 1) nd rfl (.inl rfl) (pe_ifExp (pt_cmpR op_eq (pe_slice sl_str (pv 0) po_none (po_some pe_int)) pe_str (nomark _)) (pe_slice sl_str (pv 0) (po_some pe_int) po_none) (pv 0)))
    (pss_cons (ps_if (PW.pt (pw_or (pt_cmpR op_eq (pv 1) pe_str (nomark _)) (pw_or1 (pt_cmpR op_gt (pe_callB call_len_str (by rfl) T.b_len PySem.boot_len (pa_cons (pv 1) pa_nil)) (pe_gc rfl T.c_MOST_DIGITS) (nomark _))))) (pss_one (ps_ret pe_non)) pss_nil)
    (pss_cons (ps_for PassesOwn.never rfl (pi_str (pv 1)) (pg_name (i := 2) nd rfl (.inl rfl))
      (pss_one (ps_if (pt_cmpR op_notIn_sign (pv 2) (pe_gc rfl T.c_DIGITS) rfl) (pss_one (ps_ret pe_non)) pss_nil)))
    (pss_cons (ps_if (PW.pt (pw_and (pt_cmpR op_eq (pe_ix ix_str (pv 1) pe_int (fun _ _ => rfl)) pe_str (nomark _)) (pw_and1 (pt_cmpR op_ne (pv 0) pe_str (nomark _))))) (pss_one (ps_ret pe_non)) pss_nil)
    (pss_one (ps_ret (pe_callTy call_int_str (by rfl) T.b_int (by decide +kernel) (pa_cons (pv 0) pa_nil)))))))), ?_⟩
    have hl2 := digs_len t
    have ec : cutS (S t) none (some (1 : Int)) = S (t.take 1) := cut_to t 1
    have ed : cutS (S t) (some (1 : Int)) none = S (t.drop 1) := cut_from t 1
    refine ⟨fun σ H' => σ = [some (.str (S t)), some (.str (S (digs t))), none] ∧ H' = H, ?_, ?_⟩
    · refine ⟨_, rfl, _, rfl, _, rfl, sz600 hl, rfl, _, rfl, ?_⟩
      refine ite2 (fun h => ?_) (fun h => ?_)
      · have h := of_decide_eq_true h
        rw [ec, lit_minus] at h
        have h := str_inj h
        refine ⟨_, rfl, _, rfl, _, rfl, sz600 hl, ?_⟩
        rw [ed]
        refine ⟨?_, rfl⟩
        unfold digs
        rw [if_pos h]
        rfl
      · have h : ¬ t.take 1 = [45] := fun z => h (decide_eq_true (by rw [ec, lit_minus, z]))
        refine ⟨_, rfl, ?_, rfl⟩
        unfold digs
        rw [if_neg h]
        rfl
    · rintro σ' H' ⟨rfl, rfl⟩
      have nn : digs t = [] ∨ 60 < (digs t).length → Q .non H' := fun hc => by
        have e : rn t = .non := if_pos hc
        rw [e] at q
        exact q
      -- behind the first test: not empty, at most 60
      refine ⟨_, rfl, rfl, _, rfl, ?_⟩
      refine ite2 (fun h => ?_) (fun h => ?_)
      · exact iteT (nn (.inl (by
          have h := of_decide_eq_true h
          rw [lit_nil] at h
          exact str_inj h)))
      · have hne : digs t ≠ [] := fun z => h (decide_eq_true (by rw [lit_nil, z]))
        refine ⟨_, rfl, _, rfl, sz600 (by omega), _, _, rfl, rfl, _, rfl, ?_⟩
        refine ite2 (fun h => ?_) (fun h => ?_)
        · exact nn (.inr (by
            have h := of_decide_eq_true h
            rw [S_len] at h
            omega))
        · have hle : ¬ 60 < (digs t).length := fun z => h (decide_eq_true (by rw [S_len]; omega))
          have e1 : rn t = if (digs t).all dig = false then .non else if (digs t).head? = some 48 ∧ t ≠ [48] then .non
              else if t.take 1 = [45] then .int (-((digitsVal (digs t) : Nat) : Int)) else .int ((digitsVal (digs t) : Nat) : Int) := if_neg (fun z => z.elim hne hle)
          rw [e1] at q
          -- the loop
          refine ⟨_, rfl, _, rfl, forR_str (l := digs t) (fun r σ H2 => H2 = H' ∧ (∃ p, digs t = p ++ r ∧ AllDigits p) ∧ ∃ v, σ = [some (.str (S t)), some (.str (S (digs t))), v]) ⟨rfl, ⟨[], rfl, fun _ z => by cases z⟩, _, rfl⟩ ?_ ?_⟩
          · rintro c r σ2 H2 hc ⟨rfl, ⟨p, ep, hp⟩, v, rfl⟩
            refine ⟨_, rfl, c, _, rfl, rfl, _, rfl, ?_⟩
            rw [lit_digits]
            refine ite2 (fun h => ?_) (fun h => ?_)
            · have hn : ¬ (48 ≤ c ∧ c ≤ 57) := fun z => by
                have hm : c ∈ [48, 49, 50, 51, 52, 53, 54, 55, 56, 57] := mem_digits.mpr z
                rw [decide_eq_true hm] at h
                cases h
              rw [if_pos (not_all hc hn)] at q
              exact q
            · have hy : 48 ≤ c ∧ c ≤ 57 := by
                refine Classical.byContradiction fun z => h ?_
                have hm : ¬ c ∈ [48, 49, 50, 51, 52, 53, 54, 55, 56, 57] := fun y => z (mem_digits.mp y)
                rw [decide_eq_false hm]
                rfl
              refine ⟨rfl, ⟨p ++ [c], by rw [ep]; simp, fun d hd => ?_⟩, _, rfl⟩
              rcases List.mem_append.mp hd with z | z
              · exact hp d z
              · have e : d = c := List.mem_singleton.mp z
                subst e
                exact hy
          · rintro σ2 H2 ⟨rfl, ⟨p, ep, hp⟩, v, rfl⟩
            rw [List.append_nil] at ep
            have had : AllDigits (digs t) := by rw [ep]; exact hp
            have hd2 := all_dig.mpr had
            rw [if_neg (by rw [hd2]; exact fun z => by cases z)] at q
            obtain ⟨c, r, ecr⟩ : ∃ c r, digs t = c :: r := by
              cases e : digs t with
              | nil => exact absurd e hne
              | cons c r => exact ⟨c, r, rfl⟩
            refine ⟨_, rfl, _, 0, c, rfl, rfl, sz600 (by omega), ?_, rfl, _, rfl, ?_⟩
            · show atI (digs t) 0 = some c
              rw [ecr]
              exact atI_of (j := 0) rfl
            · -- the number
              have last : ¬ ((digs t).head? = some 48 ∧ t ≠ [48]) → tRet (tCB (fun xs H Q => ∃ a n, xs = [V.str a] ∧ intText? a = some n ∧ a.length ≤ 640 ∧ Q (V.int n) H) (tCons (tVar 0) tNil)) { nx := fun _ H' => Q .non H', rt := Q } [some (.str (S t)), some (.str (S (digs t))), v] H2 := fun hz => by
                rw [if_neg hz] at q
                by_cases h45 : t.take 1 = [45]
                · rw [if_pos h45] at q
                  have et : t = 45 :: digs t := by
                    unfold digs
                    rw [if_pos h45]
                    cases t with
                    | nil => cases h45
                    | cons a b =>
                      have z : a = 45 := by injection h45
                      rw [z]
                      rfl
                  exact ⟨_, rfl, _, _, rfl, intText_neg (x := S t) (cs := digs t) et had hne (by rw [S_len]; omega), by rw [S_len]; omega, q⟩
                · rw [if_neg h45] at q
                  have et : digs t = t := if_neg h45
                  rw [et] at q had hne
                  exact ⟨_, rfl, _, _, rfl, intText_digits (x := S t) had hne (by rw [S_len]; omega), by rw [S_len]; omega, q⟩
              refine ite2 (fun h => ?_) (fun h => ?_)
              · have h := of_decide_eq_true h
                rw [lit_zero] at h
                have hc : c = 48 := by
                  have z := str_inj (a := [c]) h
                  injection z
                refine ⟨_, rfl, rfl, _, rfl, ?_⟩
                rw [lit_zero]
                refine ite2 (fun h => ?_) (fun h => ?_)
                · have ht : t ≠ [48] := fun z => by
                    rw [z] at h
                    simp at h
                  rw [if_pos ⟨by rw [ecr, hc]; rfl, ht⟩] at q
                  exact q
                · have ht : t = [48] := by
                    refine Classical.byContradiction fun z => h ?_
                    have z' : ¬ V.str (S t) = V.str (S [48]) := fun y => z (str_inj y)
                    rw [decide_eq_false z']
                    rfl
                  exact last fun z => z.2 ht
              · have hc : ¬ c = 48 := fun z => h (decide_eq_true (by rw [lit_zero, z]))
                refine iteF ?_
                exact last fun z => hc (by
                  have z1 := z.1
                  rw [ecr] at z1
                  injection z1)

abbrev s_law_digits : Stmt := topS 6
abbrev N_law_digits : List Str := ["cell", "count", "rest", "text", "k"]
abbrev P_law_digits : List Str := ["cell", "count"]
theorem sc_law_digits : FnScope N_law_digits P_law_digits (defScope s_law_digits) := ⟨rfl, rfl, rfl, by decide +kernel, rfl, by decide +kernel, by decide +kernel⟩
def spDigits : Sp := fun vs H Q _ => ∃ c n : Int, vs = [.int c, .int n] ∧ 1 ≤ n ∧ n ≤ 61 ∧ ∀ t : List Nat, (t.length : Int) = n → AllDigits t → t.head? ≠ some 48 → Q (.str (S t)) H
theorem cal_law_digits (T : Txt mg) (D : Def K mg "_law_digits" P_law_digits s_law_digits) : Cal P w K mg base 1 "_law_digits" P_law_digits spDigits := by
  refine cal0 D sc_law_digits (fun vs H Q E h => ?_) (fun f cdv A outer s H vs Q E hr h => ?_)
  · obtain ⟨c, n, rfl, _⟩ := h; rfl
  · obtain ⟨c, n, rfl, h1, h2, q⟩ := h
    have nd := sc_law_digits.nd
    refine ⟨_, (pss_cons (ps_set (i := 2) nd rfl (.inl rfl) (pe_callB call_abs (by rfl) T.b_abs (by decide +kernel) (pa_cons (pv 0) pa_nil)))
    (pss_cons (ps_set (i := 3) nd rfl (.inl rfl) pe_str)
    (pss_cons (ps_for PassesOwn.never rfl (pi_range1 (by rfl) T.b_range (pa_cons (pv 1) pa_nil)) (pg_name (i := 4) nd rfl (.inl rfl))
      (C8.pss_cut (ps_if (pt_cmpR op_eq (pv 2) pe_int (nomark _)) (pss_one (ps_set (i := 2) nd rfl (.inl rfl) (pe_op op_add pe_int (pe_op op_mod (pe_callTy call_int1 (by rfl) T.b_int (by decide +kernel) (pa_cons (pe_op op_add (pe_op op_add (pe_op op_mul (pe_op op_mod (pe_callB call_abs (by rfl) T.b_abs (by decide +kernel) (pa_cons (pv 0) pa_nil)) pe_int) pe_int) (pe_op op_mul (pv 4) pe_int)) pe_int) pa_nil)) pe_int)))) pss_nil)
    (pss_cons (ps_set (i := 3) nd rfl (.inl rfl) (pe_op op_add_str (pv 3) (pe_ix ix_str pe_str (pe_op op_mod (pv 2) pe_int) (fun _ _ => rfl))))
    (pss_one (ps_set (i := 2) nd rfl (.inl rfl) (pe_op op_fdiv (pv 2) pe_int))))))
    (pss_cons (ps_if (pt_cmpR op_eq (pe_ix ix_str (pv 3) pe_int (fun _ _ => rfl)) pe_str (nomark _)) (pss_one (ps_set (i := 3) nd rfl (.inl rfl) (pe_op op_add_str (pe_ix ix_str pe_str (pe_op op_mod (pe_callTy call_int1 (by rfl) T.b_int (by decide +kernel) (pa_cons (pv 0) pa_nil)) pe_int) (fun _ _ => rfl)) (pe_slice sl_str (pv 3) (po_some pe_int) po_none)))) pss_nil)
    (pss_one (ps_ret (pv 3))))))), ?_⟩
    refine ⟨_, rfl, _, rfl, _, rfl, _, rfl, by omega, by omega, for_range (lo := 0) (n := n.toNat) (fun i σ H' => H' = H ∧ ∃ (rest : Int) (t : List Nat) (kv : Option V), σ = [some (.int c), some (.int n), some (.int rest), some (.str (S t)), kv] ∧ t.length = i ∧ AllDigits t) ⟨rfl, _, [], _, by rw [lit_nil]; rfl, rfl, fun _ z => by cases z⟩ ?_ ?_⟩
    · rintro i σ H' hi ⟨rfl, rest, t, kv, rfl, rfl, had⟩
      refine ⟨fun σ H2 => H2 = H' ∧ ∃ rest : Int, σ = [some (.int c), some (.int n), some (.int rest), some (.str (S t)), some (.int (0 + (t.length : Int)))], ?_, ?_⟩
      · refine ⟨_, rfl, rfl, _, rfl, ?_⟩
        refine ite2 (fun h => ?_) (fun h => ?_)
        · walk_at "rds"
          exact ⟨_, rfl⟩
        · exact ⟨rfl, _, rfl⟩
      · rintro σ H2 ⟨rfl, rest, rfl⟩
        have h0 : 0 ≤ rest % 10 := Int.emod_nonneg _ (by decide)
        have h10 : rest % 10 < 10 := Int.emod_lt_of_pos _ (by decide)
        refine ⟨_, rfl, _, rfl, _, _, rfl, rfl, (by show (0 : Int) < 10; decide), _, _, _, rfl, rfl, by rw [lit_digits, S_len]; decide, (by rw [lit_digits]; exact dig_at h0 h10), _, _, rfl, rfl, ?_, ?_⟩
        · rw [S_len]
          show t.length + 1 ≤ sizeLine
          exact Nat.le_trans (show t.length + 1 ≤ 100 by omega) (by decide)
        · walk_at "rds"
          refine ⟨rest / 10, t ++ [48 + (rest % 10).toNat], some (.int (0 + (t.length : Int))), ?_, by simp, fun d hd => ?_⟩
          · have e : (S t ++ (⟨#[48 + (rest % 10).toNat]⟩ : Str)) = S (t ++ [48 + (rest % 10).toNat]) := S_cat t [48 + (rest % 10).toNat]
            rw [e]
            rfl
          · rcases List.mem_append.mp hd with z | z
            · exact had d z
            · have e := List.mem_singleton.mp z
              subst e
              omega
    · rintro σ H' ⟨rfl, rest, t, kv, rfl, hl, had⟩
      obtain ⟨x, r, rfl⟩ : ∃ x r, t = x :: r := by
        cases t with
        | nil => exfalso; have z : (0 : Nat) = n.toNat := hl; omega
        | cons x r => exact ⟨x, r, rfl⟩
      have hl3 : (x :: r).length ≤ 600 := by omega
      refine ⟨_, rfl, _, 0, x, rfl, rfl, sz600 hl3, atI_of (j := 0) rfl, rfl, _, rfl, ?_⟩
      refine ite2 (fun h => ?_) (fun h => ?_)
      · have h0 : 0 ≤ c % 9 := Int.emod_nonneg _ (by decide)
        have h9 : c % 9 < 9 := Int.emod_lt_of_pos _ (by decide)
        refine ⟨_, rfl, .inl ⟨_, rfl, _, _, rfl, rfl, (by show (0 : Int) < 9; decide), _, _, _, rfl, rfl, by rw [lit_digits9, S_len]; decide, (by rw [lit_digits9]; exact dig9_at h0 h9), _, rfl, _, rfl, _, rfl, sz600 hl3, _, _, rfl, rfl, ?_, ?_⟩⟩
        · refine Nat.le_trans (Nat.add_le_add_left (cutS_length (S (x :: r)) _ _) _) ?_
          rw [S_len]
          show 1 + (x :: r).length ≤ sizeLine
          exact Nat.le_trans (show 1 + (x :: r).length ≤ 601 by omega) (by decide)
        · have e : ((⟨#[49 + (c % 9).toNat]⟩ : Str) ++ cutS (S (x :: r)) (some (1 : Int)) none) = S ((49 + (c % 9).toNat) :: r) := by
            have e1 : cutS (S (x :: r)) (some (1 : Int)) none = S r := cut_from (x :: r) 1
            rw [e1]
            exact S_cat [49 + (c % 9).toNat] r
          refine ⟨_, rfl, ?_⟩
          rw [e]
          refine q _ (by rw [List.length_cons] at hl ⊢; omega) (fun d hd => ?_) (fun z => ?_)
          · rcases List.mem_cons.mp hd with z | z
            · subst z
              omega
            · exact had d (List.mem_cons_of_mem _ z)
          · have z1 : 49 + (c % 9).toNat = 48 := by injection z
            omega
      · refine ⟨_, rfl, q _ (by omega) had fun z => h (decide_eq_true ?_)⟩
        have z1 : x = 48 := by injection z
        rw [lit_zero, z1]

abbrev s_law_value : Stmt := topS 7
abbrev N_law_value : List Str := ["text", "value", "sign"]
abbrev P_law_value : List Str := ["text"]
theorem sc_law_value : FnScope N_law_value P_law_value (defScope s_law_value) := ⟨rfl, rfl, rfl, by decide +kernel, rfl, by decide +kernel, by decide +kernel⟩
def spValue : Sp := fun vs H Q _ => ∃ t : List Nat, vs = [.str (S t)] ∧ AllDigits t ∧ Q (.int ((digitsVal t : Nat) : Int)) H
theorem cal_law_value (T : Txt mg) (D : Def K mg "_law_value" P_law_value s_law_value) : Cal P w K mg base 1 "_law_value" P_law_value spValue := by
  refine cal0 D sc_law_value (fun vs H Q E h => ?_) (fun f cdv A outer s H vs Q E hr h => ?_)
  · obtain ⟨t, rfl, _⟩ := h; rfl
  · obtain ⟨t, rfl, had, q⟩ := h
    have nd := sc_law_value.nd
    refine ⟨_, (pss_cons (ps_set (i := 1) nd rfl (.inl rfl) pe_int)
    (pss_cons (ps_for PassesOwn.never rfl (pi_str (pv 0)) (pg_name (i := 2) nd rfl (.inl rfl))
      (pss_one (ps_set (i := 1) nd rfl (.inl rfl) (pe_op op_add (pe_op op_mul (pv 1) pe_int) (pe_bm PySem.F.plainAttrs_str PySem.F.slot_str_index PySem.F.type_str_index mt_sindex pe_str (pa_cons (pv 2) pa_nil))))))
    (pss_one (ps_ret (pv 1))))), ?_⟩
    refine ⟨_, rfl, _, rfl, forR_str (l := t) (fun r σ H2 => H2 = H ∧ ∃ (z : Nat) (v : Option V), σ = [some (.str (S t)), some (.int (z : Int)), v] ∧ r.foldl (fun acc c => acc * 10 + (c - 48)) z = digitsVal t) ⟨rfl, 0, _, rfl, rfl⟩ ?_ ?_⟩
    · rintro c r σ2 H2 hc ⟨rfl, z, v, rfl, e⟩
      have hd := had c hc
      refine ⟨_, rfl, _, _, rfl, rfl, (by unfold CMul; omega), ?_⟩
      refine ⟨rfl, _, rfl, _, _, c - 48, [], rfl, rfl, by rw [lit_digits]; exact occ_dig hd, ?_⟩
      refine ⟨_, _, rfl, rfl, ?_⟩
      refine ⟨rfl, z * 10 + (c - 48), some (.str (S [c])), ?_, e⟩
      have e2 : (z : Int) * 10 + ((c - 48 : Nat) : Int) = ((z * 10 + (c - 48) : Nat) : Int) := by omega
      show [some (V.str (S t)), some (V.int ((z : Int) * 10 + ((c - 48 : Nat) : Int))), some (V.str (S [c]))] = _
      rw [e2]
    · rintro σ2 H2 ⟨rfl, z, v, rfl, e⟩
      have e : z = digitsVal t := e
      rw [← e] at q
      exact ⟨_, rfl, q⟩

abbrev s_law_is : Stmt := topS 8
abbrev N_law_is : List Str := ["actual", "due"]
abbrev P_law_is : List Str := ["actual", "due"]
theorem sc_law_is : FnScope N_law_is P_law_is (defScope s_law_is) := ⟨rfl, rfl, rfl, by decide +kernel, rfl, by decide +kernel, by decide +kernel⟩
def NI (x : V) : Prop := x = .non ∨ ∃ i, x = .int i
def spIs : Sp := fun vs H Q _ => ∃ x y : V, vs = [x, y] ∧ NI x ∧ NI y ∧ Q (.bl (decide (x = y))) H
theorem cal_law_is (T : Txt mg) (D : Def K mg "_law_is" P_law_is s_law_is) : Cal P w K mg base 1 "_law_is" P_law_is spIs := by
  refine cal0 D sc_law_is (fun vs H Q E h => ?_) (fun f cdv A outer s H vs Q E hr h => ?_)
  · obtain ⟨x, y, rfl, _⟩ := h; rfl
  · obtain ⟨x, y, rfl, hx, hy, q⟩ := h
    have nd := sc_law_is.nd
    refine ⟨_, (pss_cons (ps_if (pt_cmpR op_isN (pv 1) pe_non (nomark _)) (pss_one (ps_ret (pe_cmpR op_isN (pv 0) pe_non (nomark _)))) pss_nil)
    (pss_one (ps_ret (pe_and (pe_callB call_isi (by rfl) T.b_isinstance (by decide +kernel) (pa_cons (pv 0) (pa_cons (pe_bltn (v := .ty "int") (by rfl) T.b_int (by decide +kernel) rfl) pa_nil))) (pe_and (pe_not (pe_callB call_isi (by rfl) T.b_isinstance (by decide +kernel) (pa_cons (pv 0) (pa_cons (pe_bltn (v := .ty "bool") (by rfl) T.b_bool (by decide +kernel) rfl) pa_nil)))) (pe_one (pe_cmpR op_eq (pv 0) (pv 1) (nomark _)))))))), ?_⟩
    refine ⟨_, rfl, rfl, _, rfl, ?_⟩
    rcases hy with rfl | ⟨j, rfl⟩
    · refine iteT ⟨_, rfl, rfl, q⟩
    · refine iteF ?_
      rcases hx with rfl | ⟨i, rfl⟩
      · exact ⟨_, rfl, _, _, _, _, false, rfl, .ty "int", .base .non, kit_ty (by decide +kernel), _, rfl, iteF q⟩
      · refine ⟨_, rfl, _, _, _, _, true, rfl, .ty "int", .base (.int i), kit_ty (by decide +kernel), _, rfl, iteT ?_⟩
        refine ⟨_, rfl, _, _, _, _, false, rfl, .ty "bool", .base (.int i), kit_ty (by decide +kernel), _, rfl, _, rfl, iteT ?_⟩
        exact ⟨_, rfl, _, rfl, rfl, q⟩

abbrev s_law_other : Stmt := topS 9
abbrev N_law_other : List Str := ["cell", "signs"]
abbrev P_law_other : List Str := ["cell"]
theorem sc_law_other : FnScope N_law_other P_law_other (defScope s_law_other) := ⟨rfl, rfl, rfl, by decide +kernel, rfl, by decide +kernel, by decide +kernel⟩
def spOther : Sp := fun vs H Q _ => ∃ c : Int, vs = [.int c] ∧ ∀ z : Nat, ¬ (48 ≤ z ∧ z ≤ 57) → Q (.str (S [z])) H
def sgn : Str := Str.ofString " !\"#$&'()*+,-./:;<=>?@ABCDEFGHIJKLMNOPQRSTUVWXYZ[\\]^_`abcdefghijklmnopqrstuvwxyz{|}~"
theorem sgn_len : sgn.length = 84 := by decide +kernel
theorem sgn_no : ∀ c ∈ sgn.cps.toList, ¬ (48 ≤ c ∧ c ≤ 57) := by decide +kernel
theorem cal_law_other (T : Txt mg) (D : Def K mg "_law_other" P_law_other s_law_other) : Cal P w K mg base 1 "_law_other" P_law_other spOther := by
  refine cal0 D sc_law_other (fun vs H Q E h => ?_) (fun f cdv A outer s H vs Q E hr h => ?_)
  · obtain ⟨c, rfl, _⟩ := h; rfl
  · obtain ⟨c, rfl, q⟩ := h
    have nd := sc_law_other.nd
    refine ⟨_, (pss_cons (ps_set (i := 1) nd rfl (.inl rfl) pe_str)
    (pss_one (ps_ret (pe_ix ix_str (pv 1) (pe_op op_mod (pe_callTy call_int1 (by rfl) T.b_int (by decide +kernel) (pa_cons (pv 0) pa_nil)) (pe_callB call_len_str (by rfl) T.b_len PySem.boot_len (pa_cons (pv 1) pa_nil))) (fun _ _ => rfl))))), ?_⟩
    have h0 : 0 ≤ c % ((sgn.length : Nat) : Int) := Int.emod_nonneg _ (by rw [sgn_len]; decide)
    have h1 : c % ((sgn.length : Nat) : Int) < ((sgn.length : Nat) : Int) := Int.emod_lt_of_pos _ (by rw [sgn_len]; decide)
    obtain ⟨j, hj⟩ : ∃ j : Nat, c % ((sgn.length : Nat) : Int) = (j : Int) := ⟨_, (Int.toNat_of_nonneg h0).symm⟩
    have hjl : j < sgn.cps.toList.length := by
      have e : sgn.cps.toList.length = sgn.length := Array.length_toList
      rw [e]; omega
    refine ⟨_, rfl, _, rfl, .inl ⟨_, rfl, _, rfl, sgn, rfl, by rw [sgn_len]; decide, _, _, rfl, rfl, (by show (0 : Int) < ((sgn.length : Nat) : Int); rw [sgn_len]; decide), sgn, _, sgn.cps.toList[j], rfl, rfl, by rw [sgn_len]; decide, ?_, q _ (sgn_no _ (List.getElem_mem hjl))⟩⟩
    rw [hj]
    exact atI_of (List.getElem?_eq_getElem hjl)

/-! ### the nearest strings that are no number -/
theorem rn_bad {t : List Nat} (c : Nat) (hc : c ∈ digs t) (h : ¬ (48 ≤ c ∧ c ≤ 57)) : rn t = .non := by
  unfold rn
  by_cases h1 : digs t = [] ∨ 60 < (digs t).length
  · rw [if_pos h1]
  · rw [if_neg h1, if_pos (not_all hc h)]
theorem rn_lead {t : List Nat} (h1 : (digs t).head? = some 48) (h2 : t ≠ [48]) : rn t = .non := by
  unfold rn
  split
  · rfl
  · split
    · rfl
    · rw [if_pos ⟨h1, h2⟩]
theorem rn_ni (t : List Nat) : NI (rn t) := by
  unfold rn
  split
  · exact .inl rfl
  · split
    · exact .inl rfl
    · split
      · exact .inl rfl
      · split
        · exact .inr ⟨_, rfl⟩
        · exact .inr ⟨_, rfl⟩
theorem take1 {c : Nat} {r : List Nat} (h : c ≠ 45) : ¬ (c :: r).take 1 = [45] := fun z => h (by
  have z : [c] = [45] := z
  injection z)
theorem digs_minus (t : List Nat) : digs (45 :: t) = t := by
  unfold digs
  rw [if_pos (show (45 :: t).take 1 = [45] from rfl)]
  rfl
theorem digs_plain {c : Nat} {r : List Nat} (h : c ≠ 45) : digs (c :: r) = c :: r := if_neg (take1 h)
/-- the number of digits t, its first none of 0 -/
def val (t : List Nat) : V := if 60 < t.length then .non else .int ((digitsVal t : Nat) : Int)
def neg (t : List Nat) : V := if 60 < t.length then .non else .int (-((digitsVal t : Nat) : Int))
structure Num (t : List Nat) : Prop where
  d : AllDigits t
  n : t ≠ []
  z : t.head? ≠ some 48
theorem Num.ne45 {c : Nat} {r : List Nat} (h : Num (c :: r)) : c ≠ 45 := by
  have := h.d.head
  omega
theorem Num.digs {t : List Nat} (h : Num t) : K85.digs t = t := by
  cases t with
  | nil => rfl
  | cons c r => exact digs_plain h.ne45
theorem rn_num {t : List Nat} (h : Num t) : rn t = val t := by
  unfold rn val
  rw [h.digs]
  by_cases hl : 60 < t.length
  · rw [if_pos (.inr hl), if_pos hl]
  · have hd := all_dig.mpr h.d
    have h45 : ¬ t.take 1 = [45] := by
      cases t with
      | nil => exact absurd rfl h.n
      | cons c r => exact take1 h.ne45
    rw [if_neg (fun z => z.elim h.n hl), if_neg (by rw [hd]; exact fun z => by cases z), if_neg (fun z => h.z z.1), if_neg h45, if_neg hl]
theorem rn_neg {t : List Nat} (h : Num t) : rn (45 :: t) = neg t := by
  unfold rn neg
  rw [digs_minus]
  by_cases hl : 60 < t.length
  · rw [if_pos (.inr hl), if_pos hl]
  · have hd := all_dig.mpr h.d
    rw [if_neg (fun z => z.elim h.n hl), if_neg (by rw [hd]; exact fun z => by cases z), if_neg (fun z => h.z z.1), if_pos (show (45 :: t).take 1 = [45] from rfl), if_neg hl]
/-- a sign that is no digit stands in it, and not in front as a minus -/
theorem rn_has {t u : List Nat} {c : Nat} (h : ¬ (48 ≤ c ∧ c ≤ 57)) (hp : t = [] → c ≠ 45) : rn (t ++ c :: u) = .non := by
  refine rn_bad c ?_ h
  cases t with
  | nil =>
    show c ∈ digs (c :: u)
    rw [digs_plain (hp rfl)]
    exact List.mem_cons_self
  | cons a r =>
    show c ∈ digs (a :: (r ++ c :: u))
    unfold digs
    split
    · show c ∈ r ++ c :: u
      simp
    · simp

abbrev sv (l : List Nat) : V := .str (S l)
structure Bad (L : List (List Nat)) : Prop where
  no : ∀ l ∈ L, rn l = .non ∧ l.length ≤ 600
  few : L.length ≤ 15
theorem Bad.more {L : List (List Nat)} {l : List Nat} (h : Bad L) (hl : L.length ≤ 14) (h1 : rn l = .non) (h2 : l.length ≤ 600) : Bad (L ++ [l]) := by
  refine ⟨fun x hx => ?_, by rw [List.length_append]; show L.length + 1 ≤ 15; omega⟩
  rcases List.mem_append.mp hx with z | z
  · exact h.no x z
  · have e := List.mem_singleton.mp z
    subst e
    exact ⟨h1, h2⟩
theorem cat_le {x y : Str} (h : x.length ≤ 600) (h2 : y.length ≤ 600) : x.length + y.length ≤ sizeLine := Nat.le_trans (show x.length + y.length ≤ 1200 by omega) (by decide)
theorem lit_l1 : (Str.ofString "-0") = S [45, 48] := by decide +kernel
theorem lit_l2 : (Str.ofString "+") = S [43] := by decide +kernel
theorem lit_l3 : (Str.ofString " ") = S [32] := by decide +kernel
theorem lit_l4 : (Str.ofString "\n") = S [10] := by decide +kernel
theorem lit_l5 : (Str.ofString "--") = S [45, 45] := by decide +kernel
theorem lit_l6 : (Str.ofString "00") = S [48, 48] := by decide +kernel
theorem lit_l7 : (Str.ofString "+0") = S [43, 48] := by decide +kernel
def bad0 (t : List Nat) : List (List Nat) := [48 :: t, 45 :: 48 :: t, 43 :: t, 32 :: t, t ++ [32], t ++ [10], 45 :: 45 :: t, [48, 48], [45, 48], [45], [], [43, 48]]
theorem bad0_bad {t : List Nat} (N : Num t) (hl : t.length ≤ 61) : Bad (bad0 t) := by
  refine ⟨fun l h => ?_, by show 12 ≤ 15; decide⟩
  unfold bad0 at h
  simp only [List.mem_cons, List.not_mem_nil, or_false] at h
  have hn := N.n
  rcases h with h | h | h | h | h | h | h | h | h | h | h | h <;> subst h
  · exact ⟨rn_lead (by rw [digs_plain (by decide)]; rfl) (fun z => hn (by injection z)), by rw [List.length_cons]; omega⟩
  · exact ⟨rn_lead (by rw [digs_minus]; rfl) (fun z => by injection z with z _; cases z), by rw [List.length_cons, List.length_cons]; omega⟩
  · exact ⟨rn_bad 43 (by rw [digs_plain (by decide)]; exact List.mem_cons_self) (by decide), by rw [List.length_cons]; omega⟩
  · exact ⟨rn_bad 32 (by rw [digs_plain (by decide)]; exact List.mem_cons_self) (by decide), by rw [List.length_cons]; omega⟩
  · exact ⟨rn_has (by decide) (fun z => absurd z hn), by rw [List.length_append]; show t.length + 1 ≤ 600; omega⟩
  · exact ⟨rn_has (by decide) (fun z => absurd z hn), by rw [List.length_append]; show t.length + 1 ≤ 600; omega⟩
  · exact ⟨rn_bad 45 (by rw [digs_minus]; exact List.mem_cons_self) (by decide), by rw [List.length_cons, List.length_cons]; omega⟩
  · decide +kernel
  · decide +kernel
  · decide +kernel
  · decide +kernel
  · decide +kernel
abbrev s_law : Stmt := topS 10
abbrev N_law : List Str := ["script", "first", "second", "count", "text", "value", "due", "at", "other", "bad", "token"]
abbrev P_law : List Str := ["script"]
theorem sc_law : FnScope N_law P_law (defScope s_law) := ⟨rfl, rfl, rfl, by decide +kernel, rfl, by decide +kernel, by decide +kernel⟩
def spLaw (K : PySem.W.Frag) : Sp := fun vs H Q _ => ∃ (a : Addr) (ns : List Int), vs = [.ref a] ∧ SqL K H a (ns.map V.int) ∧ ns.length ≤ 63 ∧ ∀ H', Q (.bl true) H'
theorem ok_law {fL : Addr} {fdL : FuncData} (F : L2.Fun K "law" "law" s_law fL fdL) (T : Txt mg) (c_law_cell : Cal P w K mg base 1 "_law_cell" P_law_cell (spCell K)) (c_law_digits : Cal P w K mg base 1 "_law_digits" P_law_digits spDigits) (c_law_value : Cal P w K mg base 1 "_law_value" P_law_value spValue)
    (c_law_is : Cal P w K mg base 1 "_law_is" P_law_is spIs) (c_read_number : Cal P w K mg base 1 "read_number" P_read_number spRead) (c_law_other : Cal P w K mg base 1 "_law_other" P_law_other spOther) : FnOk P w K mg base (L2.CX P w) 2 fL fdL P_law (spLaw K) := by
  refine ok0 F sc_law (fun vs H Q E h => ?_) (fun f cdv A outer s H vs Q E hr h => ?_)
  · obtain ⟨a, ns, rfl, _⟩ := h; rfl
  · obtain ⟨a, ns, rfl, hS, hlen, q⟩ := h
    have nd := sc_law.nd
    refine ⟨_, (pss_cons (ps_set (i := 1) nd rfl (.inl rfl) (pe_c c_law_cell hr (by decide) rfl (pa_cons (pv 0) (pa_cons pe_int pa_nil))))
    (pss_cons (ps_set (i := 2) nd rfl (.inl rfl) (pe_c c_law_cell hr (by decide) rfl (pa_cons (pv 0) (pa_cons pe_int pa_nil))))
    (pss_cons (ps_set (i := 3) nd rfl (.inl rfl) (pe_op op_add pe_int (pe_op op_mod (pe_callTy call_int1 (by rfl) T.b_int (by decide +kernel) (pa_cons (pv 1) pa_nil)) pe_int)))
    (C8.pss_cut (ps_if (pt_cmpR op_eq (pe_op op_mod (pe_op op_fdiv (pv 1) pe_int) pe_int) pe_int (nomark _)) (pss_one (ps_set (i := 3) nd rfl (.inl rfl) (pe_op op_add pe_int (pe_op op_mod (pe_op op_fdiv (pv 1) pe_int) pe_int)))) pss_nil)
    (pss_cons (ps_set (i := 4) nd rfl (.inl rfl) (pe_c c_law_digits hr (by decide) rfl (pa_cons (pe_c c_law_cell hr (by decide) rfl (pa_cons (pv 0) (pa_cons pe_int pa_nil))) (pa_cons (pv 3) pa_nil))))
    (pss_cons (ps_set (i := 5) nd rfl (.inl rfl) (pe_c c_law_value hr (by decide) rfl (pa_cons (pv 4) pa_nil)))
    (pss_cons (ps_set (i := 6) nd rfl (.inl rfl) (pv 5))
    (C8.pss_cut (ps_if (pt_cmpR op_gt (pv 3) pe_int (nomark _)) (pss_one (ps_set (i := 6) nd rfl (.inl rfl) pe_non)) pss_nil)
    (pss_cons (ps_if (pt_not (pt_val (pe_c c_law_is hr (by decide) rfl (pa_cons (pe_c c_read_number hr (by decide) rfl (pa_cons (pv 4) pa_nil)) (pa_cons (pv 6) pa_nil))))) (pss_one (ps_ret pe_bl)) pss_nil)
    (C8.pss_cut (ps_if (pt_cmpR op_notN (pv 6) pe_non (nomark _)) (pss_one (ps_set (i := 6) nd rfl (.inl rfl) (pe_un un_neg (pv 6)))) pss_nil)
    (pss_cons (ps_if (pt_not (pt_val (pe_c c_law_is hr (by decide) rfl (pa_cons (pe_c c_read_number hr (by decide) rfl (pa_cons (pe_op op_add_str pe_str (pv 4)) pa_nil)) (pa_cons (pv 6) pa_nil))))) (pss_one (ps_ret pe_bl)) pss_nil)
    (pss_cons (ps_if (pt_not (pt_val (pe_c c_law_is hr (by decide) rfl (pa_cons (pe_c c_read_number hr (by decide) rfl (pa_cons pe_str pa_nil)) (pa_cons pe_int pa_nil))))) (pss_one (ps_ret pe_bl)) pss_nil)
    (pss_cons (ps_set (i := 7) nd rfl (.inl rfl) (pe_op op_mod (pe_callTy call_int1 (by rfl) T.b_int (by decide +kernel) (pa_cons (pv 2) pa_nil)) (pe_op op_add (pv 3) pe_int)))
    (pss_cons (ps_set (i := 8) nd rfl (.inl rfl) (pe_c c_law_other hr (by decide) rfl (pa_cons (pe_op op_fdiv (pv 2) pe_int) pa_nil)))
    (pss_cons (ps_set (i := 9) nd rfl (.inl rfl) (pe_lst (pa_cons (pe_op op_add_str pe_str (pv 4)) (pa_cons (pe_op op_add_str pe_str (pv 4)) (pa_cons (pe_op op_add_str pe_str (pv 4)) (pa_cons (pe_op op_add_str pe_str (pv 4)) (pa_cons (pe_op op_add_str (pv 4) pe_str) (pa_cons (pe_op op_add_str (pv 4) pe_str) (pa_cons (pe_op op_add_str pe_str (pv 4)) (pa_cons pe_str (pa_cons pe_str (pa_cons pe_str (pa_cons pe_str (pa_cons pe_str pa_nil))))))))))))))
    (pss_cons (ps_expr (pe_bm PySem.F.plainAttrs_list PySem.F.slot_list_append PySem.F.type_list_append mt_append (pv 9) (pa_cons (pe_op op_add_str (pv 4) (pv 8)) pa_nil)))
    (C8.pss_cut (ps_if (PW.pt (pw_or (pt_cmpR op_ne (pv 8) pe_str (nomark _)) (pw_or1 (pt_cmpR op_gt (pv 7) pe_int (nomark _))))) (pss_one (ps_expr (pe_bm PySem.F.plainAttrs_list PySem.F.slot_list_append PySem.F.type_list_append mt_append (pv 9) (pa_cons (pe_op op_add_str (pe_op op_add_str (pe_slice sl_str (pv 4) po_none (po_some (pv 7))) (pv 8)) (pe_slice sl_str (pv 4) (po_some (pv 7)) po_none)) pa_nil)))) pss_nil)
    (pss_cons (ps_expr (pe_bm PySem.F.plainAttrs_list PySem.F.slot_list_append PySem.F.type_list_append mt_append (pv 9) (pa_cons (pe_op op_add_str (pe_op op_add_str (pe_op op_add_str pe_str (pe_slice sl_str (pv 4) po_none (po_some (pv 7)))) (pv 8)) (pe_slice sl_str (pv 4) (po_some (pv 7)) po_none)) pa_nil)))
    (pss_cons (ps_for PassesOwn.never rfl (pi_list (pv 9)) (pg_name (i := 10) nd rfl (.inl rfl))
      (pss_one (ps_if (pt_cmpR op_notN (pe_c c_read_number hr (by decide) rfl (pa_cons (pv 10) pa_nil)) pe_non (nomark _)) (pss_one (ps_ret pe_bl)) pss_nil)))
    (pss_one (ps_ret (pe_c c_law_is hr (by decide) rfl (pa_cons (pe_c c_read_number hr (by decide) rfl (pa_cons (pe_slice sl_str (pv 4) po_none (po_some pe_int)) pa_nil)) (pa_cons (pe_c c_law_value hr (by decide) rfl (pa_cons (pe_slice sl_str (pv 4) po_none (po_some pe_int)) pa_nil)) pa_nil)))))))))))))))))))))))), ?_⟩
    refine ⟨_, rfl, a, ns, 0, rfl, hS, ?_⟩
    refine ⟨_, rfl, a, ns, 1, rfl, hS, ?_⟩
    generalize cell ns 0 = c0
    generalize cell ns 1 = c1
    refine ⟨_, rfl, .inl ⟨_, rfl, _, _, rfl, rfl, (by show (0 : Int) < 61; decide), _, _, rfl, rfl, ?_⟩⟩
    have m0 : 0 ≤ c0 % 61 := Int.emod_nonneg _ (by decide)
    have m1 : c0 % 61 < 61 := Int.emod_lt_of_pos _ (by decide)
    refine ⟨fun σ H' => ∃ n : Int, σ = [some (.ref a), some (.int c0), some (.int c1), some (.int n), none, none, none, none, none, none, none] ∧ 1 ≤ n ∧ n ≤ 61 ∧ H' = H, ?_, ?_⟩
    · refine ⟨_, rfl, _, _, rfl, rfl, (by unfold CDiv; omega), _, _, rfl, rfl, (by show (0 : Int) < 4; decide), rfl, _, rfl, ?_⟩
      refine ite2 (fun h => ?_) (fun h => ?_)
      · refine ⟨_, rfl, _, _, rfl, rfl, (by unfold CDiv; omega), _, _, rfl, rfl, (by show (0 : Int) < 4; decide), _, _, rfl, rfl, _, rfl, ?_⟩
        have m2 : 0 ≤ c0 / 244 % 4 := Int.emod_nonneg _ (by decide)
        have m3 : c0 / 244 % 4 < 4 := Int.emod_lt_of_pos _ (by decide)
        exact ⟨by show (1 : Int) ≤ 58 + c0 / 244 % 4; omega, by show (58 : Int) + c0 / 244 % 4 ≤ 61; omega, rfl⟩
      · exact ⟨_, rfl, by omega, by omega, rfl⟩
    rintro σ H' ⟨n, rfl, n1, n2, rfl⟩
    refine ⟨_, rfl, a, ns, 2, rfl, hS, ?_⟩
    refine ⟨_, rfl, _, n, rfl, n1, n2, fun t tn td tz => ?_⟩
    have N : Num t := ⟨td, fun z => by rw [z] at tn; have tn : (0 : Int) = n := tn; omega, tz⟩
    have tl : t.length ≤ 61 := by omega
    refine ⟨_, rfl, t, rfl, td, _, rfl, ?_⟩
    -- due
    refine ⟨fun σ H2 => σ = [some (.ref a), some (.int c0), some (.int c1), some (.int n), some (.str (S t)), some (.int ((digitsVal t : Nat) : Int)), some (val t), none, none, none, none] ∧ H2 = H', ?_, ?_⟩
    · refine ⟨_, rfl, _, _, rfl, rfl, _, rfl, ?_⟩
      refine ite2 (fun h => ?_) (fun h => ?_)
      · have h := of_decide_eq_true h
        have e : val t = .non := if_pos (by omega)
        rw [e]
        exact ⟨rfl, rfl⟩
      · have h : ¬ 60 < n := fun z => h (decide_eq_true z)
        have e : val t = .int ((digitsVal t : Nat) : Int) := if_neg (by omega)
        rw [e]
        exact ⟨rfl, rfl⟩
    rintro σ H2 ⟨rfl, rfl⟩
    have nv : NI (val t) := by rw [← rn_num N]; exact rn_ni _
    have nn : NI (neg t) := by rw [← rn_neg N]; exact rn_ni _
    refine ⟨_, rfl, t, rfl, by omega, _, rfl, _, _, rfl, rn_ni _, nv, _, rfl, ?_⟩
    rw [rn_num N, decide_eq_true (rfl : val t = val t)]
    refine iteF ?_
    refine ⟨fun σ H3 => σ = [some (.ref a), some (.int c0), some (.int c1), some (.int n), some (.str (S t)), some (.int ((digitsVal t : Nat) : Int)), some (neg t), none, none, none, none] ∧ H3 = H2, ?_, ?_⟩
    · refine ⟨_, rfl, rfl, _, rfl, ?_⟩
      by_cases hl : 60 < t.length
      · have e1 : val t = .non := if_pos hl
        have e2 : neg t = .non := if_pos hl
        rw [e1, e2]
        exact iteF ⟨rfl, rfl⟩
      · have e1 : val t = .int ((digitsVal t : Nat) : Int) := if_neg hl
        have e2 : neg t = .int (-((digitsVal t : Nat) : Int)) := if_neg hl
        rw [e1, e2]
        exact iteT ⟨_, rfl, _, rfl, rfl, rfl⟩
    rintro σ H3 ⟨rfl, rfl⟩
    refine ⟨_, rfl, _, _, rfl, rfl, cat_le (by decide +kernel) (by rw [S_len]; omega), 45 :: t, (by rw [lit_minus, S_cat] <;> rfl), (by rw [List.length_cons]; omega), _, rfl, _, _, rfl, rn_ni _, nn, _, rfl, ?_⟩
    rw [rn_neg N, decide_eq_true (rfl : neg t = neg t)]
    refine iteF ?_
    have r0 : rn [48] = .int 0 := by decide +kernel
    refine ⟨[48], by rw [lit_zero] <;> rfl, by decide, _, _, rfl, rn_ni _, .inr ⟨0, rfl⟩, _, rfl, ?_⟩
    rw [r0, decide_eq_true (rfl : V.int 0 = V.int 0)]
    refine iteF ?_
    -- at, other
    have a0 : 0 ≤ c1 % (n + 1) := Int.emod_nonneg _ (by omega)
    have a1 : c1 % (n + 1) < n + 1 := Int.emod_lt_of_pos _ (by omega)
    obtain ⟨j, hj⟩ : ∃ j : Nat, c1 % (n + 1) = (j : Int) := ⟨_, (Int.toNat_of_nonneg a0).symm⟩
    refine ⟨_, rfl, .inl ⟨_, rfl, _, rfl, _, _, rfl, rfl, _, _, rfl, rfl, (by show (0 : Int) < n + 1; omega), ?_⟩⟩
    refine ⟨_, rfl, _, _, rfl, rfl, (by unfold CDiv; omega), _, rfl, fun z hz => ?_⟩
    refine ⟨_, rfl, _, _, rfl, rfl, cat_le (by decide +kernel) (by rw [S_len]; omega), _, rfl, _, _, rfl, rfl, cat_le (by decide +kernel) (by rw [S_len]; omega), _, rfl, _, _, rfl, rfl, cat_le (by decide +kernel) (by rw [S_len]; omega), _, rfl, _, _, rfl, rfl, cat_le (by decide +kernel) (by rw [S_len]; omega), _, rfl, _, _, rfl, rfl, cat_le (by rw [S_len]; omega) (by decide +kernel), _, rfl, _, _, rfl, rfl, cat_le (by rw [S_len]; omega) (by decide +kernel), _, rfl, _, _, rfl, rfl, cat_le (by decide +kernel) (by rw [S_len]; omega), (by show 12 ≤ sizeLine; decide), fun p hp => ?_⟩
    generalize hH4 : upd H3 p _ = H4
    have hL : H4 p = some (.lst ((bad0 t).map sv)) := by
      rw [← hH4, upd_same, lit_zero, lit_l1, lit_l2, lit_l3, lit_l4, lit_l5, lit_l6, lit_l7, lit_minus, lit_nil]
      simp only [S_cat]
      rfl
    have hB := bad0_bad N tl
    have h12 : (bad0 t).length = 12 := rfl
    generalize bad0 t = L0 at hL hB h12
    clear hH4
    refine ⟨_, rfl, .inl ⟨rfl, _, SqL.of hL⟩, _, rfl, _, rfl, _, _, rfl, rfl, cat_le (by rw [S_len]; omega) (by rw [S_len]; show 1 ≤ 600; decide), p, _, _, rfl, rfl, hL, (by rw [List.length_map, h12]; decide), ?_⟩
    generalize hH5 : upd H4 p _ = H5
    have hL5 : H5 p = some (.lst ((L0 ++ [t ++ [z]]).map sv)) := by
      rw [← hH5, upd_same, List.map_append, S_cat]
      rfl
    have hB5 : Bad (L0 ++ [t ++ [z]]) := hB.more (by omega) (rn_has hz (fun y => absurd y N.n)) (by rw [List.length_append]; show t.length + 1 ≤ 600; omega)
    have h13 : (L0 ++ [t ++ [z]]).length = 13 := by rw [List.length_append, h12]; rfl
    generalize L0 ++ [t ++ [z]] = L1 at hL5 hB5 h13
    clear hH5
    -- the sign put in
    have ct : cutS (S t) none (some (c1 % (n + 1))) = S (t.take j) := by rw [hj]; exact cut_to t j
    have cd : cutS (S t) (some (c1 % (n + 1))) none = S (t.drop j) := by rw [hj]; exact cut_from t j
    have lt : (t.take j).length ≤ 61 := by rw [List.length_take]; omega
    have ld : (t.drop j).length ≤ 61 := by rw [List.length_drop]; omega
    have tn0 : (t.take j = [] ∧ j = 0) ∨ t.take j ≠ [] := by
      by_cases h0 : j = 0
      · subst h0
        exact .inl ⟨rfl, rfl⟩
      · refine .inr fun y => ?_
        have := congrArg List.length y
        rw [List.length_take, List.length_nil] at this
        have hne := List.length_pos_iff.mpr N.n
        omega
    refine ⟨fun σ H6 => ∃ L2, σ = [some (.ref a), some (.int c0), some (.int c1), some (.int n), some (.str (S t)), some (.int ((digitsVal t : Nat) : Int)), some (neg t), some (.int (c1 % (n + 1))), some (.str (S [z])), some (.ref p), none] ∧ H6 p = some (.lst (L2.map sv)) ∧ Bad L2 ∧ L2.length ≤ 14, ?_, ?_⟩
    · have put : (z = 45 → t.take j ≠ []) → tDrop (tBM K "list" rAppend (tVar 9) (tCons (tOp (fun x y H Q => ∃ i j, x = V.str i ∧ y = V.str j ∧ i.length + j.length ≤ sizeLine ∧ Q (V.str (i ++ j)) H) (tOp (fun x y H Q => ∃ i j, x = V.str i ∧ y = V.str j ∧ i.length + j.length ≤ sizeLine ∧ Q (V.str (i ++ j)) H) (tSl rSlS (tVar 4) tNoPart (tPart (tVar 7))) (tVar 8)) (tSl rSlS (tVar 4) (tPart (tVar 7)) tNoPart)) tNil))
          { nx := fun σ H6 => ∃ L2, σ = [some (.ref a), some (.int c0), some (.int c1), some (.int n), some (.str (S t)), some (.int ((digitsVal t : Nat) : Int)), some (neg t), some (.int (c1 % (n + 1))), some (.str (S [z])), some (.ref p), none] ∧ H6 p = some (.lst (L2.map sv)) ∧ Bad L2 ∧ L2.length ≤ 14, rt := Q }
          [some (.ref a), some (.int c0), some (.int c1), some (.int n), some (.str (S t)), some (.int ((digitsVal t : Nat) : Int)), some (neg t), some (.int (c1 % (n + 1))), some (.str (S [z])), some (.ref p), none] H5 := fun hput => by
        refine ⟨_, rfl, .inl ⟨rfl, _, SqL.of hL5⟩, _, rfl, _, rfl, _, rfl, _, rfl, sz600 (by omega), _, rfl, _, _, rfl, rfl, ?_, _, rfl, _, rfl, _, rfl, _, rfl, sz600 (by omega), _, _, rfl, rfl, ?_, p, _, _, rfl, rfl, hL5, (by rw [List.length_map, h13]; decide), ?_⟩
        · rw [ct]
          exact cat_le (by rw [S_len]; omega) (by rw [S_len]; show 1 ≤ 600; decide)
        · rw [ct, cd, S_cat]
          exact cat_le (by rw [S_len, List.length_append]; show _ + 1 ≤ 600; omega) (by rw [S_len]; omega)
        · refine ⟨L1 ++ [t.take j ++ z :: t.drop j], rfl, ?_, hB5.more (by omega) (rn_has hz fun y => ?_) ?_, by rw [List.length_append, h13]; show 13 + 1 ≤ 14; decide⟩
          · rw [upd_same, List.map_append, ct, cd, S_cat, S_cat, List.append_assoc]
            rfl
          · exact fun q => hput q y
          · rw [List.length_append, List.length_cons]
            omega
      refine ⟨_, rfl, rfl, _, rfl, ?_⟩
      rw [lit_minus]
      by_cases hz45 : z = 45
      · subst hz45
        refine iteF ⟨_, rfl, _, _, rfl, rfl, _, rfl, ?_⟩
        refine ite2 (fun h => ?_) (fun h => ?_)
        · have h := of_decide_eq_true h
          refine put fun _ => ?_
          rcases tn0 with ⟨_, y⟩ | y
          · exfalso; omega
          · exact y
        · exact ⟨L1, rfl, hL5, hB5, by omega⟩
      · have e : (!decide (V.str (S [z]) = V.str (S [45]))) = true := by
          have y : ¬ V.str (S [z]) = V.str (S [45]) := fun q => hz45 (by
            have q := str_inj q
            injection q)
          rw [decide_eq_false y]
          rfl
        rw [e]
        exact iteT (put fun q => absurd q hz45)
    rintro σ H6 ⟨L2, rfl, hL6, hB6, h14⟩
    refine ⟨_, rfl, .inl ⟨rfl, _, SqL.of hL6⟩, _, rfl, _, rfl, _, rfl, _, rfl, sz600 (by omega), _, _, rfl, rfl, ?_, _, rfl, _, _, rfl, rfl, ?_, _, rfl, _, rfl, _, rfl, _, rfl, sz600 (by omega), _, _, rfl, rfl, ?_, p, _, _, rfl, rfl, hL6, Nat.lt_of_le_of_lt (by rw [List.length_map]; exact h14) (by decide), ?_⟩
    · rw [ct]
      exact cat_le (by decide +kernel) (by rw [S_len]; omega)
    · rw [ct, lit_minus, S_cat]
      exact cat_le (by rw [S_len, List.length_append]; show 1 + _ ≤ 600; omega) (by rw [S_len]; show 1 ≤ 600; decide)
    · rw [ct, cd, lit_minus, S_cat, S_cat]
      exact cat_le (by rw [S_len, List.length_append, List.length_append]; show 1 + _ + 1 ≤ 600; omega) (by rw [S_len]; omega)
    generalize hH7 : upd H6 p _ = H7
    have hL7 : H7 p = some (.lst ((L2 ++ [45 :: (t.take j ++ z :: t.drop j)]).map sv)) := by
      rw [← hH7, upd_same, List.map_append, ct, cd, lit_minus, S_cat, S_cat, S_cat]
      simp
    have hB7 : Bad (L2 ++ [45 :: (t.take j ++ z :: t.drop j)]) := hB6.more h14 (rn_bad z (by rw [digs_minus]; simp) hz) (by rw [List.length_cons, List.length_append, List.length_cons]; omega)
    generalize L2 ++ [45 :: (t.take j ++ z :: t.drop j)] = L3 at hL7 hB7
    clear hH7
    refine ⟨_, rfl, p, rfl, ⟨_, SqL.of hL7⟩, forR_list (K := K) (a := p) (xs := L3.map sv) (fun r σ H8 => H8 p = some (.lst (L3.map sv)) ∧ ∃ v, σ = [some (.ref a), some (.int c0), some (.int c1), some (.int n), some (.str (S t)), some (.int ((digitsVal t : Nat) : Int)), some (neg t), some (.int (c1 % (n + 1))), some (.str (S [z])), some (.ref p), v]) ⟨hL7, _, rfl⟩ (fun r σ H8 h => SqL.of h.1) ?_ ?_⟩
    · rintro x r σ H8 hx ⟨h8, v, rfl⟩
      obtain ⟨l, hl, rfl⟩ := List.mem_map.mp hx
      obtain ⟨b1, b2⟩ := hB7.no l hl
      refine ⟨_, rfl, l, rfl, b2, rfl, _, rfl, ?_⟩
      rw [b1]
      exact iteF ⟨h8, _, rfl⟩
    · rintro σ H8 ⟨h8, v, rfl⟩
      obtain ⟨c, r, rfl⟩ : ∃ c r, t = c :: r := by
        cases t with
        | nil => exact absurd rfl N.n
        | cons c r => exact ⟨c, r, rfl⟩
      have c1' : cutS (S (c :: r)) none (some (1 : Int)) = S [c] := cut_to (c :: r) 1
      have N1 : Num [c] := ⟨fun d hd => N.d d (by rw [List.mem_singleton.mp hd]; exact List.mem_cons_self), fun y => (by cases y), fun y => N.z y⟩
      refine ⟨_, rfl, _, rfl, _, rfl, sz600 (by omega), [c], (by rw [c1'] <;> rfl), (by show 1 ≤ 600; decide), _, rfl, _, rfl, _, rfl, sz600 (by omega), [c], (by rw [c1'] <;> rfl), N1.d, _, _, rfl, rn_ni _, .inr ⟨_, rfl⟩, ?_⟩
      have e : rn [c] = .int ((digitsVal [c] : Nat) : Int) := (rn_num N1).trans (if_neg (by show ¬ 60 < 1; decide))
      rw [e, decide_eq_true rfl]
      exact q _
end
/-! ### what the top has left, the end -/
theorem all_mk {l : PySem.W.OpenLaw} {w : World} {K : PySem.W.Frag} {h : Heap} {mg : Str → Option Value} {fa : Addr} (X : K.In h) (G : h.Ns mainGlobals mg) (hfa : mg "law" = some (.ref fa))
    {f_read_number f_law_cell f_law_digits f_law_value f_law_is f_law_other f_law : Addr}
    {od_read_number an_read_number od_law_cell an_law_cell od_law_digits an_law_digits od_law_value an_law_value od_law_is an_law_is od_law_other an_law_other od_law an_law : Option Addr} {sl_read_number sl_law_cell sl_law_digits sl_law_value sl_law_is sl_law_other sl_law : Array (Option Value)} {oc_read_number kV_read_number dc_read_number pm_read_number cd_read_number ct_read_number oc_law_cell kV_law_cell dc_law_cell pm_law_cell cd_law_cell ct_law_cell oc_law_digits kV_law_digits dc_law_digits pm_law_digits cd_law_digits ct_law_digits oc_law_value kV_law_value dc_law_value pm_law_value cd_law_value ct_law_value oc_law_is kV_law_is dc_law_is pm_law_is cd_law_is ct_law_is oc_law_other kV_law_other dc_law_other pm_law_other cd_law_other ct_law_other oc_law kV_law dc_law pm_law cd_law ct_law : Value} {t_DIGITS t_MOST_DIGITS : Tok}
    (a_read_number : PySem.W.nsIn K mainGlobals "read_number" = some (some (.ref f_read_number))) (l_read_number : K.lookup f_read_number = some ⟨oc_read_number, od_read_number, .func (PySem.W.fnOf "read_number" "read_number" (defArgs s_read_number) (defBody s_read_number) (defScope s_read_number) .none kV_read_number dc_read_number pm_read_number an_read_number cd_read_number ct_read_number), sl_read_number⟩) (c_read_number : PySem.W.codeIn K cd_read_number "read_number" = true) (k_read_number : PySem.W.keepIn K (.ref f_read_number) = true)
    (a_law_cell : PySem.W.nsIn K mainGlobals "_law_cell" = some (some (.ref f_law_cell))) (l_law_cell : K.lookup f_law_cell = some ⟨oc_law_cell, od_law_cell, .func (PySem.W.fnOf "_law_cell" "_law_cell" (defArgs s_law_cell) (defBody s_law_cell) (defScope s_law_cell) .none kV_law_cell dc_law_cell pm_law_cell an_law_cell cd_law_cell ct_law_cell), sl_law_cell⟩) (c_law_cell : PySem.W.codeIn K cd_law_cell "_law_cell" = true) (k_law_cell : PySem.W.keepIn K (.ref f_law_cell) = true)
    (a_law_digits : PySem.W.nsIn K mainGlobals "_law_digits" = some (some (.ref f_law_digits))) (l_law_digits : K.lookup f_law_digits = some ⟨oc_law_digits, od_law_digits, .func (PySem.W.fnOf "_law_digits" "_law_digits" (defArgs s_law_digits) (defBody s_law_digits) (defScope s_law_digits) .none kV_law_digits dc_law_digits pm_law_digits an_law_digits cd_law_digits ct_law_digits), sl_law_digits⟩) (c_law_digits : PySem.W.codeIn K cd_law_digits "_law_digits" = true) (k_law_digits : PySem.W.keepIn K (.ref f_law_digits) = true)
    (a_law_value : PySem.W.nsIn K mainGlobals "_law_value" = some (some (.ref f_law_value))) (l_law_value : K.lookup f_law_value = some ⟨oc_law_value, od_law_value, .func (PySem.W.fnOf "_law_value" "_law_value" (defArgs s_law_value) (defBody s_law_value) (defScope s_law_value) .none kV_law_value dc_law_value pm_law_value an_law_value cd_law_value ct_law_value), sl_law_value⟩) (c_law_value : PySem.W.codeIn K cd_law_value "_law_value" = true) (k_law_value : PySem.W.keepIn K (.ref f_law_value) = true)
    (a_law_is : PySem.W.nsIn K mainGlobals "_law_is" = some (some (.ref f_law_is))) (l_law_is : K.lookup f_law_is = some ⟨oc_law_is, od_law_is, .func (PySem.W.fnOf "_law_is" "_law_is" (defArgs s_law_is) (defBody s_law_is) (defScope s_law_is) .none kV_law_is dc_law_is pm_law_is an_law_is cd_law_is ct_law_is), sl_law_is⟩) (c_law_is : PySem.W.codeIn K cd_law_is "_law_is" = true) (k_law_is : PySem.W.keepIn K (.ref f_law_is) = true)
    (a_law_other : PySem.W.nsIn K mainGlobals "_law_other" = some (some (.ref f_law_other))) (l_law_other : K.lookup f_law_other = some ⟨oc_law_other, od_law_other, .func (PySem.W.fnOf "_law_other" "_law_other" (defArgs s_law_other) (defBody s_law_other) (defScope s_law_other) .none kV_law_other dc_law_other pm_law_other an_law_other cd_law_other ct_law_other), sl_law_other⟩) (c_law_other : PySem.W.codeIn K cd_law_other "_law_other" = true) (k_law_other : PySem.W.keepIn K (.ref f_law_other) = true)
    (a_law : PySem.W.nsIn K mainGlobals "law" = some (some (.ref f_law))) (l_law : K.lookup f_law = some ⟨oc_law, od_law, .func (PySem.W.fnOf "law" "law" (defArgs s_law) (defBody s_law) (defScope s_law) .none kV_law dc_law pm_law an_law cd_law ct_law), sl_law⟩) (c_law : PySem.W.codeIn K cd_law "law" = true) (k_law : PySem.W.keepIn K (.ref f_law) = true)
    (z_len : PySem.W.nsIn K mainGlobals "len" = some none)
    (z_int : PySem.W.nsIn K mainGlobals "int" = some none)
    (z_bool : PySem.W.nsIn K mainGlobals "bool" = some none)
    (z_abs : PySem.W.nsIn K mainGlobals "abs" = some none)
    (z_range : PySem.W.nsIn K mainGlobals "range" = some none)
    (z_isinstance : PySem.W.nsIn K mainGlobals "isinstance" = some none)
    (v_DIGITS : PySem.W.nsIn K mainGlobals "DIGITS" = some (some (.str "0123456789" t_DIGITS)))
    (v_MOST_DIGITS : PySem.W.nsIn K mainGlobals "MOST_DIGITS" = some (some (.int 60 t_MOST_DIGITS)))
    : ∃ fd : FuncData, (∀ (s : Shared) (v : Value), BindsTo s fd ⟨[v], []⟩ [("script", v)]) ∧ ∀ base : Heap, K.In base → base.Ns mainGlobals mg → FnOk l.prog w K mg base (L2.CX l.prog w) 2 fa fd ["script"] (spLaw K) := by
  have e := hfa.symm.trans (PySem.W.mg_of X G a_law)
  cases e
  have T : Txt mg := { b_len := PySem.W.mg_none_of X G z_len, b_int := PySem.W.mg_none_of X G z_int, b_bool := PySem.W.mg_none_of X G z_bool, b_abs := PySem.W.mg_none_of X G z_abs, b_range := PySem.W.mg_none_of X G z_range, b_isinstance := PySem.W.mg_none_of X G z_isinstance, c_DIGITS := ⟨_, PySem.W.mg_of X G v_DIGITS, ⟨_, rfl⟩⟩, c_MOST_DIGITS := ⟨_, PySem.W.mg_of X G v_MOST_DIGITS, ⟨_, rfl⟩⟩ }
  have D_read_number : Def K mg "read_number" P_read_number s_read_number := def_mk (fun_mk (st := s_read_number) l_read_number c_read_number k_read_number) (PySem.W.mg_of X G a_read_number) fun _ _ _ _ _ _ us hl => match us, hl with | [_], _ => rfl
  have D_law_cell : Def K mg "_law_cell" P_law_cell s_law_cell := def_mk (fun_mk (st := s_law_cell) l_law_cell c_law_cell k_law_cell) (PySem.W.mg_of X G a_law_cell) fun _ _ _ _ _ _ us hl => match us, hl with | [_, _], _ => rfl
  have D_law_digits : Def K mg "_law_digits" P_law_digits s_law_digits := def_mk (fun_mk (st := s_law_digits) l_law_digits c_law_digits k_law_digits) (PySem.W.mg_of X G a_law_digits) fun _ _ _ _ _ _ us hl => match us, hl with | [_, _], _ => rfl
  have D_law_value : Def K mg "_law_value" P_law_value s_law_value := def_mk (fun_mk (st := s_law_value) l_law_value c_law_value k_law_value) (PySem.W.mg_of X G a_law_value) fun _ _ _ _ _ _ us hl => match us, hl with | [_], _ => rfl
  have D_law_is : Def K mg "_law_is" P_law_is s_law_is := def_mk (fun_mk (st := s_law_is) l_law_is c_law_is k_law_is) (PySem.W.mg_of X G a_law_is) fun _ _ _ _ _ _ us hl => match us, hl with | [_, _], _ => rfl
  have D_law_other : Def K mg "_law_other" P_law_other s_law_other := def_mk (fun_mk (st := s_law_other) l_law_other c_law_other k_law_other) (PySem.W.mg_of X G a_law_other) fun _ _ _ _ _ _ us hl => match us, hl with | [_], _ => rfl
  exact ⟨PySem.W.fnOf "law" "law" (defArgs s_law) (defBody s_law) (defScope s_law) .none kV_law dc_law pm_law an_law cd_law ct_law, fun s v => .of_eq rfl, fun base _ _ => by
    exact ok_law (fun_mk (st := s_law) l_law c_law k_law) T (cal_law_cell T D_law_cell) (cal_law_digits T D_law_digits) (cal_law_value T D_law_value) (cal_law_is T D_law_is) (cal_read_number T D_read_number) (cal_law_other T D_law_other)⟩
end K85

open PySem PySem.W PyProof.Rows in
set_option maxRecDepth 100000 in
set_option maxHeartbeats 0 in
theorem PySem.Challenge.cw_beatsbounded_k85_written_numbers_holds : PySem.Challenge.rw_beatsbounded_k85_written_numbers.Holds := by
  w_on; o_law; k_head; (case hw => w_witness2)
  k_fill
  refine BB.walkB (l := PySem.Challenge.rw_beatsbounded_k85_written_numbers) (k := 2) (sp := K85.spLaw) rfl rfl ⟨rfl, by decide, by decide⟩ (fun w h Y => PySem.W.kIn_of Y) ?F ?S
  case F =>
    intro w mg fa h KX G hmg
    refine' K85.all_mk KX G hmg ?a_read_number ?l_read_number ?c_read_number ?k_read_number ?a_law_cell ?l_law_cell ?c_law_cell ?k_law_cell ?a_law_digits ?l_law_digits ?c_law_digits ?k_law_digits ?a_law_value ?l_law_value ?c_law_value ?k_law_value ?a_law_is ?l_law_is ?c_law_is ?k_law_is ?a_law_other ?l_law_other ?c_law_other ?k_law_other ?a_law ?l_law ?c_law ?k_law ?z_len ?z_int ?z_bool ?z_abs ?z_range ?z_isinstance ?v_DIGITS ?v_MOST_DIGITS
    (case a_read_number => k_is)
    (case l_read_number => k_is)
    (case c_read_number => k_is)
    (case k_read_number => k_is)
    (case a_law_cell => k_is)
    (case l_law_cell => k_is)
    (case c_law_cell => k_is)
    (case k_law_cell => k_is)
    (case a_law_digits => k_is)
    (case l_law_digits => k_is)
    (case c_law_digits => k_is)
    (case k_law_digits => k_is)
    (case a_law_value => k_is)
    (case l_law_value => k_is)
    (case c_law_value => k_is)
    (case k_law_value => k_is)
    (case a_law_is => k_is)
    (case l_law_is => k_is)
    (case c_law_is => k_is)
    (case k_law_is => k_is)
    (case a_law_other => k_is)
    (case l_law_other => k_is)
    (case c_law_other => k_is)
    (case k_law_other => k_is)
    (case a_law => k_is)
    (case l_law => k_is)
    (case c_law => k_is)
    (case k_law => k_is)
    (case z_len => k_is)
    (case z_int => k_is)
    (case z_bool => k_is)
    (case z_abs => k_is)
    (case z_range => k_is)
    (case z_isinstance => k_is)
    (case v_DIGITS => k_is)
    (case v_MOST_DIGITS => k_is)
  case S =>
    intro K H a ns hl hb hO hS
    exact ⟨a, ns, rfl, hS, hl, fun _ => rfl⟩
#print axioms PySem.Challenge.cw_beatsbounded_k85_written_numbers_holds
