import PyProof.Rows.All
import Wide.All
import OpenK.AllK
import Wide.FinOn
import HandS.ForMost
import HandS.Wide
import HandS.IsInst
import HandS.Codes
import HandS.More
import HandS.Style
import HandS.TupMul
import HandS.TupAny
import HandS.Dict
import KE.KEqSeq
import PySem.Challenge.RW_madeagain_k01_what_is_a_recipe
set_option Elab.async false
set_option linter.all false
set_option maxRecDepth 100000
set_option maxHeartbeats 4000000
set_option pp.maxSteps 300
namespace Mad
open PySem PySem.Spec PyProof.Rows L2
def topS (i : Nat) : Stmt := PySem.Challenge.pw_madeagain_k01_what_is_a_recipe.main.body.getD i (.Pass ⟨0, 0, 0, 0⟩)
/-! ### short words over the layer -/
/-- the def x of the text stands in the module as st says -/
def IsDef (K : PySem.W.Frag) (mg : Str → Option Value) (x : Str) (st : Stmt) (ps : List Str) : Prop := ∃ (f : Addr) (fd : FuncData), Fun K x x st f fd ∧ mg x = some (.ref f) ∧ Binds K fd ps []
/-- the def x keeps the promise sp by at most k calls in one another -/
def Cal (P : Program) (w : World) (K : PySem.W.Frag) (mg : Str → Option Value) (base : Heap) (CX : CXT) (k : Nat) (x : Str) (ps : List Str) (sp : Sp) : Prop :=
  ∃ (f : Addr) (fd : FuncData), FnOk P w K mg base CX k f fd ps sp ∧ mg x = some (.ref f) ∧ PySem.W.keepIn K (.ref f) = true ∧ Binds K fd ps []
section
variable {P : Program} {w : World} {K : PySem.W.Frag} {mg : Str → Option Value} {base : Heap}
theorem Cal.mono {CX : CXT} {j k : Nat} {x : Str} {ps : List Str} {sp : Sp} (c : Cal P w K mg base CX j x ps sp) (h : j ≤ k) : Cal P w K mg base CX k x ps sp := by
  obtain ⟨f, fd, F, r⟩ := c
  exact ⟨f, fd, F.mono h, r⟩
theorem Cal.imp {CX : CXT} {k : Nat} {x : Str} {ps : List Str} {sp sp' : Sp} (c : Cal P w K mg base CX k x ps sp) (h : ∀ vs H Q E, sp' vs H Q E → sp vs H Q E) : Cal P w K mg base CX k x ps sp' := by
  obtain ⟨f, fd, F, r⟩ := c
  exact ⟨f, fd, F.imp h, r⟩
theorem IsDef.cal {x : Str} {st : Stmt} {N ps : List Str} {k : Nat} {sp : Sp} (D : IsDef K mg x st ps) (S : FnScope N ps (defScope st)) (len : ∀ vs H Q E, sp vs H Q E → vs.length = ps.length)
    (hbody : ∀ (f : Addr) (cdv : Value) (A : Around) (outer : List Env) (s : Shared) (H : Hp) (vs : List V) (Q : VK) (E : XK), Room k (A.deeper (envOfC x (defScope st) s.heap.objs.size f cdv)) → sp vs H Q E →
      ∃ t, PSs (cxOf CX0 P w K mg base N x (defScope st) f cdv A outer s H E).nox (defBody st) t ∧ t { nx := fun _ H' => Q .non H', rt := Q } (start N vs) H) : Cal P w K mg base CX0 (k + 1) x ps sp := by
  obtain ⟨f, fd, F, m, b⟩ := D
  exact ⟨f, fd, F.ok S len fun cdv A outer s H vs Q E => hbody f cdv A outer s H vs Q E, m, F.kp, b⟩
end
section
variable {X : Cx} {CX : CXT} {k : Nat} {ps : List Str} {sp : Sp} {E : XK} {x : Str} {p pos : Pos}
theorem pe_cal {e : Expr} {es : List Expr} {t : TA} (c : Cal X.prog X.w X.K X.mg X.base CX k x ps sp) (hr : Room k X.A) (hx : Passes CX X E) (ha : PA X (e :: es) t) (hg : Gl X x := by rfl)
    (hdb : (x == ("__debug__" : Str)) = false := by decide) (he : starEach (e :: es) X.env = (false, eval e X.env) :: starEach es X.env := by rfl) (hpl : (backTo pos (starEach es X.env)).any (·.1) = false := by rfl) :
    PE X (.Call (.Name x p) (e :: es) [] pos) (tCall sp [] E t) := by
  obtain ⟨f, fd, F, m, kp, b⟩ := c
  exact pe_call F hr hg m kp b .nil hx ha hdb he hpl
theorem pe_cal0 (c : Cal X.prog X.w X.K X.mg X.base CX k x ps sp) (hr : Room k X.A) (hx : Passes CX X E) (hg : Gl X x := by rfl) (hdb : (x == ("__debug__" : Str)) = false := by decide) :
    PE X (.Call (.Name x p) [] [] pos) (tCall sp [] E tNil) := by
  obtain ⟨f, fd, F, m, kp, b⟩ := c
  exact pe_call0 F hr hg m kp b .nil hx hdb
end
theorem le_line {n : Nat} (h : n ≤ 16777216) : n ≤ sizeLine := by rw [sizeLine_eq]; exact h
theorem lt_line {n : Nat} (h : n < 16777216) : n < sizeLine := by rw [sizeLine_eq]; exact h
theorem same_new {H : Hp} {p : Addr} (h : H p = none) (o : HO) : Same H (upd H p o) := fun b u q => by rw [upd_ne (ne_of_none q h)]; exact q
theorem same_upd {B H : Hp} {p : Addr} (s : Same B H) (h : B p = none) (o : HO) : Same B (upd H p o) := fun b u q => by
  have z : b ≠ p := fun e => by rw [e, h] at q; cases q
  rw [upd_ne z]; exact s _ _ q
theorem atI_at {α : Type} {xs : List α} {i : Int} {v : α} (h0 : 0 ≤ i) (h : xs[i.toNat]? = some v) : atI xs i = some v := by
  have e : i = ((i.toNat : Nat) : Int) := by omega
  rw [e]; exact atI_nat h
theorem ixN_at {n : Nat} {i : Int} (h0 : 0 ≤ i) (h : i < n) : ixN n i = some i.toNat := by
  unfold ixN
  rw [if_pos h0, if_pos h]
theorem int_at {ns : List Int} {i : Int} (h0 : 0 ≤ i) (h : i < ns.length) : ∃ v : Int, atI (ns.map V.int) i = some (.int v) := by
  have hk : i.toNat < ns.length := by omega
  exact ⟨ns[i.toNat], atI_at h0 (by rw [List.getElem?_map, List.getElem?_eq_getElem hk] <;> rfl)⟩
theorem if_true_eq {c : Bool} {A B : Prop} (h : c = true) (a : A) : if c = true then A else B := by rw [if_pos h]; exact a
theorem if_false_eq {c : Bool} {A B : Prop} (h : c = false) (b : B) : if c = true then A else B := by rw [h]; exact b
theorem not_true_eq {c : Bool} {A B : Prop} (h : c = true) (b : B) : if (!c) = true then A else B := by rw [h]; exact b
theorem not_false_eq {c : Bool} {A B : Prop} (h : c = false) (a : A) : if (!c) = true then A else B := by rw [h]; exact a
structure Txt (K : PySem.W.Frag) (mg : Str → Option Value) : Prop where
  b_len : mg "len" = none
  b_list : mg "list" = none
  b_range : mg "range" = none
  b_tuple : mg "tuple" = none
  b_str : mg "str" = none
  b_int : mg "int" = none
  b_isinstance : mg "isinstance" = none
  b_bool : mg "bool" = none
  b_sum : mg "sum" = none
/-! ### the deck of drawn cells -/
/-- at d a deck, what B tracks besides stands -/
def DeckAt (B H : Hp) (d : Addr) : Prop := Same B H ∧ B d = none ∧ ∃ (c : Addr) (m n : Int) (ns : List Int), B c = none ∧ H d = some (.lst [.ref c, .int m, .int n]) ∧ H c = some (.lst (ns.map V.int)) ∧ 0 < ns.length ∧ ns.length ≤ 63
def spDraw : Sp := fun vs H Q _ => ∃ (B : Hp) (d : Addr) (many : Int), vs = [.ref d, .int many] ∧ DeckAt B H d ∧ 0 < many ∧ many.natAbs < 2 ^ 200 ∧ ∀ (H' : Hp) (v : Int), DeckAt B H' d → 0 ≤ v → v < many → Q (.int v) H'
section
variable {P : Program} {w : World} {K : PySem.W.Frag} {mg : Str → Option Value} {base : Heap}
abbrev s__law_draw : Stmt := topS 14
abbrev N__law_draw : List Str := ["deck", "many", "at", "found", "number"]
theorem sc__law_draw : FnScope N__law_draw ["deck", "many"] (defScope s__law_draw) := ⟨rfl, rfl, rfl, by decide +kernel, rfl, by decide +kernel, by decide +kernel⟩

theorem ok__law_draw (T : Txt K mg) (D : IsDef K mg "_law_draw" s__law_draw ["deck", "many"]) : Cal P w K mg base CX0 1 "_law_draw" ["deck", "many"] spDraw := by
  refine D.cal sc__law_draw (fun vs H Q E h => ?_) (fun f cdv A outer s H vs Q E hr h => ?_)
  · obtain ⟨B, d, many, rfl, _⟩ := h
    rfl
  obtain ⟨B, d, many, rfl, ⟨hs, bd, c, m, n, ns, bc, hd, hc, h0, h63⟩, hp, hm, q⟩ := h
  have dc : d ≠ c := fun e => by
    subst e
    rw [hd] at hc
    cases ns with
    | nil => cases hc
    | cons a r => simp at hc
  have hl : (ns.map V.int).length = ns.length := List.length_map _
  refine ⟨_, (pss_cons (ps_set (i := 2) sc__law_draw.nd rfl (Or.inl rfl) (pe_op op_mod (pe_ix (r := rIxL K) ix_list (pv 0) pe_int (fun _ _ => rfl)) (pe_callB call_len_seq (by rfl) T.b_len PySem.boot_len (pa_cons (pe_ix (r := rIxL K) ix_list (pv 0) pe_int (fun _ _ => rfl)) pa_nil))))
      (pss_cons (ps_asg (pe_op op_add (pe_ix (r := rIxL K) ix_list (pv 0) pe_int (fun _ _ => rfl)) pe_int) (pg_sub (pv 0) pe_int set_list))
      (pss_cons (ps_if (pt_cmpR op_eq (pe_ix (r := rIxL K) ix_list (pv 0) pe_int (fun _ _ => rfl)) pe_int (nomark _))
        (pss_cons (ps_set (i := 3) sc__law_draw.nd rfl (Or.inl rfl) (pe_op op_mod (pe_ix (r := rIxL K) ix_list (pe_ix (r := rIxL K) ix_list (pv 0) pe_int (fun _ _ => rfl)) (pv 2) (fun _ _ => rfl)) (pv 1)))
      (pss_cons (ps_asg (pe_op op_fdivW (pe_ix (r := rIxL K) ix_list (pe_ix (r := rIxL K) ix_list (pv 0) pe_int (fun _ _ => rfl)) (pv 2) (fun _ _ => rfl)) (pv 1)) (pg_sub (pe_ix (r := rIxL K) ix_list (pv 0) pe_int (fun _ _ => rfl)) (pv 2) set_list))
      (pss_one (ps_ret (pv 3)))))
        pss_nil)
      (pss_cons (ps_set (i := 4) sc__law_draw.nd rfl (Or.inl rfl) (pe_op op_mod (pe_op op_add (pe_op op_mul (pe_op op_mod (pe_ix (r := rIxL K) ix_list (pe_ix (r := rIxL K) ix_list (pv 0) pe_int (fun _ _ => rfl)) (pv 2) (fun _ _ => rfl)) pe_int) pe_int) (pe_op op_mul (pe_ix (r := rIxL K) ix_list (pv 0) pe_int (fun _ _ => rfl)) pe_int)) pe_int))
      (pss_cons (ps_set (i := 4) sc__law_draw.nd rfl (Or.inl rfl) (pe_op op_mod (pe_op op_mul (pv 4) (pv 4)) pe_int))
      (pss_one (ps_ret (pe_op op_mod (pe_op op_fdivW (pe_op op_mod (pe_op op_add (pe_op op_mul (pv 4) pe_int) (pe_ix (r := rIxL K) ix_list (pv 0) pe_int (fun _ _ => rfl))) pe_int) pe_int) (pv 1))))))))), ?_⟩
  -- at = deck[2] % len(deck[0])
  refine ⟨_, rfl, d, _, _, _, rfl, rfl, SqL.of hd, rfl, _, rfl, d, _, _, _, rfl, rfl, SqL.of hd, rfl, c, _, rfl, .inl (SqL.of hc), _, _, rfl, rfl, by rw [hl]; omega, ?_⟩
  have a0 : 0 ≤ n % (((ns.map V.int).length : Nat) : Int) := Int.emod_nonneg _ (by rw [hl]; omega)
  have a1 : n % (((ns.map V.int).length : Nat) : Int) < ns.length := by rw [hl]; exact Int.emod_lt_of_pos _ (by omega)
  have a1' : n % (((ns.map V.int).length : Nat) : Int) < (ns.map V.int).length := by rw [hl] at a1 ⊢; exact a1
  obtain ⟨v, hv⟩ := int_at a0 a1
  -- deck[2] = deck[2] + 1
  refine ⟨_, rfl, d, _, _, _, rfl, rfl, SqL.of hd, rfl, _, _, rfl, rfl, _, rfl, d, _, _, _, rfl, rfl, hd, rfl, ?_⟩
  have hd1 : upd H d (.lst [.ref c, .int m, .int (n + 1)]) d = some (.lst [.ref c, .int m, .int (n + 1)]) := upd_same
  have hc1 : upd H d (.lst [.ref c, .int m, .int (n + 1)]) c = some (.lst (ns.map V.int)) := by rw [upd_ne dc.symm]; exact hc
  have hs1 : Same B (upd H d (.lst [.ref c, .int m, .int (n + 1)])) := same_upd hs bd _
  -- if deck[1] == 0
  refine ⟨_, rfl, d, _, _, _, rfl, rfl, SqL.of hd1, rfl, rfl, _, rfl, ?_⟩
  refine ite2 (fun _ => ?_) (fun _ => ?_)
  · refine ⟨_, rfl, d, _, _, _, rfl, rfl, SqL.of hd1, rfl, _, rfl, c, _, _, _, rfl, rfl, SqL.of hc1, hv, _, rfl, _, _, rfl, rfl, hp, ?_⟩
    refine ⟨_, rfl, d, _, _, _, rfl, rfl, SqL.of hd1, rfl, _, rfl, c, _, _, _, rfl, rfl, SqL.of hc1, hv, _, rfl, _, _, rfl, rfl, wide_div hp hm (by decide) (by decide), _, rfl, d, _, _, _, rfl, rfl, SqL.of hd1, rfl, _, rfl, c, _, _, _, rfl, rfl, hc1, ixN_at a0 a1', ?_⟩
    refine ⟨_, rfl, q _ _ ⟨same_upd hs1 bc _, bd, c, m, n + 1, ns.set (n % (((ns.map V.int).length : Nat) : Int)).toNat (v / many), bc, ?_, ?_, ?_, ?_⟩ (Int.emod_nonneg _ (by omega)) (Int.emod_lt_of_pos _ hp)⟩
    · rw [upd_ne dc]; exact hd1
    · rw [upd_same, List.map_set]
    · rw [List.length_set]; exact h0
    · rw [List.length_set]; exact h63
  · refine ⟨_, rfl, d, _, _, _, rfl, rfl, SqL.of hd1, rfl, _, rfl, c, _, _, _, rfl, rfl, SqL.of hc1, hv, _, _, rfl, rfl, (by show (0 : Int) < 1000000007; decide), _, _, rfl, rfl, .inr ⟨by decide, by decide⟩, _, rfl, d, _, _, _, rfl, rfl, SqL.of hd1, rfl, _, _, rfl, rfl, .inr ⟨by decide, by decide⟩, _, _, rfl, rfl, _, _, rfl, rfl, (by show (0 : Int) < 1000000009; decide), ?_⟩
    have y0 : 0 ≤ (v % 1000000007 * 7919 + (n + 1) * 104729) % 1000000009 := Int.emod_nonneg _ (by decide)
    have y1 : (v % 1000000007 * 7919 + (n + 1) * 104729) % 1000000009 < 1000000009 := Int.emod_lt_of_pos _ (by decide)
    refine ⟨_, rfl, _, rfl, _, _, rfl, rfl, .inl ⟨Int.lt_of_lt_of_le (by decide) y0, Int.lt_trans y1 (by decide)⟩, _, _, rfl, rfl, (by show (0 : Int) < _; decide), ?_⟩
    refine ⟨_, rfl, _, _, rfl, rfl, .inr ⟨by decide, by decide⟩, _, rfl, d, _, _, _, rfl, rfl, SqL.of hd1, rfl, _, _, rfl, rfl, _, _, rfl, rfl, (by show (0 : Int) < _; decide), _, _, rfl, rfl, ⟨by decide, by decide +kernel⟩, _, rfl, _, _, rfl, rfl, hp, ?_⟩
    exact q _ _ ⟨hs1, bd, c, m, n + 1, ns, bc, hd1, hc1, h0, h63⟩ (Int.emod_nonneg _ (by omega)) (Int.emod_lt_of_pos _ hp)
end
/-! ### recipes as data -/
inductive Kd where
  | plus | minus | times | most
  deriving DecidableEq
def Kd.name : Kd → Str
  | .plus => "plus" | .minus => "minus" | .times => "times" | .most => "most"
inductive Rcp where
  | num (n : Int)
  | read (s : List Nat)
  | two (k : Kd) (a b : Rcp)
  | pick (a b c : Rcp)
  | choose (a : Rcp) (ns : List (List Nat))
def Rcp.dep : Rcp → Nat
  | .num _ => 1
  | .read _ => 1
  | .two _ a b => max a.dep b.dep + 1
  | .pick a b c => max a.dep (max b.dep c.dep) + 1
  | .choose a _ => a.dep + 1
def Rcp.siz : Rcp → Nat
  | .num _ => 1
  | .read _ => 1
  | .two _ a b => a.siz + b.siz + 1
  | .pick a b c => a.siz + b.siz + c.siz + 1
  | .choose a _ => a.siz + 1
/-- a name's signs -/
def Nm (s : List Nat) : Prop := 1 ≤ s.length ∧ s.length ≤ 8 ∧ ∀ c ∈ s, 97 ≤ c ∧ c ≤ 122
def Nms (ns : List (List Nat)) : Prop := 1 ≤ ns.length ∧ ns.length ≤ 9 ∧ ∀ s ∈ ns, Nm s
def Rcp.Good : Rcp → Prop
  | .num n => n.natAbs < 10 ^ 40
  | .read s => Nm s
  | .two _ a b => a.Good ∧ b.Good
  | .pick a b c => a.Good ∧ b.Good ∧ c.Good
  | .choose a ns => a.Good ∧ Nms ns
def txs (ns : List (List Nat)) : List V := (ns.map SX.S).map V.str
/-- the value v is the recipe r in H -/
def Rec (H : Hp) : Rcp → V → Prop
  | .num n, v => ∃ p, v = .ref p ∧ H p = some (.tup [.str "number", .int n])
  | .read s, v => ∃ p, v = .ref p ∧ H p = some (.tup [.str "read", .str (SX.S s)])
  | .two k a b, v => ∃ p x y, v = .ref p ∧ H p = some (.tup [.str k.name, x, y]) ∧ Rec H a x ∧ Rec H b y
  | .pick a b c, v => ∃ p x y z, v = .ref p ∧ H p = some (.tup [.str "pick", x, y, z]) ∧ Rec H a x ∧ Rec H b y ∧ Rec H c z
  | .choose a ns, v => ∃ p x q, v = .ref p ∧ H p = some (.tup [.str "choose", x, .ref q]) ∧ Rec H a x ∧ H q = some (.tup (txs ns))
/-- tuples stay -/
def Keep (H H' : Hp) : Prop := ∀ b xs, H b = some (.tup xs) → H' b = some (.tup xs)
theorem Keep.refl (H : Hp) : Keep H H := fun _ _ h => h
theorem Keep.trans {A B C : Hp} (h : Keep A B) (k : Keep B C) : Keep A C := fun b xs q => k b xs (h b xs q)
theorem same_keep {H H' : Hp} (s : Same H H') : Keep H H' := fun b xs q => s b _ q
theorem keep_lst {H : Hp} {l : Addr} {xs ys : List V} (h : H l = some (.lst xs)) : Keep H (upd H l (.lst ys)) := fun b zs q => by
  have z : b ≠ l := fun e => by rw [e, h] at q; cases q
  rw [upd_ne z]; exact q
theorem Rec.keep {H H' : Hp} (k : Keep H H') : ∀ {r : Rcp} {v : V}, Rec H r v → Rec H' r v
  | .num n, v, ⟨p, e, h⟩ => ⟨p, e, k _ _ h⟩
  | .read s, v, ⟨p, e, h⟩ => ⟨p, e, k _ _ h⟩
  | .two _ a b, v, ⟨p, x, y, e, h, ra, rb⟩ => ⟨p, x, y, e, k _ _ h, Rec.keep k ra, Rec.keep k rb⟩
  | .pick a b c, v, ⟨p, x, y, z, e, h, ra, rb, rc⟩ => ⟨p, x, y, z, e, k _ _ h, Rec.keep k ra, Rec.keep k rb, Rec.keep k rc⟩
  | .choose a ns, v, ⟨p, x, q, e, h, ra, hq⟩ => ⟨p, x, q, e, k _ _ h, Rec.keep k ra, k _ _ hq⟩
theorem Rec.same {H H' : Hp} (s : Same H H') {r : Rcp} {v : V} (h : Rec H r v) : Rec H' r v := h.keep (same_keep s)
theorem dep_pos : ∀ r : Rcp, 1 ≤ r.dep
  | .num _ => Nat.le_refl _
  | .read _ => Nat.le_refl _
  | .two _ _ _ => Nat.le_add_left _ _
  | .pick _ _ _ => Nat.le_add_left _ _
  | .choose _ _ => Nat.le_add_left _ _
theorem siz_pos : ∀ r : Rcp, 1 ≤ r.siz
  | .num _ => Nat.le_refl _
  | .read _ => Nat.le_refl _
  | .two _ _ _ => Nat.le_add_left _ _
  | .pick _ _ _ => Nat.le_add_left _ _
  | .choose _ _ => Nat.le_add_left _ _
theorem iteY {p A B : Prop} [Decidable p] (h : p) (a : A) : if decide p = true then A else B := by
  rw [if_pos (decide_eq_true h)]; exact a
theorem iteN {p A B : Prop} [Decidable p] (h : ¬p) (b : B) : if decide p = true then A else B := by
  rw [if_neg (fun z => h (of_decide_eq_true z))]; exact b
theorem txs_get {ns : List (List Nat)} {i : Nat} (h : i < ns.length) : (txs ns)[i]? = some (.str (SX.S ns[i])) := by
  unfold txs
  rw [List.getElem?_map, List.getElem?_map, List.getElem?_eq_getElem h]
  all_goals rfl
theorem txs_mem {ns : List (List Nat)} {x : V} (h : x ∈ txs ns) : ∃ s, s ∈ ns ∧ x = .str (SX.S s) := by
  obtain ⟨y, hy, rfl⟩ := List.mem_map.mp h
  obtain ⟨s, hs, rfl⟩ := List.mem_map.mp hy
  exact ⟨s, hs, rfl⟩
theorem txs_len (ns : List (List Nat)) : (txs ns).length = ns.length := by unfold txs; rw [List.length_map, List.length_map]
theorem txs_app (a b : List (List Nat)) : txs (a ++ b) = txs a ++ txs b := by unfold txs; rw [List.map_append, List.map_append]
/-- the signs, one by one -/
def ones (ss : List Nat) : List (List Nat) := ss.map fun c => [c]
theorem ones_flat (ss : List Nat) : (ones ss).flatten = ss := by
  induction ss with
  | nil => rfl
  | cons a r ih => show [a] ++ (ones r).flatten = _; rw [ih]; rfl
theorem ones_sum (ss : List Nat) : (((ones ss).map SX.S).map (·.length)).sum = ss.length := by
  induction ss with
  | nil => rfl
  | cons a r ih => show 1 + (((ones r).map SX.S).map (·.length)).sum = r.length + 1; rw [ih, Nat.add_comm]
theorem ones_len (ss : List Nat) : (ones ss).length = ss.length := List.length_map _
/-! ### names, numbers and recipes drawn of a deck -/
def spDeck (K : PySem.W.Frag) : Sp := fun vs H Q _ => ∃ (a : Addr) (ns : List Int), vs = [.ref a] ∧ SqL K H a (ns.map V.int) ∧ ns.length ≤ 63 ∧ ∀ (B H' : Hp) (d : Addr), Same H B → DeckAt B H' d → Q (.ref d) H'
def spName : Sp := fun vs H Q _ => ∃ (B : Hp) (d : Addr), vs = [.ref d] ∧ DeckAt B H d ∧ ∀ (B' H' : Hp) (s : List Nat), Same B B' → DeckAt B' H' d → Nm s → Q (.str (SX.S s)) H'
def spNumber : Sp := fun vs H Q _ => ∃ (B : Hp) (d : Addr), vs = [.ref d] ∧ DeckAt B H d ∧ ∀ (H' : Hp) (n : Int), DeckAt B H' d → n.natAbs < 10 ^ 40 → Q (.int n) H'
/-- the frame may grow -/
theorem DeckAt.new {B H : Hp} {d : Addr} {p : Addr} (k : DeckAt B H d) (h : H p = none) (o : HO) : DeckAt (upd B p o) (upd H p o) d := by
  obtain ⟨s, bd, c, m, n, ns, bc, hd, hc, h0, h63⟩ := k
  have dp : d ≠ p := ne_of_none hd h
  have cp : c ≠ p := ne_of_none hc h
  refine ⟨fun b u q => ?_, by rw [upd_ne dp]; exact bd, c, m, n, ns, by rw [upd_ne cp]; exact bc, by rw [upd_ne dp]; exact hd, by rw [upd_ne cp]; exact hc, h0, h63⟩
  by_cases e : b = p
  · subst e; rw [upd_same] at q ⊢; exact q
  · rw [upd_ne e] at q ⊢; exact s _ _ q
/-- what the frame tracks may be written -/
theorem DeckAt.put {B H : Hp} {d : Addr} {p : Addr} {u : HO} (k : DeckAt B H d) (h : B p = some u) (o : HO) : DeckAt (upd B p o) (upd H p o) d := by
  obtain ⟨s, bd, c, m, n, ns, bc, hd, hc, h0, h63⟩ := k
  have dp : d ≠ p := fun e => by rw [e, h] at bd; cases bd
  have cp : c ≠ p := fun e => by rw [e, h] at bc; cases bc
  refine ⟨fun b w q => ?_, by rw [upd_ne dp]; exact bd, c, m, n, ns, by rw [upd_ne cp]; exact bc, by rw [upd_ne dp]; exact hd, by rw [upd_ne cp]; exact hc, h0, h63⟩
  by_cases e : b = p
  · subst e; rw [upd_same] at q ⊢; exact q
  · rw [upd_ne e] at q ⊢; exact s _ _ q
theorem DeckAt.same {B H H' : Hp} {d : Addr} (k : DeckAt B H d) (h : Same H H') : DeckAt B H' d := by
  obtain ⟨s, bd, c, m, n, ns, bc, hd, hc, h0, h63⟩ := k
  exact ⟨s.trans h, bd, c, m, n, ns, bc, h _ _ hd, h _ _ hc, h0, h63⟩
theorem DeckAt.free {B H : Hp} {d p : Addr} (k : DeckAt B H d) (h : H p = none) : B p = none := k.1.free h
/-- the pick out of some things by a drawn number -/
theorem one_of {α : Type} {xs : List α} {v : Int} (h0 : 0 ≤ v) (h : v < xs.length) : ∃ x, x ∈ xs ∧ atI xs v = some x := by
  have hk : v.toNat < xs.length := by omega
  exact ⟨xs[v.toNat], List.getElem_mem hk, atI_at h0 (List.getElem?_eq_getElem hk)⟩
def letters : List Nat := [97, 98, 99, 100, 101, 102, 103, 104, 105, 106, 107, 108, 109, 110, 111, 112, 113, 114, 115, 116, 117, 118, 119, 120, 121, 122]
theorem letters_is : ("abcdefghijklmnopqrstuvwxyz" : Str) = SX.S letters := by decide +kernel
theorem joinL_nil : ∀ l : List (List Nat), TL.joinL [] l = l.flatten
  | [] => rfl
  | [p] => by simp [TL.joinL]
  | p :: q :: r => by
    show p ++ ([] ++ TL.joinL [] (q :: r)) = _
    rw [joinL_nil (q :: r)]
    simp
section
variable {P : Program} {w : World} {K : PySem.W.Frag} {mg : Str → Option Value} {base : Heap}
abbrev s__law_deck : Stmt := topS 13
abbrev N__law_deck : List Str := ["script", "cells"]
theorem sc__law_deck : FnScope N__law_deck ["script"] (defScope s__law_deck) := ⟨rfl, rfl, rfl, by decide +kernel, rfl, by decide +kernel, by decide +kernel⟩

theorem ok__law_deck (T : Txt K mg) (D : IsDef K mg "_law_deck" s__law_deck ["script"]) : Cal P w K mg base CX0 1 "_law_deck" ["script"] (spDeck K) := by
  refine D.cal sc__law_deck (fun vs H Q E h => ?_) (fun f cdv A outer s H vs Q E hr h => ?_)
  · obtain ⟨a, ns, rfl, _⟩ := h
    rfl
  obtain ⟨a, ns, rfl, hS, h63, q⟩ := h
  refine ⟨_, (pss_cons (ps_set (i := 1) sc__law_deck.nd rfl (Or.inl rfl) (pe_callTy call_list_of (by rfl) T.b_list (by decide +kernel) (pa_cons (pe_slice (r := rSlL K) sl_list (pv 0) po_none (po_some pe_int)) pa_nil)))
      (pss_cons (ps_if (pt_cmpR (op_eqD hr.units) (pv 1) (pe_lst pa_nil) (nomark _))
        (pss_one (ps_set (i := 1) sc__law_deck.nd rfl (Or.inl rfl) (pe_lst (pa_cons pe_int pa_nil))))
        pss_nil)
      (pss_one (ps_ret (pe_lst (pa_cons (pv 1) (pa_cons (pe_op op_mod (pe_callB call_len_seq (by rfl) T.b_len PySem.boot_len (pa_cons (pv 0) pa_nil)) pe_int) (pa_cons pe_int pa_nil)))))))), ?_⟩
  have hl : (ns.map V.int).length = ns.length := List.length_map _
  refine ⟨_, rfl, _, rfl, a, _, rfl, hS, fun p np => ?_⟩
  have g1 : Same H (upd H p (.lst (cutV (ns.map V.int) none (some 63)))) := same_new np _
  have ec : cutV (ns.map V.int) none (some 63) = ns.map V.int := by
    show ((ns.map V.int).drop (HT.sIx (ns.map V.int).length 0 none)).take (HT.sIx (ns.map V.int).length (ns.map V.int).length (some ((63 : Nat) : Int)) - HT.sIx (ns.map V.int).length 0 none) = ns.map V.int
    rw [HT.sIx_none, HT.sIx_nat, List.drop_zero, List.take_of_length_le]
    rw [hl]
    omega
  refine ⟨p, _, rfl, .inl (SqL.of upd_same), fun l nl => ?_⟩
  have g2 := g1.trans (same_new nl (.lst (cutV (ns.map V.int) none (some 63))))
  refine ⟨_, rfl, Nat.zero_le _, fun e ne => ?_⟩
  have le : l ≠ e := ne_of_none upd_same ne
  have dp : ∀ (H : Hp) (l : List Int), DpAll K H (l.map V.int) (l.map PyData.int) := fun H l => by
    induction l with
    | nil => exact .nil
    | cons x l ih => exact .cons (.int x) ih
  refine ⟨.list (ns.map PyData.int), .list [], .lst (xs := ns.map V.int) (SqL.of (by rw [upd_ne le, upd_same, ec])) (dp _ _), .lst (SqL.of upd_same) .nil, PySem.W.ke_shaped_ints ns, rfl, _, rfl, ?_⟩
  have fin : ∀ (H1 : Hp) (c : Addr) (zs : List Int), Same H H1 → H c = none → H1 c = some (.lst (zs.map V.int)) → 0 < zs.length → zs.length ≤ 63 → ∀ d, H1 d = none → ∀ m n : Int, Q (.ref d) (upd H1 d (.lst [.ref c, .int m, .int n])) := fun H1 c zs h1 hc0 hc z0 z63 d nd m n => by
    have cd : c ≠ d := ne_of_none hc nd
    exact q H _ d (Same.refl H) ⟨h1.trans (same_new nd _), h1.free nd, c, m, n, zs, hc0, upd_same, by rw [upd_ne cd]; exact hc, z0, z63⟩
  have g3 := g2.trans (same_new ne (.lst []))
  cases ns with
  | nil =>
    refine iteT ?_
    refine ⟨(by decide +kernel : 1 ≤ sizeLine), fun c nc => ?_⟩
    have g4 := g3.trans (same_new nc (.lst [.int 0]))
    refine ⟨_, rfl, _, rfl, a, _, rfl, .inl (g4.seq hS), _, _, rfl, rfl, (by show (0 : Int) < 2; decide), le_line (by show 3 ≤ 16777216; decide), fun d nd => ?_⟩
    exact fin _ c [0] g4 (g3.free nc) upd_same (by decide) (by decide) d nd _ _
  | cons x r =>
    refine iteF ?_
    refine ⟨_, rfl, _, rfl, a, _, rfl, .inl (g3.seq hS), _, _, rfl, rfl, (by show (0 : Int) < 2; decide), le_line (by show 3 ≤ 16777216; decide), fun d nd => ?_⟩
    exact fin _ l (x :: r) g3 ((same_new np _).free nl) (by rw [upd_ne le, upd_same, ec]) (Nat.succ_pos _) h63 d nd _ _
def names6 : List (List Nat) := [[97], [98], [97, 98], [120], [121], [122, 122, 122, 122, 122, 122, 122, 122]]
theorem six_is : ([.str "a", .str "b", .str "ab", .str "x", .str "y", .str "zzzzzzzz"] : List V) = txs names6 := by
  rw [show ("a" : Str) = SX.S [97] from by decide +kernel, show ("b" : Str) = SX.S [98] from by decide +kernel, show ("ab" : Str) = SX.S [97, 98] from by decide +kernel, show ("x" : Str) = SX.S [120] from by decide +kernel,
    show ("y" : Str) = SX.S [121] from by decide +kernel, show ("zzzzzzzz" : Str) = SX.S [122, 122, 122, 122, 122, 122, 122, 122] from by decide +kernel]
  all_goals rfl
theorem six_ok : ∀ s ∈ names6, Nm s := by unfold Nm; decide
theorem letters_ok : ∀ c ∈ letters, 97 ≤ c ∧ c ≤ 122 := by decide
abbrev s__law_name : Stmt := topS 15
abbrev N__law_name : List Str := ["deck", "letters", "k"]
theorem sc__law_name : FnScope N__law_name ["deck"] (defScope s__law_name) := ⟨rfl, rfl, rfl, by decide +kernel, rfl, by decide +kernel, by decide +kernel⟩

theorem ok__law_name (T : Txt K mg) (D : IsDef K mg "_law_name" s__law_name ["deck"]) (C__law_draw : Cal P w K mg base CX0 1 "_law_draw" ["deck", "many"] spDraw) : Cal P w K mg base CX0 2 "_law_name" ["deck"] spName := by
  refine D.cal sc__law_name (fun vs H Q E h => ?_) (fun f cdv A outer s H vs Q E hr h => ?_)
  · obtain ⟨B, d, rfl, _⟩ := h
    rfl
  obtain ⟨B, d, rfl, hD, q⟩ := h
  refine ⟨_, (pss_cons (ps_if (pt_cmpR op_gt (pe_cal C__law_draw (hr.mono (by first | decide | omega)) pass0 (pa_cons (pv 0) (pa_cons pe_int pa_nil))) pe_int (nomark _))
        (pss_one (ps_ret (pe_ix (r := rIxL K) ix_list (pe_lst (pa_cons pe_str (pa_cons pe_str (pa_cons pe_str (pa_cons pe_str (pa_cons pe_str (pa_cons pe_str pa_nil))))))) (pe_cal C__law_draw (hr.mono (by first | decide | omega)) pass0 (pa_cons (pv 0) (pa_cons pe_int pa_nil))) (fun _ _ => rfl))))
        pss_nil)
      (pss_cons (ps_set (i := 1) sc__law_name.nd rfl (Or.inr rfl) pe_str)
      (pss_one (ps_ret (pe_join pe_str (pe_lc (own := [("k", 2)]) (g := gName 2)  (by rfl) sc__law_name.nd  (pi_range1 rfl T.b_range (pa_cons (pe_op op_add pe_int (pe_cal C__law_draw (hr.mono (by first | decide | omega)) pass0 (pa_cons (pv 0) (pa_cons pe_int pa_nil)))) pa_nil)) (blkOk_by (own := [("k", 2)]) (N := N__law_name) (sc := defScope s__law_name) (by decide +kernel)) (fun _ _ _ _ _ => (pg_name (i := 2) sc__law_name.nd rfl (Or.inl rfl))) (fun _ _ _ _ _ => pts_nil) (fun _ _ _ _ _ => (pe_item_str (pv 1) (pe_cal C__law_draw (hr.mono (by first | decide | omega)) pass0 (pa_cons (pv 0) (pa_cons pe_int pa_nil))) (fun _ _ => rfl))))))))), ?_⟩
  refine ⟨_, rfl, B, d, 4, rfl, hD, by decide, by decide, fun H1 v1 hD1 _ _ => ⟨_, _, rfl, rfl, _, rfl, ?_⟩⟩
  refine ite2 (fun _ => ?_) (fun _ => ?_)
  · refine ⟨le_line (by decide), fun p np => ?_⟩
    refine ⟨_, rfl, _, d, 6, rfl, hD1.new np _, by decide, by decide, fun H2 v hD2 v0 v6 => ?_⟩
    obtain ⟨x, hx, hat⟩ := one_of (xs := txs names6) v0 v6
    obtain ⟨s, hs, rfl⟩ := txs_mem hx
    refine ⟨p, _, v, _, rfl, rfl, SqL.of (hD2.1 _ _ upd_same), by rw [six_is]; exact hat, ?_⟩
    exact q _ _ s (same_new (hD1.free np) _) hD2 (six_ok s hs)
  · refine ⟨⟨_, rfl⟩, _, rfl, B, d, 8, rfl, hD1, by decide, by decide, fun H2 n hD2 n0 n8 => ⟨_, _, rfl, rfl, 1 + n, rfl, Int.le_trans (by decide) (Int.add_nonneg (by decide) n0), by omega, ?_⟩⟩
    refine fun L nL => lc_range (lo := 0) (n := (1 + n).toNat) (fun i H => ∃ (B' : Hp) (ss : List Nat), Same B B' ∧ DeckAt B' H d ∧ B' L = some (.lst (txs (ones ss))) ∧ ss.length = i ∧ ∀ c ∈ ss, 97 ≤ c ∧ c ≤ 122)
      ⟨_, [], same_new (hD2.free nL) _, hD2.new nL _, upd_same, rfl, by simp⟩ ?_ ?_
    · rintro i H3 hi ⟨B', ss, hB, hD3, hL, hn, hc⟩
      refine ⟨rfl, _, rfl, _, rfl, B', d, 26, rfl, hD3, by decide, by decide, fun H4 v hD4 v0 v26 => ?_⟩
      have hv : v.toNat < letters.length := by show v.toNat < 26; omega
      refine ⟨_, v, letters[v.toNat], rfl, rfl, v0, by omega, by rw [letters_is, SX.S_len]; exact v26, ?_, _, hD4.1 _ _ hL, ?_, ?_⟩
      · rw [letters_is]
        show letters.toArray[v.toNat]? = _
        rw [List.getElem?_toArray, List.getElem?_eq_getElem hv]
      · rw [txs_len, ones_len, hn]
        exact lt_line (by omega)
      · refine ⟨upd B' L _, ss ++ [letters[v.toNat]], fun b o e => ?_, hD4.put hL _, ?_, by rw [List.length_append, hn]; rfl, fun c hcm => ?_⟩
        · have z : b ≠ L := fun z => by
            rw [z] at e
            rw [hD2.free nL] at e
            cases e
          rw [upd_ne z]
          exact hB b o e
        · rw [upd_same]
          unfold ones
          rw [List.map_append, txs_app]
          rfl
        · rcases List.mem_append.mp hcm with h | h
          · exact hc c h
          · rw [List.mem_singleton.mp h]
            exact letters_ok _ (List.getElem_mem hv)
    · rintro H3 ⟨B', ss, hB, hD3, hL, hn, hc⟩
      have e0 : ("" : Str) = SX.S [] := by decide +kernel
      have ej : Txt.join "" ((ones ss).map SX.S) = SX.S ss := by
        rw [e0]
        refine (SX.join_S [] (ones ss)).trans ?_
        rw [joinL_nil, ones_flat]
      refine ⟨"", L, (ones ss).map SX.S, rfl, rfl, .inl (SqL.of (hD3.1 _ _ hL)), ?_, ?_⟩
      · rw [ones_sum, List.length_map, ones_len, e0, SX.S_len]
        show ss.length + ss.length * 0 ≤ 16777216
        omega
      · rw [ej]
        exact q B' _ ss hB hD3 ⟨by omega, by omega, hc⟩
end
def spRecipe (k : Nat) : Sp := fun vs H Q _ => ∃ (B : Hp) (d l : Addr) (deep n : Int), vs = [.ref d, .int deep, .ref l] ∧ DeckAt B H d ∧ B l = some (.lst [.int n]) ∧ 1 ≤ deep ∧ deep ≤ k ∧
  ∀ (B' H' : Hp) (n' : Int) (v : V) (r : Rcp), (∀ b o, b ≠ l → B b = some o → B' b = some o) → B' l = some (.lst [.int n']) → DeckAt B' H' d → Rec B' r v → r.Good → (r.dep : Int) ≤ deep → (r.siz : Int) = n - n' → (n - 1 ≤ n' ∨ -2 * (deep - 1) ≤ n') → Q v H'
theorem keep_but {B B' : Hp} {l : Addr} {xs : List V} (h : B l = some (.lst xs)) (k : ∀ b o, b ≠ l → B b = some o → B' b = some o) : Keep B B' := fun b ys q =>
  k b _ (fun e => by rw [e, h] at q; cases q) q
theorem kind_is {n : Int} (h0 : 0 ≤ n) (h : n < 5) : ∃ k : Kd, atI ([.str "plus", .str "minus", .str "times", .str "most", .str "plus"] : List V) n = some (.str k.name) := by
  have e : n = 0 ∨ n = 1 ∨ n = 2 ∨ n = 3 ∨ n = 4 := by omega
  rcases e with e | e | e | e | e <;> subst e
  · exact ⟨.plus, rfl⟩
  · exact ⟨.minus, rfl⟩
  · exact ⟨.times, rfl⟩
  · exact ⟨.most, rfl⟩
  · exact ⟨.plus, rfl⟩
section
variable {P : Program} {w : World} {K : PySem.W.Frag} {mg : Str → Option Value} {base : Heap}
abbrev s__law_number : Stmt := topS 16
abbrev N__law_number : List Str := ["deck", "great"]
theorem sc__law_number : FnScope N__law_number ["deck"] (defScope s__law_number) := ⟨rfl, rfl, rfl, by decide +kernel, rfl, by decide +kernel, by decide +kernel⟩

theorem ok__law_number (T : Txt K mg) (D : IsDef K mg "_law_number" s__law_number ["deck"]) (C__law_draw : Cal P w K mg base CX0 1 "_law_draw" ["deck", "many"] spDraw) : Cal P w K mg base CX0 2 "_law_number" ["deck"] spNumber := by
  refine D.cal sc__law_number (fun vs H Q E h => ?_) (fun f cdv A outer s H vs Q E hr h => ?_)
  · obtain ⟨B, d, rfl, _⟩ := h
    rfl
  obtain ⟨B, d, rfl, hD, q⟩ := h
  refine ⟨_, (pss_cons (ps_if (pt_cmpR op_gt (pe_cal C__law_draw (hr.mono (by first | decide | omega)) pass0 (pa_cons (pv 0) (pa_cons pe_int pa_nil))) pe_int (nomark _))
        (pss_one (ps_ret (pe_op op_sub (pe_cal C__law_draw (hr.mono (by first | decide | omega)) pass0 (pa_cons (pv 0) (pa_cons pe_int pa_nil))) pe_int)))
        pss_nil)
      (pss_cons (ps_set (i := 1) sc__law_number.nd rfl (Or.inl rfl) (pe_op op_sub (pe_op op_pow pe_int pe_int) pe_int))
      (pss_one (ps_ret (pe_op op_sub (pe_cal C__law_draw (hr.mono (by first | decide | omega)) pass0 (pa_cons (pv 0) (pa_cons (pe_op op_add (pe_op op_mul pe_int (pv 1)) pe_int) pa_nil))) (pv 1)))))), ?_⟩
  refine ⟨_, rfl, B, d, 4, rfl, hD, by decide, by decide, fun H1 v1 hD1 _ _ => ⟨_, _, rfl, rfl, _, rfl, ?_⟩⟩
  refine ite2 (fun _ => ?_) (fun _ => ?_)
  · refine ⟨_, rfl, B, d, 21, rfl, hD1, by decide, by decide, fun H2 v hD2 v0 v6 => ⟨_, _, rfl, rfl, q _ _ hD2 ?_⟩⟩
    have : (v - 10).natAbs ≤ 10 := by omega
    exact Nat.lt_of_le_of_lt this (by decide)
  · refine ⟨10, 40, rfl, rfl, ⟨by decide, by decide, by decide⟩, _, _, rfl, rfl, ?_⟩
    refine ⟨_, rfl, _, rfl, _, _, rfl, rfl, .inl ⟨by decide, by decide⟩, _, _, rfl, rfl, B, d, _, rfl, hD1, by decide, by decide, fun H2 v hD2 v0 v6 => ⟨_, rfl, _, _, rfl, rfl, q _ _ hD2 ?_⟩⟩
    have e1 : (10 : Int) ^ (40 : Int).toNat - 1 = 9999999999999999999999999999999999999999 := by decide
    rw [e1] at v6 ⊢
    have e2 : (10 : Nat) ^ 40 = 10000000000000000000000000000000000000000 := by decide
    rw [e2]
    omega
abbrev s__law_recipe : Stmt := topS 17
abbrev N__law_recipe : List Str := ["deck", "deep", "left", "kind", "one", "word", "two", "k"]
theorem sc__law_recipe : FnScope N__law_recipe ["deck", "deep", "left"] (defScope s__law_recipe) := ⟨rfl, rfl, rfl, by decide +kernel, rfl, by decide +kernel, by decide +kernel⟩

theorem ok__law_recipe (T : Txt K mg) (D : IsDef K mg "_law_recipe" s__law_recipe ["deck", "deep", "left"]) (C__law_draw : Cal P w K mg base CX0 1 "_law_draw" ["deck", "many"] spDraw)
    (C__law_number : Cal P w K mg base CX0 2 "_law_number" ["deck"] spNumber) (C__law_name : Cal P w K mg base CX0 2 "_law_name" ["deck"] spName) {k : Nat}
    (C__law_recipe : Cal P w K mg base CX0 (k + 3) "_law_recipe" ["deck", "deep", "left"] (spRecipe k)) : Cal P w K mg base CX0 (k + 4) "_law_recipe" ["deck", "deep", "left"] (spRecipe (k + 1)) := by
  refine D.cal sc__law_recipe (fun vs H Q E h => ?_) (fun f cdv A outer s H vs Q E hr h => ?_)
  · obtain ⟨B, d, l, deep, n, rfl, _⟩ := h
    rfl
  obtain ⟨B, d, l, deep, n, rfl, hD, hl, d1, dk, q⟩ := h
  refine ⟨_, (pss_cons (ps_asg (pe_op op_sub (pe_ix (r := rIxL K) ix_list (pv 2) pe_int (fun _ _ => rfl)) pe_int) (pg_sub (pv 2) pe_int set_list))
      (pss_cons (ps_set (i := 3) sc__law_recipe.nd rfl (Or.inl rfl) (pe_cal C__law_draw (hr.mono (by first | decide | omega)) pass0 (pa_cons (pv 0) (pa_cons pe_int pa_nil))))
      (pss_cons (ps_if (PW.pt (pw_or (pt_cmpR op_lt (pv 1) pe_int (nomark _)) (pw_or (pt_cmpR op_lt (pe_ix (r := rIxL K) ix_list (pv 2) pe_int (fun _ _ => rfl)) pe_int (nomark _)) (pw_or1 (pt_cmpR op_lt (pv 3) pe_int (nomark _))))))
        (pss_cons (ps_if (pt_cmpR op_eq (pe_cal C__law_draw (hr.mono (by first | decide | omega)) pass0 (pa_cons (pv 0) (pa_cons pe_int pa_nil))) pe_int (nomark _))
        (pss_one (ps_ret (pe_tup (pa_cons pe_str (pa_cons (pe_cal C__law_number (hr.mono (by first | decide | omega)) pass0 (pa_cons (pv 0) pa_nil)) pa_nil)))))
        pss_nil)
      (pss_one (ps_ret (pe_tup (pa_cons pe_str (pa_cons (pe_cal C__law_name (hr.mono (by first | decide | omega)) pass0 (pa_cons (pv 0) pa_nil)) pa_nil))))))
        pss_nil)
      (pss_cons (ps_set (i := 4) sc__law_recipe.nd rfl (Or.inl rfl) (pe_cal C__law_recipe (hr.mono (by first | decide | omega)) pass0 (pa_cons (pv 0) (pa_cons (pe_op op_sub (pv 1) pe_int) (pa_cons (pv 2) pa_nil)))))
      (pss_cons (ps_if (pt_cmpR op_lt (pv 3) pe_int (nomark _))
        (pss_cons (ps_set (i := 5) sc__law_recipe.nd rfl (Or.inl rfl) (pe_ix (r := rIxL K) ix_list (pe_lst (pa_cons pe_str (pa_cons pe_str (pa_cons pe_str (pa_cons pe_str (pa_cons pe_str pa_nil)))))) (pe_op op_sub (pv 3) pe_int) (fun _ _ => rfl)))
      (pss_one (ps_ret (pe_tup (pa_cons (pv 5) (pa_cons (pv 4) (pa_cons (pe_cal C__law_recipe (hr.mono (by first | decide | omega)) pass0 (pa_cons (pv 0) (pa_cons (pe_op op_sub (pv 1) pe_int) (pa_cons (pv 2) pa_nil)))) pa_nil)))))))
        pss_nil)
      (pss_cons (ps_if (pt_cmpR op_eq (pv 3) pe_int (nomark _))
        (pss_cons (ps_set (i := 6) sc__law_recipe.nd rfl (Or.inl rfl) (pe_cal C__law_recipe (hr.mono (by first | decide | omega)) pass0 (pa_cons (pv 0) (pa_cons (pe_op op_sub (pv 1) pe_int) (pa_cons (pv 2) pa_nil)))))
      (pss_one (ps_ret (pe_tup (pa_cons pe_str (pa_cons (pv 4) (pa_cons (pv 6) (pa_cons (pe_cal C__law_recipe (hr.mono (by first | decide | omega)) pass0 (pa_cons (pv 0) (pa_cons (pe_op op_sub (pv 1) pe_int) (pa_cons (pv 2) pa_nil)))) pa_nil))))))))
        pss_nil)
      (pss_one (ps_ret (pe_tup (pa_cons pe_str (pa_cons (pv 4) (pa_cons (pe_callTy call_tuple_of (by rfl) T.b_tuple (by decide +kernel) (pa_cons (pe_lc (own := [("k", 7)]) (g := gName 7)  (by rfl) sc__law_recipe.nd  (pi_range1 rfl T.b_range (pa_cons (pe_op op_add pe_int (pe_cal C__law_draw (hr.mono (by first | decide | omega)) pass0 (pa_cons (pv 0) (pa_cons pe_int pa_nil)))) pa_nil)) (blkOk_by (own := [("k", 7)]) (N := N__law_recipe) (sc := defScope s__law_recipe) (by decide +kernel)) (fun _ _ _ _ _ => (pg_name (i := 7) sc__law_recipe.nd rfl (Or.inl rfl))) (fun _ _ _ _ _ => pts_nil) (fun _ _ _ _ _ => (pe_cal C__law_name (hr.mono (by first | decide | omega)) pass0 (pa_cons (pv 0) pa_nil)))) pa_nil)) pa_nil)))))))))))), ?_⟩
  -- left[0] = left[0] - 1
  refine ⟨_, rfl, l, _, _, _, rfl, rfl, SqL.of (hD.1 _ _ hl), rfl, _, _, rfl, rfl, _, rfl, l, _, _, _, rfl, rfl, hD.1 _ _ hl, rfl, ?_⟩
  have hD1 : DeckAt (upd B l (.lst [.int (n - 1)])) (upd H l (.lst [.int (n - 1)])) d := hD.put hl _
  have hl1 : upd B l (.lst [.int (n - 1)]) l = some (.lst [.int (n - 1)]) := upd_same
  have hb1 : ∀ b o, b ≠ l → B b = some o → upd B l (.lst [.int (n - 1)]) b = some o := fun b o z e => by rw [upd_ne z]; exact e
  -- kind = _law_draw(deck, 10)
  refine ⟨_, rfl, _, d, 10, rfl, hD1, by decide, by decide, fun H2 kind hD2 k0 k10 => ?_⟩
  refine ⟨_, rfl, _, _, rfl, rfl, _, rfl, ite2 (fun c1 => ?leaf1) (fun c1 => ⟨_, rfl, l, _, _, _, rfl, rfl, SqL.of (hD2.1 _ _ hl1), rfl, _, _, rfl, rfl, _, rfl, ite2 (fun c2 => ?leaf2) (fun c2 => ⟨_, rfl, _, _, rfl, rfl, _, rfl, ite2 (fun c3 => ?leaf3) (fun c3 => ?main)⟩)⟩)⟩
  case main =>
    have hdeep : 2 ≤ deep := by
      have : ¬ deep < 2 := fun z => c1 (decide_eq_true z)
      omega
    have hn1 : 1 ≤ n - 1 := by
      have : ¬ n - 1 < 1 := fun z => c2 (decide_eq_true z)
      omega
    have hk2 : 2 ≤ kind := by
      have : ¬ kind < 2 := fun z => c3 (decide_eq_true z)
      omega
    -- one = _law_recipe(deck, deep - 1, left)
    refine ⟨_, rfl, _, rfl, _, _, rfl, rfl, _, rfl, _, d, l, deep - 1, n - 1, rfl, hD2, hl1, by omega, by omega, fun B3 H3 n3 v3 r3 hb3 hl3 hD3 rr3 g3 dp3 sz3 mn3 => ?_⟩
    refine ⟨_, rfl, _, _, rfl, rfl, _, rfl, ite2 (fun c4 => ?_) (fun c4 => ?_)⟩
    · have hk7 : kind < 7 := of_decide_eq_true c4
      obtain ⟨kd, hkd⟩ := kind_is (n := kind - 2) (by omega) (by omega)
      refine ⟨le_line (Nat.le_of_ble_eq_true rfl), fun p np => ⟨_, rfl, _, _, rfl, rfl, p, _, _, _, rfl, rfl, SqL.of upd_same, hkd, ?_⟩⟩
      have hD3' := hD3.new np (.lst [.str "plus", .str "minus", .str "times", .str "most", .str "plus"])
      have lp : l ≠ p := ne_of_none (hD3.1 _ _ hl3) np
      have np' : B3 p = none := hD3.free np
      refine ⟨_, rfl, _, rfl, _, rfl, _, rfl, _, _, rfl, rfl, _, rfl, _, d, l, deep - 1, n3, rfl, hD3', by rw [upd_ne lp]; exact hl3, by omega, by omega, fun B4 H4 n4 v4 r4 hb4 hl4 hD4 rr4 g4 dp4 sz4 mn4 => ?_⟩
      refine ⟨le_line (Nat.le_of_ble_eq_true rfl), fun t nt => ?_⟩
      have nt' : B4 t = none := hD4.free nt
      have hpl : upd B3 p (.lst [.str "plus", .str "minus", .str "times", .str "most", .str "plus"]) l = some (.lst [.int n3]) := by rw [upd_ne lp]; exact hl3
      have tl : l ≠ t := ne_of_none hl4 nt'
      have k4 : Keep B4 (upd B4 t (.tup [.str kd.name, v3, v4])) := same_keep (same_new nt' _)
      refine q _ _ n4 (.ref t) (.two kd r3 r4) (fun b o z e => ?_) (by rw [upd_ne tl]; exact hl4) (hD4.new nt _) ⟨t, v3, v4, rfl, upd_same, ?_, rr4.keep k4⟩ ⟨g3, g4⟩ ?_ ?_ ?_
      · have e4 := hb4 b o z (same_new np' _ b o (hb3 b o z (hb1 b o z e)))
        rw [upd_ne (ne_of_none e4 nt')]
        exact e4
      · exact rr3.keep (((same_keep (same_new np' _)).trans (keep_but hpl hb4)).trans k4)
      · show ((max r3.dep r4.dep + 1 : Nat) : Int) ≤ deep
        omega
      · show ((r3.siz + r4.siz + 1 : Nat) : Int) = n - n4
        omega
      · omega
    · have hk7 : 7 ≤ kind := by
        have : ¬ kind < 7 := fun z => c4 (decide_eq_true z)
        omega
      refine ⟨_, rfl, rfl, _, rfl, ite2 (fun c5 => ?_) (fun c5 => ?_)⟩
      · refine ⟨_, rfl, _, rfl, _, _, rfl, rfl, _, rfl, _, d, l, deep - 1, n3, rfl, hD3, hl3, by omega, by omega, fun B4 H4 n4 v4 r4 hb4 hl4 hD4 rr4 g4 dp4 sz4 mn4 => ?_⟩
        refine ⟨_, rfl, _, rfl, _, rfl, _, rfl, _, _, rfl, rfl, _, rfl, _, d, l, deep - 1, n4, rfl, hD4, hl4, by omega, by omega, fun B5 H5 n5 v5 r5 hb5 hl5 hD5 rr5 g5 dp5 sz5 mn5 => ?_⟩
        refine ⟨le_line (Nat.le_of_ble_eq_true rfl), fun t nt => ?_⟩
        have nt' : B5 t = none := hD5.free nt
        have tl : l ≠ t := ne_of_none hl5 nt'
        have k5 : Keep B5 (upd B5 t (.tup [.str "pick", v3, v4, v5])) := same_keep (same_new nt' _)
        refine q _ _ n5 (.ref t) (.pick r3 r4 r5) (fun b o z e => ?_) (by rw [upd_ne tl]; exact hl5) (hD5.new nt _) ⟨t, v3, v4, v5, rfl, upd_same, ?_, ?_, rr5.keep k5⟩ ⟨g3, g4, g5⟩ ?_ ?_ ?_
        · have e4 := hb5 b o z (hb4 b o z (hb3 b o z (hb1 b o z e)))
          rw [upd_ne (ne_of_none e4 nt')]
          exact e4
        · exact rr3.keep (((keep_but hl3 hb4).trans (keep_but hl4 hb5)).trans k5)
        · exact rr4.keep ((keep_but hl4 hb5).trans k5)
        · show ((max r3.dep (max r4.dep r5.dep) + 1 : Nat) : Int) ≤ deep
          omega
        · show ((r3.siz + r4.siz + r5.siz + 1 : Nat) : Int) = n - n5
          omega
        · omega
      · refine ⟨_, rfl, _, rfl, B3, d, 9, rfl, hD3, by decide, by decide, fun H4 m hD4 m0 m9 => ⟨_, _, rfl, rfl, 1 + m, rfl, Int.le_trans (by decide) (Int.add_nonneg (by decide) m0), by omega, ?_⟩⟩
        refine fun L nL => lc_range (lo := 0) (n := (1 + m).toNat) (fun i H => ∃ (B' : Hp) (ss : List (List Nat)), Same B3 B' ∧ DeckAt B' H d ∧ B' L = some (.lst (txs ss)) ∧ ss.length = i ∧ ∀ s ∈ ss, Nm s)
          ⟨_, [], same_new (hD4.free nL) _, hD4.new nL _, upd_same, rfl, by simp⟩ ?_ ?_
        · rintro i H5 hi ⟨B', ss, hB, hD5, hL, hn, hc⟩
          refine ⟨rfl, _, rfl, B', d, rfl, hD5, fun B6 H6 s hB6 hD6 hs => ⟨_, hD6.1 _ _ (hB6 _ _ hL), by rw [txs_len, hn]; exact lt_line (by omega), ?_⟩⟩
          refine ⟨upd B6 L _, ss ++ [s], fun b o e => ?_, hD6.put (hB6 _ _ hL) _, by rw [upd_same, txs_app]; rfl, by rw [List.length_append, hn]; rfl, fun c hcm => ?_⟩
          · have z : b ≠ L := fun z => by
              rw [z] at e
              rw [hD4.free nL] at e
              cases e
            rw [upd_ne z]
            exact hB6 b o (hB b o e)
          · rcases List.mem_append.mp hcm with h | h
            · exact hc c h
            · rw [List.mem_singleton.mp h]
              exact hs
        · rintro H5 ⟨B', ss, hB, hD5, hL, hn, hc⟩
          refine ⟨L, _, rfl, .inl ⟨SqL.of (hD5.1 _ _ hL), fun u nu => ⟨le_line (Nat.le_of_ble_eq_true rfl), fun t nt => ?_⟩⟩⟩
          have ut : u ≠ t := ne_of_none upd_same nt
          have nu' : B' u = none := hD5.free nu
          have hDu := hD5.new nu (.tup (txs ss))
          have nt' : upd B' u (.tup (txs ss)) t = none := hDu.free nt
          have hl' : B' l = some (.lst [.int n3]) := hB _ _ hl3
          have lu : l ≠ u := ne_of_none hl' nu'
          have hlu : upd B' u (.tup (txs ss)) l = some (.lst [.int n3]) := by rw [upd_ne lu]; exact hl'
          have tl : l ≠ t := ne_of_none hlu nt'
          refine q _ _ n3 (.ref t) (.choose r3 ss) (fun b o z e => ?_) (by rw [upd_ne tl]; exact hlu) (hDu.new nt _) ⟨t, v3, u, rfl, upd_same, ?_, by rw [upd_ne ut, upd_same]⟩ ⟨g3, by omega, by omega, hc⟩ ?_ ?_ ?_
          · exact same_new nt' _ b o (same_new nu' _ b o (hB b o (hb3 b o z (hb1 b o z e))))
          · exact rr3.same ((hB.trans (same_new nu' _)).trans (same_new nt' _))
          · show ((r3.dep + 1 : Nat) : Int) ≤ deep
            omega
          · show ((r3.siz + 1 : Nat) : Int) = n - n3
            omega
          · omega
  all_goals
    refine ⟨_, rfl, _, d, 2, rfl, hD2, by decide, by decide, fun H3 c hD3 _ _ => ⟨rfl, _, rfl, ite2 (fun _ => ?_) (fun _ => ?_)⟩⟩
    · refine ⟨_, rfl, _, d, rfl, hD3, fun H4 x hD4 hx => ⟨le_line (Nat.le_of_ble_eq_true rfl), fun t nt => ?_⟩⟩
      have nt' := hD4.free nt
      have tl : l ≠ t := ne_of_none hl1 nt'
      refine q _ _ (n - 1) (.ref t) (.num x) (fun b o z e => same_new nt' _ b o (hb1 b o z e)) (by rw [upd_ne tl]; exact hl1) (hD4.new nt _) ⟨t, rfl, upd_same⟩ hx ?_ ?_ ?_
      · show ((1 : Nat) : Int) ≤ deep
        omega
      · show ((1 : Nat) : Int) = n - (n - 1)
        omega
      · omega
    · refine ⟨_, rfl, _, d, rfl, hD3, fun B4 H4 x hB4 hD4 hx => ⟨le_line (Nat.le_of_ble_eq_true rfl), fun t nt => ?_⟩⟩
      have nt' := hD4.free nt
      have hl4 := hB4 _ _ hl1
      have tl : l ≠ t := ne_of_none hl4 nt'
      refine q _ _ (n - 1) (.ref t) (.read x) (fun b o z e => same_new nt' _ b o (hB4 b o (hb1 b o z e))) (by rw [upd_ne tl]; exact hl4) (hD4.new nt _) ⟨t, rfl, upd_same⟩ hx ?_ ?_ ?_
      · show ((1 : Nat) : Int) ≤ deep
        omega
      · show ((1 : Nat) : Int) = n - (n - 1)
        omega
      · omega
/-- of no depth none is asked -/
theorem cal_none {x : Str} {st : Stmt} {ps : List Str} {sp : Sp} {CX : CXT} {k : Nat} (D : IsDef K mg x st ps) (no : ∀ vs H Q E, ¬ sp vs H Q E) : Cal P w K mg base CX k x ps sp := by
  obtain ⟨f, fd, F, m, b⟩ := D
  exact ⟨f, fd, ⟨fun vs H Q E h => absurd h (no vs H Q E), fun A outer s H args us vs Q E _ _ _ _ h => absurd h (no vs H Q E)⟩, m, F.kp, b⟩
theorem all__law_recipe (T : Txt K mg) (D : IsDef K mg "_law_recipe" s__law_recipe ["deck", "deep", "left"]) (C__law_draw : Cal P w K mg base CX0 1 "_law_draw" ["deck", "many"] spDraw)
    (C__law_number : Cal P w K mg base CX0 2 "_law_number" ["deck"] spNumber) (C__law_name : Cal P w K mg base CX0 2 "_law_name" ["deck"] spName) :
    ∀ k : Nat, Cal P w K mg base CX0 (k + 3) "_law_recipe" ["deck", "deep", "left"] (spRecipe k)
  | 0 => cal_none D fun vs H Q E h => by
    obtain ⟨B, d, l, deep, n, _, _, _, h1, h2, _⟩ := h
    omega
  | k + 1 => ok__law_recipe T D C__law_draw C__law_number C__law_name (all__law_recipe T D C__law_draw C__law_number C__law_name k)
end
/-! ### rows of recipes -/
def Recs (H : Hp) : List Rcp → List V → Prop
  | [], [] => True
  | r :: rs, v :: vs => Rec H r v ∧ Recs H rs vs
  | _, _ => False
theorem Recs.keep {H H' : Hp} (k : Keep H H') : ∀ {rs : List Rcp} {vs : List V}, Recs H rs vs → Recs H' rs vs
  | [], [], _ => trivial
  | _ :: _, _ :: _, h => ⟨h.1.keep k, Recs.keep k h.2⟩
  | [], _ :: _, h => h.elim
  | _ :: _, [], h => h.elim
theorem Recs.len {H : Hp} : ∀ {rs : List Rcp} {vs : List V}, Recs H rs vs → vs.length = rs.length
  | [], [], _ => rfl
  | _ :: _, _ :: _, h => congrArg (· + 1) (Recs.len h.2)
  | [], _ :: _, h => h.elim
  | _ :: _, [], h => h.elim
theorem Recs.snoc {H : Hp} {r : Rcp} {v : V} (hr : Rec H r v) : ∀ {rs : List Rcp} {vs : List V}, Recs H rs vs → Recs H (rs ++ [r]) (vs ++ [v])
  | [], [], _ => ⟨hr, trivial⟩
  | _ :: _, _ :: _, h => ⟨h.1, Recs.snoc hr h.2⟩
  | [], _ :: _, h => h.elim
  | _ :: _, [], h => h.elim
theorem Recs.at {H : Hp} : ∀ {rs : List Rcp} {vs : List V} {i : Nat} {v : V}, Recs H rs vs → vs[i]? = some v → ∃ r, rs[i]? = some r ∧ Rec H r v
  | [], [], i, v, _, e => by simp at e
  | r :: _, _ :: _, 0, v, h, e => ⟨r, rfl, by cases e; exact h.1⟩
  | _ :: _, _ :: _, i + 1, v, h, e => Recs.at (i := i) h.2 (by simpa using e)
  | [], _ :: _, _, _, h, _ => h.elim
  | _ :: _, [], _, _, h, _ => h.elim
theorem Recs.get {H : Hp} {rs : List Rcp} {vs : List V} {i : Nat} (h : Recs H rs vs) (hi : i < rs.length) : ∃ v r, vs[i]? = some v ∧ rs[i]? = some r ∧ Rec H r v := by
  have hv : i < vs.length := by rw [h.len]; exact hi
  obtain ⟨r, e, hr⟩ := h.at (List.getElem?_eq_getElem hv)
  exact ⟨_, r, List.getElem?_eq_getElem hv, e, hr⟩
/-- a comprehension over a range with a step -/
theorem lcC {lo c : Int} {n : Nat} {g : TG} {tt : TT} {te : TE} {vs : List Nat} {σ : L2.St} {H1 : Hp} {D : Addr} {Qd : Hp → Prop} (Pv : Nat → Hp → Prop)
    (h0 : Pv 0 (upd H1 D (.lst [])))
    (hs : ∀ i H, i < n → Pv i H → g (.int (lo + (i : Nat) * c)) (wipe σ vs) H
      fun σ2 H2 => wipe σ2 vs = wipe σ vs ∧ tt σ2 H2
        fun b H3 => if b = true then te σ2 H3
          fun y H4 => ∃ acc, H4 D = some (.lst acc) ∧ acc.length < sizeLine ∧ Pv (i + 1) (upd H4 D (.lst (acc ++ [y])))
        else Pv (i + 1) H3)
    (hd : ∀ H, Pv n H → Qd H) :
    ∃ W : Nat → Nat → Hp → Prop, (∃ m, W 0 m (upd H1 D (.lst []))) ∧
      ∀ i m H, W i m H → ((Itc lo c n).stop i H ∧ Qd H) ∨ ((Itc lo c n).go i H ∧
        ∃ Nx : Hp → Prop, (∀ H', Nx H' → ∃ m', m' < m ∧ W (i + 1) m' H') ∧
          ∀ x H', (Itc lo c n).yld i H x H' → g x (wipe σ vs) H'
            fun σ2 H2 => wipe σ2 vs = wipe σ vs ∧ tt σ2 H2
              fun b H3 => if b = true then te σ2 H3
                fun y H4 => ∃ acc, H4 D = some (.lst acc) ∧ acc.length < sizeLine ∧ Nx (upd H4 D (.lst (acc ++ [y])))
              else Nx H3) := by
  refine ⟨fun i m H => m = n - i ∧ i ≤ n ∧ Pv i H, ⟨n, rfl, Nat.zero_le _, h0⟩, fun i m H w => ?_⟩
  obtain ⟨em, hi, p⟩ := w
  by_cases hlt : i < n
  · refine Or.inr ⟨hlt, Pv (i + 1), fun H' p' => ⟨n - (i + 1), by omega, rfl, hlt, p'⟩, fun x H' y => ?_⟩
    obtain ⟨e1, e2⟩ := y
    rw [e1, e2]
    exact hs i H hlt p
  · have e : i = n := by omega
    rw [e] at p
    exact Or.inl ⟨by show n ≤ i; omega, hd H p⟩
theorem cut_nat (xs : List V) {a b : Nat} (h : a ≤ b) : cutV xs (some (a : Int)) (some (b : Int)) = (xs.drop a).take (b - a) := by
  show (xs.drop (HT.sIx xs.length 0 (some (a : Int)))).take (HT.sIx xs.length xs.length (some (b : Int)) - HT.sIx xs.length 0 (some (a : Int))) = _
  rw [HT.sIx_nat, HT.sIx_nat]
  by_cases ha : a ≤ xs.length
  · rw [Nat.min_eq_left ha]
    by_cases hb : b ≤ xs.length
    · rw [Nat.min_eq_left hb]
    · rw [Nat.min_eq_right (by omega), List.take_of_length_le (by rw [List.length_drop]; omega), List.take_of_length_le (by rw [List.length_drop]; omega)]
  · have e1 : min a xs.length = xs.length := by omega
    rw [e1, List.drop_eq_nil_of_le (Nat.le_refl _), List.drop_eq_nil_of_le (by omega), List.take_nil, List.take_nil]
theorem cut_to (xs : List V) (b : Nat) : cutV xs none (some (b : Int)) = xs.take b := by
  show (xs.drop (HT.sIx xs.length 0 none)).take (HT.sIx xs.length xs.length (some (b : Int)) - HT.sIx xs.length 0 none) = _
  rw [HT.sIx_none, HT.sIx_nat, List.drop_zero, Nat.sub_zero]
  by_cases hb : b ≤ xs.length
  · rw [Nat.min_eq_left hb]
  · rw [Nat.min_eq_right (by omega), List.take_of_length_le (Nat.le_refl _), List.take_of_length_le (by omega)]
/-! ### any things as data -/
inductive Th where
  | non
  | bl (b : Bool)
  | int (i : Int)
  | str (s : List Nat)
  | tup (l : List Th)
  | lst (l : List Th)
  | dct
mutual
/-- the value stands for the thing in H -/
def Data (H : Hp) : Th → V → Prop
  | .non, v => v = .non
  | .bl b, v => v = .bl b
  | .int i, v => v = .int i
  | .str s, v => v = .str (SX.S s)
  | .tup l, v => ∃ p xs, v = .ref p ∧ H p = some (.tup xs) ∧ DataL H l xs
  | .lst l, v => ∃ p xs, v = .ref p ∧ H p = some (.lst xs) ∧ DataL H l xs
  | .dct, v => ∃ p kvs, v = .ref p ∧ H p = some (.dK kvs)
def DataL (H : Hp) : List Th → List V → Prop
  | [], xs => xs = []
  | t :: l, xs => ∃ x r, xs = x :: r ∧ Data H t x ∧ DataL H l r
end
mutual
theorem Data.same {H H' : Hp} (s : Same H H') : ∀ {t : Th} {v : V}, Data H t v → Data H' t v
  | .non, _, h => h
  | .bl _, _, h => h
  | .int _, _, h => h
  | .str _, _, h => h
  | .tup _, _, ⟨p, xs, e, hp, hl⟩ => ⟨p, xs, e, s _ _ hp, DataL.same s hl⟩
  | .lst _, _, ⟨p, xs, e, hp, hl⟩ => ⟨p, xs, e, s _ _ hp, DataL.same s hl⟩
  | .dct, _, ⟨p, kvs, e, hp⟩ => ⟨p, kvs, e, s _ _ hp⟩
theorem DataL.same {H H' : Hp} (s : Same H H') : ∀ {l : List Th} {xs : List V}, DataL H l xs → DataL H' l xs
  | [], _, h => h
  | _ :: _, _, ⟨x, r, e, h1, h2⟩ => ⟨x, r, e, Data.same s h1, DataL.same s h2⟩
end
theorem DataL.len {H : Hp} : ∀ {l : List Th} {xs : List V}, DataL H l xs → xs.length = l.length
  | [], _, h => by rw [show _ = [] from h]; rfl
  | _ :: _, _, ⟨x, r, e, _, h2⟩ => by rw [e, List.length_cons, DataL.len h2]; rfl
theorem DataL.at {H : Hp} : ∀ {l : List Th} {xs : List V} {i : Nat} {v : V}, DataL H l xs → xs[i]? = some v → ∃ t, l[i]? = some t ∧ Data H t v
  | [], _, i, v, h, e => by rw [show _ = [] from h] at e; simp at e
  | t :: _, _, 0, v, ⟨x, r, e1, h1, _⟩, e => by subst e1; cases e; exact ⟨t, rfl, h1⟩
  | _ :: _, _, i + 1, v, ⟨x, r, e1, _, h2⟩, e => by subst e1; exact DataL.at (i := i) h2 (by simpa using e)
theorem DataL.get {H : Hp} {l : List Th} {xs : List V} {i : Nat} {t : Th} (h : DataL H l xs) (e : l[i]? = some t) : ∃ v, xs[i]? = some v ∧ Data H t v := by
  have hi : i < xs.length := by
    rw [h.len]
    exact (List.getElem?_eq_some_iff.mp e).1
  obtain ⟨t', e', hd⟩ := h.at (List.getElem?_eq_getElem hi)
  rw [e] at e'
  cases e'
  exact ⟨_, List.getElem?_eq_getElem hi, hd⟩
theorem DataL.drop {H : Hp} : ∀ {l : List Th} {xs : List V} (n : Nat), DataL H l xs → DataL H (l.drop n) (xs.drop n)
  | _, _, 0, h => h
  | [], _, n + 1, h => by rw [show _ = [] from h]; exact rfl
  | _ :: _, _, n + 1, ⟨x, r, e, _, h2⟩ => by subst e; exact DataL.drop n h2
theorem DataL.take {H : Hp} : ∀ {l : List Th} {xs : List V} (n : Nat), DataL H l xs → DataL H (l.take n) (xs.take n)
  | _, _, 0, _ => rfl
  | [], _, n + 1, h => by rw [show _ = [] from h]; exact rfl
  | _ :: _, _, n + 1, ⟨x, r, e, h1, h2⟩ => by subst e; exact ⟨x, _, rfl, h1, DataL.take n h2⟩
theorem DataL.snoc {H : Hp} {t : Th} {v : V} (h : Data H t v) : ∀ {l : List Th} {xs : List V}, DataL H l xs → DataL H (l ++ [t]) (xs ++ [v])
  | [], _, e => by rw [show _ = [] from e]; exact ⟨v, [], rfl, h, rfl⟩
  | _ :: _, _, ⟨x, r, e, h1, h2⟩ => by subst e; exact ⟨x, _, rfl, h1, DataL.snoc h h2⟩
mutual
/-- without dicts -/
def Th.flat : Th → Bool
  | .dct => false
  | .tup l => Th.flatL l
  | .lst l => Th.flatL l
  | _ => true
def Th.flatL : List Th → Bool
  | [] => true
  | t :: l => t.flat && Th.flatL l
end
mutual
def Th.py : Th → PyData
  | .non => .none
  | .bl b => .bool b
  | .int i => .int i
  | .str s => .str (SX.S s)
  | .tup l => .tuple (Th.pyL l)
  | .lst l => .list (Th.pyL l)
  | .dct => .none
def Th.pyL : List Th → List PyData
  | [] => []
  | t :: l => t.py :: Th.pyL l
end
mutual
theorem Data.dp {K : PySem.W.Frag} {H : Hp} : ∀ {t : Th} {v : V}, t.flat = true → Data H t v → Dp K H v t.py
  | .non, _, _, h => by rw [show _ = V.non from h]; exact .non
  | .bl _, _, _, h => by rw [show _ = V.bl _ from h]; exact .bl _
  | .int _, _, _, h => by rw [show _ = V.int _ from h]; exact .int _
  | .str _, _, _, h => by rw [show _ = V.str _ from h]; exact .str _
  | .tup l, _, f, ⟨p, xs, e, hp, hl⟩ => by rw [e]; exact .tup (SqT.of hp) (DataL.dp f hl)
  | .lst l, _, f, ⟨p, xs, e, hp, hl⟩ => by rw [e]; exact .lst (SqL.of hp) (DataL.dp f hl)
theorem DataL.dp {K : PySem.W.Frag} {H : Hp} : ∀ {l : List Th} {xs : List V}, Th.flatL l = true → DataL H l xs → DpAll K H xs (Th.pyL l)
  | [], _, _, h => by rw [show _ = [] from h]; exact .nil
  | t :: l, _, f, ⟨x, r, e, h1, h2⟩ => by
    have f' : t.flat = true ∧ Th.flatL l = true := by
      have : (t.flat && Th.flatL l) = true := f
      exact Bool.and_eq_true_iff.mp this
    rw [e]
    exact .cons (Data.dp f'.1 h1) (DataL.dp f'.2 h2)
end
/-! ### what is a name, a recipe -/
def nmOk (s : List Nat) : Bool := decide (1 ≤ s.length) && decide (s.length ≤ 8) && s.all fun c => decide (97 ≤ c) && decide (c ≤ 122)
theorem nmOk_iff {s : List Nat} : nmOk s = true ↔ Nm s := by
  unfold nmOk Nm
  simp only [Bool.and_eq_true, decide_eq_true_eq, List.all_eq_true]
  exact ⟨fun ⟨⟨a, b⟩, c⟩ => ⟨a, b, c⟩, fun ⟨a, b, c⟩ => ⟨⟨a, b⟩, c⟩⟩
def Th.isNm : Th → Bool
  | .str s => nmOk s
  | _ => false
def Th.areNms : Th → Bool
  | .tup l => decide (1 ≤ l.length) && decide (l.length ≤ 9) && l.all Th.isNm
  | _ => false
def Th.isInt : Th → Bool
  | .int _ => true
  | _ => false
def w_number : List Nat := [110, 117, 109, 98, 101, 114]
def w_read : List Nat := [114, 101, 97, 100]
def w_pick : List Nat := [112, 105, 99, 107]
def w_choose : List Nat := [99, 104, 111, 111, 115, 101]
def w_plus : List Nat := [112, 108, 117, 115]
def w_minus : List Nat := [109, 105, 110, 117, 115]
def w_times : List Nat := [116, 105, 109, 101, 115]
def w_most : List Nat := [109, 111, 115, 116]
def twos : List (List Nat) := [w_plus, w_minus, w_times, w_most]
/-- the parts of a thing that has a recipe's form -/
def formParts (k : List Nat) (l : List Th) : Option (List Th) :=
  if k = w_number then (if l.length = 1 ∧ (l.headD .non).isInt = true then some [] else none)
  else if k = w_read then (if l.length = 1 ∧ (l.headD .non).isNm = true then some [] else none)
  else if k ∈ twos then (if l.length = 2 then some l else none)
  else if k = w_pick then (if l.length = 3 then some l else none)
  else if k = w_choose then (if l.length = 2 ∧ (l.getD 1 .non).areNms = true then some (l.take 1) else none)
  else none
def Th.parts : Th → Option (List Th)
  | .tup (.str k :: l) => formParts k l
  | _ => none
/-- all well formed, n deep at most -/
def Th.okay : Nat → Th → Bool
  | 0, _ => false
  | n + 1, t => match t.parts with
    | none => false
    | some ps => ps.all (Th.okay n)
def Th.count : Nat → Th → Nat
  | 0, _ => 1
  | n + 1, t => match t.parts with
    | none => 1
    | some ps => 1 + (ps.map (Th.count n)).sum
def Th.isRcp (t : Th) : Bool := t.okay 8 && decide (t.count 8 ≤ 100)
theorem count_pos : ∀ (n : Nat) (t : Th), 1 ≤ t.count n
  | 0, _ => Nat.le_refl _
  | n + 1, t => by
    unfold Th.count
    cases t.parts with
    | none => exact Nat.le_refl _
    | some ps => exact Nat.le_add_right _ _
theorem parts_tup {t : Th} {ps : List Th} (h : t.parts = some ps) : ∃ k l, t = .tup (.str k :: l) := by
  unfold Th.parts at h
  split at h
  · exact ⟨_, _, rfl⟩
  · cases h
/-- what the walk may meet: texts of ASCII signs, not too long; names without dicts -/
def tameS (s : List Nat) : Bool := decide (s.length ≤ 1000000) && s.all fun c => decide (c < 128)
def namesTame : List Th → Bool
  | [.str k, _, .tup m] => !decide (k = w_choose) || (Th.flatL m && SeqAt.shaped (.list (Th.pyL m)))
  | _ => true
mutual
def Th.tame : Th → Bool
  | .str s => tameS s
  | .tup l => Th.tameL l && decide (l.length ≤ 1000000) && namesTame l
  | _ => true
def Th.tameL : List Th → Bool
  | [] => true
  | t :: l => t.tame && Th.tameL l
end
theorem tameL_mem : ∀ {l : List Th}, Th.tameL l = true → ∀ t ∈ l, t.tame = true
  | [], _, t, h => by cases h
  | a :: l, f, t, h => by
    have f' : (a.tame && Th.tameL l) = true := f
    rw [Bool.and_eq_true] at f'
    rcases List.mem_cons.mp h with h | h
    · rw [h]; exact f'.1
    · exact tameL_mem f'.2 t h
theorem flatL_mem : ∀ {l : List Th}, Th.flatL l = true → ∀ t ∈ l, t.flat = true
  | [], _, t, h => by cases h
  | a :: l, f, t, h => by
    have f' : (a.flat && Th.flatL l) = true := f
    rw [Bool.and_eq_true] at f'
    rcases List.mem_cons.mp h with h | h
    · rw [h]; exact f'.1
    · exact flatL_mem f'.2 t h
theorem flatL_filter (p : Th → Bool) : ∀ {l : List Th}, Th.flatL l = true → Th.flatL (l.filter p) = true
  | [], _ => rfl
  | a :: l, f => by
    have f' : (a.flat && Th.flatL l) = true := f
    rw [Bool.and_eq_true] at f'
    rw [List.filter_cons]
    split
    · show (a.flat && Th.flatL (l.filter p)) = true
      rw [f'.1, flatL_filter p f'.2]; rfl
    · exact flatL_filter p f'.2
theorem shaped_parts {ds : List PyData} : SeqAt.shaped (.list ds) = true ↔ PyData.canLayAll0 ds = true ∧ PyData.depthAll ds + 1 ≤ 64 := by
  show (PyData.canLayAll0 ds && decide (PyData.depthAll ds + 1 ≤ 64)) = true ↔ _
  rw [Bool.and_eq_true, decide_eq_true_eq]
theorem py_filter (p : Th → Bool) : ∀ (l : List Th), PyData.canLayAll0 (Th.pyL l) = true → PyData.canLayAll0 (Th.pyL (l.filter p)) = true ∧ PyData.depthAll (Th.pyL (l.filter p)) ≤ PyData.depthAll (Th.pyL l)
  | [], _ => ⟨rfl, Nat.le_refl _⟩
  | a :: l, f => by
    have f' : (a.py.canLay0 && PyData.canLayAll0 (Th.pyL l)) = true := f
    rw [Bool.and_eq_true] at f'
    have ih := py_filter p l f'.2
    rw [List.filter_cons]
    split
    · refine ⟨?_, ?_⟩
      · show (a.py.canLay0 && PyData.canLayAll0 (Th.pyL (l.filter p))) = true
        rw [f'.1, ih.1]; rfl
      · show max a.py.depth (PyData.depthAll (Th.pyL (l.filter p))) ≤ max a.py.depth (PyData.depthAll (Th.pyL l))
        omega
    · refine ⟨ih.1, ?_⟩
      show _ ≤ max a.py.depth (PyData.depthAll (Th.pyL l))
      omega
theorem shaped_filter (p : Th → Bool) {l : List Th} (h : SeqAt.shaped (.list (Th.pyL l)) = true) : SeqAt.shaped (.list (Th.pyL (l.filter p))) = true := by
  rw [shaped_parts] at h ⊢
  have := py_filter p l h.1
  exact ⟨this.1, by omega⟩
def Th.tyName : Th → String
  | .non => "NoneType" | .bl _ => "bool" | .int _ => "int" | .str _ => "str" | .tup _ => "tuple" | .lst _ => "list" | .dct => "dict"
theorem Data.ty {K : PySem.W.Frag} {H : Hp} : ∀ {t : Th} {v : V}, Data H t v → TyX K H v (.type t.tyName)
  | .non, _, h => by rw [show _ = V.non from h]; exact .base .non
  | .bl _, _, h => by rw [show _ = V.bl _ from h]; exact .base (.bl _)
  | .int _, _, h => by rw [show _ = V.int _ from h]; exact .base (.int _)
  | .str _, _, h => by rw [show _ = V.str _ from h]; exact .base (.str _)
  | .tup l, _, ⟨p, xs, e, hp, hl⟩ => by rw [e]; exact .base (.tup hp)
  | .lst l, _, ⟨p, xs, e, hp, hl⟩ => by rw [e]; exact .base (.lst hp)
  | .dct, _, ⟨p, kvs, e, hp⟩ => by rw [e]; exact .base (.dK hp)
def Th.isTup : Th → Bool
  | .tup _ => true
  | _ => false
def Th.isStr : Th → Bool
  | .str _ => true
  | _ => false
def Th.isBl : Th → Bool
  | .bl _ => true
  | _ => false
def Th.isIntB : Th → Bool
  | .bl _ => true
  | .int _ => true
  | _ => false
theorem kit_tup {K : PySem.W.Frag} : ∀ t : Th, PySem.W.kitOne K (.type t.tyName) (.type "tuple") = some t.isTup
  | .non => kit_ty (show kitB "NoneType" "tuple" = some false by decide +kernel)
  | .bl _ => kit_ty (show kitB "bool" "tuple" = some false by decide +kernel)
  | .int _ => kit_ty (show kitB "int" "tuple" = some false by decide +kernel)
  | .str _ => kit_ty (show kitB "str" "tuple" = some false by decide +kernel)
  | .tup _ => kit_ty (show kitB "tuple" "tuple" = some true by decide +kernel)
  | .lst _ => kit_ty (show kitB "list" "tuple" = some false by decide +kernel)
  | .dct => kit_ty (show kitB "dict" "tuple" = some false by decide +kernel)
theorem kit_str {K : PySem.W.Frag} : ∀ t : Th, PySem.W.kitOne K (.type t.tyName) (.type "str") = some t.isStr
  | .non => kit_ty (show kitB "NoneType" "str" = some false by decide +kernel)
  | .bl _ => kit_ty (show kitB "bool" "str" = some false by decide +kernel)
  | .int _ => kit_ty (show kitB "int" "str" = some false by decide +kernel)
  | .str _ => kit_ty (show kitB "str" "str" = some true by decide +kernel)
  | .tup _ => kit_ty (show kitB "tuple" "str" = some false by decide +kernel)
  | .lst _ => kit_ty (show kitB "list" "str" = some false by decide +kernel)
  | .dct => kit_ty (show kitB "dict" "str" = some false by decide +kernel)
theorem kit_int {K : PySem.W.Frag} : ∀ t : Th, PySem.W.kitOne K (.type t.tyName) (.type "int") = some t.isIntB
  | .non => kit_ty (show kitB "NoneType" "int" = some false by decide +kernel)
  | .bl _ => kit_ty (show kitB "bool" "int" = some true by decide +kernel)
  | .int _ => kit_ty (show kitB "int" "int" = some true by decide +kernel)
  | .str _ => kit_ty (show kitB "str" "int" = some false by decide +kernel)
  | .tup _ => kit_ty (show kitB "tuple" "int" = some false by decide +kernel)
  | .lst _ => kit_ty (show kitB "list" "int" = some false by decide +kernel)
  | .dct => kit_ty (show kitB "dict" "int" = some false by decide +kernel)
theorem kit_bl {K : PySem.W.Frag} : ∀ t : Th, PySem.W.kitOne K (.type t.tyName) (.type "bool") = some t.isBl
  | .non => kit_ty (show kitB "NoneType" "bool" = some false by decide +kernel)
  | .bl _ => kit_ty (show kitB "bool" "bool" = some true by decide +kernel)
  | .int _ => kit_ty (show kitB "int" "bool" = some false by decide +kernel)
  | .str _ => kit_ty (show kitB "str" "bool" = some false by decide +kernel)
  | .tup _ => kit_ty (show kitB "tuple" "bool" = some false by decide +kernel)
  | .lst _ => kit_ty (show kitB "list" "bool" = some false by decide +kernel)
  | .dct => kit_ty (show kitB "dict" "bool" = some false by decide +kernel)
theorem isInt_is (t : Th) : (t.isIntB && !t.isBl) = t.isInt := by cases t <;> rfl
/-- a comprehension over a text -/
theorem lcS {z : Str} {g : TG} {tt : TT} {te : TE} {vs : List Nat} {σ : L2.St} {H1 : Hp} {D : Addr} {Qd : Hp → Prop} (Pv : Nat → Hp → Prop)
    (h0 : Pv 0 (upd H1 D (.lst [])))
    (hs : ∀ i c H, z.cps[i]? = some c → Pv i H → g (.str ⟨#[c]⟩) (wipe σ vs) H
      fun σ2 H2 => wipe σ2 vs = wipe σ vs ∧ tt σ2 H2
        fun b H3 => if b = true then te σ2 H3
          fun y H4 => ∃ acc, H4 D = some (.lst acc) ∧ acc.length < sizeLine ∧ Pv (i + 1) (upd H4 D (.lst (acc ++ [y])))
        else Pv (i + 1) H3)
    (hd : ∀ H, Pv z.cps.size H → Qd H) :
    ∃ W : Nat → Nat → Hp → Prop, (∃ m, W 0 m (upd H1 D (.lst []))) ∧
      ∀ i m H, W i m H → ((Its z).stop i H ∧ Qd H) ∨ ((Its z).go i H ∧
        ∃ Nx : Hp → Prop, (∀ H', Nx H' → ∃ m', m' < m ∧ W (i + 1) m' H') ∧
          ∀ x H', (Its z).yld i H x H' → g x (wipe σ vs) H'
            fun σ2 H2 => wipe σ2 vs = wipe σ vs ∧ tt σ2 H2
              fun b H3 => if b = true then te σ2 H3
                fun y H4 => ∃ acc, H4 D = some (.lst acc) ∧ acc.length < sizeLine ∧ Nx (upd H4 D (.lst (acc ++ [y])))
              else Nx H3) := by
  refine ⟨fun i m H => m = z.cps.size - i ∧ i ≤ z.cps.size ∧ Pv i H, ⟨z.cps.size, rfl, Nat.zero_le _, h0⟩, fun i m H w => ?_⟩
  obtain ⟨em, hi, p⟩ := w
  by_cases hlt : i < z.cps.size
  · refine Or.inr ⟨hlt, Pv (i + 1), fun H' p' => ⟨z.cps.size - (i + 1), by omega, rfl, hlt, p'⟩, fun x H' y => ?_⟩
    obtain ⟨e1, c, e2, e3⟩ := y
    rw [e1, e3]
    exact hs i c H e2 p
  · have e : i = z.cps.size := by omega
    rw [e] at p
    exact Or.inl ⟨by show z.cps.size ≤ i; omega, hd H p⟩
/-- a list of data against a new empty one -/
theorem eqv_nil (l : List Th) : PyData.eqv (.list (Th.pyL l)) (.list []) = l.isEmpty := by cases l <;> rfl
theorem kw {k : List Nat} {w : List Nat} {lit : Str} (h : lit = SX.S w) : V.str (SX.S k) = V.str lit ↔ k = w := by
  rw [h]
  exact ⟨fun e => SX.S_inj (by cases e; rfl), fun e => by rw [e]⟩
theorem q_number : ("number" : Str) = SX.S w_number := by decide +kernel
theorem q_read : ("read" : Str) = SX.S w_read := by decide +kernel
theorem q_pick : ("pick" : Str) = SX.S w_pick := by decide +kernel
theorem q_choose : ("choose" : Str) = SX.S w_choose := by decide +kernel
theorem q_plus : ("plus" : Str) = SX.S w_plus := by decide +kernel
theorem q_minus : ("minus" : Str) = SX.S w_minus := by decide +kernel
theorem q_times : ("times" : Str) = SX.S w_times := by decide +kernel
theorem q_most : ("most" : Str) = SX.S w_most := by decide +kernel
theorem in_twos (k : List Nat) : inV (.str (SX.S k)) [.str "plus", .str "minus", .str "times", .str "most"] = decide (k ∈ twos) := by
  rw [q_plus, q_minus, q_times, q_most]
  have e : ∀ w : List Nat, (SX.S w == SX.S k) = decide (k = w) := fun w => by
    rw [SX.S_beq_eq]
    exact decide_eq_decide.mpr ⟨Eq.symm, Eq.symm⟩
  show ((SX.S w_plus == SX.S k) || ((SX.S w_minus == SX.S k) || ((SX.S w_times == SX.S k) || ((SX.S w_most == SX.S k) || false)))) = _
  rw [e, e, e, e]
  unfold twos
  simp only [List.mem_cons, List.not_mem_nil, or_false]
  simp [Bool.decide_or]
/-! ### names and recipes told -/
structure RTxt (K : PySem.W.Frag) (mg : Str → Option Value) (tw : Addr) : Prop where
  LETTERS : ∃ t, mg "LETTERS" = some (.str "abcdefghijklmnopqrstuvwxyz" t)
  LONGEST : ∃ t, mg "LONGEST" = some (.int 8 t)
  DEEPEST : ∃ t, mg "DEEPEST" = some (.int 8 t)
  MOST : ∃ t, mg "MOST" = some (.int 100 t)
  MOST_NAMES : ∃ t, mg "MOST_NAMES" = some (.int 9 t)
  TWOS : mg "TWOS" = some (.ref tw)
  twos : ∀ H, SqT K H tw [.str "plus", .str "minus", .str "times", .str "most"]
def spIsWhole : Sp := fun vs H Q _ => ∃ (v : V) (t : Th), vs = [v] ∧ Data H t v ∧ Q (.bl t.isInt) H
def spIsName : Sp := fun vs H Q _ => ∃ (v : V) (t : Th), vs = [v] ∧ Data H t v ∧ t.tame = true ∧ ∀ H', Same H H' → Q (.bl t.isNm) H'
def spAreNames : Sp := fun vs H Q _ => ∃ (v : V) (t : Th), vs = [v] ∧ Data H t v ∧ t.tame = true ∧ (∀ m, t = .tup m → Th.flatL m = true ∧ SeqAt.shaped (.list (Th.pyL m)) = true) ∧ ∀ H', Same H H' → Q (.bl t.areNms) H'
theorem letter_in (c : Nat) : decide (c ∈ ("abcdefghijklmnopqrstuvwxyz" : Str).cps.toList) = (decide (97 ≤ c) && decide (c ≤ 122)) := by
  rw [letters_is]
  show decide (c ∈ letters) = _
  rw [← Bool.decide_and]
  refine decide_eq_decide.mpr ⟨fun h => letters_ok c h, fun ⟨h1, h2⟩ => ?_⟩
  have : ∀ d : Nat, d < 26 → (97 + d) ∈ letters := by decide
  have := this (c - 97) (by omega)
  rwa [show 97 + (c - 97) = c by omega] at this
section
variable {P : Program} {w : World} {K : PySem.W.Frag} {mg : Str → Option Value} {base : Heap}
abbrev s_is_whole : Stmt := topS 7
abbrev N_is_whole : List Str := ["thing"]
theorem sc_is_whole : FnScope N_is_whole ["thing"] (defScope s_is_whole) := ⟨rfl, rfl, rfl, by decide +kernel, rfl, by decide +kernel, by decide +kernel⟩

theorem ok_is_whole (T : Txt K mg) (D : IsDef K mg "is_whole" s_is_whole ["thing"]) : Cal P w K mg base CX0 1 "is_whole" ["thing"] spIsWhole := by
  refine D.cal sc_is_whole (fun vs H Q E h => ?_) (fun f cdv A outer s H vs Q E hr h => ?_)
  · obtain ⟨v, t, rfl, _⟩ := h
    rfl
  obtain ⟨v, t, rfl, hv, q⟩ := h
  refine ⟨_, (pss_one (ps_ret (pe_and (pe_callB call_isi (by rfl) T.b_isinstance (by decide +kernel) (pa_cons (pv 0) (pa_cons (pe_bltn (v := .ty "int") (by rfl) T.b_int (by decide +kernel) rfl) pa_nil))) (pe_one (pe_not (pe_callB call_isi (by rfl) T.b_isinstance (by decide +kernel) (pa_cons (pv 0) (pa_cons (pe_bltn (v := .ty "bool") (by rfl) T.b_bool (by decide +kernel) rfl) pa_nil)))))))), ?_⟩
  refine ⟨_, rfl, _, _, _, _, _, rfl, .ty _, hv.ty, kit_int t, _, rfl, ?_⟩
  have e := isInt_is t
  cases h1 : t.isIntB with
  | false =>
    rw [h1, Bool.false_and] at e
    refine iteF ?_
    rw [e]
    exact q
  | true =>
    rw [h1, Bool.true_and] at e
    refine iteT ?_
    refine ⟨_, rfl, _, _, _, _, _, rfl, .ty _, hv.ty, kit_bl t, _, rfl, ?_⟩
    rw [e]
    exact q
abbrev s_is_name : Stmt := topS 8
abbrev N_is_name : List Str := ["thing", "sign"]
theorem sc_is_name : FnScope N_is_name ["thing"] (defScope s_is_name) := ⟨rfl, rfl, rfl, by decide +kernel, rfl, by decide +kernel, by decide +kernel⟩

theorem ok_is_name {tw : Addr} (T : Txt K mg) (R : RTxt K mg tw) (D : IsDef K mg "is_name" s_is_name ["thing"]) : Cal P w K mg base CX0 1 "is_name" ["thing"] spIsName := by
  refine D.cal sc_is_name (fun vs H Q E h => ?_) (fun f cdv A outer s H vs Q E hr h => ?_)
  · obtain ⟨v, t, rfl, _⟩ := h
    rfl
  obtain ⟨v, t, rfl, hv, ht, q⟩ := h
  obtain ⟨_, g_LETTERS⟩ := R.LETTERS
  obtain ⟨_, g_LONGEST⟩ := R.LONGEST
  refine ⟨_, (pss_cons (ps_if (PW.pt (pw_or (pt_not (pt_val (pe_callB call_isi (by rfl) T.b_isinstance (by decide +kernel) (pa_cons (pv 0) (pa_cons (pe_bltn (v := .ty "str") (by rfl) T.b_str (by decide +kernel) rfl) pa_nil))))) (pw_or (pt_cmpR op_lt (pe_callB call_len_str (by rfl) T.b_len PySem.boot_len (pa_cons (pv 0) pa_nil)) pe_int (nomark _)) (pw_or1 (pt_cmpR op_gt (pe_callB call_len_str (by rfl) T.b_len PySem.boot_len (pa_cons (pv 0) pa_nil)) (pe_glob (v := .int _) rfl g_LONGEST ⟨_, rfl⟩) (nomark _))))))
        (pss_one (ps_ret pe_bl))
        pss_nil)
      (pss_one (ps_ret (pe_cmpR (op_eqD hr.units) (pe_lc (own := [("sign", 1)]) (g := gName 1)  (by rfl) sc_is_name.nd  (pi_str (pv 0)) (blkOk_by (own := [("sign", 1)]) (N := N_is_name) (sc := defScope s_is_name) (by decide +kernel)) (fun _ _ _ _ _ => (pg_name (i := 1) sc_is_name.nd rfl (Or.inl rfl))) (fun _ _ _ _ _ => (pts_one (pt_cmpR op_notIn_sign (pv 1) (pe_glob (v := .str _) rfl g_LETTERS ⟨_, rfl⟩) rfl))) (fun _ _ _ _ _ => (pv 1))) (pe_lst pa_nil) (nomark _))))), ?_⟩
  refine ⟨_, rfl, _, _, _, _, _, rfl, .ty _, hv.ty, kit_str t, _, rfl, ?_⟩
  cases t with
  | str z =>
    have hz : z.length ≤ 1000000 := by
      have : (decide (z.length ≤ 1000000) && z.all fun c => decide (c < 128)) = true := ht
      rw [Bool.and_eq_true, decide_eq_true_eq] at this
      exact this.1
    have hc : ∀ c ∈ z, c < 128 := by
      have : (decide (z.length ≤ 1000000) && z.all fun c => decide (c < 128)) = true := ht
      rw [Bool.and_eq_true, List.all_eq_true] at this
      exact fun c h => of_decide_eq_true (this.2 c h)
    have ev : v = .str (SX.S z) := hv
    subst ev
    refine iteF ?_
    have hl : (SX.S z).length ≤ sizeLine := by rw [SX.S_len]; exact le_line (by omega)
    refine ⟨_, rfl, _, rfl, hl, _, _, rfl, rfl, _, rfl, ?_⟩
    by_cases h1 : (((SX.S z).length : Nat) : Int) < 1
    · refine iteY h1 (iteT ?_)
      have e : nmOk z = false := by
        unfold nmOk
        rw [SX.S_len] at h1
        rw [decide_eq_false (show ¬ 1 ≤ z.length by omega)]
        rfl
      have : Q (.bl (nmOk z)) H := q H (Same.refl H)
      rw [e] at this
      exact this
    refine iteN h1 ?_
    refine ⟨_, rfl, _, rfl, hl, _, _, rfl, rfl, _, rfl, ?_⟩
    by_cases h2 : (((SX.S z).length : Nat) : Int) > 8
    · refine iteY h2 ?_
      have e : nmOk z = false := by
        unfold nmOk
        rw [SX.S_len] at h2
        rw [decide_eq_false (show ¬ z.length ≤ 8 by omega), Bool.and_false]
        rfl
      have : Q (.bl (nmOk z)) H := q H (Same.refl H)
      rw [e] at this
      exact this
    refine iteN h2 ?_
    rw [SX.S_len] at h1 h2
    refine ⟨_, rfl, _, rfl, fun L nL => lcS (z := SX.S z) (fun i H' => Same H H' ∧ H' L = some (.lst (txs (ones ((z.take i).filter fun c => !(decide (97 ≤ c) && decide (c ≤ 122)))))))
      ⟨same_new nL _, upd_same⟩ ?_ ?_⟩
    · rintro i c H1 hc1 ⟨hs, hL⟩
      have hci : z[i]? = some c := by
        have : z.toArray[i]? = some c := hc1
        rwa [List.getElem?_toArray] at this
      have e1 : (z.take (i + 1)) = z.take i ++ [c] := by rw [List.take_add_one, hci]; rfl
      refine ⟨rfl, _, rfl, c, _, rfl, rfl, _, rfl, ?_⟩
      rw [letter_in]
      cases hcc : (decide (97 ≤ c) && decide (c ≤ 122)) with
      | true =>
        refine iteF ⟨hs, ?_⟩
        rw [e1, List.filter_append, List.filter_cons_of_neg (by rw [hcc]; decide), List.filter_nil, List.append_nil]
        exact hL
      | false =>
        refine iteT ⟨_, rfl, _, hL, ?_, same_upd hs nL _, ?_⟩
        · rw [txs_len, ones_len]
          exact lt_line (Nat.lt_of_le_of_lt (List.length_filter_le _ _) (by rw [List.length_take]; omega))
        · rw [upd_same, e1, List.filter_append, List.filter_cons_of_pos (by rw [hcc]; rfl), List.filter_nil]
          unfold ones
          rw [List.map_append, txs_app]
          rfl
    · rintro H1 ⟨hs, hL⟩
      have ez : z.take (SX.S z).cps.size = z := List.take_of_length_le (by show z.length ≤ z.toArray.size; simp)
      rw [ez] at hL
      refine ⟨Nat.zero_le _, fun e ne => ?_⟩
      have Le : L ≠ e := ne_of_none hL ne
      have dd : ∀ (H : Hp) (l : List Nat), DpAll K H (txs (ones l)) (l.map fun c => PyData.str (SX.S [c])) := fun H l => by
        induction l with
        | nil => exact .nil
        | cons c l ih => exact .cons (.str _) ih
      have sh : ∀ l : List Nat, (∀ c ∈ l, c < 128) → PyData.canLayAll0 (l.map fun c => PyData.str (SX.S [c])) = true ∧ PyData.depthAll (l.map fun c => PyData.str (SX.S [c])) = 0 := fun l hl => by
        induction l with
        | nil => exact ⟨rfl, rfl⟩
        | cons c l ih =>
          have ih := ih fun d h => hl d (List.mem_cons_of_mem _ h)
          refine ⟨?_, ?_⟩
          · show ((SX.S [c]).cps.all (· < 0x110000) && PyData.canLayAll0 _) = true
            rw [ih.1]
            have := hl c (List.mem_cons_self ..)
            simp
            omega
          · show max 0 _ = 0
            rw [ih.2]
            rfl
      have s1 := sh (z.filter fun c => !(decide (97 ≤ c) && decide (c ≤ 122))) fun c h => hc c (List.mem_filter.mp h).1
      refine ⟨_, _, .lst (SqL.of (by rw [upd_ne Le]; exact hL)) (dd _ _), .lst (SqL.of upd_same) .nil, shaped_parts.mpr ⟨s1.1, by rw [s1.2]; decide⟩, rfl, ?_⟩
      have ef : ∀ l : List Nat, PyData.eqv (.list (l.map fun c => PyData.str (SX.S [c]))) (.list []) = l.isEmpty := fun l => by cases l <;> rfl
      rw [ef]
      have en : nmOk z = (z.filter fun c => !(decide (97 ≤ c) && decide (c ≤ 122))).isEmpty := by
        unfold nmOk
        rw [decide_eq_true (show 1 ≤ z.length by omega), decide_eq_true (show z.length ≤ 8 by omega)]
        show (z.all fun c => decide (97 ≤ c) && decide (c ≤ 122)) = _
        generalize z = l
        induction l with
        | nil => rfl
        | cons c l ih =>
          rw [List.all_cons, List.filter_cons, ih]
          cases (decide (97 ≤ c) && decide (c ≤ 122)) <;> rfl
      rw [← en]
      exact q _ (hs.trans (same_new ne _))
  | _ => exact iteT (q H (Same.refl H))
end
def spWithin (K : PySem.W.Frag) : Sp := fun vs H Q _ => ∃ (v : V) (t : Th), vs = [v] ∧ Data H t v ∧ t.tame = true ∧ (t.parts = none → ∀ H', Same H H' → Q .non H') ∧ (∀ ps, t.parts = some ps → ∀ (H' : Hp) (a : Addr) (xs : List V), Same H H' → H' a = some (.tup xs) → (∀ B, Same B H → Data B t v → DataL B ps xs) → Q (.ref a) H')
theorem data_in {B H : Hp} (s : Same B H) {l : List Th} {p : Addr} {xs : List V} (d : Data B (.tup l) (.ref p)) (hp : H p = some (.tup xs)) : DataL B l xs := by
  obtain ⟨p', xs', e, hp', hl⟩ := d
  cases e
  have z := s _ _ hp'
  rw [hp] at z
  cases z
  exact hl
theorem tup_tame {k : List Nat} {l : List Th} (h : (Th.tup (.str k :: l)).tame = true) : tameS k = true ∧ Th.tameL l = true ∧ l.length ≤ 1000000 ∧ namesTame (.str k :: l) = true := by
  have e : ((tameS k && Th.tameL l) && decide (l.length + 1 ≤ 1000000) && namesTame (.str k :: l)) = true := h
  rw [Bool.and_eq_true, Bool.and_eq_true, Bool.and_eq_true, decide_eq_true_eq] at e
  exact ⟨e.1.1.1, e.1.1.2, by omega, e.2⟩
section
variable {P : Program} {w : World} {K : PySem.W.Frag} {mg : Str → Option Value} {base : Heap}
abbrev s_are_names : Stmt := topS 9
abbrev N_are_names : List Str := ["thing", "name"]
theorem sc_are_names : FnScope N_are_names ["thing"] (defScope s_are_names) := ⟨rfl, rfl, rfl, by decide +kernel, rfl, by decide +kernel, by decide +kernel⟩

theorem ok_are_names {tw : Addr} (T : Txt K mg) (R : RTxt K mg tw) (D : IsDef K mg "are_names" s_are_names ["thing"]) (C_is_name : Cal P w K mg base CX0 1 "is_name" ["thing"] spIsName) : Cal P w K mg base CX0 2 "are_names" ["thing"] spAreNames := by
  refine D.cal sc_are_names (fun vs H Q E h => ?_) (fun f cdv A outer s H vs Q E hr h => ?_)
  · obtain ⟨v, t, rfl, _⟩ := h
    rfl
  obtain ⟨v, t, rfl, hv, ht, hf, q⟩ := h
  obtain ⟨_, g_MOST_NAMES⟩ := R.MOST_NAMES
  refine ⟨_, (pss_cons (ps_if (PW.pt (pw_or (pt_not (pt_val (pe_callB call_isi (by rfl) T.b_isinstance (by decide +kernel) (pa_cons (pv 0) (pa_cons (pe_bltn (v := .ty "tuple") (by rfl) T.b_tuple (by decide +kernel) rfl) pa_nil))))) (pw_or (pt_cmpR op_lt (pe_callB call_len_seq (by rfl) T.b_len PySem.boot_len (pa_cons (pv 0) pa_nil)) pe_int (nomark _)) (pw_or1 (pt_cmpR op_gt (pe_callB call_len_seq (by rfl) T.b_len PySem.boot_len (pa_cons (pv 0) pa_nil)) (pe_glob (v := .int _) rfl g_MOST_NAMES ⟨_, rfl⟩) (nomark _))))))
        (pss_one (ps_ret pe_bl))
        pss_nil)
      (pss_one (ps_ret (pe_cmpR (op_eqD hr.units) (pe_lc (own := [("name", 1)]) (g := gName 1)  (by rfl) sc_are_names.nd  (pi_tup (pv 0)) (blkOk_by (own := [("name", 1)]) (N := N_are_names) (sc := defScope s_are_names) (by decide +kernel)) (fun _ _ _ _ _ => (pg_name (i := 1) sc_are_names.nd rfl (Or.inl rfl))) (fun _ _ _ _ _ => (pts_one (pt_not (pt_val (pe_cal C_is_name (hr.mono (by first | decide | omega)) pass0 (pa_cons (pv 1) pa_nil)))))) (fun _ _ _ _ _ => (pv 1))) (pe_lst pa_nil) (nomark _))))), ?_⟩
  refine ⟨_, rfl, _, _, _, _, _, rfl, .ty _, hv.ty, kit_tup t, _, rfl, ?_⟩
  cases t with
  | tup l =>
    obtain ⟨p, xs, rfl, hp, hl⟩ := hv
    have hxl := hl.len
    have hq := q H (Same.refl H)
    have ea : (Th.tup l).areNms = (decide (1 ≤ l.length) && decide (l.length ≤ 9) && l.all Th.isNm) := rfl
    rw [ea] at hq q
    refine iteF ?_
    refine ⟨_, rfl, p, _, rfl, .inr (SqT.of hp), _, _, rfl, rfl, _, rfl, ?_⟩
    by_cases h1 : ((xs.length : Nat) : Int) < 1
    · refine iteY h1 (iteT ?_)
      rw [decide_eq_false (show ¬ 1 ≤ l.length by omega)] at hq
      exact hq
    refine iteN h1 ?_
    refine ⟨_, rfl, p, _, rfl, .inr (SqT.of hp), _, _, rfl, rfl, _, rfl, ?_⟩
    by_cases h2 : ((xs.length : Nat) : Int) > 9
    · refine iteY h2 ?_
      rw [decide_eq_false (show ¬ l.length ≤ 9 by omega), Bool.and_false] at hq
      exact hq
    refine iteN h2 ?_
    rw [decide_eq_true (show 1 ≤ l.length by omega), decide_eq_true (show l.length ≤ 9 by omega)] at q
    have htl : Th.tameL l = true := by
      have e : (Th.tameL l && decide (l.length ≤ 1000000) && namesTame l) = true := ht
      rw [Bool.and_eq_true, Bool.and_eq_true] at e
      exact e.1.1
    refine ⟨_, rfl, p, rfl, ⟨_, SqT.of hp⟩, fun L nL => lc_tup (K := K) (a := p) (xs := xs) (fun i H' => Same H H' ∧ ∃ ys, H' L = some (.lst ys) ∧ DataL H ((l.take i).filter fun t => !t.isNm) ys)
      ⟨same_new nL _, [], upd_same, rfl⟩ (fun i H' _ h => SqT.of (h.1 _ _ hp)) ?_ ?_⟩
    · rintro i x H1 hx ⟨hs, ys, hL, hy⟩
      obtain ⟨t, hti, hd⟩ := hl.at hx
      have hm : t ∈ l := List.mem_of_getElem? hti
      have e1 : (l.take (i + 1)) = l.take i ++ [t] := by rw [List.take_add_one, hti]; rfl
      refine ⟨rfl, _, rfl, x, t, rfl, hd.same hs, tameL_mem htl t hm, fun H2 s2 => ⟨_, rfl, ?_⟩⟩
      have hs2 := hs.trans s2
      cases htt : t.isNm with
      | true =>
        refine iteF ⟨hs2, ys, s2 _ _ hL, ?_⟩
        rw [e1, List.filter_append, List.filter_cons_of_neg (by rw [htt]; decide), List.filter_nil, List.append_nil]
        exact hy
      | false =>
        have hyl : ys.length ≤ 9 := by
          rw [hy.len]
          have := List.length_filter_le (fun t : Th => !t.isNm) (l.take i)
          have := List.length_take_le i l
          rw [List.length_take] at *
          omega
        refine iteT ⟨_, rfl, ys, s2 _ _ hL, lt_line (by omega), same_upd hs2 nL _, _, upd_same, ?_⟩
        rw [e1, List.filter_append, List.filter_cons_of_pos (by rw [htt]; rfl), List.filter_nil]
        exact hy.snoc hd
    · rintro H1 ⟨hs, ys, hL, hy⟩
      rw [hxl, List.take_length] at hy
      refine ⟨Nat.zero_le _, fun e ne => ?_⟩
      have Le : L ≠ e := ne_of_none hL ne
      have hff := hf l rfl
      refine ⟨_, _, .lst (SqL.of (by rw [upd_ne Le]; exact hL)) (DataL.dp (flatL_filter (fun t => !t.isNm) hff.1) (hy.same (hs.trans (same_new ne _)))), .lst (SqL.of upd_same) .nil, shaped_filter (fun t => !t.isNm) hff.2, rfl, ?_⟩
      rw [eqv_nil]
      have en : (l.filter fun t => !t.isNm).isEmpty = l.all Th.isNm := by
        generalize l = m
        induction m with
        | nil => rfl
        | cons c m ih =>
          rw [List.all_cons, List.filter_cons, ← ih]
          cases c.isNm <;> rfl
      rw [en]
      exact q _ (hs.trans (same_new ne _))
  | _ => exact iteT (q H (Same.refl H))
abbrev s_within : Stmt := topS 10
abbrev N_within : List Str := ["thing", "kind"]
theorem sc_within : FnScope N_within ["thing"] (defScope s_within) := ⟨rfl, rfl, rfl, by decide +kernel, rfl, by decide +kernel, by decide +kernel⟩

theorem cut_tail (a b : V) (r : List V) : cutV (a :: b :: r) (some 1) none = b :: r := by
  show ((a :: b :: r).drop (HT.sIx (a :: b :: r).length 0 (some ((1 : Nat) : Int)))).take (HT.sIx (a :: b :: r).length (a :: b :: r).length none - HT.sIx (a :: b :: r).length 0 (some ((1 : Nat) : Int))) = _
  rw [HT.sIx_nat, HT.sIx_none, Nat.min_eq_left (by simp), List.drop_one, List.tail_cons, List.take_of_length_le (by simp)]
theorem slice_ne (a b : V) (r : List V) : ¬ (HT.sIx (a :: b :: r).length 0 (some 1) = 0 ∧ HT.sIx (a :: b :: r).length (a :: b :: r).length none = (a :: b :: r).length) := fun z => by
  have z1 : HT.sIx (a :: b :: r).length 0 (some ((1 : Nat) : Int)) = 0 := z.1
  rw [HT.sIx_nat, Nat.min_eq_left (by simp)] at z1
  cases z1
theorem cut_one (a b c : V) : cutV [a, b, c] (some 1) (some 2) = [b] := rfl
theorem iteInY {k : List Nat} {A B : Prop} (h : k ∈ twos) (a : A) : if inV (.str (SX.S k)) [.str "plus", .str "minus", .str "times", .str "most"] = true then A else B := by
  rw [in_twos, if_pos (decide_eq_true h)]; exact a
theorem iteInN {k : List Nat} {A B : Prop} (h : ¬ k ∈ twos) (b : B) : if inV (.str (SX.S k)) [.str "plus", .str "minus", .str "times", .str "most"] = true then A else B := by
  rw [in_twos, if_neg (fun z => h (of_decide_eq_true z))]; exact b
theorem ok_within {tw : Addr} (T : Txt K mg) (R : RTxt K mg tw) (D : IsDef K mg "within" s_within ["thing"]) (C_is_whole : Cal P w K mg base CX0 1 "is_whole" ["thing"] spIsWhole) (C_is_name : Cal P w K mg base CX0 1 "is_name" ["thing"] spIsName)
    (C_are_names : Cal P w K mg base CX0 2 "are_names" ["thing"] spAreNames) : Cal P w K mg base CX0 3 "within" ["thing"] (spWithin K) := by
  refine D.cal sc_within (fun vs H Q E h => ?_) (fun f cdv A outer s H vs Q E hr h => ?_)
  · obtain ⟨v, t, rfl, _⟩ := h
    rfl
  obtain ⟨v, t, rfl, hv, ht, qn, qs⟩ := h
  have g_TWOS := R.TWOS
  refine ⟨_, (pss_cons (ps_if (PW.pt (pw_or (pt_not (pt_val (pe_callB call_isi (by rfl) T.b_isinstance (by decide +kernel) (pa_cons (pv 0) (pa_cons (pe_bltn (v := .ty "tuple") (by rfl) T.b_tuple (by decide +kernel) rfl) pa_nil))))) (pw_or (pt_cmpR op_lt (pe_callB call_len_seq (by rfl) T.b_len PySem.boot_len (pa_cons (pv 0) pa_nil)) pe_int (nomark _)) (pw_or1 (pt_not (pt_val (pe_callB call_isi (by rfl) T.b_isinstance (by decide +kernel) (pa_cons (pe_ix (r := rIxT K) ix_tup (pv 0) pe_int (fun _ _ => rfl)) (pa_cons (pe_bltn (v := .ty "str") (by rfl) T.b_str (by decide +kernel) rfl) pa_nil)))))))))
        (pss_one (ps_ret pe_non))
        pss_nil)
      (pss_cons (ps_set (i := 1) sc_within.nd rfl (Or.inl rfl) (pe_ix (r := rIxT K) ix_tup (pv 0) pe_int (fun _ _ => rfl)))
      (pss_cons (ps_if (PW.pt (pw_and (pt_cmpR op_eq (pv 1) pe_str (nomark _)) (pw_and (pt_cmpR op_eq (pe_callB call_len_seq (by rfl) T.b_len PySem.boot_len (pa_cons (pv 0) pa_nil)) pe_int (nomark _)) (pw_and1 (pt_val (pe_cal C_is_whole (hr.mono (by first | decide | omega)) pass0 (pa_cons (pe_ix (r := rIxT K) ix_tup (pv 0) pe_int (fun _ _ => rfl)) pa_nil)))))))
        (pss_one (ps_ret (pe_tup pa_nil)))
        pss_nil)
      (pss_cons (ps_if (PW.pt (pw_and (pt_cmpR op_eq (pv 1) pe_str (nomark _)) (pw_and (pt_cmpR op_eq (pe_callB call_len_seq (by rfl) T.b_len PySem.boot_len (pa_cons (pv 0) pa_nil)) pe_int (nomark _)) (pw_and1 (pt_val (pe_cal C_is_name (hr.mono (by first | decide | omega)) pass0 (pa_cons (pe_ix (r := rIxT K) ix_tup (pv 0) pe_int (fun _ _ => rfl)) pa_nil)))))))
        (pss_one (ps_ret (pe_tup pa_nil)))
        pss_nil)
      (pss_cons (ps_if (PW.pt (pw_or (PW.pt (pw_and (pt_cmpR op_in_seq (pv 1) (pe_glob (v := .ref _) rfl g_TWOS rfl) (by with_unfolding_all rfl)) (pw_and1 (pt_cmpR op_eq (pe_callB call_len_seq (by rfl) T.b_len PySem.boot_len (pa_cons (pv 0) pa_nil)) pe_int (nomark _))))) (pw_or1 (PW.pt (pw_and (pt_cmpR op_eq (pv 1) pe_str (nomark _)) (pw_and1 (pt_cmpR op_eq (pe_callB call_len_seq (by rfl) T.b_len PySem.boot_len (pa_cons (pv 0) pa_nil)) pe_int (nomark _))))))))
        (pss_one (ps_ret (pe_slice (r := rSlT K) sl_tup (pv 0) (po_some pe_int) po_none)))
        pss_nil)
      (pss_cons (ps_if (PW.pt (pw_and (pt_cmpR op_eq (pv 1) pe_str (nomark _)) (pw_and (pt_cmpR op_eq (pe_callB call_len_seq (by rfl) T.b_len PySem.boot_len (pa_cons (pv 0) pa_nil)) pe_int (nomark _)) (pw_and1 (pt_val (pe_cal C_are_names (hr.mono (by first | decide | omega)) pass0 (pa_cons (pe_ix (r := rIxT K) ix_tup (pv 0) pe_int (fun _ _ => rfl)) pa_nil)))))))
        (pss_one (ps_ret (pe_slice (r := rSlT K) sl_tup (pv 0) (po_some pe_int) (po_some pe_int))))
        pss_nil)
      (pss_one (ps_ret pe_non)))))))), ?_⟩
  refine ⟨_, rfl, _, _, _, _, _, rfl, .ty _, hv.ty, kit_tup t, _, rfl, ?_⟩
  cases t with
  | tup l0 =>
    obtain ⟨p, xs0, rfl, hp, hl0⟩ := hv
    refine iteF ?_
    refine ⟨_, rfl, p, _, rfl, .inr (SqT.of hp), _, _, rfl, rfl, _, rfl, ?_⟩
    cases l0 with
    | nil =>
      rw [show xs0 = [] from hl0]
      exact iteY (by decide) (iteT (qn rfl H (Same.refl H)))
    | cons t0 l =>
      obtain ⟨x0, xs, rfl, hd0, hl⟩ := hl0
      cases l with
      | nil =>
        rw [show xs = [] from hl]
        refine iteY (by show ((1 : Nat) : Int) < 2; decide) (iteT (qn ?_ H (Same.refl H)))
        cases t0 with
        | str k =>
          show formParts k [] = none
          unfold formParts
          simp
        | _ => rfl
      | cons t1 l' =>
        have hxl : xs.length = (t1 :: l').length := hl.len
        have hlen : (((x0 :: xs).length : Nat) : Int) = ((l'.length + 2 : Nat) : Int) := by rw [List.length_cons, hxl]; rfl
        refine iteN (by rw [hlen]; omega) ?_
        refine ⟨_, rfl, p, _, _, _, rfl, rfl, SqT.of hp, atI_at (by decide) rfl, _, _, _, _, _, rfl, .ty _, hd0.ty, kit_str t0, _, rfl, ?_⟩
        cases t0 with
        | str k =>
          obtain rfl : x0 = V.str (SX.S k) := hd0
          obtain ⟨_, htl, _, hnt⟩ := tup_tame ht
          have ep : (Th.tup (.str k :: t1 :: l')).parts = formParts k (t1 :: l') := rfl
          rw [ep] at qn qs
          obtain ⟨x1, xs', rfl, hd1, hl'⟩ := hl
          have hx' := hl'.len
          refine iteF ?_
          refine ⟨_, rfl, p, _, _, _, rfl, rfl, SqT.of hp, atI_at (by decide) rfl, ?_⟩
          have no : formParts k (t1 :: l') = none → ∀ H', Same H H' → Q .non H' := qn
          have n0 : ∀ w : List Nat, ∀ lit : Str, lit = SX.S w → k ≠ w → ¬ V.str (SX.S k) = V.str lit := fun w lit e hk z => hk ((kw e).mp z)
          have y0 : ∀ w : List Nat, ∀ lit : Str, lit = SX.S w → k = w → V.str (SX.S k) = V.str lit := fun w lit e hk => (kw e).mpr hk
          have len_is : ∀ m : Nat, (V.int (((V.str (SX.S k) :: x1 :: xs').length : Nat) : Int) = V.int ((m + 2 : Nat) : Int)) ↔ l'.length = m := fun m => by
            constructor
            · intro e
              have e' : (((V.str (SX.S k) :: x1 :: xs').length : Nat) : Int) = ((m + 2 : Nat) : Int) := by cases e; rfl
              rw [hlen] at e'
              omega
            · intro e
              rw [hlen, e]
          by_cases k1 : k = w_number
          · have fp : formParts k (t1 :: l') = if l'.length = 0 ∧ t1.isInt = true then some [] else none := by
                unfold formParts
                rw [if_pos k1]
                simp
            have n_read : k ≠ w_read := by rw [k1]; decide
            have n_pick : k ≠ w_pick := by rw [k1]; decide
            have n_choose : k ≠ w_choose := by rw [k1]; decide
            have nt : ¬ k ∈ twos := by rw [k1]; decide
            refine ⟨_, rfl, rfl, _, rfl, iteY (y0 _ _ q_number k1) ?_⟩
            refine ⟨_, rfl, p, _, rfl, .inr (SqT.of hp), rfl, _, rfl, ?_⟩
            by_cases hl0 : l'.length = 0
            · refine iteY ((len_is 0).mpr hl0) ?_
              refine ⟨_, rfl, p, _, _, _, rfl, rfl, SqT.of hp, atI_at (by decide) rfl, x1, t1, rfl, hd1, _, rfl, ?_⟩
              cases hi : t1.isInt with
              | true =>
                exact iteT ⟨Nat.zero_le _, fun a na => qs [] (by rw [fp, if_pos ⟨hl0, hi⟩]) _ a [] (same_new na _) upd_same fun _ _ _ => rfl⟩
              | false =>
                refine iteF ?_
                refine ⟨_, rfl, rfl, _, rfl, iteN (n0 _ _ q_read n_read) (iteF ?_)⟩
                refine ⟨_, rfl, tw, _, rfl, .inr (R.twos H), rfl, rfl, _, rfl, iteInN nt (iteF ?_)⟩
                refine ⟨_, rfl, rfl, _, rfl, iteN (n0 _ _ q_pick n_pick) (iteF ?_)⟩
                refine ⟨_, rfl, rfl, _, rfl, iteN (n0 _ _ q_choose n_choose) (iteF ?_)⟩
                exact no (by rw [fp, if_neg (fun z => by rw [hi] at z; cases z.2)]) H (Same.refl H)
            · refine iteN (fun z => hl0 ((len_is 0).mp z)) (iteF ?_)
              refine ⟨_, rfl, rfl, _, rfl, iteN (n0 _ _ q_read n_read) (iteF ?_)⟩
              refine ⟨_, rfl, tw, _, rfl, .inr (R.twos H), rfl, rfl, _, rfl, iteInN nt (iteF ?_)⟩
              refine ⟨_, rfl, rfl, _, rfl, iteN (n0 _ _ q_pick n_pick) (iteF ?_)⟩
              refine ⟨_, rfl, rfl, _, rfl, iteN (n0 _ _ q_choose n_choose) (iteF ?_)⟩
              exact no (by rw [fp, if_neg (fun z => hl0 z.1)]) H (Same.refl H)
          have n_number := k1
          refine ⟨_, rfl, rfl, _, rfl, iteN (n0 _ _ q_number n_number) (iteF ?_)⟩
          by_cases k2 : k = w_read
          · have fp : formParts k (t1 :: l') = if l'.length = 0 ∧ t1.isNm = true then some [] else none := by
              unfold formParts
              rw [if_neg k1, if_pos k2]
              simp
            have n_pick : k ≠ w_pick := by rw [k2]; decide
            have n_choose : k ≠ w_choose := by rw [k2]; decide
            have nt : ¬ k ∈ twos := by rw [k2]; decide
            refine ⟨_, rfl, rfl, _, rfl, iteY (y0 _ _ q_read k2) ?_⟩
            refine ⟨_, rfl, p, _, rfl, .inr (SqT.of hp), rfl, _, rfl, ?_⟩
            by_cases hl0 : l'.length = 0
            · refine iteY ((len_is 0).mpr hl0) ?_
              refine ⟨_, rfl, p, _, _, _, rfl, rfl, SqT.of hp, atI_at (by decide) rfl, x1, t1, rfl, hd1, tameL_mem htl t1 (List.mem_cons_self ..), fun H1 hs1 => ⟨_, rfl, ?_⟩⟩
              cases hi : t1.isNm with
              | true =>
                exact iteT ⟨Nat.zero_le _, fun a na => qs [] (by rw [fp, if_pos ⟨hl0, hi⟩]) _ a [] (hs1.trans (same_new na _)) upd_same fun _ _ _ => rfl⟩
              | false =>
                refine iteF ?_
                refine ⟨_, rfl, tw, _, rfl, .inr (R.twos H1), rfl, rfl, _, rfl, iteInN nt (iteF ?_)⟩
                refine ⟨_, rfl, rfl, _, rfl, iteN (n0 _ _ q_pick n_pick) (iteF ?_)⟩
                refine ⟨_, rfl, rfl, _, rfl, iteN (n0 _ _ q_choose n_choose) (iteF ?_)⟩
                exact no (by rw [fp, if_neg (fun z => by rw [hi] at z; cases z.2)]) H1 hs1
            · refine iteN (fun z => hl0 ((len_is 0).mp z)) (iteF ?_)
              refine ⟨_, rfl, tw, _, rfl, .inr (R.twos H), rfl, rfl, _, rfl, iteInN nt (iteF ?_)⟩
              refine ⟨_, rfl, rfl, _, rfl, iteN (n0 _ _ q_pick n_pick) (iteF ?_)⟩
              refine ⟨_, rfl, rfl, _, rfl, iteN (n0 _ _ q_choose n_choose) (iteF ?_)⟩
              exact no (by rw [fp, if_neg (fun z => hl0 z.1)]) H (Same.refl H)
          have n_read := k2
          refine ⟨_, rfl, rfl, _, rfl, iteN (n0 _ _ q_read n_read) (iteF ?_)⟩
          by_cases k3 : k ∈ twos
          · have fp : formParts k (t1 :: l') = if l'.length = 1 then some (t1 :: l') else none := by
              unfold formParts
              rw [if_neg k1, if_neg k2, if_pos k3]
              simp
            have n_pick : k ≠ w_pick := fun z => by rw [z] at k3; revert k3; decide
            have n_choose : k ≠ w_choose := fun z => by rw [z] at k3; revert k3; decide
            refine ⟨_, rfl, tw, _, rfl, .inr (R.twos H), rfl, rfl, _, rfl, iteInY k3 ?_⟩
            refine ⟨_, rfl, p, _, rfl, .inr (SqT.of hp), rfl, _, rfl, ?_⟩
            by_cases hl0 : l'.length = 1
            · refine iteY ((len_is 1).mpr hl0) (iteT ?_)
              refine ⟨_, rfl, _, rfl, p, _, rfl, SqT.of hp, slice_ne _ _ _, fun a na => ?_⟩
              refine qs _ (by rw [fp, if_pos hl0]) _ a _ (same_new na _) upd_same fun B sB dB => ?_
              rw [cut_tail]
              exact DataL.drop 1 (data_in sB dB hp)
            · refine iteN (fun z => hl0 ((len_is 1).mp z)) ?_
              refine ⟨_, rfl, rfl, _, rfl, iteN (n0 _ _ q_pick n_pick) (iteF ?_)⟩
              refine ⟨_, rfl, rfl, _, rfl, iteN (n0 _ _ q_choose n_choose) (iteF ?_)⟩
              exact no (by rw [fp, if_neg hl0]) H (Same.refl H)
          have nt := k3
          refine ⟨_, rfl, tw, _, rfl, .inr (R.twos H), rfl, rfl, _, rfl, iteInN nt (iteF ?_)⟩
          by_cases k4 : k = w_pick
          · have fp : formParts k (t1 :: l') = if l'.length = 2 then some (t1 :: l') else none := by
              unfold formParts
              rw [if_neg k1, if_neg k2, if_neg k3, if_pos k4]
              simp
            have n_choose : k ≠ w_choose := by rw [k4]; decide
            refine ⟨_, rfl, rfl, _, rfl, iteY (y0 _ _ q_pick k4) ?_⟩
            refine ⟨_, rfl, p, _, rfl, .inr (SqT.of hp), rfl, _, rfl, ?_⟩
            by_cases hl0 : l'.length = 2
            · refine iteY ((len_is 2).mpr hl0) ?_
              refine ⟨_, rfl, _, rfl, p, _, rfl, SqT.of hp, slice_ne _ _ _, fun a na => ?_⟩
              refine qs _ (by rw [fp, if_pos hl0]) _ a _ (same_new na _) upd_same fun B sB dB => ?_
              rw [cut_tail]
              exact DataL.drop 1 (data_in sB dB hp)
            · refine iteN (fun z => hl0 ((len_is 2).mp z)) ?_
              refine ⟨_, rfl, rfl, _, rfl, iteN (n0 _ _ q_choose n_choose) (iteF ?_)⟩
              exact no (by rw [fp, if_neg hl0]) H (Same.refl H)
          have n_pick := k4
          refine ⟨_, rfl, rfl, _, rfl, iteN (n0 _ _ q_pick n_pick) (iteF ?_)⟩
          by_cases k5 : k = w_choose
          · have fp : formParts k (t1 :: l') = if l'.length = 1 ∧ (l'.headD .non).areNms = true then some [t1] else none := by
              unfold formParts
              rw [if_neg k1, if_neg k2, if_neg k3, if_neg k4, if_pos k5]
              cases l' <;> simp
            refine ⟨_, rfl, rfl, _, rfl, iteY (y0 _ _ q_choose k5) ?_⟩
            refine ⟨_, rfl, p, _, rfl, .inr (SqT.of hp), rfl, _, rfl, ?_⟩
            by_cases hl0 : l'.length = 1
            · refine iteY ((len_is 1).mpr hl0) ?_
              match l', hl0, hl', htl, hnt, fp with
              | [t2], _, ⟨x2, xs2, e2, hd2, e3⟩, htl, hnt, fp =>
                subst e2
                obtain rfl : xs2 = [] := e3
                refine ⟨_, rfl, p, _, _, _, rfl, rfl, SqT.of hp, atI_at (by decide) rfl, x2, t2, rfl, hd2, tameL_mem htl t2 (by simp), fun m hm => ?_, fun H1 hs1 => ⟨_, rfl, ?_⟩⟩
                · subst hm
                  have e : (!decide (k = w_choose) || (Th.flatL m && SeqAt.shaped (.list (Th.pyL m)))) = true := hnt
                  rw [decide_eq_true k5] at e
                  exact Bool.and_eq_true_iff.mp e
                cases hi : t2.areNms with
                | true =>
                  refine iteT ⟨_, rfl, _, rfl, _, rfl, p, _, rfl, SqT.of (hs1 _ _ hp), fun z => absurd z.1 (by show ¬ HT.sIx 3 0 (some 1) = 0; decide), fun a na => ?_⟩
                  refine qs [t1] (by rw [fp, if_pos ⟨rfl, hi⟩]) _ a _ (hs1.trans (same_new na _)) upd_same fun B sB dB => ?_
                  rw [cut_one]
                  exact DataL.take 1 (DataL.drop 1 (data_in sB dB hp))
                | false =>
                  exact iteF (no (by rw [fp, if_neg (fun z => by rw [show ([t2] : List Th).headD .non = t2 from rfl, hi] at z; cases z.2)]) H1 hs1)
            · exact iteN (fun z => hl0 ((len_is 1).mp z)) (iteF (no (by rw [fp, if_neg (fun z => hl0 z.1)]) H (Same.refl H)))
          have n_choose := k5
          refine ⟨_, rfl, rfl, _, rfl, iteN (n0 _ _ q_choose n_choose) (iteF ?_)⟩
          exact no (by unfold formParts; rw [if_neg k1, if_neg k2, if_neg k3, if_neg k4, if_neg k5]) H (Same.refl H)
        | _ => exact iteT (qn rfl H (Same.refl H))
  | _ => exact iteT (qn rfl H (Same.refl H))
abbrev s_is_recipe : Stmt := topS 11
abbrev N_is_recipe : List Str := ["thing", "row", "at", "one", "depth", "parts", "part"]
theorem sc_is_recipe : FnScope N_is_recipe ["thing"] (defScope s_is_recipe) := ⟨rfl, rfl, rfl, by decide +kernel, rfl, by decide +kernel, by decide +kernel⟩

/-- what is still to be looked at -/
def pend (n : Nat) (rest : List (Th × Nat)) : Nat := (rest.map fun p => Th.count (9 - p.2) p.1).sum
def Row (H : Hp) : List (Th × Nat) → List V → Prop
  | [], xs => xs = []
  | p :: r, xs => ∃ (a : Addr) (x : V) (ys : List V), xs = .ref a :: ys ∧ H a = some (.tup [x, .int (p.2 : Int)]) ∧ Data H p.1 x ∧ Row H r ys
theorem Row.same {H H' : Hp} (s : Same H H') : ∀ {r : List (Th × Nat)} {xs : List V}, Row H r xs → Row H' r xs
  | [], _, h => h
  | _ :: _, _, ⟨a, x, ys, e, h, d, r⟩ => ⟨a, x, ys, e, s _ _ h, d.same s, Row.same s r⟩
theorem Row.len {H : Hp} : ∀ {r : List (Th × Nat)} {xs : List V}, Row H r xs → xs.length = r.length
  | [], _, h => by rw [show _ = [] from h]; rfl
  | _ :: _, _, ⟨a, x, ys, e, h, d, r⟩ => by rw [e, List.length_cons, Row.len r]; rfl
theorem Row.at {H : Hp} : ∀ {r : List (Th × Nat)} {xs : List V} {i : Nat} {p : Th × Nat}, Row H r xs → r[i]? = some p → ∃ (a : Addr) (x : V), xs[i]? = some (.ref a) ∧ H a = some (.tup [x, .int (p.2 : Int)]) ∧ Data H p.1 x
  | [], _, i, p, _, e => by simp at e
  | q :: _, _, 0, p, ⟨a, x, ys, e1, h, d, _⟩, e => by subst e1; cases e; exact ⟨a, x, rfl, h, d⟩
  | _ :: _, _, i + 1, p, ⟨a, x, ys, e1, h, d, r⟩, e => by subst e1; exact Row.at (i := i) r (by simpa using e)
theorem Row.snoc {H : Hp} {p : Th × Nat} {a : Addr} {x : V} (h : H a = some (.tup [x, .int (p.2 : Int)])) (d : Data H p.1 x) : ∀ {r : List (Th × Nat)} {xs : List V}, Row H r xs → Row H (r ++ [p]) (xs ++ [.ref a])
  | [], _, e => by rw [show _ = [] from e]; exact ⟨a, x, [], rfl, h, d, rfl⟩
  | _ :: _, _, ⟨b, y, ys, e, h', d', r⟩ => by subst e; exact ⟨b, y, _, rfl, h', d', Row.snoc h d r⟩
theorem pend_ge (n : Nat) : ∀ r : List (Th × Nat), r.length ≤ pend n r
  | [] => Nat.zero_le _
  | p :: r => by
    have := pend_ge n r
    have := count_pos (9 - p.2) p.1
    show r.length + 1 ≤ Th.count (9 - p.2) p.1 + pend n r
    omega
theorem pend_app (n : Nat) (a b : List (Th × Nat)) : pend n (a ++ b) = pend n a + pend n b := by unfold pend; rw [List.map_append, List.sum_append]
def allOk (r : List (Th × Nat)) : Bool := r.all fun p => Th.okay (9 - p.2) p.1
def spIsRecipe : Sp := fun vs H Q _ => ∃ (v : V) (t : Th), vs = [v] ∧ Data H t v ∧ t.tame = true ∧ ∀ H', Same H H' → Q (.bl t.isRcp) H'
theorem parts_tame {t : Th} {ps : List Th} (ht : t.tame = true) (h : t.parts = some ps) : ps.length ≤ 3 ∧ ∀ p ∈ ps, p.tame = true := by
  obtain ⟨k, l, rfl⟩ := parts_tup h
  have hm := tameL_mem (tup_tame ht).2.1
  have e : formParts k l = some ps := h
  unfold formParts at e
  have none_ne : ∀ {x : List Th}, (Option.none : Option (List Th)) = some x → False := fun z => by cases z
  split at e
  · split at e
    · cases e; exact ⟨by decide, by simp⟩
    · cases e
  split at e
  · split at e
    · cases e; exact ⟨by decide, by simp⟩
    · cases e
  split at e
  · split at e
    · rename_i h2; cases e; exact ⟨by omega, hm⟩
    · cases e
  split at e
  · split at e
    · rename_i h2; cases e; exact ⟨by omega, hm⟩
    · cases e
  split at e
  · split at e
    · rename_i h2; cases e
      refine ⟨by rw [List.length_take]; omega, fun p hp => hm p (List.mem_of_mem_take hp)⟩
    · cases e
  · cases e
theorem ok_is_recipe {tw : Addr} (T : Txt K mg) (R : RTxt K mg tw) (D : IsDef K mg "is_recipe" s_is_recipe ["thing"]) (C_within : Cal P w K mg base CX0 3 "within" ["thing"] (spWithin K)) : Cal P w K mg base CX0 4 "is_recipe" ["thing"] spIsRecipe := by
  refine D.cal sc_is_recipe (fun vs H Q E h => ?_) (fun f cdv A outer s H vs Q E hr h => ?_)
  · obtain ⟨v, t, rfl, _⟩ := h
    rfl
  obtain ⟨v, t, rfl, hv, ht, q⟩ := h
  obtain ⟨_, g_MOST⟩ := R.MOST
  obtain ⟨_, g_DEEPEST⟩ := R.DEEPEST
  refine ⟨_, (pss_cons (ps_set (i := 1) sc_is_recipe.nd rfl (Or.inl rfl) (pe_lst (pa_cons (pe_tup (pa_cons (pv 0) (pa_cons pe_int pa_nil))) pa_nil)))
      (pss_cons (ps_set (i := 2) sc_is_recipe.nd rfl (Or.inl rfl) pe_int)
      (pss_cons (ps_while PassesOwn.never (pt_cmpR op_lt (pv 2) (pe_callB call_len_seq (by rfl) T.b_len PySem.boot_len (pa_cons (pv 1) pa_nil)) (nomark _))
        (pss_cons (ps_asg (pe_ix (r := rIxL K) ix_list (pv 1) (pv 2) (fun _ _ => rfl)) (pg_tup rfl (pgs_cons (pg_name (i := 3) sc_is_recipe.nd rfl (Or.inl rfl)) (pgs_cons (pg_name (i := 4) sc_is_recipe.nd rfl (Or.inl rfl)) pgs_nil))))
      (pss_cons (ps_set (i := 5) sc_is_recipe.nd rfl (Or.inl rfl) (pe_cal C_within (hr.mono (by first | decide | omega)) pass0 (pa_cons (pv 3) pa_nil)))
      (pss_cons (ps_if (PW.pt (pw_or (pt_cmpR op_isN (pv 5) pe_non (nomark _)) (pw_or (pt_cmpR op_gt (pv 4) (pe_glob (v := .int _) rfl g_DEEPEST ⟨_, rfl⟩) (nomark _)) (pw_or1 (pt_cmpR op_gt (pe_callB call_len_seq (by rfl) T.b_len PySem.boot_len (pa_cons (pv 1) pa_nil)) (pe_glob (v := .int _) rfl g_MOST ⟨_, rfl⟩) (nomark _))))))
        (pss_one (ps_ret pe_bl))
        pss_nil)
      (pss_cons (ps_for PassesOwn.never rfl (pi_tup (pv 5)) (pg_name (i := 6) sc_is_recipe.nd rfl (Or.inl rfl))
        (pss_one (ps_expr (pe_bm PySem.F.plainAttrs_list PySem.F.slot_list_append PySem.F.type_list_append mt_append (pv 1) (pa_cons (pe_tup (pa_cons (pv 6) (pa_cons (pe_op op_add (pv 4) pe_int) pa_nil))) pa_nil)))))
      (pss_one (ps_aug (i := 2) sc_is_recipe.nd rfl (Or.inl rfl) pe_int ip_add)))))))
      (pss_one (ps_ret pe_bl))))), ?_⟩
  refine ⟨_, rfl, le_line (Nat.le_of_ble_eq_true rfl), fun p np => ⟨le_line (Nat.le_of_ble_eq_true rfl), fun L nL => ?_⟩⟩
  have s1 := same_new np (.tup [v, .int 1])
  -- the row: looked at, and still to be looked at
  refine ⟨fun m σ H' => ∃ (B : Hp) (all : List (Th × Nat)) (xs : List V) (i : Nat) (o1 o2 o3 o4 : Option V), σ = [some v, some (.ref L), some (.int (i : Int)), o1, o2, o3, o4] ∧ Same H B ∧ B L = none ∧ Same B H' ∧ H' L = some (.lst xs) ∧ Row B all xs ∧
      i ≤ all.length ∧ all.length ≤ 103 ∧ (∀ q ∈ all, q.1.tame = true ∧ 1 ≤ q.2 ∧ q.2 ≤ 9) ∧ (all.length ≤ 100 ∨ i < all.length) ∧ t.isRcp = (allOk (all.drop i) && decide (i + pend 0 (all.drop i) ≤ 100)) ∧ m = 104 - i, ?_, ?_⟩
  · refine ⟨104, _, [(t, 1)], [.ref p], 0, none, none, none, none, rfl, s1, nL, same_new nL _, upd_same, ⟨p, v, [], rfl, upd_same, hv.same s1, rfl⟩, Nat.zero_le _, Nat.le_of_ble_eq_true rfl, ?_, .inl (Nat.le_of_ble_eq_true rfl), ?_, rfl⟩
    · intro q' hq
      rw [List.mem_singleton.mp hq]
      exact ⟨ht, Nat.le_refl 1, (by decide : 1 ≤ 9)⟩
    · show (t.okay 8 && decide (t.count 8 ≤ 100)) = ((t.okay 8 && true) && decide (0 + (t.count 8 + 0) ≤ 100))
      rw [Bool.and_true, Nat.zero_add, Nat.add_zero]
  rintro m σ H1 ⟨B, all, xs, i, o1, o2, o3, o4, rfl, hB, nB, hs, hL, hrow, hi, h103, htm, hlast, heq, rfl⟩
  have hxl := hrow.len
  refine ⟨_, rfl, _, rfl, L, _, rfl, .inl (SqL.of hL), _, _, rfl, rfl, _, rfl, ?_⟩
  by_cases hlt : ((i : Nat) : Int) < ((xs.length : Nat) : Int)
  · refine iteY hlt ?_
    have hia : i < all.length := by omega
    have hget := List.getElem?_eq_getElem hia
    obtain ⟨a, x, hxa, hpa, hda⟩ := hrow.at hget
    generalize hqe : all[i] = pq at hget hpa hda
    obtain ⟨t1, d1⟩ := pq
    have hq1 := htm (t1, d1) (by rw [← hqe]; exact List.getElem_mem hia)
    have hdrop : all.drop i = (t1, d1) :: all.drop (i + 1) := by rw [List.drop_eq_getElem_cons hia, hqe]
    refine ⟨fun σ' H' => ∃ (B : Hp) (all : List (Th × Nat)) (xs : List V) (i' : Nat) (o1 o2 o3 o4 : Option V), σ' = [some v, some (.ref L), some (.int (i' : Int)), o1, o2, o3, o4] ∧ Same H B ∧ B L = none ∧ Same B H' ∧ H' L = some (.lst xs) ∧ Row B all xs ∧
      i' ≤ all.length ∧ all.length ≤ 103 ∧ (∀ q ∈ all, q.1.tame = true ∧ 1 ≤ q.2 ∧ q.2 ≤ 9) ∧ (all.length ≤ 100 ∨ i' < all.length) ∧ t.isRcp = (allOk (all.drop i') && decide (i' + pend 0 (all.drop i') ≤ 100)) ∧ i' = i + 1, ?_, ?_⟩
    · rintro σ' H' ⟨B, all, xs, i', o1, o2, o3, o4, e1, e2, e3, e4, e5, e6, e7, e8, e9, e10, e11, e12⟩
      exact ⟨104 - i', by omega, B, all, xs, i', o1, o2, o3, o4, e1, e2, e3, e4, e5, e6, e7, e8, e9, e10, e11, rfl⟩
    -- one, depth = row[at]
    refine ⟨_, rfl, _, rfl, L, _, _, _, rfl, rfl, SqL.of hL, atI_nat hxa, ?_⟩
    refine ⟨a, _, rfl, SqT.of (hs _ _ hpa), rfl, x, _, rfl, _, _, rfl, rfl, ?_⟩
    refine ⟨_, rfl, x, t1, rfl, hda.same hs, hq1.1, fun hno H2 hs2 => ?_, fun ps hps H2 ap zs hs2 hap hzs => ?_⟩
    · refine ⟨_, rfl, rfl, _, rfl, iteY rfl (iteT ?_)⟩
      have : t.isRcp = false := by
        rw [heq, hdrop]
        show ((Th.okay (9 - d1) t1 && allOk (all.drop (i + 1))) && _) = false
        have : Th.okay (9 - d1) t1 = false := by
          cases 9 - d1 with
          | zero => rfl
          | succ n => show (match t1.parts with | none => false | some ps => ps.all (Th.okay n)) = false; rw [hno]
        rw [this]
        rfl
      rw [← this]
      exact q _ (hB.trans (hs.trans hs2))
    · refine ⟨_, rfl, rfl, _, rfl, iteN (by intro z; cases z) ?_⟩
      have hs12 := hs.trans hs2
      have hL2 := hs2 _ _ hL
      refine ⟨_, rfl, _, _, rfl, rfl, _, rfl, ?_⟩
      by_cases hd9 : ((d1 : Nat) : Int) > 8
      · refine iteY hd9 (iteT ?_)
        have : t.isRcp = false := by
          rw [heq, hdrop]
          show ((Th.okay (9 - d1) t1 && allOk (all.drop (i + 1))) && _) = false
          have e9 : 9 - d1 = 0 := by omega
          rw [e9]
          rfl
        rw [← this]
        exact q _ (hB.trans hs12)
      refine iteN hd9 ?_
      refine ⟨_, rfl, L, _, rfl, .inl (SqL.of hL2), _, _, rfl, rfl, _, rfl, ?_⟩
      by_cases hbig : ((xs.length : Nat) : Int) > 100
      · refine iteY hbig ?_
        have : t.isRcp = false := by
          rw [heq, hdrop]
          have hge := pend_ge 0 (all.drop i)
          rw [hdrop] at hge
          have hln : ((t1, d1) :: all.drop (i + 1)).length = all.length - i := by rw [← hdrop, List.length_drop]
          rw [decide_eq_false (show ¬ i + pend 0 ((t1, d1) :: all.drop (i + 1)) ≤ 100 by omega), Bool.and_false]
        rw [← this]
        exact q _ (hB.trans hs12)
      refine iteN hbig ?_
      obtain ⟨hp3, hptm⟩ := parts_tame hq1.1 hps
      have hzl := (hzs B hs hda).len
      obtain ⟨nn, hnn⟩ : ∃ nn, 9 - d1 = nn + 1 := ⟨8 - d1, by omega⟩
      have hnn2 : 9 - (d1 + 1) = nn := by omega
      have hok : Th.okay (9 - d1) t1 = allOk (ps.map fun p => (p, d1 + 1)) := by
        rw [hnn]
        show (match t1.parts with | none => false | some ps => ps.all (Th.okay nn)) = _
        rw [hps]
        unfold allOk
        rw [List.all_map]
        show ps.all (Th.okay nn) = ps.all fun p => Th.okay (9 - (d1 + 1)) p
        rw [hnn2]
      have hct : Th.count (9 - d1) t1 = 1 + pend 0 (ps.map fun p => (p, d1 + 1)) := by
        rw [hnn]
        show (match t1.parts with | none => 1 | some ps => 1 + (ps.map (Th.count nn)).sum) = _
        rw [hps]
        unfold pend
        rw [List.map_map]
        show 1 + (ps.map (Th.count nn)).sum = 1 + (ps.map fun p => Th.count (9 - (d1 + 1)) p).sum
        rw [hnn2]
      -- for part in parts
      refine ⟨_, rfl, ap, rfl, ⟨_, SqT.of hap⟩, for_tup (K := K) (a := ap) (xs := zs) (fun j σ' H' => ∃ (B' : Hp) (ys : List V) (o4 : Option V), σ' = [some v, some (.ref L), some (.int (i : Int)), some x, some (.int (d1 : Int)), some (.ref ap), o4] ∧ Same B B' ∧ B' L = none ∧ Same B' H' ∧ H' ap = some (.tup zs) ∧ H' L = some (.lst ys) ∧
          Row B' (all ++ (ps.take j).map fun p => (p, d1 + 1)) ys ∧ DataL B' ps zs) ?_ (fun j σ' H' _ ⟨_, _, _, _, _, _, _, h, _⟩ => SqT.of h) ?_ ?_⟩
      · exact ⟨B, xs, o4, rfl, Same.refl _, nB, hs12, hap, hL2, by rw [List.take_zero, List.map_nil, List.append_nil]; exact hrow, hzs B hs hda⟩
      · rintro j y σ' H3 hy ⟨B', ys, o4', rfl, hBB, nB', hs3, hap3, hL3, hrow3, hzs3⟩
        obtain ⟨tj, htj, hdj⟩ := hzs3.at hy
        have hyl := hrow3.len
        have hjl : (ps.take j).length ≤ 3 := by rw [List.length_take]; omega
        rw [List.length_append, List.length_map] at hyl
        refine ⟨_, rfl, .inl ⟨rfl, _, SqL.of hL3⟩, _, rfl, _, rfl, _, _, rfl, rfl, le_line (Nat.le_of_ble_eq_true rfl), fun u nu => ⟨L, _, _, rfl, rfl, same_new nu _ _ _ hL3, lt_line (by omega), ?_⟩⟩
        have Lu : L ≠ u := ne_of_none hL3 nu
        have apL : ap ≠ L := fun z => by rw [z, hL3] at hap3; cases hap3
        have nu' : B' u = none := hs3.free nu
        refine ⟨upd B' u (.tup [y, .int ((d1 : Int) + 1)]), _, _, rfl, hBB.trans (same_new nu' _), by rw [upd_ne Lu]; exact nB', fun b o e => ?_, ?_, upd_same, ?_, hzs3.same (same_new nu' _)⟩
        · have hbL : b ≠ L := fun z => by rw [z, upd_ne Lu, nB'] at e; cases e
          rw [upd_ne hbL]
          by_cases hbu : b = u
          · rw [hbu, upd_same] at e ⊢; exact e
          · rw [upd_ne hbu] at e ⊢; exact hs3 _ _ e
        · rw [upd_ne apL]; exact same_new nu _ _ _ hap3
        · rw [List.take_add_one, htj, List.map_append, ← List.append_assoc]
          exact Row.snoc (p := (tj, d1 + 1)) upd_same (hdj.same (same_new nu' _)) (hrow3.same (same_new nu' _))
      · rintro σ' H3 ⟨B', ys, o4', rfl, hBB, nB', hs3, hap3, hL3, hrow3, hzs3⟩
        rw [hzl, List.take_length] at hrow3
        refine ⟨_, rfl, _, _, rfl, rfl, ?_⟩
        have hnl : (ps.map fun p => (p, d1 + 1)).length = ps.length := List.length_map _
        refine ⟨B', all ++ ps.map fun p => (p, d1 + 1), ys, i + 1, _, _, _, _, rfl, hB.trans hBB, nB', hs3, hL3, hrow3, ?_, ?_, ?_, ?_, ?_, rfl⟩
        · rw [List.length_append]; omega
        · rw [List.length_append, hnl]; omega
        · intro q' hq'
          rcases List.mem_append.mp hq' with h | h
          · exact htm q' h
          · obtain ⟨p', hp', rfl⟩ := List.mem_map.mp h
            exact ⟨hptm p' hp', by show 1 ≤ d1 + 1; omega, by show d1 + 1 ≤ 9; omega⟩
        · rw [List.length_append, hnl]
          cases ps with
          | nil => exact .inl (by show all.length + 0 ≤ 100; omega)
          | cons p0 r0 => exact .inr (by rw [List.length_cons]; omega)
        · rw [heq, hdrop, List.drop_append_of_le_length (by omega), pend_app]
          have ea : allOk ((t1, d1) :: all.drop (i + 1)) = (Th.okay (9 - d1) t1 && allOk (all.drop (i + 1))) := rfl
          have ep : pend 0 ((t1, d1) :: all.drop (i + 1)) = Th.count (9 - d1) t1 + pend 0 (all.drop (i + 1)) := rfl
          have eb : allOk (all.drop (i + 1) ++ ps.map fun p => (p, d1 + 1)) = (allOk (all.drop (i + 1)) && allOk (ps.map fun p => (p, d1 + 1))) := List.all_append
          rw [ea, ep, eb, hok, hct, Bool.and_comm (allOk (ps.map fun p => (p, d1 + 1)))]
          congr 2
          exact propext ⟨fun z => by omega, fun z => by omega⟩
  · refine iteN hlt ?_
    have e : all.drop i = [] := List.drop_eq_nil_of_le (by omega)
    have : t.isRcp = true := by
      rw [heq, e]
      show (true && decide (i + 0 ≤ 100)) = true
      rw [decide_eq_true (show i + 0 ≤ 100 by omega)]
      rfl
    have h := q _ (hB.trans hs)
    rw [this] at h
    exact h
end
/-! ### the law's own reckoning of what is a recipe -/
def spSpots (K : PySem.W.Frag) : Sp := fun vs H Q _ => ∃ (v : V) (t : Th), vs = [v] ∧ Data H t v ∧ t.tame = true ∧ (t.parts = none → ∀ H', Same H H' → Q .non H') ∧
  (∀ ps, t.parts = some ps → ∀ (H' : Hp) (a : Addr), Same H H' → H' a = some (.lst ((List.range ps.length).map fun (i : Nat) => V.int ((i : Int) + 1))) → H a = none → Q (.ref a) H')
def lawCnt : Nat → Th → Nat
  | 0, _ => 1000
  | n + 1, t => match t.parts with
    | none => 1000
    | some ps => 1 + (ps.map (lawCnt n)).sum
theorem sum_ge {α : Type} (f : α → Nat) : ∀ {l : List α} {x : α}, x ∈ l → f x ≤ (l.map f).sum
  | a :: l, x, h => by
    rcases List.mem_cons.mp h with h | h
    · rw [h, List.map_cons, List.sum_cons]; omega
    · have := sum_ge f h
      rw [List.map_cons, List.sum_cons]; omega
theorem lawCnt_is : ∀ (n : Nat) (t : Th), (t.okay n = true → lawCnt n t = t.count n) ∧ (t.okay n = false → 1000 ≤ lawCnt n t)
  | 0, t => ⟨fun h => (by cases h), fun _ => Nat.le_refl _⟩
  | n + 1, t => by
    cases hp : t.parts with
    | none =>
      have e1 : t.okay (n + 1) = false := by show (match t.parts with | none => false | some ps => ps.all (Th.okay n)) = false; rw [hp]
      have e2 : lawCnt (n + 1) t = 1000 := by show (match t.parts with | none => 1000 | some ps => 1 + (ps.map (lawCnt n)).sum) = 1000; rw [hp]
      exact ⟨fun h => (by rw [e1] at h; cases h), fun _ => (by rw [e2]; exact Nat.le_refl _)⟩
    | some ps =>
      have e1 : t.okay (n + 1) = ps.all (Th.okay n) := by show (match t.parts with | none => false | some ps => ps.all (Th.okay n)) = _; rw [hp]
      have e2 : lawCnt (n + 1) t = 1 + (ps.map (lawCnt n)).sum := by show (match t.parts with | none => 1000 | some ps => 1 + (ps.map (lawCnt n)).sum) = _; rw [hp]
      have e3 : t.count (n + 1) = 1 + (ps.map (Th.count n)).sum := by show (match t.parts with | none => 1 | some ps => 1 + (ps.map (Th.count n)).sum) = _; rw [hp]
      rw [e1, e2, e3]
      refine ⟨fun h => ?_, fun h => ?_⟩
      · rw [List.all_eq_true] at h
        have : ps.map (lawCnt n) = ps.map (Th.count n) := List.map_congr_left fun p hpm => (lawCnt_is n p).1 (h p hpm)
        rw [this]
      · rw [List.all_eq_false] at h
        obtain ⟨p, hpm, hno⟩ := h
        have h1 := (lawCnt_is n p).2 (by simpa using hno)
        have h2 := sum_ge (lawCnt n) hpm
        omega
theorem isRcp_law (t : Th) : decide (((lawCnt 8 t : Nat) : Int) ≤ 100) = t.isRcp := by
  unfold Th.isRcp
  have h := lawCnt_is 8 t
  cases ho : t.okay 8 with
  | true =>
    rw [h.1 ho, Bool.true_and]
    exact decide_eq_decide.mpr ⟨fun z => by omega, fun z => by omega⟩
  | false =>
    have := h.2 ho
    rw [Bool.false_and]
    exact decide_eq_false (by omega)
theorem le_sign (a c : Nat) : (!decide (([c] : List Nat) < [a])) = decide (a ≤ c) := by
  have e : (([c] : List Nat) < [a]) ↔ c < a := by
    constructor
    · intro h
      cases h with
      | rel h => exact h
      | cons h => cases h
    · intro h; exact List.Lex.rel h
  rw [decide_eq_decide.mpr e]
  by_cases h : c < a
  · rw [decide_eq_true h, decide_eq_false (by omega)]; rfl
  · rw [decide_eq_false h, decide_eq_true (by omega)]; rfl
/-- the filter of bad signs is empty just where all are good -/
theorem no_bad (l : List Nat) : (l.filter fun c => !(decide (97 ≤ c) && decide (c ≤ 122))).isEmpty = l.all fun c => decide (97 ≤ c) && decide (c ≤ 122) := by
  induction l with
  | nil => rfl
  | cons c l ih =>
    rw [List.all_cons, List.filter_cons, ← ih]
    cases (decide (97 ≤ c) && decide (c ≤ 122)) <;> rfl
theorem no_badN (l : List Th) : (l.filter fun t => !t.isNm).isEmpty = l.all Th.isNm := by
  induction l with
  | nil => rfl
  | cons c l ih =>
    rw [List.all_cons, List.filter_cons, ← ih]
    cases c.isNm <;> rfl
def signsPy (l : List Nat) : List PyData := l.map fun c => PyData.str (SX.S [c])
theorem signs_dp (K : PySem.W.Frag) (H : Hp) : ∀ l : List Nat, DpAll K H (txs (ones l)) (signsPy l)
  | [] => .nil
  | _ :: l => .cons (.str _) (signs_dp K H l)
theorem signs_shaped : ∀ {l : List Nat}, (∀ c ∈ l, c < 128) → PyData.canLayAll0 (signsPy l) = true ∧ PyData.depthAll (signsPy l) = 0
  | [], _ => ⟨rfl, rfl⟩
  | c :: l, hl => by
    have ih := signs_shaped (l := l) fun d h => hl d (List.mem_cons_of_mem _ h)
    refine ⟨?_, ?_⟩
    · show ((SX.S [c]).cps.all (· < 0x110000) && PyData.canLayAll0 (signsPy l)) = true
      rw [ih.1]
      have := hl c (List.mem_cons_self ..)
      simp
      omega
    · show max 0 (PyData.depthAll (signsPy l)) = 0
      rw [ih.2]
      rfl
theorem signs_eqv (l : List Nat) : PyData.eqv (.list (signsPy l)) (.list []) = l.isEmpty := by cases l <;> rfl
theorem tameS_is {z : List Nat} (h : tameS z = true) : z.length ≤ 1000000 ∧ ∀ c ∈ z, c < 128 := by
  unfold tameS at h
  rw [Bool.and_eq_true, decide_eq_true_eq, List.all_eq_true] at h
  exact ⟨h.1, fun c hc => of_decide_eq_true (h.2 c hc)⟩
theorem parts_take {t : Th} {ps : List Th} (h : t.parts = some ps) : ∃ k l, t = .tup (.str k :: l) ∧ ps = l.take ps.length := by
  obtain ⟨k, l, rfl⟩ := parts_tup h
  refine ⟨k, l, rfl, ?_⟩
  have e : formParts k l = some ps := h
  unfold formParts at e
  split at e
  · split at e
    · cases e; rfl
    · cases e
  split at e
  · split at e
    · cases e; rfl
    · cases e
  split at e
  · split at e
    · cases e; rw [List.take_of_length_le (Nat.le_refl _)]
    · cases e
  split at e
  · split at e
    · cases e; rw [List.take_of_length_le (Nat.le_refl _)]
    · cases e
  split at e
  · split at e
    · rename_i h2; cases e; rw [List.length_take, h2.1]; rfl
    · cases e
  · cases e
section
variable {P : Program} {w : World} {K : PySem.W.Frag} {mg : Str → Option Value} {base : Heap}
abbrev s__law_is_name : Stmt := topS 18
abbrev N__law_is_name : List Str := ["thing", "sign"]
theorem sc__law_is_name : FnScope N__law_is_name ["thing"] (defScope s__law_is_name) := ⟨rfl, rfl, rfl, by decide +kernel, rfl, by decide +kernel, by decide +kernel⟩

theorem ok__law_is_name (T : Txt K mg) (D : IsDef K mg "_law_is_name" s__law_is_name ["thing"]) : Cal P w K mg base CX0 1 "_law_is_name" ["thing"] spIsName := by
  refine D.cal sc__law_is_name (fun vs H Q E h => ?_) (fun f cdv A outer s H vs Q E hr h => ?_)
  · obtain ⟨v, t, rfl, _⟩ := h
    rfl
  obtain ⟨v, t, rfl, hv, ht, q⟩ := h
  have ea : ("a" : Str) = SX.S [97] := by decide +kernel
  have ez : ("z" : Str) = SX.S [122] := by decide +kernel
  refine ⟨_, (pss_cons (ps_if (PW.pt (pw_or (pt_not (pt_val (pe_callB call_isi (by rfl) T.b_isinstance (by decide +kernel) (pa_cons (pv 0) (pa_cons (pe_bltn (v := .ty "str") (by rfl) T.b_str (by decide +kernel) rfl) pa_nil))))) (pw_or1 (pt_not (pt_chain op_le op_le pe_int (pe_callB call_len_str (by rfl) T.b_len PySem.boot_len (pa_cons (pv 0) pa_nil)) pe_int)))))
        (pss_one (ps_ret pe_bl))
        pss_nil)
      (pss_one (ps_ret (pe_cmpR (op_eqD hr.units) (pe_lc (own := [("sign", 1)]) (g := gName 1)  (by rfl) sc__law_is_name.nd  (pi_str (pv 0)) (blkOk_by (own := [("sign", 1)]) (N := N__law_is_name) (sc := defScope s__law_is_name) (by decide +kernel)) (fun _ _ _ _ _ => (pg_name (i := 1) sc__law_is_name.nd rfl (Or.inl rfl))) (fun _ _ _ _ _ => (pts_one (pt_not (pt_chain op_le_str op_le_str pe_str (pv 1) pe_str)))) (fun _ _ _ _ _ => (pv 1))) (pe_lst pa_nil) (nomark _))))), ?_⟩
  refine ⟨_, rfl, _, _, _, _, _, rfl, .ty _, hv.ty, kit_str t, _, rfl, ?_⟩
  cases t with
  | str z =>
    obtain ⟨hz, hc⟩ := tameS_is ht
    have ev : v = .str (SX.S z) := hv
    subst ev
    refine iteF ?_
    have hl : (SX.S z).length ≤ sizeLine := by rw [SX.S_len]; exact le_line (by omega)
    have hlz : (SX.S z).length = z.length := SX.S_len z
    refine ⟨_, rfl, _, rfl, hl, _, _, rfl, rfl, _, rfl, ?_⟩
    by_cases h1 : (1 : Int) ≤ (((SX.S z).length : Nat) : Int)
    · refine iteY h1 ⟨_, _, rfl, rfl, _, rfl, ?_⟩
      by_cases h2 : (((SX.S z).length : Nat) : Int) ≤ 8
      · rw [decide_eq_true h2]
        refine iteF ?_
        rw [hlz] at h1 h2
        refine ⟨_, rfl, _, rfl, fun L nL => lcS (z := SX.S z) (fun i H' => Same H H' ∧ H' L = some (.lst (txs (ones ((z.take i).filter fun c => !(decide (97 ≤ c) && decide (c ≤ 122)))))))
          ⟨same_new nL _, upd_same⟩ ?_ ?_⟩
        · rintro i c H1 hc1 ⟨hs, hL⟩
          have hci : z[i]? = some c := by
            have : z.toArray[i]? = some c := hc1
            rwa [List.getElem?_toArray] at this
          have e1 : (z.take (i + 1)) = z.take i ++ [c] := by rw [List.take_add_one, hci]; rfl
          have good : (decide (97 ≤ c) && decide (c ≤ 122)) = true → Same H H1 ∧ H1 L = some (.lst (txs (ones ((z.take (i + 1)).filter fun c => !(decide (97 ≤ c) && decide (c ≤ 122)))))) := fun hcc => by
            refine ⟨hs, ?_⟩
            rw [e1, List.filter_append, List.filter_cons_of_neg (by rw [hcc]; decide), List.filter_nil, List.append_nil]
            exact hL
          have bad : (decide (97 ≤ c) && decide (c ≤ 122)) = false → ∃ acc, H1 L = some (.lst acc) ∧ acc.length < sizeLine ∧ Same H (upd H1 L (.lst (acc ++ [.str ⟨#[c]⟩]))) ∧ (upd H1 L (.lst (acc ++ [.str ⟨#[c]⟩]))) L = some (.lst (txs (ones ((z.take (i + 1)).filter fun c => !(decide (97 ≤ c) && decide (c ≤ 122)))))) := fun hcc => by
            refine ⟨_, hL, ?_, same_upd hs nL _, ?_⟩
            · rw [txs_len, ones_len]
              exact lt_line (Nat.lt_of_le_of_lt (List.length_filter_le _ _) (by rw [List.length_take]; omega))
            · rw [upd_same, e1, List.filter_append, List.filter_cons_of_pos (by rw [hcc]; rfl), List.filter_nil]
              unfold ones
              rw [List.map_append, txs_app]
              rfl
          refine ⟨rfl, _, rfl, _, _, rfl, rfl, _, rfl, ?_⟩
          have l1 : (!decide (([c] : List Nat) < ("a" : Str).cps.toList)) = decide (97 ≤ c) := by rw [ea]; exact le_sign 97 c
          have l2 : (!decide ((("z" : Str).cps.toList : List Nat) < [c])) = decide (c ≤ 122) := by rw [ez]; exact le_sign c 122
          by_cases g1 : 97 ≤ c
          · have g1' : (!decide (([c] : List Nat) < ("a" : Str).cps.toList)) = true := by rw [l1]; exact decide_eq_true g1
            refine if_true_eq g1' ⟨_, _, rfl, rfl, _, rfl, ?_⟩
            by_cases g2 : c ≤ 122
            · have g2' : (!decide ((("z" : Str).cps.toList : List Nat) < [c])) = true := by rw [l2]; exact decide_eq_true g2
              exact not_true_eq g2' (good (by rw [decide_eq_true g1, decide_eq_true g2]; rfl))
            · have g2' : (!decide ((("z" : Str).cps.toList : List Nat) < [c])) = false := by rw [l2]; exact decide_eq_false g2
              exact not_false_eq g2' ⟨_, rfl, bad (by rw [decide_eq_true g1, decide_eq_false g2]; rfl)⟩
          · have g1' : (!decide (([c] : List Nat) < ("a" : Str).cps.toList)) = false := by rw [l1]; exact decide_eq_false g1
            refine if_false_eq g1' ⟨_, rfl, ?_⟩
            exact iteT ⟨_, rfl, bad (by rw [decide_eq_false g1]; rfl)⟩
        · rintro H1 ⟨hs, hL⟩
          have ez : z.take (SX.S z).cps.size = z := List.take_of_length_le (by show z.length ≤ z.toArray.size; simp)
          rw [ez] at hL
          refine ⟨Nat.zero_le _, fun e ne => ?_⟩
          have Le : L ≠ e := ne_of_none hL ne
          have s1 := signs_shaped (l := z.filter fun c => !(decide (97 ≤ c) && decide (c ≤ 122))) fun c h => hc c (List.mem_filter.mp h).1
          refine ⟨_, _, .lst (SqL.of (by rw [upd_ne Le]; exact hL)) (signs_dp _ _ _), .lst (SqL.of upd_same) .nil, shaped_parts.mpr ⟨s1.1, by rw [s1.2]; decide⟩, rfl, ?_⟩
          rw [signs_eqv, no_bad]
          have en : nmOk z = z.all fun c => decide (97 ≤ c) && decide (c ≤ 122) := by
            unfold nmOk
            rw [decide_eq_true (show 1 ≤ z.length by omega), decide_eq_true (show z.length ≤ 8 by omega)]
            rfl
          rw [← en]
          exact q _ (hs.trans (same_new ne _))
      · rw [decide_eq_false h2]
        refine iteT ?_
        have e : nmOk z = false := by
          unfold nmOk
          rw [hlz] at h2
          rw [decide_eq_false (show ¬ z.length ≤ 8 by omega), Bool.and_false]
          rfl
        have : Q (.bl (nmOk z)) H := q H (Same.refl H)
        rw [e] at this
        exact this
    · refine iteN h1 ⟨_, rfl, iteT ?_⟩
      have e : nmOk z = false := by
        unfold nmOk
        rw [hlz] at h1
        rw [decide_eq_false (show ¬ 1 ≤ z.length by omega)]
        rfl
      have : Q (.bl (nmOk z)) H := q H (Same.refl H)
      rw [e] at this
      exact this
  | _ => exact iteT (q H (Same.refl H))
theorem formParts_len {k : List Nat} {l ps : List Th} (h : formParts k l = some ps) : l.length = 1 ∨ l.length = 2 ∨ l.length = 3 := by
  unfold formParts at h
  split at h
  · split at h
    · rename_i h2; exact .inl h2.1
    · cases h
  split at h
  · split at h
    · rename_i h2; exact .inl h2.1
    · cases h
  split at h
  · split at h
    · rename_i h2; exact .inr (.inl h2)
    · cases h
  split at h
  · split at h
    · rename_i h2; exact .inr (.inr h2)
    · cases h
  split at h
  · split at h
    · rename_i h2; exact .inr (.inl h2.1)
    · cases h
  · cases h
theorem in234 (n : Nat) : inV (.int (n : Int)) [.int 2, .int 3, .int 4] = decide (n = 2 ∨ n = 3 ∨ n = 4) := by
  show (((2 : Int) == (n : Int)) || (((3 : Int) == (n : Int)) || (((4 : Int) == (n : Int)) || false))) = _
  by_cases h : n = 2 ∨ n = 3 ∨ n = 4
  · rw [decide_eq_true h]
    rcases h with h | h | h <;> subst h <;> rfl
  · rw [decide_eq_false h]
    have e : ∀ m : Nat, m ≠ n → ((m : Int) == (n : Int)) = false := fun m hm => by
      rw [beq_eq_false_iff_ne]
      omega
    have e2 := e 2 (by omega)
    have e3 := e 3 (by omega)
    have e4 := e 4 (by omega)
    have e2' : ((2 : Int) == (n : Int)) = false := e2
    have e3' : ((3 : Int) == (n : Int)) = false := e3
    have e4' : ((4 : Int) == (n : Int)) = false := e4
    rw [e2', e3', e4']
    rfl
theorem num_parts (k : List Nat) (h : k = w_number) (t1 : Th) : (t1.isInt = true → formParts k [t1] = some []) ∧ (t1.isInt = false → formParts k [t1] = none) := by
  unfold formParts
  rw [if_pos h]
  exact ⟨fun z => if_pos ⟨rfl, z⟩, fun z => if_neg fun y => by rw [show ([t1] : List Th).headD .non = t1 from rfl, z] at y; cases y.2⟩
theorem read_parts (k : List Nat) (h1 : k ≠ w_number) (h : k = w_read) (t1 : Th) : (t1.isNm = true → formParts k [t1] = some []) ∧ (t1.isNm = false → formParts k [t1] = none) := by
  unfold formParts
  rw [if_neg h1, if_pos h]
  exact ⟨fun z => if_pos ⟨rfl, z⟩, fun z => if_neg fun y => by rw [show ([t1] : List Th).headD .non = t1 from rfl, z] at y; cases y.2⟩
theorem one_none (k : List Nat) (h1 : k ≠ w_number) (h2 : k ≠ w_read) (t1 : Th) : formParts k [t1] = none := by
  unfold formParts
  rw [if_neg h1, if_neg h2]
  simp
theorem twos_parts (k : List Nat) (h : k ∈ twos) (t1 t2 : Th) : formParts k [t1, t2] = some [t1, t2] := by
  have n1 : k ≠ w_number := fun z => by rw [z] at h; revert h; decide
  have n2 : k ≠ w_read := fun z => by rw [z] at h; revert h; decide
  unfold formParts
  rw [if_neg n1, if_neg n2, if_pos h]
  rfl
theorem choose_parts (k : List Nat) (h : k = w_choose) (t1 t2 : Th) : (t2.areNms = true → formParts k [t1, t2] = some [t1]) ∧ (t2.areNms = false → formParts k [t1, t2] = none) := by
  have n1 : k ≠ w_number := by rw [h]; decide
  have n2 : k ≠ w_read := by rw [h]; decide
  have n3 : ¬ k ∈ twos := by rw [h]; decide
  have n4 : k ≠ w_pick := by rw [h]; decide
  unfold formParts
  rw [if_neg n1, if_neg n2, if_neg n3, if_neg n4, if_pos h]
  exact ⟨fun z => if_pos ⟨rfl, z⟩, fun z => if_neg fun y => by rw [show ([t1, t2] : List Th).getD 1 .non = t2 from rfl, z] at y; cases y.2⟩
theorem two_none (k : List Nat) (h1 : ¬ k ∈ twos) (h2 : k ≠ w_choose) (t1 t2 : Th) : formParts k [t1, t2] = none := by
  unfold formParts
  rw [if_neg h1, if_neg h2]
  simp
theorem pick_parts (k : List Nat) (h : k = w_pick) (t1 t2 t3 : Th) : formParts k [t1, t2, t3] = some [t1, t2, t3] := by
  have n1 : k ≠ w_number := by rw [h]; decide
  have n2 : k ≠ w_read := by rw [h]; decide
  have n3 : ¬ k ∈ twos := by rw [h]; decide
  unfold formParts
  rw [if_neg n1, if_neg n2, if_neg n3, if_pos h]
  rfl
theorem three_none (k : List Nat) (h1 : k ≠ w_pick) (t1 t2 t3 : Th) : formParts k [t1, t2, t3] = none := by
  unfold formParts
  rw [if_neg h1]
  simp
theorem iteInY4 {k : List Nat} {A B : Prop} (h : k ∈ twos) (a : A) : if inV (.str (SX.S k)) [.str "plus", .str "minus", .str "times", .str "most"] = true then A else B := by
  rw [in_twos, if_pos (decide_eq_true h)]; exact a
theorem iteInN4 {k : List Nat} {A B : Prop} (h : ¬ k ∈ twos) (b : B) : if inV (.str (SX.S k)) [.str "plus", .str "minus", .str "times", .str "most"] = true then A else B := by
  rw [in_twos, if_neg (fun z => h (of_decide_eq_true z))]; exact b
abbrev s__law_spots : Stmt := topS 19
abbrev N__law_spots : List Str := ["thing", "name"]
theorem sc__law_spots : FnScope N__law_spots ["thing"] (defScope s__law_spots) := ⟨rfl, rfl, rfl, by decide +kernel, rfl, by decide +kernel, by decide +kernel⟩

theorem ok__law_spots (T : Txt K mg) (D : IsDef K mg "_law_spots" s__law_spots ["thing"]) (C__law_is_name : Cal P w K mg base CX0 1 "_law_is_name" ["thing"] spIsName) : Cal P w K mg base CX0 2 "_law_spots" ["thing"] (spSpots K) := by
  refine D.cal sc__law_spots (fun vs H Q E h => ?_) (fun f cdv A outer s H vs Q E hr h => ?_)
  · obtain ⟨v, t, rfl, _⟩ := h
    rfl
  obtain ⟨v, t, rfl, hv, ht, qn, qs⟩ := h
  refine ⟨_, (pss_cons (ps_if (PW.pt (pw_or (pt_not (pt_val (pe_callB call_isi (by rfl) T.b_isinstance (by decide +kernel) (pa_cons (pv 0) (pa_cons (pe_bltn (v := .ty "tuple") (by rfl) T.b_tuple (by decide +kernel) rfl) pa_nil))))) (pw_or (pt_cmpR op_notIn_seq (pe_callB call_len_seq (by rfl) T.b_len PySem.boot_len (pa_cons (pv 0) pa_nil)) (pe_lst (pa_cons pe_int (pa_cons pe_int (pa_cons pe_int pa_nil)))) (by with_unfolding_all rfl)) (pw_or1 (pt_not (pt_val (pe_callB call_isi (by rfl) T.b_isinstance (by decide +kernel) (pa_cons (pe_ix (r := rIxT K) ix_tup (pv 0) pe_int (fun _ _ => rfl)) (pa_cons (pe_bltn (v := .ty "str") (by rfl) T.b_str (by decide +kernel) rfl) pa_nil)))))))))
        (pss_one (ps_ret pe_non))
        pss_nil)
      (pss_cons (ps_if (PW.pt (pw_and (pt_cmpR op_eq (pe_callB call_len_seq (by rfl) T.b_len PySem.boot_len (pa_cons (pv 0) pa_nil)) pe_int (nomark _)) (pw_and1 (pt_cmpR op_eq (pe_ix (r := rIxT K) ix_tup (pv 0) pe_int (fun _ _ => rfl)) pe_str (nomark _)))))
        (pss_one (ps_ret (pe_ix (r := rIxL K) ix_list (pe_lst (pa_cons pe_non (pa_cons (pe_lst pa_nil) pa_nil))) (pe_callTy call_int1 (by rfl) T.b_int (by decide +kernel) (pa_cons (pe_and (pe_callB call_isi (by rfl) T.b_isinstance (by decide +kernel) (pa_cons (pe_ix (r := rIxT K) ix_tup (pv 0) pe_int (fun _ _ => rfl)) (pa_cons (pe_bltn (v := .ty "int") (by rfl) T.b_int (by decide +kernel) rfl) pa_nil))) (pe_one (pe_not (pe_callB call_isi (by rfl) T.b_isinstance (by decide +kernel) (pa_cons (pe_ix (r := rIxT K) ix_tup (pv 0) pe_int (fun _ _ => rfl)) (pa_cons (pe_bltn (v := .ty "bool") (by rfl) T.b_bool (by decide +kernel) rfl) pa_nil)))))) pa_nil)) (fun _ _ => rfl))))
        pss_nil)
      (pss_cons (ps_if (PW.pt (pw_and (pt_cmpR op_eq (pe_callB call_len_seq (by rfl) T.b_len PySem.boot_len (pa_cons (pv 0) pa_nil)) pe_int (nomark _)) (pw_and1 (pt_cmpR op_eq (pe_ix (r := rIxT K) ix_tup (pv 0) pe_int (fun _ _ => rfl)) pe_str (nomark _)))))
        (pss_one (ps_ret (pe_ix (r := rIxL K) ix_list (pe_lst (pa_cons pe_non (pa_cons (pe_lst pa_nil) pa_nil))) (pe_callTy call_int1 (by rfl) T.b_int (by decide +kernel) (pa_cons (pe_cal C__law_is_name (hr.mono (by first | decide | omega)) pass0 (pa_cons (pe_ix (r := rIxT K) ix_tup (pv 0) pe_int (fun _ _ => rfl)) pa_nil)) pa_nil)) (fun _ _ => rfl))))
        pss_nil)
      (pss_cons (ps_if (PW.pt (pw_and (pt_cmpR op_eq (pe_callB call_len_seq (by rfl) T.b_len PySem.boot_len (pa_cons (pv 0) pa_nil)) pe_int (nomark _)) (pw_and1 (pt_cmpR op_in_seq (pe_ix (r := rIxT K) ix_tup (pv 0) pe_int (fun _ _ => rfl)) (pe_lst (pa_cons pe_str (pa_cons pe_str (pa_cons pe_str (pa_cons pe_str pa_nil))))) (by with_unfolding_all rfl)))))
        (pss_one (ps_ret (pe_lst (pa_cons pe_int (pa_cons pe_int pa_nil)))))
        pss_nil)
      (pss_cons (ps_if (PW.pt (pw_and (pt_cmpR op_eq (pe_callB call_len_seq (by rfl) T.b_len PySem.boot_len (pa_cons (pv 0) pa_nil)) pe_int (nomark _)) (pw_and1 (pt_cmpR op_eq (pe_ix (r := rIxT K) ix_tup (pv 0) pe_int (fun _ _ => rfl)) pe_str (nomark _)))))
        (pss_one (ps_ret (pe_lst (pa_cons pe_int (pa_cons pe_int (pa_cons pe_int pa_nil))))))
        pss_nil)
      (pss_cons (ps_if (PW.pt (pw_and (pt_cmpR op_eq (pe_callB call_len_seq (by rfl) T.b_len PySem.boot_len (pa_cons (pv 0) pa_nil)) pe_int (nomark _)) (pw_and (pt_cmpR op_eq (pe_ix (r := rIxT K) ix_tup (pv 0) pe_int (fun _ _ => rfl)) pe_str (nomark _)) (pw_and (pt_val (pe_callB call_isi (by rfl) T.b_isinstance (by decide +kernel) (pa_cons (pe_ix (r := rIxT K) ix_tup (pv 0) pe_int (fun _ _ => rfl)) (pa_cons (pe_bltn (v := .ty "tuple") (by rfl) T.b_tuple (by decide +kernel) rfl) pa_nil)))) (pw_and1 (pt_chain op_le op_le pe_int (pe_callB call_len_seq (by rfl) T.b_len PySem.boot_len (pa_cons (pe_ix (r := rIxT K) ix_tup (pv 0) pe_int (fun _ _ => rfl)) pa_nil)) pe_int))))))
        (pss_one (ps_ret (pe_ix (r := rIxL K) ix_list (pe_lst (pa_cons pe_non (pa_cons (pe_lst (pa_cons pe_int pa_nil)) pa_nil))) (pe_callTy call_int1 (by rfl) T.b_int (by decide +kernel) (pa_cons (pe_cmpR (op_eqD hr.units) (pe_lc (own := [("name", 1)]) (g := gName 1)  (by rfl) sc__law_spots.nd  (pi_tup (pe_ix (r := rIxT K) ix_tup (pv 0) pe_int (fun _ _ => rfl))) (blkOk_by (own := [("name", 1)]) (N := N__law_spots) (sc := defScope s__law_spots) (by decide +kernel)) (fun _ _ _ _ _ => (pg_name (i := 1) sc__law_spots.nd rfl (Or.inl rfl))) (fun _ _ _ _ _ => (pts_one (pt_not (pt_val (pe_cal C__law_is_name (hr.mono (by first | decide | omega)) pass0 (pa_cons (pv 1) pa_nil)))))) (fun _ _ _ _ _ => (pv 1))) (pe_lst pa_nil) (nomark _)) pa_nil)) (fun _ _ => rfl))))
        pss_nil)
      (pss_one (ps_ret pe_non)))))))), ?_⟩
  refine ⟨_, rfl, _, _, _, _, _, rfl, .ty _, hv.ty, kit_tup t, _, rfl, ?_⟩
  cases t with
  | tup l0 =>
    obtain ⟨p, xs0, rfl, hp, hl0⟩ := hv
    have hxl := hl0.len
    refine iteF ?_
    refine ⟨_, rfl, p, _, rfl, .inr (SqT.of hp), le_line (Nat.le_of_ble_eq_true rfl), fun u nu => ⟨u, _, rfl, .inl (SqL.of upd_same), rfl, rfl, _, rfl, ?_⟩⟩
    have s1 := same_new nu (.lst [.int 2, .int 3, .int 4])
    have hp1 := s1 _ _ hp
    have i234 : inV (.int ((xs0.length : Nat) : Int)) [.int 2, .int 3, .int 4] = decide (xs0.length = 2 ∨ xs0.length = 3 ∨ xs0.length = 4) := in234 _
    by_cases hn : xs0.length = 2 ∨ xs0.length = 3 ∨ xs0.length = 4
    · rw [decide_eq_true hn] at i234
      refine not_true_eq i234 ?_
      match l0, hl0, ht, qn, qs with
      | [], hl0, _, _, _ =>
        rw [show xs0 = [] from hl0] at hn
        simp at hn
      | t0 :: l, ⟨x0, xs, ex, hd0, hl⟩, ht, qn, qs =>
        subst ex
        refine ⟨_, rfl, p, _, _, _, rfl, rfl, SqT.of hp1, atI_at (by decide) rfl, _, _, _, _, _, rfl, .ty _, (hd0.same s1).ty, kit_str t0, _, rfl, ?_⟩
        cases t0 with
        | str k =>
          obtain rfl : x0 = V.str (SX.S k) := hd0
          obtain ⟨_, htl, _, hnt⟩ := tup_tame ht
          have n0 : ∀ w : List Nat, ∀ lit : Str, lit = SX.S w → k ≠ w → ¬ V.str (SX.S k) = V.str lit := fun w lit e hk z => hk ((kw e).mp z)
          have y0 : ∀ w : List Nat, ∀ lit : Str, lit = SX.S w → k = w → V.str (SX.S k) = V.str lit := fun w lit e hk => (kw e).mpr hk
          refine iteF ?_
          have L : ∀ m : Nat, xs.length + 1 ≠ m → ¬ V.int (((V.str (SX.S k) :: xs).length : Nat) : Int) = V.int (m : Int) := fun m hm z => by
            rw [List.length_cons] at z
            exact hm (by
              have : (((xs.length + 1 : Nat) : Int)) = (m : Int) := by cases z; rfl
              omega)
          have hx0 : xs.length = l.length := hl.len
          match l, hl, htl, hnt, qn, qs with
          | [], hl, _, _, _, _ =>
            rw [show xs = [] from hl] at hn
            simp at hn
          | [t1], ⟨x1, _, e1, hd1, e2⟩, htl, hnt, qn, qs =>
            obtain rfl : _ = [] := e2
            subst e1
            refine ⟨_, rfl, p, _, rfl, .inr (SqT.of hp1), rfl, _, rfl, iteY rfl ⟨_, rfl, p, _, _, _, rfl, rfl, SqT.of hp1, atI_at (by decide) rfl, rfl, _, rfl, ?_⟩⟩
            by_cases k1 : k = w_number
            · have hh := num_parts k k1 t1
              refine iteY (y0 _ _ q_number k1) ⟨le_line (Nat.le_of_ble_eq_true rfl), fun e ne => ⟨le_line (Nat.le_of_ble_eq_true rfl), fun o no => ?_⟩⟩
              have s2 := s1.trans ((same_new ne (.lst [])).trans (same_new no (.lst [.non, .ref e])))
              have he := same_new no (.lst [.non, .ref e]) _ _ (upd_same (H := upd H u (.lst [.int 2, .int 3, .int 4])) (a := e) (o := .lst []))
              refine ⟨_, rfl, p, _, _, _, rfl, rfl, SqT.of (s2 _ _ hp), atI_at (by decide) rfl, _, _, _, _, _, rfl, .ty _, (hd1.same s2).ty, kit_int t1, _, rfl, ?_⟩
              have ei := isInt_is t1
              cases h1 : t1.isIntB with
              | false =>
                rw [h1, Bool.false_and] at ei
                refine iteF (.inr ⟨_, rfl, o, _, _, _, rfl, rfl, SqL.of upd_same, rfl, ?_⟩)
                exact qn (hh.2 ei.symm) _ s2
              | true =>
                rw [h1, Bool.true_and] at ei
                refine iteT ⟨_, rfl, p, _, _, _, rfl, rfl, SqT.of (s2 _ _ hp), atI_at (by decide) rfl, _, _, _, _, _, rfl, .ty _, (hd1.same s2).ty, kit_bl t1, _, rfl, ?_⟩
                cases h2 : t1.isBl with
                | true =>
                  rw [h2] at ei
                  exact .inr ⟨_, rfl, o, _, _, _, rfl, rfl, SqL.of upd_same, rfl, qn (hh.2 ei.symm) _ s2⟩
                | false =>
                  rw [h2] at ei
                  exact .inr ⟨_, rfl, o, _, _, _, rfl, rfl, SqL.of upd_same, rfl, qs [] (hh.1 ei.symm) _ e s2 he (s1.free ne)⟩
            · refine iteN (n0 _ _ q_number k1) ?_
              refine ⟨_, rfl, p, _, rfl, .inr (SqT.of hp1), rfl, _, rfl, iteY rfl ⟨_, rfl, p, _, _, _, rfl, rfl, SqT.of hp1, atI_at (by decide) rfl, rfl, _, rfl, ?_⟩⟩
              by_cases k2 : k = w_read
              · have hh := read_parts k k1 k2 t1
                refine iteY (y0 _ _ q_read k2) ⟨le_line (Nat.le_of_ble_eq_true rfl), fun e ne => ⟨le_line (Nat.le_of_ble_eq_true rfl), fun o no => ?_⟩⟩
                have s2 := s1.trans ((same_new ne (.lst [])).trans (same_new no (.lst [.non, .ref e])))
                have he := same_new no (.lst [.non, .ref e]) _ _ (upd_same (H := upd H u (.lst [.int 2, .int 3, .int 4])) (a := e) (o := .lst []))
                refine ⟨_, rfl, p, _, _, _, rfl, rfl, SqT.of (s2 _ _ hp), atI_at (by decide) rfl, x1, t1, rfl, hd1.same s2, tameL_mem htl t1 (by simp), fun H2 s3 => .inr ⟨_, rfl, o, ?_⟩⟩
                cases h2 : t1.isNm with
                | true => exact ⟨_, _, _, rfl, rfl, SqL.of (s3 _ _ upd_same), rfl, qs [] (hh.1 h2) _ e (s2.trans s3) (s3 _ _ he) (s1.free ne)⟩
                | false => exact ⟨_, _, _, rfl, rfl, SqL.of (s3 _ _ upd_same), rfl, qn (hh.2 h2) _ (s2.trans s3)⟩
              · refine iteN (n0 _ _ q_read k2) ?_
                refine ⟨_, rfl, p, _, rfl, .inr (SqT.of hp1), rfl, _, rfl, iteN (L 3 (by simp)) (iteF ?_)⟩
                refine ⟨_, rfl, p, _, rfl, .inr (SqT.of hp1), rfl, _, rfl, iteN (L 4 (by simp)) (iteF ?_)⟩
                refine ⟨_, rfl, p, _, rfl, .inr (SqT.of hp1), rfl, _, rfl, iteN (L 3 (by simp)) (iteF ?_)⟩
                exact qn (one_none k k1 k2 t1) _ s1
          | [t1, t2], ⟨x1, _, e1, hd1, x2, _, e2, hd2, e3⟩, htl, hnt, qn, qs =>
            obtain rfl : _ = [] := e3
            subst e2
            subst e1
            refine ⟨_, rfl, p, _, rfl, .inr (SqT.of hp1), rfl, _, rfl, iteN (L 2 (by simp)) (iteF ?_)⟩
            refine ⟨_, rfl, p, _, rfl, .inr (SqT.of hp1), rfl, _, rfl, iteN (L 2 (by simp)) (iteF ?_)⟩
            refine ⟨_, rfl, p, _, rfl, .inr (SqT.of hp1), rfl, _, rfl, iteY rfl ⟨_, rfl, p, _, _, _, rfl, rfl, SqT.of hp1, atI_at (by decide) rfl, le_line (Nat.le_of_ble_eq_true rfl), fun e ne => ⟨e, _, rfl, .inl (SqL.of upd_same), rfl, rfl, _, rfl, ?_⟩⟩⟩
            have s2 := s1.trans (same_new ne (.lst [.str "plus", .str "minus", .str "times", .str "most"]))
            have hp2 := s2 _ _ hp
            by_cases k3 : k ∈ twos
            · refine iteInY4 k3 ⟨le_line (Nat.le_of_ble_eq_true rfl), fun a na => ?_⟩
              exact qs _ (twos_parts k k3 t1 t2) _ a (s2.trans (same_new na _)) upd_same (s2.free na)
            · refine iteInN4 k3 ?_
              refine ⟨_, rfl, p, _, rfl, .inr (SqT.of hp2), rfl, _, rfl, iteN (L 4 (by simp)) (iteF ?_)⟩
              refine ⟨_, rfl, p, _, rfl, .inr (SqT.of hp2), rfl, _, rfl, iteY rfl ⟨_, rfl, p, _, _, _, rfl, rfl, SqT.of hp2, atI_at (by decide) rfl, rfl, _, rfl, ?_⟩⟩
              by_cases k5 : k = w_choose
              · have hh := choose_parts k k5 t1 t2
                refine iteY (y0 _ _ q_choose k5) ⟨_, rfl, p, _, _, _, rfl, rfl, SqT.of hp2, atI_at (by decide) rfl, _, _, _, _, _, rfl, .ty _, (hd2.same s2).ty, kit_tup t2, _, rfl, ?_⟩
                cases t2 with
                | tup m =>
                  obtain ⟨pm, ys, rfl, hpm, hlm⟩ := hd2
                  have hyl := hlm.len
                  have e9 : (Th.tup m).areNms = (decide (1 ≤ m.length) && decide (m.length ≤ 9) && m.all Th.isNm) := rfl
                  refine iteT ⟨_, rfl, p, _, _, _, rfl, rfl, SqT.of hp2, atI_at (by decide) rfl, pm, _, rfl, .inr (SqT.of (s2 _ _ hpm)), _, _, rfl, rfl, _, rfl, ?_⟩
                  by_cases g1 : (1 : Int) ≤ ((ys.length : Nat) : Int)
                  · refine iteY g1 ⟨_, _, rfl, rfl, _, rfl, ?_⟩
                    by_cases g2 : ((ys.length : Nat) : Int) ≤ 9
                    · refine iteY g2 ⟨le_line (Nat.le_of_ble_eq_true rfl), fun e1 ne1 => ⟨le_line (Nat.le_of_ble_eq_true rfl), fun o no => ?_⟩⟩
                      have s3 := s2.trans ((same_new ne1 (.lst [.int 1])).trans (same_new no (.lst [.non, .ref e1])))
                      have he := same_new no (.lst [.non, .ref e1]) _ _ (upd_same (H := upd (upd H u (.lst [.int 2, .int 3, .int 4])) e (.lst [.str "plus", .str "minus", .str "times", .str "most"])) (a := e1) (o := .lst [.int 1]))
                      have ho := upd_same (H := upd (upd (upd H u (.lst [.int 2, .int 3, .int 4])) e (.lst [.str "plus", .str "minus", .str "times", .str "most"])) e1 (.lst [.int 1])) (a := o) (o := .lst [.non, .ref e1])
                      have htm : Th.tameL m = true := by
                        have e : (Th.tameL m && decide (m.length ≤ 1000000) && namesTame m) = true := tameL_mem htl (.tup m) (by simp)
                        rw [Bool.and_eq_true, Bool.and_eq_true] at e
                        exact e.1.1
                      have hff : Th.flatL m = true ∧ SeqAt.shaped (.list (Th.pyL m)) = true := by
                        have e : (!decide (k = w_choose) || (Th.flatL m && SeqAt.shaped (.list (Th.pyL m)))) = true := hnt
                        rw [decide_eq_true k5] at e
                        exact Bool.and_eq_true_iff.mp e
                      refine ⟨_, rfl, p, _, _, _, rfl, rfl, SqT.of (s3 _ _ hp), atI_at (by decide) rfl, pm, rfl, ⟨_, SqT.of (s3 _ _ hpm)⟩, fun L nL => ?_⟩
                      refine lc_tup (K := K) (a := pm) (xs := ys) (fun i H' => Same (upd (upd (upd (upd H u (.lst [.int 2, .int 3, .int 4])) e (.lst [.str "plus", .str "minus", .str "times", .str "most"])) e1 (.lst [.int 1])) o (.lst [.non, .ref e1])) H' ∧ ∃ zs, H' L = some (.lst zs) ∧ DataL H ((m.take i).filter fun t => !t.isNm) zs)
                        ⟨same_new nL _, [], upd_same, rfl⟩ (fun i H' _ h => SqT.of (h.1 _ _ (s3 _ _ hpm))) ?_ ?_
                      · rintro i x H1 hx ⟨hs, zs, hL, hz⟩
                        obtain ⟨tj, hti, hd⟩ := hlm.at hx
                        have hm : tj ∈ m := List.mem_of_getElem? hti
                        have e1 : (m.take (i + 1)) = m.take i ++ [tj] := by rw [List.take_add_one, hti]; rfl
                        refine ⟨rfl, _, rfl, x, tj, rfl, hd.same (s3.trans hs), tameL_mem htm tj hm, fun H2 s4 => ⟨_, rfl, ?_⟩⟩
                        have hs2 := hs.trans s4
                        cases htt : tj.isNm with
                        | true =>
                          refine iteF ⟨hs2, zs, s4 _ _ hL, ?_⟩
                          rw [e1, List.filter_append, List.filter_cons_of_neg (by rw [htt]; decide), List.filter_nil, List.append_nil]
                          exact hz
                        | false =>
                          have hyl : zs.length ≤ 9 := by
                            rw [hz.len]
                            have := List.length_filter_le (fun t : Th => !t.isNm) (m.take i)
                            rw [List.length_take] at this
                            omega
                          refine iteT ⟨_, rfl, zs, s4 _ _ hL, lt_line (by omega), same_upd hs2 nL _, _, upd_same, ?_⟩
                          rw [e1, List.filter_append, List.filter_cons_of_pos (by rw [htt]; rfl), List.filter_nil]
                          exact hz.snoc hd
                      · rintro H1 ⟨hs, zs, hL, hz⟩
                        rw [hyl, List.take_length] at hz
                        refine ⟨Nat.zero_le _, fun e2 ne2 => ?_⟩
                        have Le : L ≠ e2 := ne_of_none hL ne2
                        have s5 := hs.trans (same_new ne2 (.lst []))
                        refine ⟨_, _, .lst (SqL.of (by rw [upd_ne Le]; exact hL)) (DataL.dp (flatL_filter (fun t => !t.isNm) hff.1) (hz.same (s3.trans s5))), .lst (SqL.of upd_same) .nil, shaped_filter (fun t => !t.isNm) hff.2, rfl, ?_⟩
                        rw [eqv_nil, no_badN]
                        rw [e9, decide_eq_true (show 1 ≤ m.length by omega), decide_eq_true (show m.length ≤ 9 by omega)] at hh
                        refine .inr ⟨_, rfl, o, ?_⟩
                        cases h2 : m.all Th.isNm with
                        | true => exact ⟨_, _, _, rfl, rfl, SqL.of (s5 _ _ ho), rfl, qs _ (hh.1 h2) _ e1 (s3.trans s5) (s5 _ _ he) (s2.free ne1)⟩
                        | false => exact ⟨_, _, _, rfl, rfl, SqL.of (s5 _ _ ho), rfl, qn (hh.2 h2) _ (s3.trans s5)⟩
                    · refine iteN g2 (qn (hh.2 ?_) _ s2)
                      rw [e9, decide_eq_false (show ¬ m.length ≤ 9 by omega), Bool.and_false]
                      rfl
                  · refine iteN g1 ⟨_, rfl, iteF (qn (hh.2 ?_) _ s2)⟩
                    rw [e9, decide_eq_false (show ¬ 1 ≤ m.length by omega)]
                    rfl
                | _ => exact iteF (iteF (qn (hh.2 rfl) _ s2))
              · refine iteN (n0 _ _ q_choose k5) (iteF ?_)
                exact qn (two_none k k3 k5 t1 t2) _ s2
          | [t1, t2, t3], ⟨x1, _, e1, hd1, x2, _, e2, hd2, x3, _, e3, hd3, e4⟩, htl, hnt, qn, qs =>
            obtain rfl : _ = [] := e4
            subst e3
            subst e2
            subst e1
            refine ⟨_, rfl, p, _, rfl, .inr (SqT.of hp1), rfl, _, rfl, iteN (L 2 (by simp)) (iteF ?_)⟩
            refine ⟨_, rfl, p, _, rfl, .inr (SqT.of hp1), rfl, _, rfl, iteN (L 2 (by simp)) (iteF ?_)⟩
            refine ⟨_, rfl, p, _, rfl, .inr (SqT.of hp1), rfl, _, rfl, iteN (L 3 (by simp)) (iteF ?_)⟩
            refine ⟨_, rfl, p, _, rfl, .inr (SqT.of hp1), rfl, _, rfl, iteY rfl ⟨_, rfl, p, _, _, _, rfl, rfl, SqT.of hp1, atI_at (by decide) rfl, rfl, _, rfl, ?_⟩⟩
            by_cases k4 : k = w_pick
            · refine iteY (y0 _ _ q_pick k4) ⟨le_line (Nat.le_of_ble_eq_true rfl), fun a na => ?_⟩
              exact qs _ (pick_parts k k4 t1 t2 t3) _ a (s1.trans (same_new na _)) upd_same (s1.free na)
            · refine iteN (n0 _ _ q_pick k4) ?_
              refine ⟨_, rfl, p, _, rfl, .inr (SqT.of hp1), rfl, _, rfl, iteN (L 3 (by simp)) (iteF ?_)⟩
              exact qn (three_none k k4 t1 t2 t3) _ s1
          | a :: b :: c :: d :: l, hl, _, _, _, _ =>
            rw [List.length_cons, hx0] at hn
            simp at hn
        | _ => exact iteT (qn rfl _ s1)
    · rw [decide_eq_false hn] at i234
      refine not_false_eq i234 (iteT (qn ?_ _ s1))
      match l0, hl0, ht with
      | [], _, _ => rfl
      | t0 :: l, _, _ =>
        cases t0 with
        | str k =>
          cases hf : formParts k l with
          | none => exact hf
          | some ps =>
            have := formParts_len hf
            rw [hxl, List.length_cons] at hn
            omega
        | _ => rfl
  | _ => exact iteT (qn rfl H (Same.refl H))
abbrev s__law_size : Stmt := topS 20
abbrev N__law_size : List Str := ["thing", "depth", "spots", "spot"]
theorem sc__law_size : FnScope N__law_size ["thing", "depth"] (defScope s__law_size) := ⟨rfl, rfl, rfl, by decide +kernel, rfl, by decide +kernel, by decide +kernel⟩

def spSize (n : Nat) : Sp := fun vs H Q _ => ∃ (v : V) (t : Th) (d : Nat), vs = [v, .int (d : Int)] ∧ Data H t v ∧ t.tame = true ∧ 1 ≤ d ∧ d ≤ 9 ∧ 9 - d ≤ n ∧ ∀ H', Same H H' → Q (.int ((lawCnt (9 - d) t : Nat) : Int)) H'
theorem ok__law_size (T : Txt K mg) (D : IsDef K mg "_law_size" s__law_size ["thing", "depth"]) (C__law_spots : Cal P w K mg base CX0 2 "_law_spots" ["thing"] (spSpots K)) {n : Nat}
    (C__law_size : n = 0 ∨ ∃ m, n = m + 1 ∧ Cal P w K mg base CX0 (n + 2) "_law_size" ["thing", "depth"] (spSize m)) : Cal P w K mg base CX0 (n + 3) "_law_size" ["thing", "depth"] (spSize n) := by
  have C__law_size : ∃ sp, Cal P w K mg base CX0 (n + 2) "_law_size" ["thing", "depth"] sp ∧ (∀ m, n = m + 1 → sp = spSize m) := by
    rcases C__law_size with h | ⟨m, h, c⟩
    · exact ⟨fun _ _ _ _ => False, cal_none D (fun _ _ _ _ h => h), fun m e => by omega⟩
    · exact ⟨_, c, fun m' e => by rw [h] at e; cases e; rfl⟩
  obtain ⟨sp, C__law_size, hsp⟩ := C__law_size
  refine D.cal sc__law_size (fun vs H Q E h => ?_) (fun f cdv A outer s H vs Q E hr h => ?_)
  · obtain ⟨v, t, d, rfl, _⟩ := h
    rfl
  obtain ⟨v, t, d, rfl, hv, ht, d1, d9, dn, q⟩ := h
  refine ⟨_, (pss_cons (ps_set (i := 2) sc__law_size.nd rfl (Or.inl rfl) (pe_cal C__law_spots (hr.mono (by first | decide | omega)) pass0 (pa_cons (pv 0) pa_nil)))
      (pss_cons (ps_if (PW.pt (pw_or (pt_cmpR op_isN (pv 2) pe_non (nomark _)) (pw_or1 (pt_cmpR op_gt (pv 1) pe_int (nomark _)))))
        (pss_one (ps_ret pe_int))
        pss_nil)
      (pss_one (ps_ret (pe_op op_add pe_int (pe_callB (cr_sum rfl) (by rfl) T.b_sum (by decide +kernel) (pa_cons (pe_lc (own := [("spot", 3)]) (g := gName 3)  (by rfl) sc__law_size.nd  (pi_list (pv 2)) (blkOk_by (own := [("spot", 3)]) (N := N__law_size) (sc := defScope s__law_size) (by decide +kernel)) (fun _ _ _ _ _ => (pg_name (i := 3) sc__law_size.nd rfl (Or.inl rfl))) (fun _ _ _ _ _ => pts_nil) (fun _ _ _ _ _ => (pe_cal C__law_size (hr.mono (by first | decide | omega)) pass0 (pa_cons (pe_ix (r := rIxT K) ix_tup (pv 0) (pv 3) (fun _ _ => rfl)) (pa_cons (pe_op op_add (pv 1) pe_int) pa_nil))))) pa_nil))))))), ?_⟩
  refine ⟨_, rfl, v, t, rfl, hv, ht, fun hno H1 hs1 => ?_, fun ps hps H1 a hs1 ha na => ?_⟩
  · refine ⟨_, rfl, rfl, _, rfl, iteY rfl (iteT ?_)⟩
    have e : lawCnt (9 - d) t = 1000 := by
      cases 9 - d with
      | zero => rfl
      | succ m => show (match t.parts with | none => 1000 | some ps => 1 + (ps.map (lawCnt m)).sum) = 1000; rw [hno]
    have := q H1 hs1
    rw [e] at this
    exact this
  · refine ⟨_, rfl, rfl, _, rfl, iteN (by intro z; cases z) ?_⟩
    refine ⟨_, rfl, _, _, rfl, rfl, _, rfl, ?_⟩
    by_cases h8 : ((d : Nat) : Int) > 8
    · refine iteY h8 ?_
      have e : 9 - d = 0 := by omega
      have := q H1 hs1
      rw [e] at this
      exact this
    · refine iteN h8 ?_
      obtain ⟨m, hm⟩ : ∃ m, 9 - d = m + 1 := ⟨8 - d, by omega⟩
      obtain ⟨n', hn'⟩ : ∃ n', n = n' + 1 := ⟨n - 1, by omega⟩
      have hspE := hsp n' hn'
      subst hspE
      obtain ⟨k, l, rfl, hpl⟩ := parts_take hps
      obtain ⟨p, xs, rfl, hp, hl⟩ := hv
      have hptm := (parts_tame ht hps)
      refine ⟨_, rfl, a, rfl, ⟨_, SqL.of ha⟩, fun L nL => lc_list (K := K) (a := a) (xs := (List.range ps.length).map fun (i : Nat) => V.int ((i : Int) + 1)) (fun i H' => Same H1 H' ∧ H' L = some (.lst (((ps.take i).map fun t => ((lawCnt m t : Nat) : Int)).map V.int)))
        ⟨same_new nL _, upd_same⟩ (fun i H' _ h => SqL.of (h.1 _ _ ha)) ?_ ?_⟩
      · rintro i x H2 hx ⟨hs2, hL⟩
        have hip : i < ps.length := by
          have := (List.getElem?_eq_some_iff.mp hx).1
          simpa using this
        have ex : x = V.int ((i : Int) + 1) := by
          rw [List.getElem?_map, List.getElem?_range hip] at hx
          exact (Option.some.inj hx).symm
        subst ex
        have hpi := List.getElem?_eq_getElem hip
        have hli : (Th.str k :: l)[i + 1]? = some ps[i] := by
          rw [List.getElem?_cons_succ]
          have h2 : (l.take ps.length)[i]? = some ps[i] := Eq.trans (congrArg (fun z => z[i]?) hpl.symm) hpi
          rwa [List.getElem?_take_of_lt hip] at h2
        obtain ⟨y, hy, hdy⟩ := hl.get hli
        refine ⟨rfl, _, rfl, _, rfl, p, _, _, _, rfl, rfl, SqT.of (hs2 _ _ (hs1 _ _ hp)), atI_at (by omega) (by rw [show ((i : Int) + 1).toNat = i + 1 by omega]; exact hy), _, rfl, _, _, rfl, rfl, y, ps[i], d + 1, rfl, hdy.same (hs1.trans hs2), hptm.2 _ (List.getElem_mem hip), by omega, by omega, by omega, fun H3 hs3 => ?_⟩
        refine ⟨_, hs3 _ _ hL, ?_, same_upd (hs2.trans hs3) nL _, ?_⟩
        · rw [List.length_map, List.length_map, List.length_take]
          have := hptm.1
          exact lt_line (by omega)
        · rw [upd_same, List.take_add_one, hpi, List.map_append, List.map_append]
          rw [show 9 - (d + 1) = m by omega]
          rfl
      · rintro H2 ⟨hs2, hL⟩
        rw [List.length_map, List.length_range, List.take_length] at hL
        refine ⟨L, _, rfl, SqL.of hL, _, _, rfl, rfl, ?_⟩
        have e : 1 + (ps.map fun t => ((lawCnt m t : Nat) : Int)).sum = ((lawCnt (9 - d) (Th.tup (.str k :: l)) : Nat) : Int) := by
          rw [hm]
          have e2 : lawCnt (m + 1) (Th.tup (.str k :: l)) = 1 + (ps.map (lawCnt m)).sum := by show (match (Th.tup (.str k :: l)).parts with | none => 1000 | some ps => 1 + (ps.map (lawCnt m)).sum) = _; rw [hps]
          rw [e2]
          have : ∀ l : List Th, (l.map fun t => ((lawCnt m t : Nat) : Int)).sum = (((l.map (lawCnt m)).sum : Nat) : Int) := fun l => by
            induction l with
            | nil => rfl
            | cons a l ih => rw [List.map_cons, List.sum_cons, List.map_cons, List.sum_cons, ih]; omega
          rw [this]
          omega
        show Q (V.int (1 + (ps.map fun t => ((lawCnt m t : Nat) : Int)).sum)) H2
        rw [e]
        exact q _ (hs1.trans hs2)
theorem all__law_size (T : Txt K mg) (D : IsDef K mg "_law_size" s__law_size ["thing", "depth"]) (C__law_spots : Cal P w K mg base CX0 2 "_law_spots" ["thing"] (spSpots K)) : ∀ n : Nat, Cal P w K mg base CX0 (n + 3) "_law_size" ["thing", "depth"] (spSize n)
  | 0 => ok__law_size T D C__law_spots (.inl rfl)
  | n + 1 => ok__law_size T D C__law_spots (.inr ⟨n, rfl, all__law_size T D C__law_spots n⟩)
abbrev s__law_is : Stmt := topS 21
abbrev N__law_is : List Str := ["thing"]
theorem sc__law_is : FnScope N__law_is ["thing"] (defScope s__law_is) := ⟨rfl, rfl, rfl, by decide +kernel, rfl, by decide +kernel, by decide +kernel⟩

theorem ok__law_is (T : Txt K mg) (D : IsDef K mg "_law_is" s__law_is ["thing"]) (C__law_size : Cal P w K mg base CX0 11 "_law_size" ["thing", "depth"] (spSize 8)) : Cal P w K mg base CX0 12 "_law_is" ["thing"] spIsRecipe := by
  refine D.cal sc__law_is (fun vs H Q E h => ?_) (fun f cdv A outer s H vs Q E hr h => ?_)
  · obtain ⟨v, t, rfl, _⟩ := h
    rfl
  obtain ⟨v, t, rfl, hv, ht, q⟩ := h
  refine ⟨_, (pss_one (ps_ret (pe_cmpR op_le (pe_cal C__law_size (hr.mono (by first | decide | omega)) pass0 (pa_cons (pv 0) (pa_cons pe_int pa_nil))) pe_int (nomark _)))), ?_⟩
  refine ⟨_, rfl, v, t, 1, rfl, hv, ht, Nat.le_refl 1, by decide, by decide, fun H' hs => ⟨_, _, rfl, rfl, ?_⟩⟩
  have e := isRcp_law t
  have := q H' hs
  rw [← e] at this
  exact this
end
/-! ### recipes as things -/
def Kd.word : Kd → List Nat
  | .plus => w_plus | .minus => w_minus | .times => w_times | .most => w_most
theorem kd_word (k : Kd) : k.name = SX.S k.word := by cases k <;> decide +kernel
theorem kd_twos (k : Kd) : k.word ∈ twos := by cases k <;> decide
def nmsTh (ns : List (List Nat)) : List Th := ns.map Th.str
def Rcp.tail : Rcp → List Th × List Nat
  | .num n => ([.int n], w_number)
  | .read s => ([.str s], w_read)
  | _ => ([], [])
def Rcp.th : Rcp → Th
  | .num n => .tup [.str w_number, .int n]
  | .read s => .tup [.str w_read, .str s]
  | .two k a b => .tup [.str k.word, a.th, b.th]
  | .pick a b c => .tup [.str w_pick, a.th, b.th, c.th]
  | .choose a ns => .tup [.str w_choose, a.th, .tup (nmsTh ns)]
theorem nms_data (H : Hp) : ∀ ns : List (List Nat), DataL H (nmsTh ns) (txs ns)
  | [] => rfl
  | s :: ns => ⟨_, _, rfl, rfl, nms_data H ns⟩
theorem Rec.data {H : Hp} : ∀ {r : Rcp} {v : V}, Rec H r v → Data H r.th v
  | .num n, v, ⟨p, e, h⟩ => ⟨p, _, e, h, _, _, rfl, congrArg V.str q_number, _, _, rfl, rfl, rfl⟩
  | .read s, v, ⟨p, e, h⟩ => ⟨p, _, e, h, _, _, rfl, congrArg V.str q_read, _, _, rfl, rfl, rfl⟩
  | .two k a b, v, ⟨p, x, y, e, h, ra, rb⟩ => ⟨p, _, e, h, _, _, rfl, congrArg V.str (kd_word k), _, _, rfl, ra.data, _, _, rfl, rb.data, rfl⟩
  | .pick a b c, v, ⟨p, x, y, z, e, h, ra, rb, rc⟩ => ⟨p, _, e, h, _, _, rfl, congrArg V.str q_pick, _, _, rfl, ra.data, _, _, rfl, rb.data, _, _, rfl, rc.data, rfl⟩
  | .choose a ns, v, ⟨p, x, q, e, h, ra, hq⟩ => ⟨p, _, e, h, _, _, rfl, congrArg V.str q_choose, _, _, rfl, ra.data, _, _, rfl, ⟨q, _, rfl, hq, nms_data H ns⟩, rfl⟩
theorem Nm.tame {s : List Nat} (h : Nm s) : tameS s = true := by
  unfold tameS
  rw [Bool.and_eq_true, decide_eq_true_eq, List.all_eq_true]
  refine ⟨by have := h.2.1; omega, fun c hc => decide_eq_true ?_⟩
  have := h.2.2 c hc
  omega
theorem Nms.flat : ∀ {ns : List (List Nat)}, Th.flatL (nmsTh ns) = true
  | [] => rfl
  | s :: ns => by show (true && Th.flatL (nmsTh ns)) = true; rw [Nms.flat]; rfl
theorem nms_py : ∀ {ns : List (List Nat)}, (∀ s ∈ ns, Nm s) → PyData.canLayAll0 (Th.pyL (nmsTh ns)) = true ∧ PyData.depthAll (Th.pyL (nmsTh ns)) = 0
  | [], _ => ⟨rfl, rfl⟩
  | s :: ns, h => by
    have ih := nms_py (ns := ns) fun x hx => h x (List.mem_cons_of_mem _ hx)
    refine ⟨?_, ?_⟩
    · show ((SX.S s).cps.all (· < 0x110000) && PyData.canLayAll0 (Th.pyL (nmsTh ns))) = true
      rw [ih.1, Bool.and_true]
      have hs := (h s (List.mem_cons_self ..)).2.2
      rw [← Array.all_toList, List.all_eq_true]
      intro c hc
      have := hs c hc
      exact decide_eq_true (by omega)
    · show max 0 (PyData.depthAll (Th.pyL (nmsTh ns))) = 0
      rw [ih.2]
      rfl
theorem Nms.shaped {ns : List (List Nat)} (h : ∀ s ∈ ns, Nm s) : SeqAt.shaped (.list (Th.pyL (nmsTh ns))) = true := by
  rw [shaped_parts, (nms_py h).1, (nms_py h).2]
  exact ⟨rfl, by decide⟩
theorem nms_tame : ∀ {ns : List (List Nat)}, (∀ s ∈ ns, Nm s) → Th.tameL (nmsTh ns) = true
  | [], _ => rfl
  | s :: ns, h => by
    show (tameS s && Th.tameL (nmsTh ns)) = true
    rw [(h s (List.mem_cons_self ..)).tame, nms_tame fun x hx => h x (List.mem_cons_of_mem _ hx)]
    rfl
theorem tame_tup {l : List Th} (h : Th.tameL l = true) (hl : l.length ≤ 1000000) (hn : namesTame l = true) : (Th.tup l).tame = true := by
  show (Th.tameL l && decide (l.length ≤ 1000000) && namesTame l) = true
  rw [h, hn, decide_eq_true hl]
  rfl
theorem namesTame3 {k : List Nat} (hk : k ≠ w_choose) (a b : Th) : namesTame [.str k, a, b] = true := by
  cases b with
  | tup m => show (!decide (k = w_choose) || _) = true; rw [decide_eq_false hk]; rfl
  | _ => rfl
theorem namesTame4 (a b c d : Th) (r : List Th) : namesTame (a :: b :: c :: d :: r) = true := by cases a <;> cases c <;> rfl
theorem namesTame2 (a b : Th) : namesTame [a, b] = true := by cases a <;> rfl
theorem namesTameC {k : List Nat} {m : List Th} (a : Th) (h1 : Th.flatL m = true) (h2 : SeqAt.shaped (.list (Th.pyL m)) = true) : namesTame [.str k, a, .tup m] = true := by
  show (!decide (k = w_choose) || (Th.flatL m && SeqAt.shaped (.list (Th.pyL m)))) = true
  rw [h1, h2]; simp
theorem kd_nochoose (k : Kd) : k.word ≠ w_choose := by cases k <;> decide
theorem nms_names_tame {ns : List (List Nat)} (h : Nms ns) : (Th.tup (nmsTh ns)).tame = true := by
  refine tame_tup (nms_tame h.2.2) ?_ ?_
  · unfold nmsTh; rw [List.length_map]; have := h.2.1; omega
  · match ns with
    | [] => rfl
    | [a] => rfl
    | [a, b] => rfl
    | [a, b, c] => rfl
    | a :: b :: c :: d :: r => rfl
theorem Rcp.tame : ∀ {r : Rcp}, r.Good → r.th.tame = true
  | .num n, _ => tame_tup (by show (tameS w_number && (true && true)) = true; decide) (Nat.le_of_ble_eq_true rfl) rfl
  | .read s, h => tame_tup (by show (tameS w_read && (tameS s && true)) = true; rw [Nm.tame h]; decide) (Nat.le_of_ble_eq_true rfl) rfl
  | .two k a b, h => by
    refine tame_tup ?_ (Nat.le_of_ble_eq_true rfl) (namesTame3 (kd_nochoose k) _ _)
    show (tameS k.word && (a.th.tame && (b.th.tame && true))) = true
    rw [Rcp.tame h.1, Rcp.tame h.2]
    cases k <;> decide
  | .pick a b c, h => by
    refine tame_tup ?_ (Nat.le_of_ble_eq_true rfl) (namesTame4 _ _ _ _ _)
    show (tameS w_pick && (a.th.tame && (b.th.tame && (c.th.tame && true)))) = true
    rw [Rcp.tame h.1, Rcp.tame h.2.1, Rcp.tame h.2.2]
    decide
  | .choose a ns, h => by
    refine tame_tup ?_ (Nat.le_of_ble_eq_true rfl) (namesTameC _ Nms.flat (Nms.shaped h.2.2.2))
    show (tameS w_choose && (a.th.tame && ((Th.tup (nmsTh ns)).tame && true))) = true
    rw [Rcp.tame h.1, nms_names_tame h.2]
    decide
theorem nms_are {ns : List (List Nat)} (h : Nms ns) : (Th.tup (nmsTh ns)).areNms = true := by
  show (decide (1 ≤ (nmsTh ns).length) && decide ((nmsTh ns).length ≤ 9) && (nmsTh ns).all Th.isNm) = true
  have hl : (nmsTh ns).length = ns.length := List.length_map _
  rw [hl, decide_eq_true h.1, decide_eq_true h.2.1]
  show (nmsTh ns).all Th.isNm = true
  rw [List.all_eq_true]
  intro t ht
  obtain ⟨s, hs, rfl⟩ := List.mem_map.mp ht
  exact nmOk_iff.mpr (h.2.2 s hs)
def Rcp.subs : Rcp → List Rcp
  | .num _ => []
  | .read _ => []
  | .two _ a b => [a, b]
  | .pick a b c => [a, b, c]
  | .choose a _ => [a]
theorem Rcp.parts_th : ∀ {r : Rcp}, r.Good → r.th.parts = some (r.subs.map Rcp.th)
  | .num n, _ => (num_parts _ rfl _).1 rfl
  | .read s, h => (read_parts _ (by decide) rfl _).1 (nmOk_iff.mpr h)
  | .two k a b, _ => twos_parts _ (kd_twos k) _ _
  | .pick a b c, _ => pick_parts _ rfl _ _ _
  | .choose a ns, h => (choose_parts _ rfl _ _).1 (nms_are h.2)
theorem Rcp.subs_good : ∀ {r : Rcp}, r.Good → ∀ x ∈ r.subs, x.Good ∧ x.dep + 1 ≤ r.dep
  | .num n, _, x, hx => by cases hx
  | .read s, h, x, hx => by cases hx
  | .two k a b, h, x, hx => by
    have e : (Rcp.two k a b).dep = max a.dep b.dep + 1 := rfl
    simp only [Rcp.subs, List.mem_cons, List.not_mem_nil, or_false] at hx
    rcases hx with rfl | rfl
    · exact ⟨h.1, by omega⟩
    · exact ⟨h.2, by omega⟩
  | .pick a b c, h, x, hx => by
    have e : (Rcp.pick a b c).dep = max a.dep (max b.dep c.dep) + 1 := rfl
    simp only [Rcp.subs, List.mem_cons, List.not_mem_nil, or_false] at hx
    rcases hx with rfl | rfl | rfl
    · exact ⟨h.1, by omega⟩
    · exact ⟨h.2.1, by omega⟩
    · exact ⟨h.2.2, by omega⟩
  | .choose a ns, h, x, hx => by
    have e : (Rcp.choose a ns).dep = a.dep + 1 := rfl
    rw [List.mem_singleton.mp hx]
    exact ⟨h.1, by omega⟩
theorem Rcp.siz_subs : ∀ r : Rcp, r.siz = 1 + (r.subs.map Rcp.siz).sum
  | .num _ => rfl
  | .read _ => rfl
  | .two _ a b => by show a.siz + b.siz + 1 = 1 + (a.siz + (b.siz + 0)); omega
  | .pick a b c => by show a.siz + b.siz + c.siz + 1 = 1 + (a.siz + (b.siz + (c.siz + 0))); omega
  | .choose a _ => by show a.siz + 1 = 1 + (a.siz + 0); omega
theorem Rcp.okay : ∀ (n : Nat) {r : Rcp}, r.Good → r.dep ≤ n → r.th.okay n = true ∧ r.th.count n = r.siz
  | 0, r, _, h => by have := dep_pos r; omega
  | n + 1, r, hg, h => by
    have hp := r.parts_th hg
    have hs := r.subs_good hg
    refine ⟨?_, ?_⟩
    · show (match r.th.parts with | none => false | some ps => ps.all (Th.okay n)) = true
      rw [hp]
      show (r.subs.map Rcp.th).all (Th.okay n) = true
      rw [List.all_map, List.all_eq_true]
      intro x hx
      exact (Rcp.okay n (hs x hx).1 (by have := (hs x hx).2; omega)).1
    · show (match r.th.parts with | none => 1 | some ps => 1 + (ps.map (Th.count n)).sum) = r.siz
      rw [hp, Rcp.siz_subs r]
      show 1 + ((r.subs.map Rcp.th).map (Th.count n)).sum = _
      rw [List.map_map]
      congr 2
      exact List.map_congr_left fun x hx => (Rcp.okay n (hs x hx).1 (by have := (hs x hx).2; omega)).2
theorem Rcp.isRcp {r : Rcp} (hg : r.Good) (hd : r.dep ≤ 8) (hs : r.siz ≤ 100) : r.th.isRcp = true := by
  unfold Th.isRcp
  rw [(Rcp.okay 8 hg hd).1, (Rcp.okay 8 hg hd).2, decide_eq_true hs]
  rfl
theorem tl_cons {t : Th} {l : List Th} (h : t.tame = true) (k : Th.tameL l = true) : Th.tameL (t :: l) = true := by
  show (t.tame && Th.tameL l) = true
  rw [h, k]; rfl
theorem DataL.mem {H : Hp} : ∀ {l : List Th} {xs : List V} {x : V}, DataL H l xs → x ∈ xs → ∃ t, t ∈ l ∧ Data H t x
  | [], _, x, h, hx => by rw [show _ = [] from h] at hx; cases hx
  | t :: l, _, x, ⟨y, r, e, h1, h2⟩, hx => by
    subst e
    rcases List.mem_cons.mp hx with hx | hx
    · rw [hx]; exact ⟨t, List.mem_cons_self .., h1⟩
    · obtain ⟨t', m, d⟩ := DataL.mem h2 hx
      exact ⟨t', List.mem_cons_of_mem _ m, d⟩
theorem DataL.app {H : Hp} : ∀ {l m : List Th} {xs ys : List V}, DataL H l xs → DataL H m ys → DataL H (l ++ m) (xs ++ ys)
  | [], _, _, _, h, k => by rw [show _ = [] from h]; exact k
  | _ :: _, _, _, _, ⟨x, r, e, h1, h2⟩, k => by subst e; exact ⟨x, _, rfl, h1, DataL.app h2 k⟩
def wrongs (rl : List Th) : List Th := [.non, (.bl true), (.int 5), (.str [120]), (.tup []), (.lst []), .dct, (.tup [(.str [110, 117, 109, 98, 101, 114])]), (.tup [(.str [114, 101, 97, 100])]), (.tup [(.str [110, 117, 109, 98, 101, 114]), (.bl true)]), (.tup [(.str [110, 117, 109, 98, 101, 114]), (.str [49])]), (.tup [(.str [114, 101, 97, 100]), (.str [])]), (.tup [(.str [114, 101, 97, 100]), (.str [65, 98])]), (.tup [(.str [114, 101, 97, 100]), (.str [97, 98, 99, 100, 101, 102, 103, 104, 105])]), (.tup [(.str [114, 101, 97, 100]), (.int 7)]), (.tup [(.str [114, 101, 97, 100]), (.str [97, 49])]), (.tup [(.str [110, 117, 109, 98, 101, 114]), (.int 1), (.int 2)]), (.tup [(.str [112, 108, 117, 115]), (.tup rl)]), (.tup [(.str [112, 108, 117, 115]), (.tup rl), (.tup rl), (.tup rl)]), (.tup [(.str [112, 105, 99, 107]), (.tup rl), (.tup rl)]), (.tup [(.str [112, 105, 99, 107]), (.tup rl), (.tup rl), (.tup rl), (.tup rl)]), (.tup [(.str [99, 104, 111, 111, 115, 101]), (.tup rl), (.tup [])]), (.tup [(.str [99, 104, 111, 111, 115, 101]), (.tup rl), (.lst [(.str [97])])]), (.tup [(.str [99, 104, 111, 111, 115, 101]), (.tup rl), (.tup [.str [97], .str [97], .str [97], .str [97], .str [97], .str [97], .str [97], .str [97], .str [97], .str [97]])]), (.tup [(.str [99, 104, 111, 111, 115, 101]), (.tup rl), (.tup [(.str [97]), (.str [])])]), (.tup [(.str [99, 104, 111, 111, 115, 101]), (.tup rl)]), (.tup [(.str [99, 104, 111, 111, 115, 101]), (.tup rl), (.str [97])]), (.lst rl), (.tup [(.str [97, 100, 100]), (.tup rl), (.tup rl)]), (.tup [(.lst [(.str [112, 108, 117, 115])]), (.tup rl), (.tup rl)]), (.tup [.non, (.tup rl)]), (.tup [(.str [109, 111, 115, 116]), (.tup rl), .non]), (.tup [(.tup rl)]), (.tup [(.str [110, 117, 109, 98, 101, 114]), .non]), (.tup [(.tup rl), (.tup rl), (.tup rl)]), (.tup [(.str [99, 104, 111, 111, 115, 101]), (.tup [(.str [97])]), (.tup [(.str [97])])]), (.tup [(.str [114, 101, 97, 100]), (.tup [(.str [120])])]), (.tup [(.str [109, 105, 110, 117, 115]), (.lst []), (.tup rl)]), (.tup (rl ++ rl.take 1)), (.tup (rl.drop 1)), (.tup [(.str [116, 105, 109, 101, 115]), (.tup rl), (.str [120])]), (.tup [(.str [99, 104, 111, 111, 115, 101]), (.tup rl), (.tup [(.str [65, 98])])]), (.tup [(.str [99, 104, 111, 111, 115, 101]), (.tup rl), (.tup [(.str [97]), (.str [97, 98, 99, 100, 101, 102, 103, 104, 105])])]), (.tup [(.str [99, 104, 111, 111, 115, 101]), (.tup rl), (.tup [(.int 7)])]), (.tup [(.str [99, 104, 111, 111, 115, 101]), (.tup rl), (.tup [(.str [97, 49]), (.str [98])])]), (.tup [(.str [99, 104, 111, 111, 115, 101]), (.tup rl), (.tup [.non, (.str [97])])]), (.tup [(.str [99, 104, 111, 111, 115, 101]), (.tup rl), (.tup [(.tup [(.str [97])])])])]
theorem qq_0 : ("x" : Str) = SX.S [120] := by decide +kernel
theorem qq_1 : ("number" : Str) = SX.S [110, 117, 109, 98, 101, 114] := by decide +kernel
theorem qq_2 : ("read" : Str) = SX.S [114, 101, 97, 100] := by decide +kernel
theorem qq_3 : ("1" : Str) = SX.S [49] := by decide +kernel
theorem qq_4 : ("" : Str) = SX.S [] := by decide +kernel
theorem qq_5 : ("Ab" : Str) = SX.S [65, 98] := by decide +kernel
theorem qq_6 : ("abcdefghi" : Str) = SX.S [97, 98, 99, 100, 101, 102, 103, 104, 105] := by decide +kernel
theorem qq_7 : ("a1" : Str) = SX.S [97, 49] := by decide +kernel
theorem qq_8 : ("plus" : Str) = SX.S [112, 108, 117, 115] := by decide +kernel
theorem qq_9 : ("pick" : Str) = SX.S [112, 105, 99, 107] := by decide +kernel
theorem qq_10 : ("choose" : Str) = SX.S [99, 104, 111, 111, 115, 101] := by decide +kernel
theorem qq_11 : ("a" : Str) = SX.S [97] := by decide +kernel
theorem qq_12 : ("add" : Str) = SX.S [97, 100, 100] := by decide +kernel
theorem qq_13 : ("most" : Str) = SX.S [109, 111, 115, 116] := by decide +kernel
theorem qq_14 : ("minus" : Str) = SX.S [109, 105, 110, 117, 115] := by decide +kernel
theorem qq_15 : ("times" : Str) = SX.S [116, 105, 109, 101, 115] := by decide +kernel
theorem qq_16 : ("b" : Str) = SX.S [98] := by decide +kernel
theorem wrongs_tame {rl : List Th} (hrt : (Th.tup rl).tame = true) (ht1 : (Th.tup (rl.drop 1)).tame = true) (ht2 : (Th.tup (rl ++ rl.take 1)).tame = true) : Th.tameL (wrongs rl) = true :=
  (tl_cons rfl (tl_cons rfl (tl_cons rfl (tl_cons (by decide) (tl_cons (tame_tup rfl (Nat.le_of_ble_eq_true rfl) rfl) (tl_cons rfl (tl_cons rfl (tl_cons (tame_tup (tl_cons (by decide) rfl) (Nat.le_of_ble_eq_true rfl) rfl) (tl_cons (tame_tup (tl_cons (by decide) rfl) (Nat.le_of_ble_eq_true rfl) rfl) (tl_cons (tame_tup (tl_cons (by decide) (tl_cons rfl rfl)) (Nat.le_of_ble_eq_true rfl) rfl) (tl_cons (tame_tup (tl_cons (by decide) (tl_cons (by decide) rfl)) (Nat.le_of_ble_eq_true rfl) rfl) (tl_cons (tame_tup (tl_cons (by decide) (tl_cons (by decide) rfl)) (Nat.le_of_ble_eq_true rfl) rfl) (tl_cons (tame_tup (tl_cons (by decide) (tl_cons (by decide) rfl)) (Nat.le_of_ble_eq_true rfl) rfl) (tl_cons (tame_tup (tl_cons (by decide) (tl_cons (by decide) rfl)) (Nat.le_of_ble_eq_true rfl) rfl) (tl_cons (tame_tup (tl_cons (by decide) (tl_cons rfl rfl)) (Nat.le_of_ble_eq_true rfl) rfl) (tl_cons (tame_tup (tl_cons (by decide) (tl_cons (by decide) rfl)) (Nat.le_of_ble_eq_true rfl) rfl) (tl_cons (tame_tup (tl_cons (by decide) (tl_cons rfl (tl_cons rfl rfl))) (Nat.le_of_ble_eq_true rfl) (namesTame3 (by decide) _ _)) (tl_cons (tame_tup (tl_cons (by decide) (tl_cons hrt rfl)) (Nat.le_of_ble_eq_true rfl) rfl) (tl_cons (tame_tup (tl_cons (by decide) (tl_cons hrt (tl_cons hrt (tl_cons hrt rfl)))) (Nat.le_of_ble_eq_true rfl) (namesTame4 _ _ _ _ _)) (tl_cons (tame_tup (tl_cons (by decide) (tl_cons hrt (tl_cons hrt rfl))) (Nat.le_of_ble_eq_true rfl) (namesTame3 (by decide) _ _)) (tl_cons (tame_tup (tl_cons (by decide) (tl_cons hrt (tl_cons hrt (tl_cons hrt (tl_cons hrt rfl))))) (Nat.le_of_ble_eq_true rfl) (namesTame4 _ _ _ _ _)) (tl_cons (tame_tup (tl_cons (by decide) (tl_cons hrt (tl_cons (tame_tup rfl (Nat.le_of_ble_eq_true rfl) rfl) rfl))) (Nat.le_of_ble_eq_true rfl) (namesTameC _ (by decide) (by decide +kernel))) (tl_cons (tame_tup (tl_cons (by decide) (tl_cons hrt (tl_cons rfl rfl))) (Nat.le_of_ble_eq_true rfl) rfl) (tl_cons (tame_tup (tl_cons (by decide) (tl_cons hrt (tl_cons (tame_tup (tl_cons (by decide) (tl_cons (by decide) (tl_cons (by decide) (tl_cons (by decide) (tl_cons (by decide) (tl_cons (by decide) (tl_cons (by decide) (tl_cons (by decide) (tl_cons (by decide) (tl_cons (by decide) rfl)))))))))) (Nat.le_of_ble_eq_true rfl) (namesTame4 _ _ _ _ _)) rfl))) (Nat.le_of_ble_eq_true rfl) (namesTameC _ (by decide) (by decide +kernel))) (tl_cons (tame_tup (tl_cons (by decide) (tl_cons hrt (tl_cons (tame_tup (tl_cons (by decide) (tl_cons (by decide) rfl)) (Nat.le_of_ble_eq_true rfl) rfl) rfl))) (Nat.le_of_ble_eq_true rfl) (namesTameC _ (by decide) (by decide +kernel))) (tl_cons (tame_tup (tl_cons (by decide) (tl_cons hrt rfl)) (Nat.le_of_ble_eq_true rfl) rfl) (tl_cons (tame_tup (tl_cons (by decide) (tl_cons hrt (tl_cons (by decide) rfl))) (Nat.le_of_ble_eq_true rfl) rfl) (tl_cons rfl (tl_cons (tame_tup (tl_cons (by decide) (tl_cons hrt (tl_cons hrt rfl))) (Nat.le_of_ble_eq_true rfl) (namesTame3 (by decide) _ _)) (tl_cons (tame_tup (tl_cons rfl (tl_cons hrt (tl_cons hrt rfl))) (Nat.le_of_ble_eq_true rfl) rfl) (tl_cons (tame_tup (tl_cons rfl (tl_cons hrt rfl)) (Nat.le_of_ble_eq_true rfl) rfl) (tl_cons (tame_tup (tl_cons (by decide) (tl_cons hrt (tl_cons rfl rfl))) (Nat.le_of_ble_eq_true rfl) (namesTame3 (by decide) _ _)) (tl_cons (tame_tup (tl_cons hrt rfl) (Nat.le_of_ble_eq_true rfl) rfl) (tl_cons (tame_tup (tl_cons (by decide) (tl_cons rfl rfl)) (Nat.le_of_ble_eq_true rfl) rfl) (tl_cons (tame_tup (tl_cons hrt (tl_cons hrt (tl_cons hrt rfl))) (Nat.le_of_ble_eq_true rfl) rfl) (tl_cons (tame_tup (tl_cons (by decide) (tl_cons (tame_tup (tl_cons (by decide) rfl) (Nat.le_of_ble_eq_true rfl) rfl) (tl_cons (tame_tup (tl_cons (by decide) rfl) (Nat.le_of_ble_eq_true rfl) rfl) rfl))) (Nat.le_of_ble_eq_true rfl) (namesTameC _ (by decide) (by decide +kernel))) (tl_cons (tame_tup (tl_cons (by decide) (tl_cons (tame_tup (tl_cons (by decide) rfl) (Nat.le_of_ble_eq_true rfl) rfl) rfl)) (Nat.le_of_ble_eq_true rfl) rfl) (tl_cons (tame_tup (tl_cons (by decide) (tl_cons rfl (tl_cons hrt rfl))) (Nat.le_of_ble_eq_true rfl) (namesTame3 (by decide) _ _)) (tl_cons ht2 (tl_cons ht1 (tl_cons (tame_tup (tl_cons (by decide) (tl_cons hrt (tl_cons (by decide) rfl))) (Nat.le_of_ble_eq_true rfl) (namesTame3 (by decide) _ _)) (tl_cons (tame_tup (tl_cons (by decide) (tl_cons hrt (tl_cons (tame_tup (tl_cons (by decide) rfl) (Nat.le_of_ble_eq_true rfl) rfl) rfl))) (Nat.le_of_ble_eq_true rfl) (namesTameC _ (by decide) (by decide +kernel))) (tl_cons (tame_tup (tl_cons (by decide) (tl_cons hrt (tl_cons (tame_tup (tl_cons (by decide) (tl_cons (by decide) rfl)) (Nat.le_of_ble_eq_true rfl) rfl) rfl))) (Nat.le_of_ble_eq_true rfl) (namesTameC _ (by decide) (by decide +kernel))) (tl_cons (tame_tup (tl_cons (by decide) (tl_cons hrt (tl_cons (tame_tup (tl_cons rfl rfl) (Nat.le_of_ble_eq_true rfl) rfl) rfl))) (Nat.le_of_ble_eq_true rfl) (namesTameC _ (by decide) (by decide +kernel))) (tl_cons (tame_tup (tl_cons (by decide) (tl_cons hrt (tl_cons (tame_tup (tl_cons (by decide) (tl_cons (by decide) rfl)) (Nat.le_of_ble_eq_true rfl) rfl) rfl))) (Nat.le_of_ble_eq_true rfl) (namesTameC _ (by decide) (by decide +kernel))) (tl_cons (tame_tup (tl_cons (by decide) (tl_cons hrt (tl_cons (tame_tup (tl_cons rfl (tl_cons (by decide) rfl)) (Nat.le_of_ble_eq_true rfl) rfl) rfl))) (Nat.le_of_ble_eq_true rfl) (namesTameC _ (by decide) (by decide +kernel))) (tl_cons (tame_tup (tl_cons (by decide) (tl_cons hrt (tl_cons (tame_tup (tl_cons (tame_tup (tl_cons (by decide) rfl) (Nat.le_of_ble_eq_true rfl) rfl) rfl) (Nat.le_of_ble_eq_true rfl) rfl) rfl))) (Nat.le_of_ble_eq_true rfl) (namesTameC _ (by decide) (by decide +kernel))) rfl)))))))))))))))))))))))))))))))))))))))))))))))

/-- the thing's places, and its tame pieces -/
theorem Rcp.list {r : Rcp} (hg : r.Good) : ∃ k a rest, r.th = .tup (.str k :: a :: rest) ∧ rest.length ≤ 2 ∧ (Th.tup ((Th.str k :: a :: rest).drop 1)).tame = true ∧ (Th.tup ((Th.str k :: a :: rest) ++ (Th.str k :: a :: rest).take 1)).tame = true := by
  have ht := Rcp.tame hg
  have kt : ∀ {k : List Nat} {l : List Th}, (Th.tup (.str k :: l)).tame = true → tameS k = true ∧ Th.tameL l = true := fun h => ⟨(tup_tame h).1, (tup_tame h).2.1⟩
  have app1 : ∀ {k : List Nat} {l : List Th}, tameS k = true → Th.tameL l = true → Th.tameL (l ++ [.str k]) = true := fun {k l} hk hl => by
    induction l with
    | nil => exact tl_cons hk rfl
    | cons a l ih =>
      have f' : (a.tame && Th.tameL l) = true := hl
      rw [Bool.and_eq_true] at f'
      exact tl_cons f'.1 (ih f'.2)
  cases r with
  | num n => exact ⟨_, _, [], rfl, Nat.le_of_ble_eq_true rfl, tame_tup (kt ht).2 (Nat.le_of_ble_eq_true rfl) rfl, tame_tup (tl_cons (kt ht).1 (app1 (kt ht).1 (kt ht).2)) (Nat.le_of_ble_eq_true rfl) rfl⟩
  | read s => exact ⟨_, _, [], rfl, Nat.le_of_ble_eq_true rfl, tame_tup (kt ht).2 (Nat.le_of_ble_eq_true rfl) rfl, tame_tup (tl_cons (kt ht).1 (app1 (kt ht).1 (kt ht).2)) (Nat.le_of_ble_eq_true rfl) rfl⟩
  | two k a b => exact ⟨_, _, [b.th], rfl, Nat.le_of_ble_eq_true rfl, tame_tup (kt ht).2 (Nat.le_of_ble_eq_true rfl) (namesTame2 _ _), tame_tup (tl_cons (kt ht).1 (app1 (kt ht).1 (kt ht).2)) (Nat.le_of_ble_eq_true rfl) (namesTame4 _ _ _ _ _)⟩
  | pick a b c =>
    refine ⟨_, _, [b.th, c.th], rfl, Nat.le_of_ble_eq_true rfl, tame_tup (kt ht).2 (Nat.le_of_ble_eq_true rfl) ?_, tame_tup (tl_cons (kt ht).1 (app1 (kt ht).1 (kt ht).2)) (Nat.le_of_ble_eq_true rfl) (namesTame4 _ _ _ _ _)⟩
    cases a <;> rfl
  | choose a ns => exact ⟨_, _, [.tup (nmsTh ns)], rfl, Nat.le_of_ble_eq_true rfl, tame_tup (kt ht).2 (Nat.le_of_ble_eq_true rfl) (namesTame2 _ _), tame_tup (tl_cons (kt ht).1 (app1 (kt ht).1 (kt ht).2)) (Nat.le_of_ble_eq_true rfl) (namesTame4 _ _ _ _ _)⟩
def spWrong : Sp := fun vs H Q _ => ∃ (B : Hp) (d : Addr) (v : V) (r : Rcp), vs = [v, .ref d] ∧ DeckAt B H d ∧ Rec B r v ∧ r.Good ∧ ∀ (B' H' : Hp) (x : V) (t : Th), Same B B' → DeckAt B' H' d → Data B' t x → t.tame = true → Q x H'
section
variable {P : Program} {w : World} {K : PySem.W.Frag} {mg : Str → Option Value} {base : Heap}
abbrev s__law_wrong : Stmt := topS 22
abbrev N__law_wrong : List Str := ["r", "deck", "some"]
theorem sc__law_wrong : FnScope N__law_wrong ["r", "deck"] (defScope s__law_wrong) := ⟨rfl, rfl, rfl, by decide +kernel, rfl, by decide +kernel, by decide +kernel⟩

theorem ok__law_wrong (T : Txt K mg) (D : IsDef K mg "_law_wrong" s__law_wrong ["r", "deck"]) (C__law_draw : Cal P w K mg base CX0 1 "_law_draw" ["deck", "many"] spDraw) : Cal P w K mg base CX0 2 "_law_wrong" ["r", "deck"] spWrong := by
  refine D.cal sc__law_wrong (fun vs H Q E h => ?_) (fun f cdv A outer s H vs Q E hr h => ?_)
  · obtain ⟨B, d, v, r, rfl, _⟩ := h
    rfl
  obtain ⟨B, d, v, r, rfl, hD0, hR0, hG, q⟩ := h
  have hrt := Rcp.tame hG
  have hRd0 := hR0.data
  obtain ⟨k, a, rest, erl, hrest, ht1, ht2⟩ := Rcp.list hG
  rw [erl] at hrt hRd0
  obtain ⟨p, rx, rfl, hpr, hRl0⟩ := hRd0
  obtain ⟨x0, _, ex0, hx0, x1, rx', ex1, hx1, hrx'⟩ := id hRl0
  subst ex1
  subst ex0
  have hrl := hrx'.len
  generalize erl' : Th.str k :: a :: rest = rl at hrt hRl0 ht1 ht2
  have hcut1 := slice_ne x0 x1 rx'
  have ec0 : cutV (x0 :: x1 :: rx') none (some 1) = [x0] := cut_to (x0 :: x1 :: rx') 1
  have hcut0 : ¬ (HT.sIx (x0 :: x1 :: rx').length 0 none = 0 ∧ HT.sIx (x0 :: x1 :: rx').length (x0 :: x1 :: rx').length (some 1) = (x0 :: x1 :: rx').length) := fun z => by
    have z2 : HT.sIx (x0 :: x1 :: rx').length (x0 :: x1 :: rx').length (some ((1 : Nat) : Int)) = (x0 :: x1 :: rx').length := z.2
    rw [HT.sIx_nat, Nat.min_eq_left (by simp)] at z2
    simp at z2
  have hRl10 : DataL B (rl.drop 1) (cutV (x0 :: x1 :: rx') (some 1) none) := by rw [cut_tail]; exact DataL.drop 1 hRl0
  have hRl20 : DataL B (rl ++ rl.take 1) ((x0 :: x1 :: rx') ++ cutV (x0 :: x1 :: rx') none (some 1)) := by rw [ec0]; exact DataL.app hRl0 (DataL.take 1 hRl0)
  have hrx0 : (x0 :: x1 :: rx') ≠ [] := by simp
  have hrxl : (x0 :: x1 :: rx').length + (cutV (x0 :: x1 :: rx') none (some 1)).length ≤ sizeLine := by
    rw [ec0]
    simp only [List.length_cons, List.length_nil]
    exact le_line (by omega)
  have hcutne : cutV (x0 :: x1 :: rx') none (some 1) ≠ [] := by rw [ec0]; simp
  have htame := tameL_mem (wrongs_tame hrt ht1 ht2)
  have hR00 : Data B (.tup rl) (.ref p) := ⟨p, _, rfl, hpr, hRl0⟩
  refine ⟨_, (pss_cons (ps_set (i := 2) sc__law_wrong.nd rfl (Or.inl rfl) (pe_lst (pa_cons pe_non (pa_cons pe_bl (pa_cons pe_int (pa_cons pe_str (pa_cons (pe_tup pa_nil) (pa_cons (pe_lst pa_nil) (pa_cons pe_dnewK (pa_cons (pe_tup (pa_cons pe_str pa_nil)) (pa_cons (pe_tup (pa_cons pe_str pa_nil)) (pa_cons (pe_tup (pa_cons pe_str (pa_cons pe_bl pa_nil))) (pa_cons (pe_tup (pa_cons pe_str (pa_cons pe_str pa_nil))) (pa_cons (pe_tup (pa_cons pe_str (pa_cons pe_str pa_nil))) pa_nil))))))))))))))
      (pss_cons (ps_set (i := 2) sc__law_wrong.nd rfl (Or.inl rfl) (pe_op op_cat (pv 2) (pe_lst (pa_cons (pe_tup (pa_cons pe_str (pa_cons pe_str pa_nil))) (pa_cons (pe_tup (pa_cons pe_str (pa_cons pe_str pa_nil))) (pa_cons (pe_tup (pa_cons pe_str (pa_cons pe_int pa_nil))) (pa_cons (pe_tup (pa_cons pe_str (pa_cons pe_str pa_nil))) (pa_cons (pe_tup (pa_cons pe_str (pa_cons pe_int (pa_cons pe_int pa_nil)))) (pa_cons (pe_tup (pa_cons pe_str (pa_cons (pv 0) pa_nil))) pa_nil)))))))))
      (pss_cons (ps_set (i := 2) sc__law_wrong.nd rfl (Or.inl rfl) (pe_op op_cat (pv 2) (pe_lst (pa_cons (pe_tup (pa_cons pe_str (pa_cons (pv 0) (pa_cons (pv 0) (pa_cons (pv 0) pa_nil))))) (pa_cons (pe_tup (pa_cons pe_str (pa_cons (pv 0) (pa_cons (pv 0) pa_nil)))) (pa_cons (pe_tup (pa_cons pe_str (pa_cons (pv 0) (pa_cons (pv 0) (pa_cons (pv 0) (pa_cons (pv 0) pa_nil)))))) (pa_cons (pe_tup (pa_cons pe_str (pa_cons (pv 0) (pa_cons (pe_tup pa_nil) pa_nil)))) (pa_cons (pe_tup (pa_cons pe_str (pa_cons (pv 0) (pa_cons (pe_lst (pa_cons pe_str pa_nil)) pa_nil)))) pa_nil))))))))
      (pss_cons (ps_set (i := 2) sc__law_wrong.nd rfl (Or.inl rfl) (pe_op op_cat (pv 2) (pe_lst (pa_cons (pe_tup (pa_cons pe_str (pa_cons (pv 0) (pa_cons (pe_op op_repT (pe_tup (pa_cons pe_str pa_nil)) pe_int) pa_nil)))) (pa_cons (pe_tup (pa_cons pe_str (pa_cons (pv 0) (pa_cons (pe_tup (pa_cons pe_str (pa_cons pe_str pa_nil))) pa_nil)))) (pa_cons (pe_tup (pa_cons pe_str (pa_cons (pv 0) pa_nil))) (pa_cons (pe_tup (pa_cons pe_str (pa_cons (pv 0) (pa_cons pe_str pa_nil)))) (pa_cons (pe_callTy call_list_of (by rfl) T.b_list (by decide +kernel) (pa_cons (pv 0) pa_nil)) pa_nil))))))))
      (pss_cons (ps_set (i := 2) sc__law_wrong.nd rfl (Or.inl rfl) (pe_op op_cat (pv 2) (pe_lst (pa_cons (pe_tup (pa_cons pe_str (pa_cons (pv 0) (pa_cons (pv 0) pa_nil)))) (pa_cons (pe_tup (pa_cons (pe_lst (pa_cons pe_str pa_nil)) (pa_cons (pv 0) (pa_cons (pv 0) pa_nil)))) (pa_cons (pe_tup (pa_cons pe_non (pa_cons (pv 0) pa_nil))) (pa_cons (pe_tup (pa_cons pe_str (pa_cons (pv 0) (pa_cons pe_non pa_nil)))) (pa_cons (pe_tup (pa_cons (pv 0) pa_nil)) (pa_cons (pe_tup (pa_cons pe_str (pa_cons pe_non pa_nil))) (pa_cons (pe_tup (pa_cons (pv 0) (pa_cons (pv 0) (pa_cons (pv 0) pa_nil)))) pa_nil))))))))))
      (pss_cons (ps_set (i := 2) sc__law_wrong.nd rfl (Or.inl rfl) (pe_op op_cat (pv 2) (pe_lst (pa_cons (pe_tup (pa_cons pe_str (pa_cons (pe_tup (pa_cons pe_str pa_nil)) (pa_cons (pe_tup (pa_cons pe_str pa_nil)) pa_nil)))) (pa_cons (pe_tup (pa_cons pe_str (pa_cons (pe_tup (pa_cons pe_str pa_nil)) pa_nil))) (pa_cons (pe_tup (pa_cons pe_str (pa_cons (pe_lst pa_nil) (pa_cons (pv 0) pa_nil)))) (pa_cons (pe_op op_catT (pv 0) (pe_slice (r := rSlT K) sl_tup (pv 0) po_none (po_some pe_int))) (pa_cons (pe_slice (r := rSlT K) sl_tup (pv 0) (po_some pe_int) po_none) (pa_cons (pe_tup (pa_cons pe_str (pa_cons (pv 0) (pa_cons pe_str pa_nil)))) pa_nil)))))))))
      (pss_cons (ps_set (i := 2) sc__law_wrong.nd rfl (Or.inl rfl) (pe_op op_cat (pv 2) (pe_lst (pa_cons (pe_tup (pa_cons pe_str (pa_cons (pv 0) (pa_cons (pe_tup (pa_cons pe_str pa_nil)) pa_nil)))) (pa_cons (pe_tup (pa_cons pe_str (pa_cons (pv 0) (pa_cons (pe_tup (pa_cons pe_str (pa_cons pe_str pa_nil))) pa_nil)))) (pa_cons (pe_tup (pa_cons pe_str (pa_cons (pv 0) (pa_cons (pe_tup (pa_cons pe_int pa_nil)) pa_nil)))) pa_nil))))))
      (pss_cons (ps_set (i := 2) sc__law_wrong.nd rfl (Or.inl rfl) (pe_op op_cat (pv 2) (pe_lst (pa_cons (pe_tup (pa_cons pe_str (pa_cons (pv 0) (pa_cons (pe_tup (pa_cons pe_str (pa_cons pe_str pa_nil))) pa_nil)))) (pa_cons (pe_tup (pa_cons pe_str (pa_cons (pv 0) (pa_cons (pe_tup (pa_cons pe_non (pa_cons pe_str pa_nil))) pa_nil)))) (pa_cons (pe_tup (pa_cons pe_str (pa_cons (pv 0) (pa_cons (pe_tup (pa_cons (pe_tup (pa_cons pe_str pa_nil)) pa_nil)) pa_nil)))) pa_nil))))))
      (pss_one (ps_ret (pe_ix (r := rIxL K) ix_list (pv 2) (pe_cal C__law_draw (hr.mono (by first | decide | omega)) pass0 (pa_cons (pv 1) (pa_cons (pe_callB call_len_seq (by rfl) T.b_len PySem.boot_len (pa_cons (pv 2) pa_nil)) pa_nil))) (fun _ _ => rfl)))))))))))), ?_⟩
  refine ⟨le_line (Nat.le_of_ble_eq_true rfl), fun p1 n1 => ?_⟩
  have e1 := same_new (hD0.free n1) (.tup [])
  have hD1 := hD0.new n1 (.tup [])
  refine ⟨le_line (Nat.le_of_ble_eq_true rfl), fun p2 n2 => ?_⟩
  have e2 := same_new (hD1.free n2) (.lst [])
  have hD2 := hD1.new n2 (.lst [])
  refine fun p3 n3 => ?_
  have e3 := same_new (hD2.free n3) (.dK [])
  have hD3 := hD2.new n3 (.dK [])
  refine ⟨le_line (Nat.le_of_ble_eq_true rfl), fun p4 n4 => ?_⟩
  have e4 := same_new (hD3.free n4) (.tup [.str "number"])
  have hD4 := hD3.new n4 (.tup [.str "number"])
  refine ⟨le_line (Nat.le_of_ble_eq_true rfl), fun p5 n5 => ?_⟩
  have e5 := same_new (hD4.free n5) (.tup [.str "read"])
  have hD5 := hD4.new n5 (.tup [.str "read"])
  refine ⟨le_line (Nat.le_of_ble_eq_true rfl), fun p6 n6 => ?_⟩
  have e6 := same_new (hD5.free n6) (.tup [.str "number", .bl true])
  have hD6 := hD5.new n6 (.tup [.str "number", .bl true])
  refine ⟨le_line (Nat.le_of_ble_eq_true rfl), fun p7 n7 => ?_⟩
  have e7 := same_new (hD6.free n7) (.tup [.str "number", .str "1"])
  have hD7 := hD6.new n7 (.tup [.str "number", .str "1"])
  refine ⟨le_line (Nat.le_of_ble_eq_true rfl), fun p8 n8 => ?_⟩
  have e8 := same_new (hD7.free n8) (.tup [.str "read", .str ""])
  have hD8 := hD7.new n8 (.tup [.str "read", .str ""])
  refine ⟨le_line (Nat.le_of_ble_eq_true rfl), fun p9 n9 => ?_⟩
  have e9 := same_new (hD8.free n9) (.lst [.non, .bl true, .int 5, .str "x", .ref p1, .ref p2, .ref p3, .ref p4, .ref p5, .ref p6, .ref p7, .ref p8])
  have hD9 := hD8.new n9 (.lst [.non, .bl true, .int 5, .str "x", .ref p1, .ref p2, .ref p3, .ref p4, .ref p5, .ref p6, .ref p7, .ref p8])
  refine ⟨_, rfl, le_line (Nat.le_of_ble_eq_true rfl), fun p10 n10 => ?_⟩
  have e10 := same_new (hD9.free n10) (.tup [.str "read", .str "Ab"])
  have hD10 := hD9.new n10 (.tup [.str "read", .str "Ab"])
  refine ⟨le_line (Nat.le_of_ble_eq_true rfl), fun p11 n11 => ?_⟩
  have e11 := same_new (hD10.free n11) (.tup [.str "read", .str "abcdefghi"])
  have hD11 := hD10.new n11 (.tup [.str "read", .str "abcdefghi"])
  refine ⟨le_line (Nat.le_of_ble_eq_true rfl), fun p12 n12 => ?_⟩
  have e12 := same_new (hD11.free n12) (.tup [.str "read", .int 7])
  have hD12 := hD11.new n12 (.tup [.str "read", .int 7])
  refine ⟨le_line (Nat.le_of_ble_eq_true rfl), fun p13 n13 => ?_⟩
  have e13 := same_new (hD12.free n13) (.tup [.str "read", .str "a1"])
  have hD13 := hD12.new n13 (.tup [.str "read", .str "a1"])
  refine ⟨le_line (Nat.le_of_ble_eq_true rfl), fun p14 n14 => ?_⟩
  have e14 := same_new (hD13.free n14) (.tup [.str "number", .int 1, .int 2])
  have hD14 := hD13.new n14 (.tup [.str "number", .int 1, .int 2])
  refine ⟨_, rfl, le_line (Nat.le_of_ble_eq_true rfl), fun p15 n15 => ?_⟩
  have e15 := same_new (hD14.free n15) (.tup [.str "plus", .ref p])
  have hD15 := hD14.new n15 (.tup [.str "plus", .ref p])
  refine ⟨le_line (Nat.le_of_ble_eq_true rfl), fun p16 n16 => ?_⟩
  have e16 := same_new (hD15.free n16) (.lst [.ref p10, .ref p11, .ref p12, .ref p13, .ref p14, .ref p15])
  have hD16 := hD15.new n16 (.lst [.ref p10, .ref p11, .ref p12, .ref p13, .ref p14, .ref p15])
  refine ⟨_, _, _, _, rfl, rfl, hD16.1 _ _ ((e10.trans (e11.trans (e12.trans (e13.trans (e14.trans (e15.trans e16)))))) _ _ upd_same), upd_same, le_line (Nat.le_of_ble_eq_true rfl), fun p17 n17 => ?_⟩
  have e17 := same_new (hD16.free n17) (.lst ([.non, .bl true, .int 5, .str "x", .ref p1, .ref p2, .ref p3, .ref p4, .ref p5, .ref p6, .ref p7, .ref p8] ++ [.ref p10, .ref p11, .ref p12, .ref p13, .ref p14, .ref p15]))
  have hD17 := hD16.new n17 (.lst ([.non, .bl true, .int 5, .str "x", .ref p1, .ref p2, .ref p3, .ref p4, .ref p5, .ref p6, .ref p7, .ref p8] ++ [.ref p10, .ref p11, .ref p12, .ref p13, .ref p14, .ref p15]))
  refine ⟨_, rfl, _, rfl, _, rfl, _, rfl, le_line (Nat.le_of_ble_eq_true rfl), fun p18 n18 => ?_⟩
  have e18 := same_new (hD17.free n18) (.tup [.str "plus", .ref p, .ref p, .ref p])
  have hD18 := hD17.new n18 (.tup [.str "plus", .ref p, .ref p, .ref p])
  refine ⟨_, rfl, _, rfl, le_line (Nat.le_of_ble_eq_true rfl), fun p19 n19 => ?_⟩
  have e19 := same_new (hD18.free n19) (.tup [.str "pick", .ref p, .ref p])
  have hD19 := hD18.new n19 (.tup [.str "pick", .ref p, .ref p])
  refine ⟨_, rfl, _, rfl, _, rfl, _, rfl, le_line (Nat.le_of_ble_eq_true rfl), fun p20 n20 => ?_⟩
  have e20 := same_new (hD19.free n20) (.tup [.str "pick", .ref p, .ref p, .ref p, .ref p])
  have hD20 := hD19.new n20 (.tup [.str "pick", .ref p, .ref p, .ref p, .ref p])
  refine ⟨_, rfl, le_line (Nat.le_of_ble_eq_true rfl), fun p21 n21 => ?_⟩
  have e21 := same_new (hD20.free n21) (.tup [])
  have hD21 := hD20.new n21 (.tup [])
  refine ⟨le_line (Nat.le_of_ble_eq_true rfl), fun p22 n22 => ?_⟩
  have e22 := same_new (hD21.free n22) (.tup [.str "choose", .ref p, .ref p21])
  have hD22 := hD21.new n22 (.tup [.str "choose", .ref p, .ref p21])
  refine ⟨_, rfl, le_line (Nat.le_of_ble_eq_true rfl), fun p23 n23 => ?_⟩
  have e23 := same_new (hD22.free n23) (.lst [.str "a"])
  have hD23 := hD22.new n23 (.lst [.str "a"])
  refine ⟨le_line (Nat.le_of_ble_eq_true rfl), fun p24 n24 => ?_⟩
  have e24 := same_new (hD23.free n24) (.tup [.str "choose", .ref p, .ref p23])
  have hD24 := hD23.new n24 (.tup [.str "choose", .ref p, .ref p23])
  refine ⟨le_line (Nat.le_of_ble_eq_true rfl), fun p25 n25 => ?_⟩
  have e25 := same_new (hD24.free n25) (.lst [.ref p18, .ref p19, .ref p20, .ref p22, .ref p24])
  have hD25 := hD24.new n25 (.lst [.ref p18, .ref p19, .ref p20, .ref p22, .ref p24])
  refine ⟨_, _, _, _, rfl, rfl, hD25.1 _ _ ((e18.trans (e19.trans (e20.trans (e21.trans (e22.trans (e23.trans (e24.trans e25))))))) _ _ upd_same), upd_same, le_line (Nat.le_of_ble_eq_true rfl), fun p26 n26 => ?_⟩
  have e26 := same_new (hD25.free n26) (.lst ([.non, .bl true, .int 5, .str "x", .ref p1, .ref p2, .ref p3, .ref p4, .ref p5, .ref p6, .ref p7, .ref p8, .ref p10, .ref p11, .ref p12, .ref p13, .ref p14, .ref p15] ++ [.ref p18, .ref p19, .ref p20, .ref p22, .ref p24]))
  have hD26 := hD25.new n26 (.lst ([.non, .bl true, .int 5, .str "x", .ref p1, .ref p2, .ref p3, .ref p4, .ref p5, .ref p6, .ref p7, .ref p8, .ref p10, .ref p11, .ref p12, .ref p13, .ref p14, .ref p15] ++ [.ref p18, .ref p19, .ref p20, .ref p22, .ref p24]))
  refine ⟨_, rfl, _, rfl, le_line (Nat.le_of_ble_eq_true rfl), fun p27 n27 => ?_⟩
  have e27 := same_new (hD26.free n27) (.tup [.str "a"])
  have hD27 := hD26.new n27 (.tup [.str "a"])
  refine ⟨_, _, _, rfl, rfl, SqT.of upd_same, (by simp), (by decide), (by decide), (Nat.le_of_ble_eq_true rfl), fun p28 n28 => ?_⟩
  have e28 := same_new (hD27.free n28) (.tup (List.replicate (10 : Int).toNat [.str "a"]).flatten)
  have hD28 := hD27.new n28 (.tup (List.replicate (10 : Int).toNat [.str "a"]).flatten)
  refine ⟨le_line (Nat.le_of_ble_eq_true rfl), fun p29 n29 => ?_⟩
  have e29 := same_new (hD28.free n29) (.tup [.str "choose", .ref p, .ref p28])
  have hD29 := hD28.new n29 (.tup [.str "choose", .ref p, .ref p28])
  refine ⟨_, rfl, le_line (Nat.le_of_ble_eq_true rfl), fun p30 n30 => ?_⟩
  have e30 := same_new (hD29.free n30) (.tup [.str "a", .str ""])
  have hD30 := hD29.new n30 (.tup [.str "a", .str ""])
  refine ⟨le_line (Nat.le_of_ble_eq_true rfl), fun p31 n31 => ?_⟩
  have e31 := same_new (hD30.free n31) (.tup [.str "choose", .ref p, .ref p30])
  have hD31 := hD30.new n31 (.tup [.str "choose", .ref p, .ref p30])
  refine ⟨_, rfl, le_line (Nat.le_of_ble_eq_true rfl), fun p32 n32 => ?_⟩
  have e32 := same_new (hD31.free n32) (.tup [.str "choose", .ref p])
  have hD32 := hD31.new n32 (.tup [.str "choose", .ref p])
  refine ⟨_, rfl, le_line (Nat.le_of_ble_eq_true rfl), fun p33 n33 => ?_⟩
  have e33 := same_new (hD32.free n33) (.tup [.str "choose", .ref p, .str "a"])
  have hD33 := hD32.new n33 (.tup [.str "choose", .ref p, .str "a"])
  refine ⟨_, rfl, _, _, rfl, .inr (SqT.of (hD33.1 _ _ ((e1.trans (e2.trans (e3.trans (e4.trans (e5.trans (e6.trans (e7.trans (e8.trans (e9.trans (e10.trans (e11.trans (e12.trans (e13.trans (e14.trans (e15.trans (e16.trans (e17.trans (e18.trans (e19.trans (e20.trans (e21.trans (e22.trans (e23.trans (e24.trans (e25.trans (e26.trans (e27.trans (e28.trans (e29.trans (e30.trans (e31.trans (e32.trans e33)))))))))))))))))))))))))))))))) _ _ hpr))), fun p34 n34 => ?_⟩
  have e34 := same_new (hD33.free n34) (.lst (x0 :: x1 :: rx'))
  have hD34 := hD33.new n34 (.lst (x0 :: x1 :: rx'))
  refine ⟨le_line (Nat.le_of_ble_eq_true rfl), fun p35 n35 => ?_⟩
  have e35 := same_new (hD34.free n35) (.lst [.ref p29, .ref p31, .ref p32, .ref p33, .ref p34])
  have hD35 := hD34.new n35 (.lst [.ref p29, .ref p31, .ref p32, .ref p33, .ref p34])
  refine ⟨_, _, _, _, rfl, rfl, hD35.1 _ _ ((e27.trans (e28.trans (e29.trans (e30.trans (e31.trans (e32.trans (e33.trans (e34.trans e35)))))))) _ _ upd_same), upd_same, le_line (Nat.le_of_ble_eq_true rfl), fun p36 n36 => ?_⟩
  have e36 := same_new (hD35.free n36) (.lst ([.non, .bl true, .int 5, .str "x", .ref p1, .ref p2, .ref p3, .ref p4, .ref p5, .ref p6, .ref p7, .ref p8, .ref p10, .ref p11, .ref p12, .ref p13, .ref p14, .ref p15, .ref p18, .ref p19, .ref p20, .ref p22, .ref p24] ++ [.ref p29, .ref p31, .ref p32, .ref p33, .ref p34]))
  have hD36 := hD35.new n36 (.lst ([.non, .bl true, .int 5, .str "x", .ref p1, .ref p2, .ref p3, .ref p4, .ref p5, .ref p6, .ref p7, .ref p8, .ref p10, .ref p11, .ref p12, .ref p13, .ref p14, .ref p15, .ref p18, .ref p19, .ref p20, .ref p22, .ref p24] ++ [.ref p29, .ref p31, .ref p32, .ref p33, .ref p34]))
  refine ⟨_, rfl, _, rfl, _, rfl, le_line (Nat.le_of_ble_eq_true rfl), fun p37 n37 => ?_⟩
  have e37 := same_new (hD36.free n37) (.tup [.str "add", .ref p, .ref p])
  have hD37 := hD36.new n37 (.tup [.str "add", .ref p, .ref p])
  refine ⟨le_line (Nat.le_of_ble_eq_true rfl), fun p38 n38 => ?_⟩
  have e38 := same_new (hD37.free n38) (.lst [.str "plus"])
  have hD38 := hD37.new n38 (.lst [.str "plus"])
  refine ⟨_, rfl, _, rfl, le_line (Nat.le_of_ble_eq_true rfl), fun p39 n39 => ?_⟩
  have e39 := same_new (hD38.free n39) (.tup [.ref p38, .ref p, .ref p])
  have hD39 := hD38.new n39 (.tup [.ref p38, .ref p, .ref p])
  refine ⟨_, rfl, le_line (Nat.le_of_ble_eq_true rfl), fun p40 n40 => ?_⟩
  have e40 := same_new (hD39.free n40) (.tup [.non, .ref p])
  have hD40 := hD39.new n40 (.tup [.non, .ref p])
  refine ⟨_, rfl, le_line (Nat.le_of_ble_eq_true rfl), fun p41 n41 => ?_⟩
  have e41 := same_new (hD40.free n41) (.tup [.str "most", .ref p, .non])
  have hD41 := hD40.new n41 (.tup [.str "most", .ref p, .non])
  refine ⟨_, rfl, le_line (Nat.le_of_ble_eq_true rfl), fun p42 n42 => ?_⟩
  have e42 := same_new (hD41.free n42) (.tup [.ref p])
  have hD42 := hD41.new n42 (.tup [.ref p])
  refine ⟨le_line (Nat.le_of_ble_eq_true rfl), fun p43 n43 => ?_⟩
  have e43 := same_new (hD42.free n43) (.tup [.str "number", .non])
  have hD43 := hD42.new n43 (.tup [.str "number", .non])
  refine ⟨_, rfl, _, rfl, _, rfl, le_line (Nat.le_of_ble_eq_true rfl), fun p44 n44 => ?_⟩
  have e44 := same_new (hD43.free n44) (.tup [.ref p, .ref p, .ref p])
  have hD44 := hD43.new n44 (.tup [.ref p, .ref p, .ref p])
  refine ⟨le_line (Nat.le_of_ble_eq_true rfl), fun p45 n45 => ?_⟩
  have e45 := same_new (hD44.free n45) (.lst [.ref p37, .ref p39, .ref p40, .ref p41, .ref p42, .ref p43, .ref p44])
  have hD45 := hD44.new n45 (.lst [.ref p37, .ref p39, .ref p40, .ref p41, .ref p42, .ref p43, .ref p44])
  refine ⟨_, _, _, _, rfl, rfl, hD45.1 _ _ ((e37.trans (e38.trans (e39.trans (e40.trans (e41.trans (e42.trans (e43.trans (e44.trans e45)))))))) _ _ upd_same), upd_same, le_line (Nat.le_of_ble_eq_true rfl), fun p46 n46 => ?_⟩
  have e46 := same_new (hD45.free n46) (.lst ([.non, .bl true, .int 5, .str "x", .ref p1, .ref p2, .ref p3, .ref p4, .ref p5, .ref p6, .ref p7, .ref p8, .ref p10, .ref p11, .ref p12, .ref p13, .ref p14, .ref p15, .ref p18, .ref p19, .ref p20, .ref p22, .ref p24, .ref p29, .ref p31, .ref p32, .ref p33, .ref p34] ++ [.ref p37, .ref p39, .ref p40, .ref p41, .ref p42, .ref p43, .ref p44]))
  have hD46 := hD45.new n46 (.lst ([.non, .bl true, .int 5, .str "x", .ref p1, .ref p2, .ref p3, .ref p4, .ref p5, .ref p6, .ref p7, .ref p8, .ref p10, .ref p11, .ref p12, .ref p13, .ref p14, .ref p15, .ref p18, .ref p19, .ref p20, .ref p22, .ref p24, .ref p29, .ref p31, .ref p32, .ref p33, .ref p34] ++ [.ref p37, .ref p39, .ref p40, .ref p41, .ref p42, .ref p43, .ref p44]))
  refine ⟨_, rfl, le_line (Nat.le_of_ble_eq_true rfl), fun p47 n47 => ?_⟩
  have e47 := same_new (hD46.free n47) (.tup [.str "a"])
  have hD47 := hD46.new n47 (.tup [.str "a"])
  refine ⟨le_line (Nat.le_of_ble_eq_true rfl), fun p48 n48 => ?_⟩
  have e48 := same_new (hD47.free n48) (.tup [.str "a"])
  have hD48 := hD47.new n48 (.tup [.str "a"])
  refine ⟨le_line (Nat.le_of_ble_eq_true rfl), fun p49 n49 => ?_⟩
  have e49 := same_new (hD48.free n49) (.tup [.str "choose", .ref p47, .ref p48])
  have hD49 := hD48.new n49 (.tup [.str "choose", .ref p47, .ref p48])
  refine ⟨le_line (Nat.le_of_ble_eq_true rfl), fun p50 n50 => ?_⟩
  have e50 := same_new (hD49.free n50) (.tup [.str "x"])
  have hD50 := hD49.new n50 (.tup [.str "x"])
  refine ⟨le_line (Nat.le_of_ble_eq_true rfl), fun p51 n51 => ?_⟩
  have e51 := same_new (hD50.free n51) (.tup [.str "read", .ref p50])
  have hD51 := hD50.new n51 (.tup [.str "read", .ref p50])
  refine ⟨le_line (Nat.le_of_ble_eq_true rfl), fun p52 n52 => ?_⟩
  have e52 := same_new (hD51.free n52) (.lst [])
  have hD52 := hD51.new n52 (.lst [])
  refine ⟨_, rfl, le_line (Nat.le_of_ble_eq_true rfl), fun p53 n53 => ?_⟩
  have e53 := same_new (hD52.free n53) (.tup [.str "minus", .ref p52, .ref p])
  have hD53 := hD52.new n53 (.tup [.str "minus", .ref p52, .ref p])
  refine ⟨_, rfl, _, rfl, _, rfl, _, _, rfl, SqT.of (hD53.1 _ _ ((e1.trans (e2.trans (e3.trans (e4.trans (e5.trans (e6.trans (e7.trans (e8.trans (e9.trans (e10.trans (e11.trans (e12.trans (e13.trans (e14.trans (e15.trans (e16.trans (e17.trans (e18.trans (e19.trans (e20.trans (e21.trans (e22.trans (e23.trans (e24.trans (e25.trans (e26.trans (e27.trans (e28.trans (e29.trans (e30.trans (e31.trans (e32.trans (e33.trans (e34.trans (e35.trans (e36.trans (e37.trans (e38.trans (e39.trans (e40.trans (e41.trans (e42.trans (e43.trans (e44.trans (e45.trans (e46.trans (e47.trans (e48.trans (e49.trans (e50.trans (e51.trans (e52.trans e53)))))))))))))))))))))))))))))))))))))))))))))))))))) _ _ hpr)), hcut0, fun p54 n54 => ?_⟩
  have e54 := same_new (hD53.free n54) (.tup (cutV (x0 :: x1 :: rx') none (some 1)))
  have hD54 := hD53.new n54 (.tup (cutV (x0 :: x1 :: rx') none (some 1)))
  refine ⟨_, _, _, _, rfl, rfl, SqT.of (hD54.1 _ _ ((e1.trans (e2.trans (e3.trans (e4.trans (e5.trans (e6.trans (e7.trans (e8.trans (e9.trans (e10.trans (e11.trans (e12.trans (e13.trans (e14.trans (e15.trans (e16.trans (e17.trans (e18.trans (e19.trans (e20.trans (e21.trans (e22.trans (e23.trans (e24.trans (e25.trans (e26.trans (e27.trans (e28.trans (e29.trans (e30.trans (e31.trans (e32.trans (e33.trans (e34.trans (e35.trans (e36.trans (e37.trans (e38.trans (e39.trans (e40.trans (e41.trans (e42.trans (e43.trans (e44.trans (e45.trans (e46.trans (e47.trans (e48.trans (e49.trans (e50.trans (e51.trans (e52.trans (e53.trans e54))))))))))))))))))))))))))))))))))))))))))))))))))))) _ _ hpr)), SqT.of upd_same, hrx0, hrxl, (fun z => absurd z hcutne), fun _ p55 n55 => ?_⟩
  have e55 := same_new (hD54.free n55) (.tup ((x0 :: x1 :: rx') ++ cutV (x0 :: x1 :: rx') none (some 1)))
  have hD55 := hD54.new n55 (.tup ((x0 :: x1 :: rx') ++ cutV (x0 :: x1 :: rx') none (some 1)))
  refine ⟨_, rfl, _, rfl, _, _, rfl, SqT.of (hD55.1 _ _ ((e1.trans (e2.trans (e3.trans (e4.trans (e5.trans (e6.trans (e7.trans (e8.trans (e9.trans (e10.trans (e11.trans (e12.trans (e13.trans (e14.trans (e15.trans (e16.trans (e17.trans (e18.trans (e19.trans (e20.trans (e21.trans (e22.trans (e23.trans (e24.trans (e25.trans (e26.trans (e27.trans (e28.trans (e29.trans (e30.trans (e31.trans (e32.trans (e33.trans (e34.trans (e35.trans (e36.trans (e37.trans (e38.trans (e39.trans (e40.trans (e41.trans (e42.trans (e43.trans (e44.trans (e45.trans (e46.trans (e47.trans (e48.trans (e49.trans (e50.trans (e51.trans (e52.trans (e53.trans (e54.trans e55)))))))))))))))))))))))))))))))))))))))))))))))))))))) _ _ hpr)), hcut1, fun p56 n56 => ?_⟩
  have e56 := same_new (hD55.free n56) (.tup (cutV (x0 :: x1 :: rx') (some 1) none))
  have hD56 := hD55.new n56 (.tup (cutV (x0 :: x1 :: rx') (some 1) none))
  refine ⟨_, rfl, le_line (Nat.le_of_ble_eq_true rfl), fun p57 n57 => ?_⟩
  have e57 := same_new (hD56.free n57) (.tup [.str "times", .ref p, .str "x"])
  have hD57 := hD56.new n57 (.tup [.str "times", .ref p, .str "x"])
  refine ⟨le_line (Nat.le_of_ble_eq_true rfl), fun p58 n58 => ?_⟩
  have e58 := same_new (hD57.free n58) (.lst [.ref p49, .ref p51, .ref p53, .ref p55, .ref p56, .ref p57])
  have hD58 := hD57.new n58 (.lst [.ref p49, .ref p51, .ref p53, .ref p55, .ref p56, .ref p57])
  refine ⟨_, _, _, _, rfl, rfl, hD58.1 _ _ ((e47.trans (e48.trans (e49.trans (e50.trans (e51.trans (e52.trans (e53.trans (e54.trans (e55.trans (e56.trans (e57.trans e58))))))))))) _ _ upd_same), upd_same, le_line (Nat.le_of_ble_eq_true rfl), fun p59 n59 => ?_⟩
  have e59 := same_new (hD58.free n59) (.lst ([.non, .bl true, .int 5, .str "x", .ref p1, .ref p2, .ref p3, .ref p4, .ref p5, .ref p6, .ref p7, .ref p8, .ref p10, .ref p11, .ref p12, .ref p13, .ref p14, .ref p15, .ref p18, .ref p19, .ref p20, .ref p22, .ref p24, .ref p29, .ref p31, .ref p32, .ref p33, .ref p34, .ref p37, .ref p39, .ref p40, .ref p41, .ref p42, .ref p43, .ref p44] ++ [.ref p49, .ref p51, .ref p53, .ref p55, .ref p56, .ref p57]))
  have hD59 := hD58.new n59 (.lst ([.non, .bl true, .int 5, .str "x", .ref p1, .ref p2, .ref p3, .ref p4, .ref p5, .ref p6, .ref p7, .ref p8, .ref p10, .ref p11, .ref p12, .ref p13, .ref p14, .ref p15, .ref p18, .ref p19, .ref p20, .ref p22, .ref p24, .ref p29, .ref p31, .ref p32, .ref p33, .ref p34, .ref p37, .ref p39, .ref p40, .ref p41, .ref p42, .ref p43, .ref p44] ++ [.ref p49, .ref p51, .ref p53, .ref p55, .ref p56, .ref p57]))
  refine ⟨_, rfl, _, rfl, le_line (Nat.le_of_ble_eq_true rfl), fun p60 n60 => ?_⟩
  have e60 := same_new (hD59.free n60) (.tup [.str "Ab"])
  have hD60 := hD59.new n60 (.tup [.str "Ab"])
  refine ⟨le_line (Nat.le_of_ble_eq_true rfl), fun p61 n61 => ?_⟩
  have e61 := same_new (hD60.free n61) (.tup [.str "choose", .ref p, .ref p60])
  have hD61 := hD60.new n61 (.tup [.str "choose", .ref p, .ref p60])
  refine ⟨_, rfl, le_line (Nat.le_of_ble_eq_true rfl), fun p62 n62 => ?_⟩
  have e62 := same_new (hD61.free n62) (.tup [.str "a", .str "abcdefghi"])
  have hD62 := hD61.new n62 (.tup [.str "a", .str "abcdefghi"])
  refine ⟨le_line (Nat.le_of_ble_eq_true rfl), fun p63 n63 => ?_⟩
  have e63 := same_new (hD62.free n63) (.tup [.str "choose", .ref p, .ref p62])
  have hD63 := hD62.new n63 (.tup [.str "choose", .ref p, .ref p62])
  refine ⟨_, rfl, le_line (Nat.le_of_ble_eq_true rfl), fun p64 n64 => ?_⟩
  have e64 := same_new (hD63.free n64) (.tup [.int 7])
  have hD64 := hD63.new n64 (.tup [.int 7])
  refine ⟨le_line (Nat.le_of_ble_eq_true rfl), fun p65 n65 => ?_⟩
  have e65 := same_new (hD64.free n65) (.tup [.str "choose", .ref p, .ref p64])
  have hD65 := hD64.new n65 (.tup [.str "choose", .ref p, .ref p64])
  refine ⟨le_line (Nat.le_of_ble_eq_true rfl), fun p66 n66 => ?_⟩
  have e66 := same_new (hD65.free n66) (.lst [.ref p61, .ref p63, .ref p65])
  have hD66 := hD65.new n66 (.lst [.ref p61, .ref p63, .ref p65])
  refine ⟨_, _, _, _, rfl, rfl, hD66.1 _ _ ((e60.trans (e61.trans (e62.trans (e63.trans (e64.trans (e65.trans e66)))))) _ _ upd_same), upd_same, le_line (Nat.le_of_ble_eq_true rfl), fun p67 n67 => ?_⟩
  have e67 := same_new (hD66.free n67) (.lst ([.non, .bl true, .int 5, .str "x", .ref p1, .ref p2, .ref p3, .ref p4, .ref p5, .ref p6, .ref p7, .ref p8, .ref p10, .ref p11, .ref p12, .ref p13, .ref p14, .ref p15, .ref p18, .ref p19, .ref p20, .ref p22, .ref p24, .ref p29, .ref p31, .ref p32, .ref p33, .ref p34, .ref p37, .ref p39, .ref p40, .ref p41, .ref p42, .ref p43, .ref p44, .ref p49, .ref p51, .ref p53, .ref p55, .ref p56, .ref p57] ++ [.ref p61, .ref p63, .ref p65]))
  have hD67 := hD66.new n67 (.lst ([.non, .bl true, .int 5, .str "x", .ref p1, .ref p2, .ref p3, .ref p4, .ref p5, .ref p6, .ref p7, .ref p8, .ref p10, .ref p11, .ref p12, .ref p13, .ref p14, .ref p15, .ref p18, .ref p19, .ref p20, .ref p22, .ref p24, .ref p29, .ref p31, .ref p32, .ref p33, .ref p34, .ref p37, .ref p39, .ref p40, .ref p41, .ref p42, .ref p43, .ref p44, .ref p49, .ref p51, .ref p53, .ref p55, .ref p56, .ref p57] ++ [.ref p61, .ref p63, .ref p65]))
  refine ⟨_, rfl, _, rfl, le_line (Nat.le_of_ble_eq_true rfl), fun p68 n68 => ?_⟩
  have e68 := same_new (hD67.free n68) (.tup [.str "a1", .str "b"])
  have hD68 := hD67.new n68 (.tup [.str "a1", .str "b"])
  refine ⟨le_line (Nat.le_of_ble_eq_true rfl), fun p69 n69 => ?_⟩
  have e69 := same_new (hD68.free n69) (.tup [.str "choose", .ref p, .ref p68])
  have hD69 := hD68.new n69 (.tup [.str "choose", .ref p, .ref p68])
  refine ⟨_, rfl, le_line (Nat.le_of_ble_eq_true rfl), fun p70 n70 => ?_⟩
  have e70 := same_new (hD69.free n70) (.tup [.non, .str "a"])
  have hD70 := hD69.new n70 (.tup [.non, .str "a"])
  refine ⟨le_line (Nat.le_of_ble_eq_true rfl), fun p71 n71 => ?_⟩
  have e71 := same_new (hD70.free n71) (.tup [.str "choose", .ref p, .ref p70])
  have hD71 := hD70.new n71 (.tup [.str "choose", .ref p, .ref p70])
  refine ⟨_, rfl, le_line (Nat.le_of_ble_eq_true rfl), fun p72 n72 => ?_⟩
  have e72 := same_new (hD71.free n72) (.tup [.str "a"])
  have hD72 := hD71.new n72 (.tup [.str "a"])
  refine ⟨le_line (Nat.le_of_ble_eq_true rfl), fun p73 n73 => ?_⟩
  have e73 := same_new (hD72.free n73) (.tup [.ref p72])
  have hD73 := hD72.new n73 (.tup [.ref p72])
  refine ⟨le_line (Nat.le_of_ble_eq_true rfl), fun p74 n74 => ?_⟩
  have e74 := same_new (hD73.free n74) (.tup [.str "choose", .ref p, .ref p73])
  have hD74 := hD73.new n74 (.tup [.str "choose", .ref p, .ref p73])
  refine ⟨le_line (Nat.le_of_ble_eq_true rfl), fun p75 n75 => ?_⟩
  have e75 := same_new (hD74.free n75) (.lst [.ref p69, .ref p71, .ref p74])
  have hD75 := hD74.new n75 (.lst [.ref p69, .ref p71, .ref p74])
  refine ⟨_, _, _, _, rfl, rfl, hD75.1 _ _ ((e68.trans (e69.trans (e70.trans (e71.trans (e72.trans (e73.trans (e74.trans e75))))))) _ _ upd_same), upd_same, le_line (Nat.le_of_ble_eq_true rfl), fun p76 n76 => ?_⟩
  have e76 := same_new (hD75.free n76) (.lst ([.non, .bl true, .int 5, .str "x", .ref p1, .ref p2, .ref p3, .ref p4, .ref p5, .ref p6, .ref p7, .ref p8, .ref p10, .ref p11, .ref p12, .ref p13, .ref p14, .ref p15, .ref p18, .ref p19, .ref p20, .ref p22, .ref p24, .ref p29, .ref p31, .ref p32, .ref p33, .ref p34, .ref p37, .ref p39, .ref p40, .ref p41, .ref p42, .ref p43, .ref p44, .ref p49, .ref p51, .ref p53, .ref p55, .ref p56, .ref p57, .ref p61, .ref p63, .ref p65] ++ [.ref p69, .ref p71, .ref p74]))
  have hD76 := hD75.new n76 (.lst ([.non, .bl true, .int 5, .str "x", .ref p1, .ref p2, .ref p3, .ref p4, .ref p5, .ref p6, .ref p7, .ref p8, .ref p10, .ref p11, .ref p12, .ref p13, .ref p14, .ref p15, .ref p18, .ref p19, .ref p20, .ref p22, .ref p24, .ref p29, .ref p31, .ref p32, .ref p33, .ref p34, .ref p37, .ref p39, .ref p40, .ref p41, .ref p42, .ref p43, .ref p44, .ref p49, .ref p51, .ref p53, .ref p55, .ref p56, .ref p57, .ref p61, .ref p63, .ref p65] ++ [.ref p69, .ref p71, .ref p74]))
  have S76 := Same.refl (upd (upd (upd (upd (upd (upd (upd (upd (upd (upd (upd (upd (upd (upd (upd (upd (upd (upd (upd (upd (upd (upd (upd (upd (upd (upd (upd (upd (upd (upd (upd (upd (upd (upd (upd (upd (upd (upd (upd (upd (upd (upd (upd (upd (upd (upd (upd (upd (upd (upd (upd (upd (upd (upd (upd (upd (upd (upd (upd (upd (upd (upd (upd (upd (upd (upd (upd (upd (upd (upd (upd (upd (upd (upd (upd (upd B p1 (.tup [])) p2 (.lst [])) p3 (.dK [])) p4 (.tup [.str "number"])) p5 (.tup [.str "read"])) p6 (.tup [.str "number", .bl true])) p7 (.tup [.str "number", .str "1"])) p8 (.tup [.str "read", .str ""])) p9 (.lst [.non, .bl true, .int 5, .str "x", .ref p1, .ref p2, .ref p3, .ref p4, .ref p5, .ref p6, .ref p7, .ref p8])) p10 (.tup [.str "read", .str "Ab"])) p11 (.tup [.str "read", .str "abcdefghi"])) p12 (.tup [.str "read", .int 7])) p13 (.tup [.str "read", .str "a1"])) p14 (.tup [.str "number", .int 1, .int 2])) p15 (.tup [.str "plus", .ref p])) p16 (.lst [.ref p10, .ref p11, .ref p12, .ref p13, .ref p14, .ref p15])) p17 (.lst ([.non, .bl true, .int 5, .str "x", .ref p1, .ref p2, .ref p3, .ref p4, .ref p5, .ref p6, .ref p7, .ref p8] ++ [.ref p10, .ref p11, .ref p12, .ref p13, .ref p14, .ref p15]))) p18 (.tup [.str "plus", .ref p, .ref p, .ref p])) p19 (.tup [.str "pick", .ref p, .ref p])) p20 (.tup [.str "pick", .ref p, .ref p, .ref p, .ref p])) p21 (.tup [])) p22 (.tup [.str "choose", .ref p, .ref p21])) p23 (.lst [.str "a"])) p24 (.tup [.str "choose", .ref p, .ref p23])) p25 (.lst [.ref p18, .ref p19, .ref p20, .ref p22, .ref p24])) p26 (.lst ([.non, .bl true, .int 5, .str "x", .ref p1, .ref p2, .ref p3, .ref p4, .ref p5, .ref p6, .ref p7, .ref p8, .ref p10, .ref p11, .ref p12, .ref p13, .ref p14, .ref p15] ++ [.ref p18, .ref p19, .ref p20, .ref p22, .ref p24]))) p27 (.tup [.str "a"])) p28 (.tup (List.replicate (10 : Int).toNat [.str "a"]).flatten)) p29 (.tup [.str "choose", .ref p, .ref p28])) p30 (.tup [.str "a", .str ""])) p31 (.tup [.str "choose", .ref p, .ref p30])) p32 (.tup [.str "choose", .ref p])) p33 (.tup [.str "choose", .ref p, .str "a"])) p34 (.lst (x0 :: x1 :: rx'))) p35 (.lst [.ref p29, .ref p31, .ref p32, .ref p33, .ref p34])) p36 (.lst ([.non, .bl true, .int 5, .str "x", .ref p1, .ref p2, .ref p3, .ref p4, .ref p5, .ref p6, .ref p7, .ref p8, .ref p10, .ref p11, .ref p12, .ref p13, .ref p14, .ref p15, .ref p18, .ref p19, .ref p20, .ref p22, .ref p24] ++ [.ref p29, .ref p31, .ref p32, .ref p33, .ref p34]))) p37 (.tup [.str "add", .ref p, .ref p])) p38 (.lst [.str "plus"])) p39 (.tup [.ref p38, .ref p, .ref p])) p40 (.tup [.non, .ref p])) p41 (.tup [.str "most", .ref p, .non])) p42 (.tup [.ref p])) p43 (.tup [.str "number", .non])) p44 (.tup [.ref p, .ref p, .ref p])) p45 (.lst [.ref p37, .ref p39, .ref p40, .ref p41, .ref p42, .ref p43, .ref p44])) p46 (.lst ([.non, .bl true, .int 5, .str "x", .ref p1, .ref p2, .ref p3, .ref p4, .ref p5, .ref p6, .ref p7, .ref p8, .ref p10, .ref p11, .ref p12, .ref p13, .ref p14, .ref p15, .ref p18, .ref p19, .ref p20, .ref p22, .ref p24, .ref p29, .ref p31, .ref p32, .ref p33, .ref p34] ++ [.ref p37, .ref p39, .ref p40, .ref p41, .ref p42, .ref p43, .ref p44]))) p47 (.tup [.str "a"])) p48 (.tup [.str "a"])) p49 (.tup [.str "choose", .ref p47, .ref p48])) p50 (.tup [.str "x"])) p51 (.tup [.str "read", .ref p50])) p52 (.lst [])) p53 (.tup [.str "minus", .ref p52, .ref p])) p54 (.tup (cutV (x0 :: x1 :: rx') none (some 1)))) p55 (.tup ((x0 :: x1 :: rx') ++ cutV (x0 :: x1 :: rx') none (some 1)))) p56 (.tup (cutV (x0 :: x1 :: rx') (some 1) none))) p57 (.tup [.str "times", .ref p, .str "x"])) p58 (.lst [.ref p49, .ref p51, .ref p53, .ref p55, .ref p56, .ref p57])) p59 (.lst ([.non, .bl true, .int 5, .str "x", .ref p1, .ref p2, .ref p3, .ref p4, .ref p5, .ref p6, .ref p7, .ref p8, .ref p10, .ref p11, .ref p12, .ref p13, .ref p14, .ref p15, .ref p18, .ref p19, .ref p20, .ref p22, .ref p24, .ref p29, .ref p31, .ref p32, .ref p33, .ref p34, .ref p37, .ref p39, .ref p40, .ref p41, .ref p42, .ref p43, .ref p44] ++ [.ref p49, .ref p51, .ref p53, .ref p55, .ref p56, .ref p57]))) p60 (.tup [.str "Ab"])) p61 (.tup [.str "choose", .ref p, .ref p60])) p62 (.tup [.str "a", .str "abcdefghi"])) p63 (.tup [.str "choose", .ref p, .ref p62])) p64 (.tup [.int 7])) p65 (.tup [.str "choose", .ref p, .ref p64])) p66 (.lst [.ref p61, .ref p63, .ref p65])) p67 (.lst ([.non, .bl true, .int 5, .str "x", .ref p1, .ref p2, .ref p3, .ref p4, .ref p5, .ref p6, .ref p7, .ref p8, .ref p10, .ref p11, .ref p12, .ref p13, .ref p14, .ref p15, .ref p18, .ref p19, .ref p20, .ref p22, .ref p24, .ref p29, .ref p31, .ref p32, .ref p33, .ref p34, .ref p37, .ref p39, .ref p40, .ref p41, .ref p42, .ref p43, .ref p44, .ref p49, .ref p51, .ref p53, .ref p55, .ref p56, .ref p57] ++ [.ref p61, .ref p63, .ref p65]))) p68 (.tup [.str "a1", .str "b"])) p69 (.tup [.str "choose", .ref p, .ref p68])) p70 (.tup [.non, .str "a"])) p71 (.tup [.str "choose", .ref p, .ref p70])) p72 (.tup [.str "a"])) p73 (.tup [.ref p72])) p74 (.tup [.str "choose", .ref p, .ref p73])) p75 (.lst [.ref p69, .ref p71, .ref p74])) p76 (.lst ([.non, .bl true, .int 5, .str "x", .ref p1, .ref p2, .ref p3, .ref p4, .ref p5, .ref p6, .ref p7, .ref p8, .ref p10, .ref p11, .ref p12, .ref p13, .ref p14, .ref p15, .ref p18, .ref p19, .ref p20, .ref p22, .ref p24, .ref p29, .ref p31, .ref p32, .ref p33, .ref p34, .ref p37, .ref p39, .ref p40, .ref p41, .ref p42, .ref p43, .ref p44, .ref p49, .ref p51, .ref p53, .ref p55, .ref p56, .ref p57, .ref p61, .ref p63, .ref p65] ++ [.ref p69, .ref p71, .ref p74])))
  have S75 := e76.trans S76
  have S74 := e75.trans S75
  have S73 := e74.trans S74
  have S72 := e73.trans S73
  have S71 := e72.trans S72
  have S70 := e71.trans S71
  have S69 := e70.trans S70
  have S68 := e69.trans S69
  have S67 := e68.trans S68
  have S66 := e67.trans S67
  have S65 := e66.trans S66
  have S64 := e65.trans S65
  have S63 := e64.trans S64
  have S62 := e63.trans S63
  have S61 := e62.trans S62
  have S60 := e61.trans S61
  have S59 := e60.trans S60
  have S58 := e59.trans S59
  have S57 := e58.trans S58
  have S56 := e57.trans S57
  have S55 := e56.trans S56
  have S54 := e55.trans S55
  have S53 := e54.trans S54
  have S52 := e53.trans S53
  have S51 := e52.trans S52
  have S50 := e51.trans S51
  have S49 := e50.trans S50
  have S48 := e49.trans S49
  have S47 := e48.trans S48
  have S46 := e47.trans S47
  have S45 := e46.trans S46
  have S44 := e45.trans S45
  have S43 := e44.trans S44
  have S42 := e43.trans S43
  have S41 := e42.trans S42
  have S40 := e41.trans S41
  have S39 := e40.trans S40
  have S38 := e39.trans S39
  have S37 := e38.trans S38
  have S36 := e37.trans S37
  have S35 := e36.trans S36
  have S34 := e35.trans S35
  have S33 := e34.trans S34
  have S32 := e33.trans S33
  have S31 := e32.trans S32
  have S30 := e31.trans S31
  have S29 := e30.trans S30
  have S28 := e29.trans S29
  have S27 := e28.trans S28
  have S26 := e27.trans S27
  have S25 := e26.trans S26
  have S24 := e25.trans S25
  have S23 := e24.trans S24
  have S22 := e23.trans S23
  have S21 := e22.trans S22
  have S20 := e21.trans S21
  have S19 := e20.trans S20
  have S18 := e19.trans S19
  have S17 := e18.trans S18
  have S16 := e17.trans S17
  have S15 := e16.trans S16
  have S14 := e15.trans S15
  have S13 := e14.trans S14
  have S12 := e13.trans S13
  have S11 := e12.trans S12
  have S10 := e11.trans S11
  have S9 := e10.trans S10
  have S8 := e9.trans S9
  have S7 := e8.trans S8
  have S6 := e7.trans S7
  have S5 := e6.trans S6
  have S4 := e5.trans S5
  have S3 := e4.trans S4
  have S2 := e3.trans S3
  have S1 := e2.trans S2
  have S0 := e1.trans S1
  have hR := hR00.same S0
  have hRl := DataL.same S0 hRl0
  have hRl1 := DataL.same S0 hRl10
  have hRl2 := DataL.same S0 hRl20
  have hall : DataL _ (wrongs rl) [.non, .bl true, .int 5, .str "x", .ref p1, .ref p2, .ref p3, .ref p4, .ref p5, .ref p6, .ref p7, .ref p8, .ref p10, .ref p11, .ref p12, .ref p13, .ref p14, .ref p15, .ref p18, .ref p19, .ref p20, .ref p22, .ref p24, .ref p29, .ref p31, .ref p32, .ref p33, .ref p34, .ref p37, .ref p39, .ref p40, .ref p41, .ref p42, .ref p43, .ref p44, .ref p49, .ref p51, .ref p53, .ref p55, .ref p56, .ref p57, .ref p61, .ref p63, .ref p65, .ref p69, .ref p71, .ref p74] :=
    ⟨_, _, rfl, rfl, ⟨_, _, rfl, rfl, ⟨_, _, rfl, rfl, ⟨_, _, rfl, (congrArg V.str qq_0), ⟨_, _, rfl, ⟨p1, _, rfl, S1 _ _ upd_same, rfl⟩, ⟨_, _, rfl, ⟨p2, _, rfl, S2 _ _ upd_same, rfl⟩, ⟨_, _, rfl, ⟨p3, _, rfl, S3 _ _ upd_same⟩, ⟨_, _, rfl, ⟨p4, _, rfl, S4 _ _ upd_same, ⟨_, _, rfl, (congrArg V.str qq_1), rfl⟩⟩, ⟨_, _, rfl, ⟨p5, _, rfl, S5 _ _ upd_same, ⟨_, _, rfl, (congrArg V.str qq_2), rfl⟩⟩, ⟨_, _, rfl, ⟨p6, _, rfl, S6 _ _ upd_same, ⟨_, _, rfl, (congrArg V.str qq_1), ⟨_, _, rfl, rfl, rfl⟩⟩⟩, ⟨_, _, rfl, ⟨p7, _, rfl, S7 _ _ upd_same, ⟨_, _, rfl, (congrArg V.str qq_1), ⟨_, _, rfl, (congrArg V.str qq_3), rfl⟩⟩⟩, ⟨_, _, rfl, ⟨p8, _, rfl, S8 _ _ upd_same, ⟨_, _, rfl, (congrArg V.str qq_2), ⟨_, _, rfl, (congrArg V.str qq_4), rfl⟩⟩⟩, ⟨_, _, rfl, ⟨p10, _, rfl, S10 _ _ upd_same, ⟨_, _, rfl, (congrArg V.str qq_2), ⟨_, _, rfl, (congrArg V.str qq_5), rfl⟩⟩⟩, ⟨_, _, rfl, ⟨p11, _, rfl, S11 _ _ upd_same, ⟨_, _, rfl, (congrArg V.str qq_2), ⟨_, _, rfl, (congrArg V.str qq_6), rfl⟩⟩⟩, ⟨_, _, rfl, ⟨p12, _, rfl, S12 _ _ upd_same, ⟨_, _, rfl, (congrArg V.str qq_2), ⟨_, _, rfl, rfl, rfl⟩⟩⟩, ⟨_, _, rfl, ⟨p13, _, rfl, S13 _ _ upd_same, ⟨_, _, rfl, (congrArg V.str qq_2), ⟨_, _, rfl, (congrArg V.str qq_7), rfl⟩⟩⟩, ⟨_, _, rfl, ⟨p14, _, rfl, S14 _ _ upd_same, ⟨_, _, rfl, (congrArg V.str qq_1), ⟨_, _, rfl, rfl, ⟨_, _, rfl, rfl, rfl⟩⟩⟩⟩, ⟨_, _, rfl, ⟨p15, _, rfl, S15 _ _ upd_same, ⟨_, _, rfl, (congrArg V.str qq_8), ⟨_, _, rfl, hR, rfl⟩⟩⟩, ⟨_, _, rfl, ⟨p18, _, rfl, S18 _ _ upd_same, ⟨_, _, rfl, (congrArg V.str qq_8), ⟨_, _, rfl, hR, ⟨_, _, rfl, hR, ⟨_, _, rfl, hR, rfl⟩⟩⟩⟩⟩, ⟨_, _, rfl, ⟨p19, _, rfl, S19 _ _ upd_same, ⟨_, _, rfl, (congrArg V.str qq_9), ⟨_, _, rfl, hR, ⟨_, _, rfl, hR, rfl⟩⟩⟩⟩, ⟨_, _, rfl, ⟨p20, _, rfl, S20 _ _ upd_same, ⟨_, _, rfl, (congrArg V.str qq_9), ⟨_, _, rfl, hR, ⟨_, _, rfl, hR, ⟨_, _, rfl, hR, ⟨_, _, rfl, hR, rfl⟩⟩⟩⟩⟩⟩, ⟨_, _, rfl, ⟨p22, _, rfl, S22 _ _ upd_same, ⟨_, _, rfl, (congrArg V.str qq_10), ⟨_, _, rfl, hR, ⟨_, _, rfl, ⟨p21, _, rfl, S21 _ _ upd_same, rfl⟩, rfl⟩⟩⟩⟩, ⟨_, _, rfl, ⟨p24, _, rfl, S24 _ _ upd_same, ⟨_, _, rfl, (congrArg V.str qq_10), ⟨_, _, rfl, hR, ⟨_, _, rfl, ⟨p23, _, rfl, S23 _ _ upd_same, ⟨_, _, rfl, (congrArg V.str qq_11), rfl⟩⟩, rfl⟩⟩⟩⟩, ⟨_, _, rfl, ⟨p29, _, rfl, S29 _ _ upd_same, ⟨_, _, rfl, (congrArg V.str qq_10), ⟨_, _, rfl, hR, ⟨_, _, rfl, ⟨p28, _, rfl, S28 _ _ upd_same, ⟨_, _, rfl, (congrArg V.str qq_11), ⟨_, _, rfl, (congrArg V.str qq_11), ⟨_, _, rfl, (congrArg V.str qq_11), ⟨_, _, rfl, (congrArg V.str qq_11), ⟨_, _, rfl, (congrArg V.str qq_11), ⟨_, _, rfl, (congrArg V.str qq_11), ⟨_, _, rfl, (congrArg V.str qq_11), ⟨_, _, rfl, (congrArg V.str qq_11), ⟨_, _, rfl, (congrArg V.str qq_11), ⟨_, _, rfl, (congrArg V.str qq_11), rfl⟩⟩⟩⟩⟩⟩⟩⟩⟩⟩⟩, rfl⟩⟩⟩⟩, ⟨_, _, rfl, ⟨p31, _, rfl, S31 _ _ upd_same, ⟨_, _, rfl, (congrArg V.str qq_10), ⟨_, _, rfl, hR, ⟨_, _, rfl, ⟨p30, _, rfl, S30 _ _ upd_same, ⟨_, _, rfl, (congrArg V.str qq_11), ⟨_, _, rfl, (congrArg V.str qq_4), rfl⟩⟩⟩, rfl⟩⟩⟩⟩, ⟨_, _, rfl, ⟨p32, _, rfl, S32 _ _ upd_same, ⟨_, _, rfl, (congrArg V.str qq_10), ⟨_, _, rfl, hR, rfl⟩⟩⟩, ⟨_, _, rfl, ⟨p33, _, rfl, S33 _ _ upd_same, ⟨_, _, rfl, (congrArg V.str qq_10), ⟨_, _, rfl, hR, ⟨_, _, rfl, (congrArg V.str qq_11), rfl⟩⟩⟩⟩, ⟨_, _, rfl, ⟨p34, _, rfl, S34 _ _ upd_same, hRl⟩, ⟨_, _, rfl, ⟨p37, _, rfl, S37 _ _ upd_same, ⟨_, _, rfl, (congrArg V.str qq_12), ⟨_, _, rfl, hR, ⟨_, _, rfl, hR, rfl⟩⟩⟩⟩, ⟨_, _, rfl, ⟨p39, _, rfl, S39 _ _ upd_same, ⟨_, _, rfl, ⟨p38, _, rfl, S38 _ _ upd_same, ⟨_, _, rfl, (congrArg V.str qq_8), rfl⟩⟩, ⟨_, _, rfl, hR, ⟨_, _, rfl, hR, rfl⟩⟩⟩⟩, ⟨_, _, rfl, ⟨p40, _, rfl, S40 _ _ upd_same, ⟨_, _, rfl, rfl, ⟨_, _, rfl, hR, rfl⟩⟩⟩, ⟨_, _, rfl, ⟨p41, _, rfl, S41 _ _ upd_same, ⟨_, _, rfl, (congrArg V.str qq_13), ⟨_, _, rfl, hR, ⟨_, _, rfl, rfl, rfl⟩⟩⟩⟩, ⟨_, _, rfl, ⟨p42, _, rfl, S42 _ _ upd_same, ⟨_, _, rfl, hR, rfl⟩⟩, ⟨_, _, rfl, ⟨p43, _, rfl, S43 _ _ upd_same, ⟨_, _, rfl, (congrArg V.str qq_1), ⟨_, _, rfl, rfl, rfl⟩⟩⟩, ⟨_, _, rfl, ⟨p44, _, rfl, S44 _ _ upd_same, ⟨_, _, rfl, hR, ⟨_, _, rfl, hR, ⟨_, _, rfl, hR, rfl⟩⟩⟩⟩, ⟨_, _, rfl, ⟨p49, _, rfl, S49 _ _ upd_same, ⟨_, _, rfl, (congrArg V.str qq_10), ⟨_, _, rfl, ⟨p47, _, rfl, S47 _ _ upd_same, ⟨_, _, rfl, (congrArg V.str qq_11), rfl⟩⟩, ⟨_, _, rfl, ⟨p48, _, rfl, S48 _ _ upd_same, ⟨_, _, rfl, (congrArg V.str qq_11), rfl⟩⟩, rfl⟩⟩⟩⟩, ⟨_, _, rfl, ⟨p51, _, rfl, S51 _ _ upd_same, ⟨_, _, rfl, (congrArg V.str qq_2), ⟨_, _, rfl, ⟨p50, _, rfl, S50 _ _ upd_same, ⟨_, _, rfl, (congrArg V.str qq_0), rfl⟩⟩, rfl⟩⟩⟩, ⟨_, _, rfl, ⟨p53, _, rfl, S53 _ _ upd_same, ⟨_, _, rfl, (congrArg V.str qq_14), ⟨_, _, rfl, ⟨p52, _, rfl, S52 _ _ upd_same, rfl⟩, ⟨_, _, rfl, hR, rfl⟩⟩⟩⟩, ⟨_, _, rfl, ⟨p55, _, rfl, S55 _ _ upd_same, hRl2⟩, ⟨_, _, rfl, ⟨p56, _, rfl, S56 _ _ upd_same, hRl1⟩, ⟨_, _, rfl, ⟨p57, _, rfl, S57 _ _ upd_same, ⟨_, _, rfl, (congrArg V.str qq_15), ⟨_, _, rfl, hR, ⟨_, _, rfl, (congrArg V.str qq_0), rfl⟩⟩⟩⟩, ⟨_, _, rfl, ⟨p61, _, rfl, S61 _ _ upd_same, ⟨_, _, rfl, (congrArg V.str qq_10), ⟨_, _, rfl, hR, ⟨_, _, rfl, ⟨p60, _, rfl, S60 _ _ upd_same, ⟨_, _, rfl, (congrArg V.str qq_5), rfl⟩⟩, rfl⟩⟩⟩⟩, ⟨_, _, rfl, ⟨p63, _, rfl, S63 _ _ upd_same, ⟨_, _, rfl, (congrArg V.str qq_10), ⟨_, _, rfl, hR, ⟨_, _, rfl, ⟨p62, _, rfl, S62 _ _ upd_same, ⟨_, _, rfl, (congrArg V.str qq_11), ⟨_, _, rfl, (congrArg V.str qq_6), rfl⟩⟩⟩, rfl⟩⟩⟩⟩, ⟨_, _, rfl, ⟨p65, _, rfl, S65 _ _ upd_same, ⟨_, _, rfl, (congrArg V.str qq_10), ⟨_, _, rfl, hR, ⟨_, _, rfl, ⟨p64, _, rfl, S64 _ _ upd_same, ⟨_, _, rfl, rfl, rfl⟩⟩, rfl⟩⟩⟩⟩, ⟨_, _, rfl, ⟨p69, _, rfl, S69 _ _ upd_same, ⟨_, _, rfl, (congrArg V.str qq_10), ⟨_, _, rfl, hR, ⟨_, _, rfl, ⟨p68, _, rfl, S68 _ _ upd_same, ⟨_, _, rfl, (congrArg V.str qq_7), ⟨_, _, rfl, (congrArg V.str qq_16), rfl⟩⟩⟩, rfl⟩⟩⟩⟩, ⟨_, _, rfl, ⟨p71, _, rfl, S71 _ _ upd_same, ⟨_, _, rfl, (congrArg V.str qq_10), ⟨_, _, rfl, hR, ⟨_, _, rfl, ⟨p70, _, rfl, S70 _ _ upd_same, ⟨_, _, rfl, rfl, ⟨_, _, rfl, (congrArg V.str qq_11), rfl⟩⟩⟩, rfl⟩⟩⟩⟩, ⟨_, _, rfl, ⟨p74, _, rfl, S74 _ _ upd_same, ⟨_, _, rfl, (congrArg V.str qq_10), ⟨_, _, rfl, hR, ⟨_, _, rfl, ⟨p73, _, rfl, S73 _ _ upd_same, ⟨_, _, rfl, ⟨p72, _, rfl, S72 _ _ upd_same, ⟨_, _, rfl, (congrArg V.str qq_11), rfl⟩⟩, rfl⟩⟩, rfl⟩⟩⟩⟩, rfl⟩⟩⟩⟩⟩⟩⟩⟩⟩⟩⟩⟩⟩⟩⟩⟩⟩⟩⟩⟩⟩⟩⟩⟩⟩⟩⟩⟩⟩⟩⟩⟩⟩⟩⟩⟩⟩⟩⟩⟩⟩⟩⟩⟩⟩⟩⟩
  refine ⟨_, rfl, _, rfl, _, rfl, p76, _, rfl, .inl (SqL.of upd_same), _, d, 47, rfl, hD76, by decide, by decide, fun H9 i hD9 i0 i9 => ?_⟩
  obtain ⟨x, hx, hat⟩ := one_of (xs := ([.non, .bl true, .int 5, .str "x", .ref p1, .ref p2, .ref p3, .ref p4, .ref p5, .ref p6, .ref p7, .ref p8, .ref p10, .ref p11, .ref p12, .ref p13, .ref p14, .ref p15, .ref p18, .ref p19, .ref p20, .ref p22, .ref p24, .ref p29, .ref p31, .ref p32, .ref p33, .ref p34, .ref p37, .ref p39, .ref p40, .ref p41, .ref p42, .ref p43, .ref p44, .ref p49, .ref p51, .ref p53, .ref p55, .ref p56, .ref p57, .ref p61, .ref p63, .ref p65, .ref p69, .ref p71, .ref p74] : List V)) i0 i9
  obtain ⟨t, ht, hdt⟩ := DataL.mem hall hx
  exact ⟨p76, _, i, _, rfl, rfl, SqL.of (hD9.1 _ _ (S76 _ _ upd_same)), hat, q _ _ x t S0 hD9 hdt (htame t ht)⟩
end
def spSpoilt (k : Nat) : Sp := fun vs H Q _ => ∃ (B : Hp) (d : Addr) (v : V) (r : Rcp), vs = [v, .ref d] ∧ DeckAt B H d ∧ Rec B r v ∧ r.Good ∧ r.dep ≤ k ∧ ∀ (B' H' : Hp) (x : V) (t : Th), Same B B' → DeckAt B' H' d → Data B' t x → t.tame = true → Q x H'
/-- a frame that grows by what was free -/
theorem DeckAt.more {B H H' : Hp} {d : Addr} (k : DeckAt B H d) (s : Same H H') {a : Addr} {o : HO} (ha : H' a = some o) (na : H a = none) : DeckAt (upd B a o) H' d := by
  obtain ⟨sB, bd, c, m, n, ns, bc, hd, hc, h0, h63⟩ := k
  have da : d ≠ a := ne_of_none hd na
  have ca : c ≠ a := ne_of_none hc na
  refine ⟨fun b u q => ?_, by rw [upd_ne da]; exact bd, c, m, n, ns, by rw [upd_ne ca]; exact bc, s _ _ hd, s _ _ hc, h0, h63⟩
  by_cases e : b = a
  · subst e; rw [upd_same] at q; rw [← q]; exact ha
  · rw [upd_ne e] at q; exact s _ _ (sB _ _ q)
/-- the i-th part exchanged keeps a thing tame -/
theorem DataL.set {H : Hp} {t : Th} {v : V} (h : Data H t v) : ∀ {l : List Th} {xs : List V} (i : Nat), DataL H l xs → DataL H (l.take i ++ t :: l.drop (i + 1)) (xs.take i ++ v :: xs.drop (i + 1))
  | l, xs, i, k => DataL.app (DataL.take i k) ⟨v, _, rfl, h, DataL.drop (i + 1) k⟩
theorem spoilt_tame {r : Rcp} (hg : r.Good) {i : Nat} (hi : i < r.subs.length) {t : Th} (ht : t.tame = true) : ∃ k l, r.th = .tup (.str k :: l) ∧ i + 1 < (Th.str k :: l).length ∧ (Th.tup ((Th.str k :: l).take (i + 1) ++ t :: (Th.str k :: l).drop (i + 1 + 1))).tame = true := by
  have hr := Rcp.tame hg
  have kt : ∀ {k : List Nat} {l : List Th}, (Th.tup (.str k :: l)).tame = true → tameS k = true ∧ Th.tameL l = true := fun h => ⟨(tup_tame h).1, (tup_tame h).2.1⟩
  have c1 : ∀ {a : Th} {l : List Th}, Th.tameL (a :: l) = true → a.tame = true ∧ Th.tameL l = true := fun {a l} h => by
    have f' : (a.tame && Th.tameL l) = true := h
    rw [Bool.and_eq_true] at f'
    exact f'
  cases r with
  | num n => cases hi
  | read s => cases hi
  | two k a b =>
    obtain ⟨h1, h2⟩ := kt hr
    obtain ⟨h3, h4⟩ := c1 h2
    match i, hi with
    | 0, _ => exact ⟨_, _, rfl, by simp, tame_tup (tl_cons h1 (tl_cons ht h4)) (Nat.le_of_ble_eq_true rfl) (namesTame3 (kd_nochoose k) _ _)⟩
    | 1, _ => exact ⟨_, _, rfl, by simp, tame_tup (tl_cons h1 (tl_cons h3 (tl_cons ht rfl))) (Nat.le_of_ble_eq_true rfl) (namesTame3 (kd_nochoose k) _ _)⟩
  | pick a b c =>
    obtain ⟨h1, h2⟩ := kt hr
    obtain ⟨h3, h4⟩ := c1 h2
    obtain ⟨h5, h6⟩ := c1 h4
    match i, hi with
    | 0, _ => exact ⟨_, _, rfl, by simp, tame_tup (tl_cons h1 (tl_cons ht h4)) (Nat.le_of_ble_eq_true rfl) (namesTame4 _ _ _ _ _)⟩
    | 1, _ => exact ⟨_, _, rfl, by simp, tame_tup (tl_cons h1 (tl_cons h3 (tl_cons ht h6))) (Nat.le_of_ble_eq_true rfl) (namesTame4 _ _ _ _ _)⟩
    | 2, _ => exact ⟨_, _, rfl, by simp, tame_tup (tl_cons h1 (tl_cons h3 (tl_cons h5 (tl_cons ht rfl)))) (Nat.le_of_ble_eq_true rfl) (namesTame4 _ _ _ _ _)⟩
  | choose a ns =>
    obtain ⟨h1, h2⟩ := kt hr
    obtain ⟨h3, h4⟩ := c1 h2
    match i, hi with
    | 0, _ => exact ⟨_, _, rfl, by simp, tame_tup (tl_cons h1 (tl_cons ht h4)) (Nat.le_of_ble_eq_true rfl) (namesTameC _ Nms.flat (Nms.shaped hg.2.2.2))⟩
/-- the parts of a recipe stand in its tuple -/
theorem Rec.sub {H : Hp} {r : Rcp} {v : V} (h : Rec H r v) {i : Nat} (hi : i < r.subs.length) : ∃ p xs x s, v = .ref p ∧ H p = some (.tup xs) ∧ xs[i + 1]? = some x ∧ r.subs[i]? = some s ∧ Rec H s x ∧ i + 1 < xs.length ∧ xs.length ≤ 4 := by
  cases r with
  | num n => cases hi
  | read s => cases hi
  | two k a b =>
    obtain ⟨p, x, y, e, hp, ra, rb⟩ := h
    match i, hi with
    | 0, _ => exact ⟨p, _, x, a, e, hp, rfl, rfl, ra, by simp, by simp⟩
    | 1, _ => exact ⟨p, _, y, b, e, hp, rfl, rfl, rb, by simp, by simp⟩
  | pick a b c =>
    obtain ⟨p, x, y, z, e, hp, ra, rb, rc⟩ := h
    match i, hi with
    | 0, _ => exact ⟨p, _, x, a, e, hp, rfl, rfl, ra, by simp, by simp⟩
    | 1, _ => exact ⟨p, _, y, b, e, hp, rfl, rfl, rb, by simp, by simp⟩
    | 2, _ => exact ⟨p, _, z, c, e, hp, rfl, rfl, rc, by simp, by simp⟩
  | choose a ns =>
    obtain ⟨p, x, q, e, hp, ra, hq⟩ := h
    match i, hi with
    | 0, _ => exact ⟨p, _, x, a, e, hp, rfl, rfl, ra, by simp, by simp⟩
theorem cut_from (xs : List V) {a : Nat} (h : a ≤ xs.length) : cutV xs (some (a : Int)) none = xs.drop a := by
  show (xs.drop (HT.sIx xs.length 0 (some (a : Int)))).take (HT.sIx xs.length xs.length none - HT.sIx xs.length 0 (some (a : Int))) = _
  rw [HT.sIx_none, HT.sIx_nat, Nat.min_eq_left h, List.take_of_length_le (by rw [List.length_drop]; exact Nat.le_refl _)]
theorem cut_not_whole_to (xs : List V) {a : Nat} (h : a < xs.length) : ¬ (HT.sIx xs.length 0 none = 0 ∧ HT.sIx xs.length xs.length (some (a : Int)) = xs.length) := fun z => by
  have z2 := z.2
  rw [HT.sIx_nat] at z2
  omega
theorem cut_not_whole_from (xs : List V) {a : Nat} (h : 0 < a) (h2 : a ≤ xs.length) : ¬ (HT.sIx xs.length 0 (some (a : Int)) = 0 ∧ HT.sIx xs.length xs.length none = xs.length) := fun z => by
  have z1 := z.1
  rw [HT.sIx_nat, Nat.min_eq_left h2] at z1
  omega
section
variable {P : Program} {w : World} {K : PySem.W.Frag} {mg : Str → Option Value} {base : Heap}
abbrev s__law_spoilt : Stmt := topS 23
abbrev N__law_spoilt : List Str := ["r", "deck", "spots", "at", "spot"]
theorem sc__law_spoilt : FnScope N__law_spoilt ["r", "deck"] (defScope s__law_spoilt) := ⟨rfl, rfl, rfl, by decide +kernel, rfl, by decide +kernel, by decide +kernel⟩

theorem ok__law_spoilt (T : Txt K mg) (D : IsDef K mg "_law_spoilt" s__law_spoilt ["r", "deck"]) (C__law_draw : Cal P w K mg base CX0 1 "_law_draw" ["deck", "many"] spDraw) (C__law_spots : Cal P w K mg base CX0 2 "_law_spots" ["thing"] (spSpots K))
    (C__law_wrong : Cal P w K mg base CX0 2 "_law_wrong" ["r", "deck"] spWrong) {k : Nat} (C__law_spoilt : Cal P w K mg base CX0 (k + 2) "_law_spoilt" ["r", "deck"] (spSpoilt k)) : Cal P w K mg base CX0 (k + 3) "_law_spoilt" ["r", "deck"] (spSpoilt (k + 1)) := by
  refine D.cal sc__law_spoilt (fun vs H Q E h => ?_) (fun f cdv A outer s H vs Q E hr h => ?_)
  · obtain ⟨B, d, v, r, rfl, _⟩ := h
    rfl
  obtain ⟨B, d, v, r, rfl, hD, hR, hG, hd, q⟩ := h
  refine ⟨_, (pss_cons (ps_set (i := 2) sc__law_spoilt.nd rfl (Or.inl rfl) (pe_cal C__law_spots (hr.mono (by first | decide | omega)) pass0 (pa_cons (pv 0) pa_nil)))
      (pss_cons (ps_set (i := 3) sc__law_spoilt.nd rfl (Or.inl rfl) (pe_cal C__law_draw (hr.mono (by first | decide | omega)) pass0 (pa_cons (pv 1) (pa_cons (pe_op op_add (pe_callB call_len_seq (by rfl) T.b_len PySem.boot_len (pa_cons (pv 2) pa_nil)) pe_int) pa_nil))))
      (pss_cons (ps_if (pt_cmpR op_eq (pv 3) (pe_callB call_len_seq (by rfl) T.b_len PySem.boot_len (pa_cons (pv 2) pa_nil)) (nomark _))
        (pss_one (ps_ret (pe_cal C__law_wrong (hr.mono (by first | decide | omega)) pass0 (pa_cons (pv 0) (pa_cons (pv 1) pa_nil)))))
        pss_nil)
      (pss_cons (ps_set (i := 4) sc__law_spoilt.nd rfl (Or.inl rfl) (pe_ix (r := rIxL K) ix_list (pv 2) (pv 3) (fun _ _ => rfl)))
      (pss_one (ps_ret (pe_op op_catT (pe_op op_catT (pe_slice (r := rSlT K) sl_tup (pv 0) po_none (po_some (pv 4))) (pe_tup (pa_cons (pe_cal C__law_spoilt (hr.mono (by first | decide | omega)) pass0 (pa_cons (pe_ix (r := rIxT K) ix_tup (pv 0) (pv 4) (fun _ _ => rfl)) (pa_cons (pv 1) pa_nil))) pa_nil))) (pe_slice (r := rSlT K) sl_tup (pv 0) (po_some (pe_op op_add (pv 4) pe_int)) po_none)))))))), ?_⟩
  refine ⟨_, rfl, v, r.th, rfl, (hR.same hD.1).data, Rcp.tame hG, fun hno => absurd hno (by rw [r.parts_th hG]; simp), fun ps hps H1 a hs1 ha na => ?_⟩
  have eps : ps = r.subs.map Rcp.th := by
    rw [r.parts_th hG] at hps
    exact (Option.some.inj hps).symm
  have epl : ps.length = r.subs.length := by rw [eps, List.length_map]
  rw [epl] at ha
  have hD1 := hD.more hs1 ha na
  have sB := same_new (hD.free na) (.lst ((List.range r.subs.length).map fun (i : Nat) => V.int ((i : Int) + 1)))
  have hlen : ((List.range r.subs.length).map fun (i : Nat) => V.int ((i : Int) + 1)).length = r.subs.length := by rw [List.length_map, List.length_range]
  have hs3 : r.subs.length ≤ 3 := by cases r <;> simp [Rcp.subs]
  refine ⟨_, rfl, _, rfl, a, _, rfl, .inl (SqL.of ha), _, _, rfl, rfl, _, d, _, rfl, hD1, by rw [hlen]; omega, by rw [hlen]; exact Nat.lt_of_le_of_lt (by omega : (((r.subs.length : Nat) : Int) + 1).natAbs ≤ 4) (by decide), fun H2 at' hD2 a0 a1 => ?_⟩
  rw [hlen] at a1
  have ha2 := hD2.1 _ _ (upd_same (H := B) (a := a) (o := .lst ((List.range r.subs.length).map fun (i : Nat) => V.int ((i : Int) + 1))))
  refine ⟨_, rfl, _, rfl, a, _, rfl, .inl (SqL.of ha2), rfl, _, rfl, ?_⟩
  by_cases hat : at' = ((r.subs.length : Nat) : Int)
  · refine iteY (by rw [hlen, hat]) ?_
    exact ⟨_, rfl, _, rfl, _, d, v, r, rfl, hD2, hR.same sB, hG, fun B' H' x t hB hD' hd' htm => q B' H' x t (sB.trans hB) hD' hd' htm⟩
  · refine iteN (fun z => hat (by rw [hlen] at z; cases z; rfl)) ?_
    have hi : at'.toNat < r.subs.length := by omega
    have e0 : at' = ((at'.toNat : Nat) : Int) := by omega
    refine ⟨_, rfl, _, rfl, a, _, _, _, rfl, rfl, SqL.of ha2, atI_at a0 (by rw [List.getElem?_map, List.getElem?_range hi]; rfl), ?_⟩
    obtain ⟨p, xs, x, rs, rfl, hp, hx, hsub, hRs, hxl, hx4⟩ := (hR.same sB).sub hi
    have hp2 := hD2.1 _ _ hp
    have ec1 : cutV xs none (some ((at'.toNat : Int) + 1)) = xs.take (at'.toNat + 1) := cut_to xs (at'.toNat + 1)
    refine ⟨_, rfl, _, rfl, _, rfl, p, xs, rfl, SqT.of hp2, cut_not_whole_to xs hxl, fun t1 nt1 => ?_⟩
    have hD3 := hD2.new nt1 (.tup (cutV xs none (some ((at'.toNat : Int) + 1))))
    have sB3 := same_new (hD2.free nt1) (.tup (cutV xs none (some ((at'.toNat : Int) + 1))))
    have hgs := r.subs_good hG rs (List.mem_of_getElem? hsub)
    refine ⟨_, rfl, _, rfl, p, xs, _, x, rfl, rfl, SqT.of (hD3.1 _ _ (sB3 _ _ hp)), atI_nat (j := at'.toNat + 1) hx, _, rfl, _, d, x, rs, rfl, hD3, hRs.same sB3, hgs.1, by omega, fun B4 H4 y ty hB4 hD4 hdy htm => ?_⟩
    refine ⟨le_line (Nat.le_of_ble_eq_true rfl), fun t2 nt2 => ?_⟩
    have hD5 := hD4.new nt2 (.tup [y])
    have sB5 := same_new (hD4.free nt2) (.tup [y])
    have ht1 := hB4 _ _ (upd_same (H := upd B a (.lst ((List.range r.subs.length).map fun (i : Nat) => V.int ((i : Int) + 1)))) (a := t1) (o := .tup (cutV xs none (some ((at'.toNat : Int) + 1)))))
    have hne : cutV xs none (some ((at'.toNat : Int) + 1)) ≠ [] := by
      rw [ec1]
      intro z
      have z2 := congrArg List.length z
      rw [List.length_take] at z2
      have z3 : min (at'.toNat + 1) xs.length = 0 := z2
      omega
    refine ⟨t1, t2, _, _, rfl, rfl, SqT.of (hD5.1 _ _ (sB5 _ _ ht1)), SqT.of upd_same, hne, by rw [ec1]; exact le_line (by rw [List.length_take, List.length_singleton]; omega), fun z => (by cases z), fun _ t3 nt3 => ?_⟩
    have hD6 := hD5.new nt3 (.tup (cutV xs none (some ((at'.toNat : Int) + 1)) ++ [y]))
    have sB6 := same_new (hD5.free nt3) (.tup (cutV xs none (some ((at'.toNat : Int) + 1)) ++ [y]))
    have hp6 := sB6 _ _ (sB5 _ _ (hB4 _ _ (sB3 _ _ hp)))
    have ec2 : cutV xs (some ((at'.toNat : Int) + 1 + 1)) none = xs.drop (at'.toNat + 1 + 1) := cut_from xs (a := at'.toNat + 1 + 1) hxl
    refine ⟨_, rfl, _, rfl, _, _, rfl, rfl, _, rfl, p, xs, rfl, SqT.of (hD6.1 _ _ hp6), cut_not_whole_from xs (a := at'.toNat + 1 + 1) (by omega) hxl, fun t4 nt4 => ?_⟩
    have hD7 := hD6.new nt4 (.tup (cutV xs (some ((at'.toNat : Int) + 1 + 1)) none))
    have sB7 := same_new (hD6.free nt4) (.tup (cutV xs (some ((at'.toNat : Int) + 1 + 1)) none))
    have ht3 := sB7 _ _ (upd_same (H := upd B4 t2 (.tup [y])) (a := t3) (o := .tup (cutV xs none (some ((at'.toNat : Int) + 1)) ++ [y])))
    -- the new tuple as data
    obtain ⟨kk, l, eth, hil, htame⟩ := spoilt_tame hG hi htm
    have hRd := (hR.same sB).data
    rw [eth] at hRd
    obtain ⟨p', xs', ep, hp', hl⟩ := hRd
    cases ep
    rw [hp] at hp'
    cases hp'
    have sAll : Same (upd B a (.lst ((List.range r.subs.length).map fun (i : Nat) => V.int ((i : Int) + 1)))) (upd (upd (upd B4 t2 (.tup [y])) t3 (.tup (cutV xs none (some ((at'.toNat : Int) + 1)) ++ [y]))) t4 (.tup (cutV xs (some ((at'.toNat : Int) + 1 + 1)) none))) := sB3.trans (hB4.trans (sB5.trans (sB6.trans sB7)))
    have hnew : DataL _ ((Th.str kk :: l).take (at'.toNat + 1) ++ ty :: (Th.str kk :: l).drop (at'.toNat + 1 + 1)) (xs.take (at'.toNat + 1) ++ y :: xs.drop (at'.toNat + 1 + 1)) := DataL.set (hdy.same (sB5.trans (sB6.trans sB7))) (at'.toNat + 1) (DataL.same sAll hl)
    have eapp : (cutV xs none (some ((at'.toNat : Int) + 1)) ++ [y]) ++ cutV xs (some ((at'.toNat : Int) + 1 + 1)) none = xs.take (at'.toNat + 1) ++ y :: xs.drop (at'.toNat + 1 + 1) := by rw [ec1, ec2, List.append_assoc]; rfl
    refine ⟨t3, t4, _, _, rfl, rfl, SqT.of (hD7.1 _ _ ht3), SqT.of upd_same, by simp, by rw [ec1, ec2]; exact le_line (by rw [List.length_append, List.length_take, List.length_drop, List.length_singleton]; omega), fun z => ?_, fun _ t5 nt5 => ?_⟩
    · rw [z, List.append_nil] at eapp
      refine q _ _ _ (.tup ((Th.str kk :: l).take (at'.toNat + 1) ++ ty :: (Th.str kk :: l).drop (at'.toNat + 1 + 1))) (sB.trans sAll) hD7 ⟨t3, _, rfl, ht3, ?_⟩ htame
      rw [← eapp] at hnew
      exact hnew
    · refine q _ _ _ (.tup ((Th.str kk :: l).take (at'.toNat + 1) ++ ty :: (Th.str kk :: l).drop (at'.toNat + 1 + 1))) ((sB.trans sAll).trans (same_new (hD7.free nt5) _)) (hD7.new nt5 (.tup ((cutV xs none (some ((at'.toNat : Int) + 1)) ++ [y]) ++ cutV xs (some ((at'.toNat : Int) + 1 + 1)) none))) ⟨t5, _, rfl, upd_same, ?_⟩ htame
      rw [eapp]
      exact DataL.same (same_new (hD7.free nt5) _) hnew
theorem all__law_spoilt (T : Txt K mg) (D : IsDef K mg "_law_spoilt" s__law_spoilt ["r", "deck"]) (C__law_draw : Cal P w K mg base CX0 1 "_law_draw" ["deck", "many"] spDraw) (C__law_spots : Cal P w K mg base CX0 2 "_law_spots" ["thing"] (spSpots K))
    (C__law_wrong : Cal P w K mg base CX0 2 "_law_wrong" ["r", "deck"] spWrong) : ∀ k : Nat, Cal P w K mg base CX0 (k + 2) "_law_spoilt" ["r", "deck"] (spSpoilt k)
  | 0 => cal_none D fun vs H Q E h => by
    obtain ⟨B, d, v, r, _, _, _, _, h1, _⟩ := h
    have := dep_pos r
    omega
  | k + 1 => ok__law_spoilt T D C__law_draw C__law_spots C__law_wrong (all__law_spoilt T D C__law_draw C__law_spots C__law_wrong k)
end
def spLaw (K : PySem.W.Frag) : Sp := fun vs H Q _ => ∃ (a : Addr) (ns : List Int), vs = [.ref a] ∧ SqL K H a (ns.map V.int) ∧ ns.length ≤ 63 ∧ ∀ H', Q (.bl true) H'
section
variable {P : Program} {w : World} {K : PySem.W.Frag} {mg : Str → Option Value} {base : Heap}
abbrev s_law : Stmt := topS 24
abbrev N_law : List Str := ["script", "deck", "k", "r", "turn", "thing", "found"]
theorem sc_law : FnScope N_law ["script"] (defScope s_law) := ⟨rfl, rfl, rfl, by decide +kernel, rfl, by decide +kernel, by decide +kernel⟩

theorem ok_law {fl : Addr} {fd : FuncData} (F : Fun K "law" "law" s_law fl fd) (T : Txt K mg) (C__law_draw : Cal P w K mg base CX0 1 "_law_draw" ["deck", "many"] spDraw) (C__law_deck : Cal P w K mg base CX0 1 "_law_deck" ["script"] (spDeck K))
    (C__law_recipe : Cal P w K mg base CX0 11 "_law_recipe" ["deck", "deep", "left"] (spRecipe 8)) (C_is_recipe : Cal P w K mg base CX0 4 "is_recipe" ["thing"] spIsRecipe) (C__law_is : Cal P w K mg base CX0 12 "_law_is" ["thing"] spIsRecipe)
    (C__law_spoilt : Cal P w K mg base CX0 10 "_law_spoilt" ["r", "deck"] (spSpoilt 8)) : FnOk P w K mg base CX0 13 fl fd ["script"] (spLaw K) := by
  refine F.ok sc_law (fun vs H Q E h => ?_) (fun cdv A outer s H vs Q E hr h => ?_)
  · obtain ⟨a, ns, rfl, _⟩ := h
    rfl
  obtain ⟨a, ns, rfl, hS, h63, q⟩ := h
  refine ⟨_, (pss_cons (ps_set (i := 1) sc_law.nd rfl (Or.inl rfl) (pe_cal C__law_deck (hr.mono (by first | decide | omega)) pass0 (pa_cons (pv 0) pa_nil)))
      (pss_cons (ps_for PassesOwn.never rfl (pi_range1 rfl T.b_range (pa_cons pe_int pa_nil)) (pg_name (i := 2) sc_law.nd rfl (Or.inl rfl))
        (pss_cons (ps_set (i := 3) sc_law.nd rfl (Or.inl rfl) (pe_cal C__law_recipe (hr.mono (by first | decide | omega)) pass0 (pa_cons (pv 1) (pa_cons (pe_op op_add pe_int (pe_cal C__law_draw (hr.mono (by first | decide | omega)) pass0 (pa_cons (pv 1) (pa_cons pe_int pa_nil)))) (pa_cons (pe_lst (pa_cons pe_int pa_nil)) pa_nil)))))
      (pss_cons (ps_if (pt_cmpR op_notBl (pe_cal C_is_recipe (hr.mono (by first | decide | omega)) pass0 (pa_cons (pv 3) pa_nil)) pe_bl (nomark _))
        (pss_one (ps_ret pe_bl))
        pss_nil)
      (pss_one (ps_for PassesOwn.never rfl (pi_range1 rfl T.b_range (pa_cons pe_int pa_nil)) (pg_name (i := 4) sc_law.nd rfl (Or.inl rfl))
        (pss_cons (ps_set (i := 5) sc_law.nd rfl (Or.inl rfl) (pe_cal C__law_spoilt (hr.mono (by first | decide | omega)) pass0 (pa_cons (pv 3) (pa_cons (pv 1) pa_nil))))
      (pss_cons (ps_set (i := 6) sc_law.nd rfl (Or.inl rfl) (pe_cal C_is_recipe (hr.mono (by first | decide | omega)) pass0 (pa_cons (pv 5) pa_nil)))
      (pss_one (ps_if (PW.pt (pw_or (pt_not (pt_val (pe_callB call_isi (by rfl) T.b_isinstance (by decide +kernel) (pa_cons (pv 6) (pa_cons (pe_bltn (v := .ty "bool") (by rfl) T.b_bool (by decide +kernel) rfl) pa_nil))))) (pw_or1 (pt_cmpR op_ne (pv 6) (pe_cal C__law_is (hr.mono (by first | decide | omega)) pass0 (pa_cons (pv 5) pa_nil)) (nomark _)))))
        (pss_one (ps_ret pe_bl))
        pss_nil)))))))))
      (pss_one (ps_ret pe_bl)))), ?_⟩
  refine ⟨_, rfl, a, ns, rfl, hS, h63, fun B H2 d hB hD => ?_⟩
  refine ⟨4, rfl, by decide, by decide, for_range (n := 4) (fun i σ H' => ∃ (k r t x f : Option V) (B' : Hp), σ = [some (.ref a), some (.ref d), k, r, t, x, f] ∧ DeckAt B' H' d) ⟨none, none, none, none, none, B, rfl, hD⟩ ?_ ?_⟩
  · rintro i σ H3 hi ⟨k, r0, t0, x0, f0, B3, rfl, hD3⟩
    refine ⟨_, rfl, _, rfl, B3, d, 6, rfl, hD3, by decide, by decide, fun H4 n hD4 n0 n8 => ⟨_, _, rfl, rfl, le_line (Nat.le_of_ble_eq_true rfl), fun l nl => ?_⟩⟩
    have hD5 := hD4.new nl (.lst [.int 15])
    refine ⟨_, d, l, 1 + n, 15, rfl, hD5, upd_same, by omega, by omega, fun B6 H6 n' v r hb hl hD6 hR hG hd hz hn => ?_⟩
    have hd8 : r.dep ≤ 8 := by omega
    have hz8 : r.siz ≤ 100 := by omega
    have hR6 := hR.same hD6.1
    refine ⟨_, rfl, v, r.th, rfl, hR6.data, Rcp.tame hG, fun H7 hs7 => ⟨_, _, rfl, rfl, _, rfl, ?_⟩⟩
    rw [Rcp.isRcp hG hd8 hz8]
    refine iteF ?_
    refine ⟨3, rfl, by decide, by decide, for_range (n := 3) (fun i σ H' => ∃ (k t x f : Option V) (B' : Hp), σ = [some (.ref a), some (.ref d), k, some v, t, x, f] ∧ DeckAt B' H' d ∧ Rec B' r v) ⟨_, _, _, _, B6, rfl, hD6.same hs7, hR⟩ ?_ ?_⟩
    · rintro j σ H8 hj ⟨k, t1, x1, f1, B8, rfl, hD8, hR8⟩
      refine ⟨_, rfl, _, rfl, B8, d, v, r, rfl, hD8, hR8, hG, hd8, fun B9 H9 x t hB9 hD9 hdx htm => ?_⟩
      have hdx' := hdx.same hD9.1
      refine ⟨_, rfl, x, t, rfl, hdx', htm, fun H10 hs10 => ?_⟩
      refine ⟨_, rfl, _, _, .type "bool", _, true, rfl, .ty _, .base (.bl _), kit_ty (by decide +kernel), _, rfl, ?_⟩
      refine iteF ?_
      refine ⟨_, rfl, _, rfl, x, t, rfl, hdx'.same hs10, htm, fun H11 hs11 => ⟨rfl, _, rfl, iteNS rfl ?_⟩⟩
      exact ⟨_, _, _, _, B9, rfl, (hD9.same hs10).same hs11, hR8.same hB9⟩
    · rintro σ H8 ⟨k, t1, x1, f1, B8, rfl, hD8, hR8⟩
      exact ⟨_, _, _, _, _, B8, rfl, hD8⟩
  · rintro σ H3 ⟨k, r0, t0, x0, f0, B3, rfl, hD3⟩
    exact q _
end
theorem all_mk {l : PySem.W.OpenLaw} {w : World} {K : PySem.W.Frag} {h : Heap} {mg : Str → Option Value} {fa f_is_whole f_is_name f_are_names f_within f_is_recipe f__law_deck f__law_draw f__law_name f__law_number f__law_recipe f__law_is_name f__law_spots f__law_size f__law_is f__law_wrong f__law_spoilt f_law : Addr} (X : K.In h) (G : h.Ns mainGlobals mg) (hfa : mg "law" = some (.ref fa))
    {od_is_whole an_is_whole od_is_name an_is_name od_are_names an_are_names od_within an_within od_is_recipe an_is_recipe od__law_deck an__law_deck od__law_draw an__law_draw od__law_name an__law_name od__law_number an__law_number od__law_recipe an__law_recipe od__law_is_name an__law_is_name od__law_spots an__law_spots od__law_size an__law_size od__law_is an__law_is od__law_wrong an__law_wrong od__law_spoilt an__law_spoilt od_law an_law : Option Addr} {sl_is_whole sl_is_name sl_are_names sl_within sl_is_recipe sl__law_deck sl__law_draw sl__law_name sl__law_number sl__law_recipe sl__law_is_name sl__law_spots sl__law_size sl__law_is sl__law_wrong sl__law_spoilt sl_law : Array (Option Value)} {oc_is_whole kV_is_whole dc_is_whole pm_is_whole cd_is_whole ct_is_whole oc_is_name kV_is_name dc_is_name pm_is_name cd_is_name ct_is_name oc_are_names kV_are_names dc_are_names pm_are_names cd_are_names ct_are_names oc_within kV_within dc_within pm_within cd_within ct_within oc_is_recipe kV_is_recipe dc_is_recipe pm_is_recipe cd_is_recipe ct_is_recipe oc__law_deck kV__law_deck dc__law_deck pm__law_deck cd__law_deck ct__law_deck oc__law_draw kV__law_draw dc__law_draw pm__law_draw cd__law_draw ct__law_draw oc__law_name kV__law_name dc__law_name pm__law_name cd__law_name ct__law_name oc__law_number kV__law_number dc__law_number pm__law_number cd__law_number ct__law_number oc__law_recipe kV__law_recipe dc__law_recipe pm__law_recipe cd__law_recipe ct__law_recipe oc__law_is_name kV__law_is_name dc__law_is_name pm__law_is_name cd__law_is_name ct__law_is_name oc__law_spots kV__law_spots dc__law_spots pm__law_spots cd__law_spots ct__law_spots oc__law_size kV__law_size dc__law_size pm__law_size cd__law_size ct__law_size oc__law_is kV__law_is dc__law_is pm__law_is cd__law_is ct__law_is oc__law_wrong kV__law_wrong dc__law_wrong pm__law_wrong cd__law_wrong ct__law_wrong oc__law_spoilt kV__law_spoilt dc__law_spoilt pm__law_spoilt cd__law_spoilt ct__law_spoilt oc_law kV_law dc_law pm_law cd_law ct_law : Value}
    (a_is_whole : PySem.W.nsIn K mainGlobals "is_whole" = some (some (.ref f_is_whole))) (l_is_whole : K.lookup f_is_whole = some ⟨oc_is_whole, od_is_whole, .func (PySem.W.fnOf "is_whole" "is_whole" (defArgs s_is_whole) (defBody s_is_whole) (defScope s_is_whole) .none kV_is_whole dc_is_whole pm_is_whole an_is_whole cd_is_whole ct_is_whole), sl_is_whole⟩) (c_is_whole : PySem.W.codeIn K cd_is_whole "is_whole" = true) (k_is_whole : PySem.W.keepIn K (.ref f_is_whole) = true)
    (a_is_name : PySem.W.nsIn K mainGlobals "is_name" = some (some (.ref f_is_name))) (l_is_name : K.lookup f_is_name = some ⟨oc_is_name, od_is_name, .func (PySem.W.fnOf "is_name" "is_name" (defArgs s_is_name) (defBody s_is_name) (defScope s_is_name) .none kV_is_name dc_is_name pm_is_name an_is_name cd_is_name ct_is_name), sl_is_name⟩) (c_is_name : PySem.W.codeIn K cd_is_name "is_name" = true) (k_is_name : PySem.W.keepIn K (.ref f_is_name) = true)
    (a_are_names : PySem.W.nsIn K mainGlobals "are_names" = some (some (.ref f_are_names))) (l_are_names : K.lookup f_are_names = some ⟨oc_are_names, od_are_names, .func (PySem.W.fnOf "are_names" "are_names" (defArgs s_are_names) (defBody s_are_names) (defScope s_are_names) .none kV_are_names dc_are_names pm_are_names an_are_names cd_are_names ct_are_names), sl_are_names⟩) (c_are_names : PySem.W.codeIn K cd_are_names "are_names" = true) (k_are_names : PySem.W.keepIn K (.ref f_are_names) = true)
    (a_within : PySem.W.nsIn K mainGlobals "within" = some (some (.ref f_within))) (l_within : K.lookup f_within = some ⟨oc_within, od_within, .func (PySem.W.fnOf "within" "within" (defArgs s_within) (defBody s_within) (defScope s_within) .none kV_within dc_within pm_within an_within cd_within ct_within), sl_within⟩) (c_within : PySem.W.codeIn K cd_within "within" = true) (k_within : PySem.W.keepIn K (.ref f_within) = true)
    (a_is_recipe : PySem.W.nsIn K mainGlobals "is_recipe" = some (some (.ref f_is_recipe))) (l_is_recipe : K.lookup f_is_recipe = some ⟨oc_is_recipe, od_is_recipe, .func (PySem.W.fnOf "is_recipe" "is_recipe" (defArgs s_is_recipe) (defBody s_is_recipe) (defScope s_is_recipe) .none kV_is_recipe dc_is_recipe pm_is_recipe an_is_recipe cd_is_recipe ct_is_recipe), sl_is_recipe⟩) (c_is_recipe : PySem.W.codeIn K cd_is_recipe "is_recipe" = true) (k_is_recipe : PySem.W.keepIn K (.ref f_is_recipe) = true)
    (a__law_deck : PySem.W.nsIn K mainGlobals "_law_deck" = some (some (.ref f__law_deck))) (l__law_deck : K.lookup f__law_deck = some ⟨oc__law_deck, od__law_deck, .func (PySem.W.fnOf "_law_deck" "_law_deck" (defArgs s__law_deck) (defBody s__law_deck) (defScope s__law_deck) .none kV__law_deck dc__law_deck pm__law_deck an__law_deck cd__law_deck ct__law_deck), sl__law_deck⟩) (c__law_deck : PySem.W.codeIn K cd__law_deck "_law_deck" = true) (k__law_deck : PySem.W.keepIn K (.ref f__law_deck) = true)
    (a__law_draw : PySem.W.nsIn K mainGlobals "_law_draw" = some (some (.ref f__law_draw))) (l__law_draw : K.lookup f__law_draw = some ⟨oc__law_draw, od__law_draw, .func (PySem.W.fnOf "_law_draw" "_law_draw" (defArgs s__law_draw) (defBody s__law_draw) (defScope s__law_draw) .none kV__law_draw dc__law_draw pm__law_draw an__law_draw cd__law_draw ct__law_draw), sl__law_draw⟩) (c__law_draw : PySem.W.codeIn K cd__law_draw "_law_draw" = true) (k__law_draw : PySem.W.keepIn K (.ref f__law_draw) = true)
    (a__law_name : PySem.W.nsIn K mainGlobals "_law_name" = some (some (.ref f__law_name))) (l__law_name : K.lookup f__law_name = some ⟨oc__law_name, od__law_name, .func (PySem.W.fnOf "_law_name" "_law_name" (defArgs s__law_name) (defBody s__law_name) (defScope s__law_name) .none kV__law_name dc__law_name pm__law_name an__law_name cd__law_name ct__law_name), sl__law_name⟩) (c__law_name : PySem.W.codeIn K cd__law_name "_law_name" = true) (k__law_name : PySem.W.keepIn K (.ref f__law_name) = true)
    (a__law_number : PySem.W.nsIn K mainGlobals "_law_number" = some (some (.ref f__law_number))) (l__law_number : K.lookup f__law_number = some ⟨oc__law_number, od__law_number, .func (PySem.W.fnOf "_law_number" "_law_number" (defArgs s__law_number) (defBody s__law_number) (defScope s__law_number) .none kV__law_number dc__law_number pm__law_number an__law_number cd__law_number ct__law_number), sl__law_number⟩) (c__law_number : PySem.W.codeIn K cd__law_number "_law_number" = true) (k__law_number : PySem.W.keepIn K (.ref f__law_number) = true)
    (a__law_recipe : PySem.W.nsIn K mainGlobals "_law_recipe" = some (some (.ref f__law_recipe))) (l__law_recipe : K.lookup f__law_recipe = some ⟨oc__law_recipe, od__law_recipe, .func (PySem.W.fnOf "_law_recipe" "_law_recipe" (defArgs s__law_recipe) (defBody s__law_recipe) (defScope s__law_recipe) .none kV__law_recipe dc__law_recipe pm__law_recipe an__law_recipe cd__law_recipe ct__law_recipe), sl__law_recipe⟩) (c__law_recipe : PySem.W.codeIn K cd__law_recipe "_law_recipe" = true) (k__law_recipe : PySem.W.keepIn K (.ref f__law_recipe) = true)
    (a__law_is_name : PySem.W.nsIn K mainGlobals "_law_is_name" = some (some (.ref f__law_is_name))) (l__law_is_name : K.lookup f__law_is_name = some ⟨oc__law_is_name, od__law_is_name, .func (PySem.W.fnOf "_law_is_name" "_law_is_name" (defArgs s__law_is_name) (defBody s__law_is_name) (defScope s__law_is_name) .none kV__law_is_name dc__law_is_name pm__law_is_name an__law_is_name cd__law_is_name ct__law_is_name), sl__law_is_name⟩) (c__law_is_name : PySem.W.codeIn K cd__law_is_name "_law_is_name" = true) (k__law_is_name : PySem.W.keepIn K (.ref f__law_is_name) = true)
    (a__law_spots : PySem.W.nsIn K mainGlobals "_law_spots" = some (some (.ref f__law_spots))) (l__law_spots : K.lookup f__law_spots = some ⟨oc__law_spots, od__law_spots, .func (PySem.W.fnOf "_law_spots" "_law_spots" (defArgs s__law_spots) (defBody s__law_spots) (defScope s__law_spots) .none kV__law_spots dc__law_spots pm__law_spots an__law_spots cd__law_spots ct__law_spots), sl__law_spots⟩) (c__law_spots : PySem.W.codeIn K cd__law_spots "_law_spots" = true) (k__law_spots : PySem.W.keepIn K (.ref f__law_spots) = true)
    (a__law_size : PySem.W.nsIn K mainGlobals "_law_size" = some (some (.ref f__law_size))) (l__law_size : K.lookup f__law_size = some ⟨oc__law_size, od__law_size, .func (PySem.W.fnOf "_law_size" "_law_size" (defArgs s__law_size) (defBody s__law_size) (defScope s__law_size) .none kV__law_size dc__law_size pm__law_size an__law_size cd__law_size ct__law_size), sl__law_size⟩) (c__law_size : PySem.W.codeIn K cd__law_size "_law_size" = true) (k__law_size : PySem.W.keepIn K (.ref f__law_size) = true)
    (a__law_is : PySem.W.nsIn K mainGlobals "_law_is" = some (some (.ref f__law_is))) (l__law_is : K.lookup f__law_is = some ⟨oc__law_is, od__law_is, .func (PySem.W.fnOf "_law_is" "_law_is" (defArgs s__law_is) (defBody s__law_is) (defScope s__law_is) .none kV__law_is dc__law_is pm__law_is an__law_is cd__law_is ct__law_is), sl__law_is⟩) (c__law_is : PySem.W.codeIn K cd__law_is "_law_is" = true) (k__law_is : PySem.W.keepIn K (.ref f__law_is) = true)
    (a__law_wrong : PySem.W.nsIn K mainGlobals "_law_wrong" = some (some (.ref f__law_wrong))) (l__law_wrong : K.lookup f__law_wrong = some ⟨oc__law_wrong, od__law_wrong, .func (PySem.W.fnOf "_law_wrong" "_law_wrong" (defArgs s__law_wrong) (defBody s__law_wrong) (defScope s__law_wrong) .none kV__law_wrong dc__law_wrong pm__law_wrong an__law_wrong cd__law_wrong ct__law_wrong), sl__law_wrong⟩) (c__law_wrong : PySem.W.codeIn K cd__law_wrong "_law_wrong" = true) (k__law_wrong : PySem.W.keepIn K (.ref f__law_wrong) = true)
    (a__law_spoilt : PySem.W.nsIn K mainGlobals "_law_spoilt" = some (some (.ref f__law_spoilt))) (l__law_spoilt : K.lookup f__law_spoilt = some ⟨oc__law_spoilt, od__law_spoilt, .func (PySem.W.fnOf "_law_spoilt" "_law_spoilt" (defArgs s__law_spoilt) (defBody s__law_spoilt) (defScope s__law_spoilt) .none kV__law_spoilt dc__law_spoilt pm__law_spoilt an__law_spoilt cd__law_spoilt ct__law_spoilt), sl__law_spoilt⟩) (c__law_spoilt : PySem.W.codeIn K cd__law_spoilt "_law_spoilt" = true) (k__law_spoilt : PySem.W.keepIn K (.ref f__law_spoilt) = true)
    (a_law : PySem.W.nsIn K mainGlobals "law" = some (some (.ref f_law))) (l_law : K.lookup f_law = some ⟨oc_law, od_law, .func (PySem.W.fnOf "law" "law" (defArgs s_law) (defBody s_law) (defScope s_law) .none kV_law dc_law pm_law an_law cd_law ct_law), sl_law⟩) (c_law : PySem.W.codeIn K cd_law "law" = true) (k_law : PySem.W.keepIn K (.ref f_law) = true)
    (z_len : PySem.W.nsIn K mainGlobals "len" = some none)
    (z_list : PySem.W.nsIn K mainGlobals "list" = some none)
    (z_range : PySem.W.nsIn K mainGlobals "range" = some none)
    (z_tuple : PySem.W.nsIn K mainGlobals "tuple" = some none)
    (z_str : PySem.W.nsIn K mainGlobals "str" = some none)
    (z_int : PySem.W.nsIn K mainGlobals "int" = some none)
    (z_isinstance : PySem.W.nsIn K mainGlobals "isinstance" = some none)
    (z_bool : PySem.W.nsIn K mainGlobals "bool" = some none)
    (z_sum : PySem.W.nsIn K mainGlobals "sum" = some none)
    {f_TWOS : Addr} {d_TWOS : Option Addr} {it_TWOS : Array Value} {n_TWOS : Nat} {sl_TWOS : Array (Option Value)} {tk1 tk2 tk3 tk4 tk5 : Tok}
    (r_LETTERS : PySem.W.nsIn K mainGlobals "LETTERS" = some (some (.str "abcdefghijklmnopqrstuvwxyz" tk1)))
    (r_LONGEST : PySem.W.nsIn K mainGlobals "LONGEST" = some (some (.int 8 tk2)))
    (r_DEEPEST : PySem.W.nsIn K mainGlobals "DEEPEST" = some (some (.int 8 tk3)))
    (r_MOST : PySem.W.nsIn K mainGlobals "MOST" = some (some (.int 100 tk4)))
    (r_MOST_NAMES : PySem.W.nsIn K mainGlobals "MOST_NAMES" = some (some (.int 9 tk5)))
    (r_TWOS : PySem.W.nsIn K mainGlobals "TWOS" = some (some (.ref f_TWOS)))
    (l_TWOS : K.lookup f_TWOS = some ⟨.type "tuple", d_TWOS, .seq it_TWOS n_TWOS, sl_TWOS⟩)
    (v_TWOS : ∃ t1 t2 t3 t4 : Tok, it_TWOS = #[.str "plus" t1, .str "minus" t2, .str "times" t3, .str "most" t4])
    : ∃ fd : FuncData, (∀ (s : Shared) (v : Value), BindsTo s fd ⟨[v], []⟩ [("script", v)]) ∧ ∀ base : Heap, K.In base → base.Ns mainGlobals mg → FnOk l.prog w K mg base CX0 13 fa fd ["script"] (spLaw K) := by
  have e := hfa.symm.trans (PySem.W.mg_of X G a_law)
  cases e
  have F_is_whole := fun_mk (st := s_is_whole) l_is_whole c_is_whole k_is_whole
  have D_is_whole : IsDef K mg "is_whole" s_is_whole ["thing"] := ⟨f_is_whole, _, F_is_whole, PySem.W.mg_of X G a_is_whole, F_is_whole.binds (ps := ["thing"]) fun _ _ _ _ _ _ us hl => match us, hl with | [_], _ => rfl⟩
  have F_is_name := fun_mk (st := s_is_name) l_is_name c_is_name k_is_name
  have D_is_name : IsDef K mg "is_name" s_is_name ["thing"] := ⟨f_is_name, _, F_is_name, PySem.W.mg_of X G a_is_name, F_is_name.binds (ps := ["thing"]) fun _ _ _ _ _ _ us hl => match us, hl with | [_], _ => rfl⟩
  have F_are_names := fun_mk (st := s_are_names) l_are_names c_are_names k_are_names
  have D_are_names : IsDef K mg "are_names" s_are_names ["thing"] := ⟨f_are_names, _, F_are_names, PySem.W.mg_of X G a_are_names, F_are_names.binds (ps := ["thing"]) fun _ _ _ _ _ _ us hl => match us, hl with | [_], _ => rfl⟩
  have F_within := fun_mk (st := s_within) l_within c_within k_within
  have D_within : IsDef K mg "within" s_within ["thing"] := ⟨f_within, _, F_within, PySem.W.mg_of X G a_within, F_within.binds (ps := ["thing"]) fun _ _ _ _ _ _ us hl => match us, hl with | [_], _ => rfl⟩
  have F_is_recipe := fun_mk (st := s_is_recipe) l_is_recipe c_is_recipe k_is_recipe
  have D_is_recipe : IsDef K mg "is_recipe" s_is_recipe ["thing"] := ⟨f_is_recipe, _, F_is_recipe, PySem.W.mg_of X G a_is_recipe, F_is_recipe.binds (ps := ["thing"]) fun _ _ _ _ _ _ us hl => match us, hl with | [_], _ => rfl⟩
  have F__law_deck := fun_mk (st := s__law_deck) l__law_deck c__law_deck k__law_deck
  have D__law_deck : IsDef K mg "_law_deck" s__law_deck ["script"] := ⟨f__law_deck, _, F__law_deck, PySem.W.mg_of X G a__law_deck, F__law_deck.binds (ps := ["script"]) fun _ _ _ _ _ _ us hl => match us, hl with | [_], _ => rfl⟩
  have F__law_draw := fun_mk (st := s__law_draw) l__law_draw c__law_draw k__law_draw
  have D__law_draw : IsDef K mg "_law_draw" s__law_draw ["deck", "many"] := ⟨f__law_draw, _, F__law_draw, PySem.W.mg_of X G a__law_draw, F__law_draw.binds (ps := ["deck", "many"]) fun _ _ _ _ _ _ us hl => match us, hl with | [_, _], _ => rfl⟩
  have F__law_name := fun_mk (st := s__law_name) l__law_name c__law_name k__law_name
  have D__law_name : IsDef K mg "_law_name" s__law_name ["deck"] := ⟨f__law_name, _, F__law_name, PySem.W.mg_of X G a__law_name, F__law_name.binds (ps := ["deck"]) fun _ _ _ _ _ _ us hl => match us, hl with | [_], _ => rfl⟩
  have F__law_number := fun_mk (st := s__law_number) l__law_number c__law_number k__law_number
  have D__law_number : IsDef K mg "_law_number" s__law_number ["deck"] := ⟨f__law_number, _, F__law_number, PySem.W.mg_of X G a__law_number, F__law_number.binds (ps := ["deck"]) fun _ _ _ _ _ _ us hl => match us, hl with | [_], _ => rfl⟩
  have F__law_recipe := fun_mk (st := s__law_recipe) l__law_recipe c__law_recipe k__law_recipe
  have D__law_recipe : IsDef K mg "_law_recipe" s__law_recipe ["deck", "deep", "left"] := ⟨f__law_recipe, _, F__law_recipe, PySem.W.mg_of X G a__law_recipe, F__law_recipe.binds (ps := ["deck", "deep", "left"]) fun _ _ _ _ _ _ us hl => match us, hl with | [_, _, _], _ => rfl⟩
  have F__law_is_name := fun_mk (st := s__law_is_name) l__law_is_name c__law_is_name k__law_is_name
  have D__law_is_name : IsDef K mg "_law_is_name" s__law_is_name ["thing"] := ⟨f__law_is_name, _, F__law_is_name, PySem.W.mg_of X G a__law_is_name, F__law_is_name.binds (ps := ["thing"]) fun _ _ _ _ _ _ us hl => match us, hl with | [_], _ => rfl⟩
  have F__law_spots := fun_mk (st := s__law_spots) l__law_spots c__law_spots k__law_spots
  have D__law_spots : IsDef K mg "_law_spots" s__law_spots ["thing"] := ⟨f__law_spots, _, F__law_spots, PySem.W.mg_of X G a__law_spots, F__law_spots.binds (ps := ["thing"]) fun _ _ _ _ _ _ us hl => match us, hl with | [_], _ => rfl⟩
  have F__law_size := fun_mk (st := s__law_size) l__law_size c__law_size k__law_size
  have D__law_size : IsDef K mg "_law_size" s__law_size ["thing", "depth"] := ⟨f__law_size, _, F__law_size, PySem.W.mg_of X G a__law_size, F__law_size.binds (ps := ["thing", "depth"]) fun _ _ _ _ _ _ us hl => match us, hl with | [_, _], _ => rfl⟩
  have F__law_is := fun_mk (st := s__law_is) l__law_is c__law_is k__law_is
  have D__law_is : IsDef K mg "_law_is" s__law_is ["thing"] := ⟨f__law_is, _, F__law_is, PySem.W.mg_of X G a__law_is, F__law_is.binds (ps := ["thing"]) fun _ _ _ _ _ _ us hl => match us, hl with | [_], _ => rfl⟩
  have F__law_wrong := fun_mk (st := s__law_wrong) l__law_wrong c__law_wrong k__law_wrong
  have D__law_wrong : IsDef K mg "_law_wrong" s__law_wrong ["r", "deck"] := ⟨f__law_wrong, _, F__law_wrong, PySem.W.mg_of X G a__law_wrong, F__law_wrong.binds (ps := ["r", "deck"]) fun _ _ _ _ _ _ us hl => match us, hl with | [_, _], _ => rfl⟩
  have F__law_spoilt := fun_mk (st := s__law_spoilt) l__law_spoilt c__law_spoilt k__law_spoilt
  have D__law_spoilt : IsDef K mg "_law_spoilt" s__law_spoilt ["r", "deck"] := ⟨f__law_spoilt, _, F__law_spoilt, PySem.W.mg_of X G a__law_spoilt, F__law_spoilt.binds (ps := ["r", "deck"]) fun _ _ _ _ _ _ us hl => match us, hl with | [_, _], _ => rfl⟩
  have F_law := fun_mk (st := s_law) l_law c_law k_law
  have m_len := PySem.W.mg_none_of X G z_len
  have m_list := PySem.W.mg_none_of X G z_list
  have m_range := PySem.W.mg_none_of X G z_range
  have m_tuple := PySem.W.mg_none_of X G z_tuple
  have m_str := PySem.W.mg_none_of X G z_str
  have m_int := PySem.W.mg_none_of X G z_int
  have m_isinstance := PySem.W.mg_none_of X G z_isinstance
  have m_bool := PySem.W.mg_none_of X G z_bool
  have m_sum := PySem.W.mg_none_of X G z_sum
  have T : Txt K mg := ⟨m_len, m_list, m_range, m_tuple, m_str, m_int, m_isinstance, m_bool, m_sum⟩
  have R : RTxt K mg f_TWOS := ⟨⟨_, PySem.W.mg_of X G r_LETTERS⟩, ⟨_, PySem.W.mg_of X G r_LONGEST⟩, ⟨_, PySem.W.mg_of X G r_DEEPEST⟩, ⟨_, PySem.W.mg_of X G r_MOST⟩, ⟨_, PySem.W.mg_of X G r_MOST_NAMES⟩, PySem.W.mg_of X G r_TWOS, fun H => by
      obtain ⟨t1, t2, t3, t4, e⟩ := v_TWOS
      subst e
      exact .inr ⟨_, _, _, l_TWOS, rfl, rfl, le_line (Nat.le_of_ble_eq_true rfl), .cons ⟨_, rfl⟩ (.cons ⟨_, rfl⟩ (.cons ⟨_, rfl⟩ (.cons ⟨_, rfl⟩ .nil)))⟩⟩
  refine ⟨PySem.W.fnOf "law" "law" (defArgs s_law) (defBody s_law) (defScope s_law) .none kV_law dc_law pm_law an_law cd_law ct_law, fun s v => .of_eq rfl, fun base _ _ => ?_⟩
  have C1 := ok__law_draw (P := l.prog) (w := w) (base := base) T D__law_draw
  have C2 := ok__law_name T D__law_name C1
  have C3 := ok__law_number T D__law_number C1
  have W1 := ok_is_whole (P := l.prog) (w := w) (base := base) T D_is_whole
  have W2 := ok_is_name (P := l.prog) (w := w) (base := base) T R D_is_name
  have W3 := ok_are_names T R D_are_names W2
  have W4 := ok_within T R D_within W1 W2 W3
  have W5 := ok_is_recipe T R D_is_recipe W4
  have L1 := ok__law_is_name (P := l.prog) (w := w) (base := base) T D__law_is_name
  have L2 := ok__law_spots T D__law_spots L1
  have L3 := all__law_size T D__law_size L2 8
  have L4 := ok__law_is T D__law_is L3
  have L5 := ok__law_wrong T D__law_wrong C1
  exact ok_law F_law T C1 (ok__law_deck T D__law_deck) (all__law_recipe T D__law_recipe C1 C3 C2 8) W5 L4 (all__law_spoilt T D__law_spoilt C1 L2 L5 8)
theorem walk {l : PySem.W.OpenLaw} {q : Program} {loose : List Str} {XP : (Str → Option Value) → Heap → Prop} {YP : World → Heap → Prop} {d : DefRec} {K : Params → PySem.W.Frag} (hn : l.most = some 63) (hdf : d.params.defaults = [])
    (hY : ∀ (w : World) (h : Heap), YP w h → (K w.params).In h)
    (F : ∀ (w : World) (mg : Str → Option Value) (fa : Addr) (h : Heap), (K w.params).In h → h.Ns mainGlobals mg → mg d.name = some (.ref fa) →
      ∃ fd : FuncData, (∀ (s : Shared) (u : Value), BindsTo s fd ⟨[u], []⟩ [("script", u)]) ∧ ∀ base : Heap, (K w.params).In base → base.Ns mainGlobals mg → FnOk l.prog w (K w.params) mg base CX0 13 fa fd ["script"] (spLaw (K w.params))) :
    PySem.W.WalkO q loose XP YP l.row.toRowW d [] (fun f vs => PySem.call f vs) :=
  L2.walk_of (n := 63) (k := 13) (x := "script") (CX := fun _ => CX0) (sp := fun w => spLaw (K w.params)) hn (by decide) hdf ⟨rfl, by decide, by decide⟩ hY F (fun _ _ a ns hl _ hS => ⟨a, ns, rfl, hS, hl, fun _ => rfl⟩) fun _ _ _ _ _ z => z
end Mad
open PySem PySem.W PyProof.Rows
set_option maxRecDepth 100000 in
set_option maxHeartbeats 0 in
theorem PySem.Challenge.cw_madeagain_k01_what_is_a_recipe_holds : PySem.Challenge.rw_madeagain_k01_what_is_a_recipe.Holds := by
  w_on; o_law; k_head; (case hw => w_witness2)
  k_fill
  refine Mad.walk (l := PySem.Challenge.rw_madeagain_k01_what_is_a_recipe) rfl rfl (fun w h Y => PySem.W.kIn_of Y) ?F
  case F =>
    intro w mg fa h KX G hmg
    refine' Mad.all_mk KX G hmg ?a_is_whole ?l_is_whole ?c_is_whole ?k_is_whole ?a_is_name ?l_is_name ?c_is_name ?k_is_name ?a_are_names ?l_are_names ?c_are_names ?k_are_names ?a_within ?l_within ?c_within ?k_within ?a_is_recipe ?l_is_recipe ?c_is_recipe ?k_is_recipe ?a__law_deck ?l__law_deck ?c__law_deck ?k__law_deck ?a__law_draw ?l__law_draw ?c__law_draw ?k__law_draw ?a__law_name ?l__law_name ?c__law_name ?k__law_name ?a__law_number ?l__law_number ?c__law_number ?k__law_number ?a__law_recipe ?l__law_recipe ?c__law_recipe ?k__law_recipe ?a__law_is_name ?l__law_is_name ?c__law_is_name ?k__law_is_name ?a__law_spots ?l__law_spots ?c__law_spots ?k__law_spots ?a__law_size ?l__law_size ?c__law_size ?k__law_size ?a__law_is ?l__law_is ?c__law_is ?k__law_is ?a__law_wrong ?l__law_wrong ?c__law_wrong ?k__law_wrong ?a__law_spoilt ?l__law_spoilt ?c__law_spoilt ?k__law_spoilt ?a_law ?l_law ?c_law ?k_law ?z_len ?z_list ?z_range ?z_tuple ?z_str ?z_int ?z_isinstance ?z_bool ?z_sum ?r_LETTERS ?r_LONGEST ?r_DEEPEST ?r_MOST ?r_MOST_NAMES ?r_TWOS ?l_TWOS ?v_TWOS
    (case a_is_whole => k_is)
    (case l_is_whole => k_is)
    (case c_is_whole => k_is)
    (case k_is_whole => k_is)
    (case a_is_name => k_is)
    (case l_is_name => k_is)
    (case c_is_name => k_is)
    (case k_is_name => k_is)
    (case a_are_names => k_is)
    (case l_are_names => k_is)
    (case c_are_names => k_is)
    (case k_are_names => k_is)
    (case a_within => k_is)
    (case l_within => k_is)
    (case c_within => k_is)
    (case k_within => k_is)
    (case a_is_recipe => k_is)
    (case l_is_recipe => k_is)
    (case c_is_recipe => k_is)
    (case k_is_recipe => k_is)
    (case a__law_deck => k_is)
    (case l__law_deck => k_is)
    (case c__law_deck => k_is)
    (case k__law_deck => k_is)
    (case a__law_draw => k_is)
    (case l__law_draw => k_is)
    (case c__law_draw => k_is)
    (case k__law_draw => k_is)
    (case a__law_name => k_is)
    (case l__law_name => k_is)
    (case c__law_name => k_is)
    (case k__law_name => k_is)
    (case a__law_number => k_is)
    (case l__law_number => k_is)
    (case c__law_number => k_is)
    (case k__law_number => k_is)
    (case a__law_recipe => k_is)
    (case l__law_recipe => k_is)
    (case c__law_recipe => k_is)
    (case k__law_recipe => k_is)
    (case a__law_is_name => k_is)
    (case l__law_is_name => k_is)
    (case c__law_is_name => k_is)
    (case k__law_is_name => k_is)
    (case a__law_spots => k_is)
    (case l__law_spots => k_is)
    (case c__law_spots => k_is)
    (case k__law_spots => k_is)
    (case a__law_size => k_is)
    (case l__law_size => k_is)
    (case c__law_size => k_is)
    (case k__law_size => k_is)
    (case a__law_is => k_is)
    (case l__law_is => k_is)
    (case c__law_is => k_is)
    (case k__law_is => k_is)
    (case a__law_wrong => k_is)
    (case l__law_wrong => k_is)
    (case c__law_wrong => k_is)
    (case k__law_wrong => k_is)
    (case a__law_spoilt => k_is)
    (case l__law_spoilt => k_is)
    (case c__law_spoilt => k_is)
    (case k__law_spoilt => k_is)
    (case a_law => k_is)
    (case l_law => k_is)
    (case c_law => k_is)
    (case k_law => k_is)
    (case z_len => k_is)
    (case z_list => k_is)
    (case z_range => k_is)
    (case z_tuple => k_is)
    (case z_str => k_is)
    (case z_int => k_is)
    (case z_isinstance => k_is)
    (case z_bool => k_is)
    (case z_sum => k_is)
    (case r_LETTERS => k_is)
    (case r_LONGEST => k_is)
    (case r_DEEPEST => k_is)
    (case r_MOST => k_is)
    (case r_MOST_NAMES => k_is)
    (case r_TWOS => k_is)
    (case l_TWOS => k_is)
    (case v_TWOS => exact ⟨_, _, _, _, rfl⟩)
#print axioms PySem.Challenge.cw_madeagain_k01_what_is_a_recipe_holds
