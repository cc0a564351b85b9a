import PyProof.Rows.All
import Wide.All
import OpenK.AllK
import Wide.FinOn
import HandS.ForMost
import HandS.Wide
import HandS.IsInst
import HandS.Codes
import HandS.More
import KE.KEqSeq
import PySem.Challenge.RW_madeagain_k06_recipes_written
set_option Elab.async false
set_option linter.all false
set_option maxRecDepth 100000
set_option maxHeartbeats 4000000
namespace Mad
open PySem PySem.Spec PyProof.Rows L2
def topS (i : Nat) : Stmt := PySem.Challenge.pw_madeagain_k06_recipes_written.main.body.getD i (.Pass ⟨0, 0, 0, 0⟩)
/-! ### short words over the layer -/
/-- the def x of the text stands in the module as st says -/
def IsDef (K : PySem.W.Frag) (mg : Str → Option Value) (x : Str) (st : Stmt) (ps : List Str) : Prop := ∃ (f : Addr) (fd : FuncData), Fun K x x st f fd ∧ mg x = some (.ref f) ∧ Binds K fd ps []
/-- the def x keeps the promise sp by at most k calls in one another -/
def Cal (P : Program) (w : World) (K : PySem.W.Frag) (mg : Str → Option Value) (base : Heap) (CX : CXT) (k : Nat) (x : Str) (ps : List Str) (sp : Sp) : Prop :=
  ∃ (f : Addr) (fd : FuncData), FnOk P w K mg base CX k f fd ps sp ∧ mg x = some (.ref f) ∧ PySem.W.keepIn K (.ref f) = true ∧ Binds K fd ps []
section
variable {P : Program} {w : World} {K : PySem.W.Frag} {mg : Str → Option Value} {base : Heap}
theorem Cal.mono {CX : CXT} {j k : Nat} {x : Str} {ps : List Str} {sp : Sp} (c : Cal P w K mg base CX j x ps sp) (h : j ≤ k) : Cal P w K mg base CX k x ps sp := by
  obtain ⟨f, fd, F, r⟩ := c
  exact ⟨f, fd, F.mono h, r⟩
theorem Cal.imp {CX : CXT} {k : Nat} {x : Str} {ps : List Str} {sp sp' : Sp} (c : Cal P w K mg base CX k x ps sp) (h : ∀ vs H Q E, sp' vs H Q E → sp vs H Q E) : Cal P w K mg base CX k x ps sp' := by
  obtain ⟨f, fd, F, r⟩ := c
  exact ⟨f, fd, F.imp h, r⟩
theorem IsDef.cal {x : Str} {st : Stmt} {N ps : List Str} {k : Nat} {sp : Sp} (D : IsDef K mg x st ps) (S : FnScope N ps (defScope st)) (len : ∀ vs H Q E, sp vs H Q E → vs.length = ps.length)
    (hbody : ∀ (f : Addr) (cdv : Value) (A : Around) (outer : List Env) (s : Shared) (H : Hp) (vs : List V) (Q : VK) (E : XK), Room k (A.deeper (envOfC x (defScope st) s.heap.objs.size f cdv)) → sp vs H Q E →
      ∃ t, PSs (cxOf CX0 P w K mg base N x (defScope st) f cdv A outer s H E).nox (defBody st) t ∧ t { nx := fun _ H' => Q .non H', rt := Q } (start N vs) H) : Cal P w K mg base CX0 (k + 1) x ps sp := by
  obtain ⟨f, fd, F, m, b⟩ := D
  exact ⟨f, fd, F.ok S len fun cdv A outer s H vs Q E => hbody f cdv A outer s H vs Q E, m, F.kp, b⟩
end
section
variable {X : Cx} {CX : CXT} {k : Nat} {ps : List Str} {sp : Sp} {E : XK} {x : Str} {p pos : Pos}
theorem pe_cal {e : Expr} {es : List Expr} {t : TA} (c : Cal X.prog X.w X.K X.mg X.base CX k x ps sp) (hr : Room k X.A) (hx : Passes CX X E) (ha : PA X (e :: es) t) (hg : Gl X x := by rfl)
    (hdb : (x == ("__debug__" : Str)) = false := by decide) (he : starEach (e :: es) X.env = (false, eval e X.env) :: starEach es X.env := by rfl) (hpl : (backTo pos (starEach es X.env)).any (·.1) = false := by rfl) :
    PE X (.Call (.Name x p) (e :: es) [] pos) (tCall sp [] E t) := by
  obtain ⟨f, fd, F, m, kp, b⟩ := c
  exact pe_call F hr hg m kp b .nil hx ha hdb he hpl
theorem pe_cal0 (c : Cal X.prog X.w X.K X.mg X.base CX k x ps sp) (hr : Room k X.A) (hx : Passes CX X E) (hg : Gl X x := by rfl) (hdb : (x == ("__debug__" : Str)) = false := by decide) :
    PE X (.Call (.Name x p) [] [] pos) (tCall sp [] E tNil) := by
  obtain ⟨f, fd, F, m, kp, b⟩ := c
  exact pe_call0 F hr hg m kp b .nil hx hdb
end
theorem le_line {n : Nat} (h : n ≤ 16777216) : n ≤ sizeLine := by rw [sizeLine_eq]; exact h
theorem lt_line {n : Nat} (h : n < 16777216) : n < sizeLine := by rw [sizeLine_eq]; exact h
theorem same_new {H : Hp} {p : Addr} (h : H p = none) (o : HO) : Same H (upd H p o) := fun b u q => by rw [upd_ne (ne_of_none q h)]; exact q
theorem same_upd {B H : Hp} {p : Addr} (s : Same B H) (h : B p = none) (o : HO) : Same B (upd H p o) := fun b u q => by
  have z : b ≠ p := fun e => by rw [e, h] at q; cases q
  rw [upd_ne z]; exact s _ _ q
theorem atI_at {α : Type} {xs : List α} {i : Int} {v : α} (h0 : 0 ≤ i) (h : xs[i.toNat]? = some v) : atI xs i = some v := by
  have e : i = ((i.toNat : Nat) : Int) := by omega
  rw [e]; exact atI_nat h
theorem ixN_at {n : Nat} {i : Int} (h0 : 0 ≤ i) (h : i < n) : ixN n i = some i.toNat := by
  unfold ixN
  rw [if_pos h0, if_pos h]
theorem int_at {ns : List Int} {i : Int} (h0 : 0 ≤ i) (h : i < ns.length) : ∃ v : Int, atI (ns.map V.int) i = some (.int v) := by
  have hk : i.toNat < ns.length := by omega
  exact ⟨ns[i.toNat], atI_at h0 (by rw [List.getElem?_map, List.getElem?_eq_getElem hk] <;> rfl)⟩
structure Txt (K : PySem.W.Frag) (mg : Str → Option Value) : Prop where
  b_len : mg "len" = none
  b_list : mg "list" = none
  b_range : mg "range" = none
  b_tuple : mg "tuple" = none
  b_str : mg "str" = none
  b_int : mg "int" = none
  b_isinstance : mg "isinstance" = none
/-! ### the deck of drawn cells -/
/-- at d a deck, what B tracks besides stands -/
def DeckAt (B H : Hp) (d : Addr) : Prop := Same B H ∧ B d = none ∧ ∃ (c : Addr) (m n : Int) (ns : List Int), B c = none ∧ H d = some (.lst [.ref c, .int m, .int n]) ∧ H c = some (.lst (ns.map V.int)) ∧ 0 < ns.length ∧ ns.length ≤ 63
def spDraw : Sp := fun vs H Q _ => ∃ (B : Hp) (d : Addr) (many : Int), vs = [.ref d, .int many] ∧ DeckAt B H d ∧ 0 < many ∧ many.natAbs < 2 ^ 200 ∧ ∀ (H' : Hp) (v : Int), DeckAt B H' d → 0 ≤ v → v < many → Q (.int v) H'
section
variable {P : Program} {w : World} {K : PySem.W.Frag} {mg : Str → Option Value} {base : Heap}
abbrev s__law_draw : Stmt := topS 5
abbrev N__law_draw : List Str := ["deck", "many", "at", "found", "number"]
theorem sc__law_draw : FnScope N__law_draw ["deck", "many"] (defScope s__law_draw) := ⟨rfl, rfl, rfl, by decide +kernel, rfl, by decide +kernel, by decide +kernel⟩

theorem ok__law_draw (T : Txt K mg) (D : IsDef K mg "_law_draw" s__law_draw ["deck", "many"]) : Cal P w K mg base CX0 1 "_law_draw" ["deck", "many"] spDraw := by
  refine D.cal sc__law_draw (fun vs H Q E h => ?_) (fun f cdv A outer s H vs Q E hr h => ?_)
  · obtain ⟨B, d, many, rfl, _⟩ := h
    rfl
  obtain ⟨B, d, many, rfl, ⟨hs, bd, c, m, n, ns, bc, hd, hc, h0, h63⟩, hp, hm, q⟩ := h
  have dc : d ≠ c := fun e => by
    subst e
    rw [hd] at hc
    cases ns with
    | nil => cases hc
    | cons a r => simp at hc
  have hl : (ns.map V.int).length = ns.length := List.length_map _
  refine ⟨_, (pss_cons (ps_set (i := 2) sc__law_draw.nd rfl (Or.inl rfl) (pe_op op_mod (pe_ix (r := rIxL K) ix_list (pv 0) pe_int (fun _ _ => rfl)) (pe_callB call_len_seq (by rfl) T.b_len PySem.boot_len (pa_cons (pe_ix (r := rIxL K) ix_list (pv 0) pe_int (fun _ _ => rfl)) pa_nil))))
      (pss_cons (ps_asg (pe_op op_add (pe_ix (r := rIxL K) ix_list (pv 0) pe_int (fun _ _ => rfl)) pe_int) (pg_sub (pv 0) pe_int set_list))
      (pss_cons (ps_if (pt_cmpR op_eq (pe_ix (r := rIxL K) ix_list (pv 0) pe_int (fun _ _ => rfl)) pe_int (nomark _))
        (pss_cons (ps_set (i := 3) sc__law_draw.nd rfl (Or.inl rfl) (pe_op op_mod (pe_ix (r := rIxL K) ix_list (pe_ix (r := rIxL K) ix_list (pv 0) pe_int (fun _ _ => rfl)) (pv 2) (fun _ _ => rfl)) (pv 1)))
      (pss_cons (ps_asg (pe_op op_fdivW (pe_ix (r := rIxL K) ix_list (pe_ix (r := rIxL K) ix_list (pv 0) pe_int (fun _ _ => rfl)) (pv 2) (fun _ _ => rfl)) (pv 1)) (pg_sub (pe_ix (r := rIxL K) ix_list (pv 0) pe_int (fun _ _ => rfl)) (pv 2) set_list))
      (pss_one (ps_ret (pv 3)))))
        pss_nil)
      (pss_cons (ps_set (i := 4) sc__law_draw.nd rfl (Or.inl rfl) (pe_op op_mod (pe_op op_add (pe_op op_mul (pe_op op_mod (pe_ix (r := rIxL K) ix_list (pe_ix (r := rIxL K) ix_list (pv 0) pe_int (fun _ _ => rfl)) (pv 2) (fun _ _ => rfl)) pe_int) pe_int) (pe_op op_mul (pe_ix (r := rIxL K) ix_list (pv 0) pe_int (fun _ _ => rfl)) pe_int)) pe_int))
      (pss_cons (ps_set (i := 4) sc__law_draw.nd rfl (Or.inl rfl) (pe_op op_mod (pe_op op_mul (pv 4) (pv 4)) pe_int))
      (pss_one (ps_ret (pe_op op_mod (pe_op op_fdivW (pe_op op_mod (pe_op op_add (pe_op op_mul (pv 4) pe_int) (pe_ix (r := rIxL K) ix_list (pv 0) pe_int (fun _ _ => rfl))) pe_int) pe_int) (pv 1))))))))), ?_⟩
  -- at = deck[2] % len(deck[0])
  refine ⟨_, rfl, d, _, _, _, rfl, rfl, SqL.of hd, rfl, _, rfl, d, _, _, _, rfl, rfl, SqL.of hd, rfl, c, _, rfl, .inl (SqL.of hc), _, _, rfl, rfl, by rw [hl]; omega, ?_⟩
  have a0 : 0 ≤ n % (((ns.map V.int).length : Nat) : Int) := Int.emod_nonneg _ (by rw [hl]; omega)
  have a1 : n % (((ns.map V.int).length : Nat) : Int) < ns.length := by rw [hl]; exact Int.emod_lt_of_pos _ (by omega)
  have a1' : n % (((ns.map V.int).length : Nat) : Int) < (ns.map V.int).length := by rw [hl] at a1 ⊢; exact a1
  obtain ⟨v, hv⟩ := int_at a0 a1
  -- deck[2] = deck[2] + 1
  refine ⟨_, rfl, d, _, _, _, rfl, rfl, SqL.of hd, rfl, _, _, rfl, rfl, _, rfl, d, _, _, _, rfl, rfl, hd, rfl, ?_⟩
  have hd1 : upd H d (.lst [.ref c, .int m, .int (n + 1)]) d = some (.lst [.ref c, .int m, .int (n + 1)]) := upd_same
  have hc1 : upd H d (.lst [.ref c, .int m, .int (n + 1)]) c = some (.lst (ns.map V.int)) := by rw [upd_ne dc.symm]; exact hc
  have hs1 : Same B (upd H d (.lst [.ref c, .int m, .int (n + 1)])) := same_upd hs bd _
  -- if deck[1] == 0
  refine ⟨_, rfl, d, _, _, _, rfl, rfl, SqL.of hd1, rfl, rfl, _, rfl, ?_⟩
  refine ite2 (fun _ => ?_) (fun _ => ?_)
  · refine ⟨_, rfl, d, _, _, _, rfl, rfl, SqL.of hd1, rfl, _, rfl, c, _, _, _, rfl, rfl, SqL.of hc1, hv, _, rfl, _, _, rfl, rfl, hp, ?_⟩
    refine ⟨_, rfl, d, _, _, _, rfl, rfl, SqL.of hd1, rfl, _, rfl, c, _, _, _, rfl, rfl, SqL.of hc1, hv, _, rfl, _, _, rfl, rfl, wide_div hp hm (by decide) (by decide), _, rfl, d, _, _, _, rfl, rfl, SqL.of hd1, rfl, _, rfl, c, _, _, _, rfl, rfl, hc1, ixN_at a0 a1', ?_⟩
    refine ⟨_, rfl, q _ _ ⟨same_upd hs1 bc _, bd, c, m, n + 1, ns.set (n % (((ns.map V.int).length : Nat) : Int)).toNat (v / many), bc, ?_, ?_, ?_, ?_⟩ (Int.emod_nonneg _ (by omega)) (Int.emod_lt_of_pos _ hp)⟩
    · rw [upd_ne dc]; exact hd1
    · rw [upd_same, List.map_set]
    · rw [List.length_set]; exact h0
    · rw [List.length_set]; exact h63
  · refine ⟨_, rfl, d, _, _, _, rfl, rfl, SqL.of hd1, rfl, _, rfl, c, _, _, _, rfl, rfl, SqL.of hc1, hv, _, _, rfl, rfl, (by show (0 : Int) < 1000000007; decide), _, _, rfl, rfl, .inr ⟨by decide, by decide⟩, _, rfl, d, _, _, _, rfl, rfl, SqL.of hd1, rfl, _, _, rfl, rfl, .inr ⟨by decide, by decide⟩, _, _, rfl, rfl, _, _, rfl, rfl, (by show (0 : Int) < 1000000009; decide), ?_⟩
    have y0 : 0 ≤ (v % 1000000007 * 7919 + (n + 1) * 104729) % 1000000009 := Int.emod_nonneg _ (by decide)
    have y1 : (v % 1000000007 * 7919 + (n + 1) * 104729) % 1000000009 < 1000000009 := Int.emod_lt_of_pos _ (by decide)
    refine ⟨_, rfl, _, rfl, _, _, rfl, rfl, .inl ⟨Int.lt_of_lt_of_le (by decide) y0, Int.lt_trans y1 (by decide)⟩, _, _, rfl, rfl, (by show (0 : Int) < _; decide), ?_⟩
    refine ⟨_, rfl, _, _, rfl, rfl, .inr ⟨by decide, by decide⟩, _, rfl, d, _, _, _, rfl, rfl, SqL.of hd1, rfl, _, _, rfl, rfl, _, _, rfl, rfl, (by show (0 : Int) < _; decide), _, _, rfl, rfl, ⟨by decide, by decide +kernel⟩, _, rfl, _, _, rfl, rfl, hp, ?_⟩
    exact q _ _ ⟨hs1, bd, c, m, n + 1, ns, bc, hd1, hc1, h0, h63⟩ (Int.emod_nonneg _ (by omega)) (Int.emod_lt_of_pos _ hp)
end
/-! ### recipes as data -/
inductive Kd where
  | plus | minus | times | most
  deriving DecidableEq
def Kd.name : Kd → Str
  | .plus => "plus" | .minus => "minus" | .times => "times" | .most => "most"
inductive Rcp where
  | num (n : Int)
  | read (s : List Nat)
  | two (k : Kd) (a b : Rcp)
  | pick (a b c : Rcp)
  | choose (a : Rcp) (ns : List (List Nat))
def Rcp.dep : Rcp → Nat
  | .num _ => 1
  | .read _ => 1
  | .two _ a b => max a.dep b.dep + 1
  | .pick a b c => max a.dep (max b.dep c.dep) + 1
  | .choose a _ => a.dep + 1
def Rcp.siz : Rcp → Nat
  | .num _ => 1
  | .read _ => 1
  | .two _ a b => a.siz + b.siz + 1
  | .pick a b c => a.siz + b.siz + c.siz + 1
  | .choose a _ => a.siz + 1
/-- a name's signs -/
def Nm (s : List Nat) : Prop := 1 ≤ s.length ∧ s.length ≤ 8 ∧ ∀ c ∈ s, 97 ≤ c ∧ c ≤ 122
def Nms (ns : List (List Nat)) : Prop := 1 ≤ ns.length ∧ ns.length ≤ 9 ∧ ∀ s ∈ ns, Nm s
def Rcp.Good : Rcp → Prop
  | .num n => n.natAbs < 10 ^ 40
  | .read s => Nm s
  | .two _ a b => a.Good ∧ b.Good
  | .pick a b c => a.Good ∧ b.Good ∧ c.Good
  | .choose a ns => a.Good ∧ Nms ns
def txs (ns : List (List Nat)) : List V := (ns.map SX.S).map V.str
/-- the value v is the recipe r in H -/
def Rec (H : Hp) : Rcp → V → Prop
  | .num n, v => ∃ p, v = .ref p ∧ H p = some (.tup [.str "number", .int n])
  | .read s, v => ∃ p, v = .ref p ∧ H p = some (.tup [.str "read", .str (SX.S s)])
  | .two k a b, v => ∃ p x y, v = .ref p ∧ H p = some (.tup [.str k.name, x, y]) ∧ Rec H a x ∧ Rec H b y
  | .pick a b c, v => ∃ p x y z, v = .ref p ∧ H p = some (.tup [.str "pick", x, y, z]) ∧ Rec H a x ∧ Rec H b y ∧ Rec H c z
  | .choose a ns, v => ∃ p x q, v = .ref p ∧ H p = some (.tup [.str "choose", x, .ref q]) ∧ Rec H a x ∧ H q = some (.tup (txs ns))
/-- tuples stay -/
def Keep (H H' : Hp) : Prop := ∀ b xs, H b = some (.tup xs) → H' b = some (.tup xs)
theorem Keep.refl (H : Hp) : Keep H H := fun _ _ h => h
theorem Keep.trans {A B C : Hp} (h : Keep A B) (k : Keep B C) : Keep A C := fun b xs q => k b xs (h b xs q)
theorem same_keep {H H' : Hp} (s : Same H H') : Keep H H' := fun b xs q => s b _ q
theorem keep_lst {H : Hp} {l : Addr} {xs ys : List V} (h : H l = some (.lst xs)) : Keep H (upd H l (.lst ys)) := fun b zs q => by
  have z : b ≠ l := fun e => by rw [e, h] at q; cases q
  rw [upd_ne z]; exact q
theorem Rec.keep {H H' : Hp} (k : Keep H H') : ∀ {r : Rcp} {v : V}, Rec H r v → Rec H' r v
  | .num n, v, ⟨p, e, h⟩ => ⟨p, e, k _ _ h⟩
  | .read s, v, ⟨p, e, h⟩ => ⟨p, e, k _ _ h⟩
  | .two _ a b, v, ⟨p, x, y, e, h, ra, rb⟩ => ⟨p, x, y, e, k _ _ h, Rec.keep k ra, Rec.keep k rb⟩
  | .pick a b c, v, ⟨p, x, y, z, e, h, ra, rb, rc⟩ => ⟨p, x, y, z, e, k _ _ h, Rec.keep k ra, Rec.keep k rb, Rec.keep k rc⟩
  | .choose a ns, v, ⟨p, x, q, e, h, ra, hq⟩ => ⟨p, x, q, e, k _ _ h, Rec.keep k ra, k _ _ hq⟩
theorem Rec.same {H H' : Hp} (s : Same H H') {r : Rcp} {v : V} (h : Rec H r v) : Rec H' r v := h.keep (same_keep s)
theorem dep_pos : ∀ r : Rcp, 1 ≤ r.dep
  | .num _ => Nat.le_refl _
  | .read _ => Nat.le_refl _
  | .two _ _ _ => Nat.le_add_left _ _
  | .pick _ _ _ => Nat.le_add_left _ _
  | .choose _ _ => Nat.le_add_left _ _
theorem siz_pos : ∀ r : Rcp, 1 ≤ r.siz
  | .num _ => Nat.le_refl _
  | .read _ => Nat.le_refl _
  | .two _ _ _ => Nat.le_add_left _ _
  | .pick _ _ _ => Nat.le_add_left _ _
  | .choose _ _ => Nat.le_add_left _ _
theorem iteY {p A B : Prop} [Decidable p] (h : p) (a : A) : if decide p = true then A else B := by
  rw [if_pos (decide_eq_true h)]; exact a
theorem iteN {p A B : Prop} [Decidable p] (h : ¬p) (b : B) : if decide p = true then A else B := by
  rw [if_neg (fun z => h (of_decide_eq_true z))]; exact b
theorem txs_get {ns : List (List Nat)} {i : Nat} (h : i < ns.length) : (txs ns)[i]? = some (.str (SX.S ns[i])) := by
  unfold txs
  rw [List.getElem?_map, List.getElem?_map, List.getElem?_eq_getElem h]
  all_goals rfl
theorem txs_mem {ns : List (List Nat)} {x : V} (h : x ∈ txs ns) : ∃ s, s ∈ ns ∧ x = .str (SX.S s) := by
  obtain ⟨y, hy, rfl⟩ := List.mem_map.mp h
  obtain ⟨s, hs, rfl⟩ := List.mem_map.mp hy
  exact ⟨s, hs, rfl⟩
theorem txs_len (ns : List (List Nat)) : (txs ns).length = ns.length := by unfold txs; rw [List.length_map, List.length_map]
theorem txs_app (a b : List (List Nat)) : txs (a ++ b) = txs a ++ txs b := by unfold txs; rw [List.map_append, List.map_append]
/-- the signs, one by one -/
def ones (ss : List Nat) : List (List Nat) := ss.map fun c => [c]
theorem ones_flat (ss : List Nat) : (ones ss).flatten = ss := by
  induction ss with
  | nil => rfl
  | cons a r ih => show [a] ++ (ones r).flatten = _; rw [ih]; rfl
theorem ones_sum (ss : List Nat) : (((ones ss).map SX.S).map (·.length)).sum = ss.length := by
  induction ss with
  | nil => rfl
  | cons a r ih => show 1 + (((ones r).map SX.S).map (·.length)).sum = r.length + 1; rw [ih, Nat.add_comm]
theorem ones_len (ss : List Nat) : (ones ss).length = ss.length := List.length_map _
/-! ### names, numbers and recipes drawn of a deck -/
def spDeck (K : PySem.W.Frag) : Sp := fun vs H Q _ => ∃ (a : Addr) (ns : List Int), vs = [.ref a] ∧ SqL K H a (ns.map V.int) ∧ ns.length ≤ 63 ∧ ∀ (B H' : Hp) (d : Addr), Same H B → DeckAt B H' d → Q (.ref d) H'
def spName : Sp := fun vs H Q _ => ∃ (B : Hp) (d : Addr), vs = [.ref d] ∧ DeckAt B H d ∧ ∀ (B' H' : Hp) (s : List Nat), Same B B' → DeckAt B' H' d → Nm s → Q (.str (SX.S s)) H'
def spNumber : Sp := fun vs H Q _ => ∃ (B : Hp) (d : Addr), vs = [.ref d] ∧ DeckAt B H d ∧ ∀ (H' : Hp) (n : Int), DeckAt B H' d → n.natAbs < 10 ^ 40 → Q (.int n) H'
/-- the frame may grow -/
theorem DeckAt.new {B H : Hp} {d : Addr} {p : Addr} (k : DeckAt B H d) (h : H p = none) (o : HO) : DeckAt (upd B p o) (upd H p o) d := by
  obtain ⟨s, bd, c, m, n, ns, bc, hd, hc, h0, h63⟩ := k
  have dp : d ≠ p := ne_of_none hd h
  have cp : c ≠ p := ne_of_none hc h
  refine ⟨fun b u q => ?_, by rw [upd_ne dp]; exact bd, c, m, n, ns, by rw [upd_ne cp]; exact bc, by rw [upd_ne dp]; exact hd, by rw [upd_ne cp]; exact hc, h0, h63⟩
  by_cases e : b = p
  · subst e; rw [upd_same] at q ⊢; exact q
  · rw [upd_ne e] at q ⊢; exact s _ _ q
/-- what the frame tracks may be written -/
theorem DeckAt.put {B H : Hp} {d : Addr} {p : Addr} {u : HO} (k : DeckAt B H d) (h : B p = some u) (o : HO) : DeckAt (upd B p o) (upd H p o) d := by
  obtain ⟨s, bd, c, m, n, ns, bc, hd, hc, h0, h63⟩ := k
  have dp : d ≠ p := fun e => by rw [e, h] at bd; cases bd
  have cp : c ≠ p := fun e => by rw [e, h] at bc; cases bc
  refine ⟨fun b w q => ?_, by rw [upd_ne dp]; exact bd, c, m, n, ns, by rw [upd_ne cp]; exact bc, by rw [upd_ne dp]; exact hd, by rw [upd_ne cp]; exact hc, h0, h63⟩
  by_cases e : b = p
  · subst e; rw [upd_same] at q ⊢; exact q
  · rw [upd_ne e] at q ⊢; exact s _ _ q
theorem DeckAt.same {B H H' : Hp} {d : Addr} (k : DeckAt B H d) (h : Same H H') : DeckAt B H' d := by
  obtain ⟨s, bd, c, m, n, ns, bc, hd, hc, h0, h63⟩ := k
  exact ⟨s.trans h, bd, c, m, n, ns, bc, h _ _ hd, h _ _ hc, h0, h63⟩
theorem DeckAt.free {B H : Hp} {d p : Addr} (k : DeckAt B H d) (h : H p = none) : B p = none := k.1.free h
/-- the pick out of some things by a drawn number -/
theorem one_of {α : Type} {xs : List α} {v : Int} (h0 : 0 ≤ v) (h : v < xs.length) : ∃ x, x ∈ xs ∧ atI xs v = some x := by
  have hk : v.toNat < xs.length := by omega
  exact ⟨xs[v.toNat], List.getElem_mem hk, atI_at h0 (List.getElem?_eq_getElem hk)⟩
def letters : List Nat := [97, 98, 99, 100, 101, 102, 103, 104, 105, 106, 107, 108, 109, 110, 111, 112, 113, 114, 115, 116, 117, 118, 119, 120, 121, 122]
theorem letters_is : ("abcdefghijklmnopqrstuvwxyz" : Str) = SX.S letters := by decide +kernel
theorem joinL_nil : ∀ l : List (List Nat), TL.joinL [] l = l.flatten
  | [] => rfl
  | [p] => by simp [TL.joinL]
  | p :: q :: r => by
    show p ++ ([] ++ TL.joinL [] (q :: r)) = _
    rw [joinL_nil (q :: r)]
    simp
section
variable {P : Program} {w : World} {K : PySem.W.Frag} {mg : Str → Option Value} {base : Heap}
abbrev s__law_deck : Stmt := topS 4
abbrev N__law_deck : List Str := ["script", "cells"]
theorem sc__law_deck : FnScope N__law_deck ["script"] (defScope s__law_deck) := ⟨rfl, rfl, rfl, by decide +kernel, rfl, by decide +kernel, by decide +kernel⟩

theorem ok__law_deck (T : Txt K mg) (D : IsDef K mg "_law_deck" s__law_deck ["script"]) : Cal P w K mg base CX0 1 "_law_deck" ["script"] (spDeck K) := by
  refine D.cal sc__law_deck (fun vs H Q E h => ?_) (fun f cdv A outer s H vs Q E hr h => ?_)
  · obtain ⟨a, ns, rfl, _⟩ := h
    rfl
  obtain ⟨a, ns, rfl, hS, h63, q⟩ := h
  refine ⟨_, (pss_cons (ps_set (i := 1) sc__law_deck.nd rfl (Or.inl rfl) (pe_callTy call_list_of (by rfl) T.b_list (by decide +kernel) (pa_cons (pe_slice (r := rSlL K) sl_list (pv 0) po_none (po_some pe_int)) pa_nil)))
      (pss_cons (ps_if (pt_cmpR (op_eqD hr.units) (pv 1) (pe_lst pa_nil) (nomark _))
        (pss_one (ps_set (i := 1) sc__law_deck.nd rfl (Or.inl rfl) (pe_lst (pa_cons pe_int pa_nil))))
        pss_nil)
      (pss_one (ps_ret (pe_lst (pa_cons (pv 1) (pa_cons (pe_op op_mod (pe_callB call_len_seq (by rfl) T.b_len PySem.boot_len (pa_cons (pv 0) pa_nil)) pe_int) (pa_cons pe_int pa_nil)))))))), ?_⟩
  have hl : (ns.map V.int).length = ns.length := List.length_map _
  refine ⟨_, rfl, _, rfl, a, _, rfl, hS, fun p np => ?_⟩
  have g1 : Same H (upd H p (.lst (cutV (ns.map V.int) none (some 63)))) := same_new np _
  have ec : cutV (ns.map V.int) none (some 63) = ns.map V.int := by
    show ((ns.map V.int).drop (HT.sIx (ns.map V.int).length 0 none)).take (HT.sIx (ns.map V.int).length (ns.map V.int).length (some ((63 : Nat) : Int)) - HT.sIx (ns.map V.int).length 0 none) = ns.map V.int
    rw [HT.sIx_none, HT.sIx_nat, List.drop_zero, List.take_of_length_le]
    rw [hl]
    omega
  refine ⟨p, _, rfl, .inl (SqL.of upd_same), fun l nl => ?_⟩
  have g2 := g1.trans (same_new nl (.lst (cutV (ns.map V.int) none (some 63))))
  refine ⟨_, rfl, Nat.zero_le _, fun e ne => ?_⟩
  have le : l ≠ e := ne_of_none upd_same ne
  have dp : ∀ (H : Hp) (l : List Int), DpAll K H (l.map V.int) (l.map PyData.int) := fun H l => by
    induction l with
    | nil => exact .nil
    | cons x l ih => exact .cons (.int x) ih
  refine ⟨.list (ns.map PyData.int), .list [], .lst (xs := ns.map V.int) (SqL.of (by rw [upd_ne le, upd_same, ec])) (dp _ _), .lst (SqL.of upd_same) .nil, PySem.W.ke_shaped_ints ns, rfl, _, rfl, ?_⟩
  have fin : ∀ (H1 : Hp) (c : Addr) (zs : List Int), Same H H1 → H c = none → H1 c = some (.lst (zs.map V.int)) → 0 < zs.length → zs.length ≤ 63 → ∀ d, H1 d = none → ∀ m n : Int, Q (.ref d) (upd H1 d (.lst [.ref c, .int m, .int n])) := fun H1 c zs h1 hc0 hc z0 z63 d nd m n => by
    have cd : c ≠ d := ne_of_none hc nd
    exact q H _ d (Same.refl H) ⟨h1.trans (same_new nd _), h1.free nd, c, m, n, zs, hc0, upd_same, by rw [upd_ne cd]; exact hc, z0, z63⟩
  have g3 := g2.trans (same_new ne (.lst []))
  cases ns with
  | nil =>
    refine iteT ?_
    refine ⟨(by decide +kernel : 1 ≤ sizeLine), fun c nc => ?_⟩
    have g4 := g3.trans (same_new nc (.lst [.int 0]))
    refine ⟨_, rfl, _, rfl, a, _, rfl, .inl (g4.seq hS), _, _, rfl, rfl, (by show (0 : Int) < 2; decide), le_line (by show 3 ≤ 16777216; decide), fun d nd => ?_⟩
    exact fin _ c [0] g4 (g3.free nc) upd_same (by decide) (by decide) d nd _ _
  | cons x r =>
    refine iteF ?_
    refine ⟨_, rfl, _, rfl, a, _, rfl, .inl (g3.seq hS), _, _, rfl, rfl, (by show (0 : Int) < 2; decide), le_line (by show 3 ≤ 16777216; decide), fun d nd => ?_⟩
    exact fin _ l (x :: r) g3 ((same_new np _).free nl) (by rw [upd_ne le, upd_same, ec]) (Nat.succ_pos _) h63 d nd _ _
def names6 : List (List Nat) := [[97], [98], [97, 98], [120], [121], [122, 122, 122, 122, 122, 122, 122, 122]]
theorem six_is : ([.str "a", .str "b", .str "ab", .str "x", .str "y", .str "zzzzzzzz"] : List V) = txs names6 := by
  rw [show ("a" : Str) = SX.S [97] from by decide +kernel, show ("b" : Str) = SX.S [98] from by decide +kernel, show ("ab" : Str) = SX.S [97, 98] from by decide +kernel, show ("x" : Str) = SX.S [120] from by decide +kernel,
    show ("y" : Str) = SX.S [121] from by decide +kernel, show ("zzzzzzzz" : Str) = SX.S [122, 122, 122, 122, 122, 122, 122, 122] from by decide +kernel]
  all_goals rfl
theorem six_ok : ∀ s ∈ names6, Nm s := by unfold Nm; decide
theorem letters_ok : ∀ c ∈ letters, 97 ≤ c ∧ c ≤ 122 := by decide
abbrev s__law_name : Stmt := topS 6
abbrev N__law_name : List Str := ["deck", "letters", "k"]
theorem sc__law_name : FnScope N__law_name ["deck"] (defScope s__law_name) := ⟨rfl, rfl, rfl, by decide +kernel, rfl, by decide +kernel, by decide +kernel⟩

theorem ok__law_name (T : Txt K mg) (D : IsDef K mg "_law_name" s__law_name ["deck"]) (C__law_draw : Cal P w K mg base CX0 1 "_law_draw" ["deck", "many"] spDraw) : Cal P w K mg base CX0 2 "_law_name" ["deck"] spName := by
  refine D.cal sc__law_name (fun vs H Q E h => ?_) (fun f cdv A outer s H vs Q E hr h => ?_)
  · obtain ⟨B, d, rfl, _⟩ := h
    rfl
  obtain ⟨B, d, rfl, hD, q⟩ := h
  refine ⟨_, (pss_cons (ps_if (pt_cmpR op_gt (pe_cal C__law_draw (hr.mono (by first | decide | omega)) pass0 (pa_cons (pv 0) (pa_cons pe_int pa_nil))) pe_int (nomark _))
        (pss_one (ps_ret (pe_ix (r := rIxL K) ix_list (pe_lst (pa_cons pe_str (pa_cons pe_str (pa_cons pe_str (pa_cons pe_str (pa_cons pe_str (pa_cons pe_str pa_nil))))))) (pe_cal C__law_draw (hr.mono (by first | decide | omega)) pass0 (pa_cons (pv 0) (pa_cons pe_int pa_nil))) (fun _ _ => rfl))))
        pss_nil)
      (pss_cons (ps_set (i := 1) sc__law_name.nd rfl (Or.inr rfl) pe_str)
      (pss_one (ps_ret (pe_join pe_str (pe_lc (own := [("k", 2)]) (g := gName 2)  (by rfl) sc__law_name.nd  (pi_range1 rfl T.b_range (pa_cons (pe_op op_add pe_int (pe_cal C__law_draw (hr.mono (by first | decide | omega)) pass0 (pa_cons (pv 0) (pa_cons pe_int pa_nil)))) pa_nil)) (blkOk_by (own := [("k", 2)]) (N := N__law_name) (sc := defScope s__law_name) (by decide +kernel)) (fun _ _ _ _ _ => (pg_name (i := 2) sc__law_name.nd rfl (Or.inl rfl))) (fun _ _ _ _ _ => pts_nil) (fun _ _ _ _ _ => (pe_item_str (pv 1) (pe_cal C__law_draw (hr.mono (by first | decide | omega)) pass0 (pa_cons (pv 0) (pa_cons pe_int pa_nil))) (fun _ _ => rfl))))))))), ?_⟩
  refine ⟨_, rfl, B, d, 4, rfl, hD, by decide, by decide, fun H1 v1 hD1 _ _ => ⟨_, _, rfl, rfl, _, rfl, ?_⟩⟩
  refine ite2 (fun _ => ?_) (fun _ => ?_)
  · refine ⟨le_line (by decide), fun p np => ?_⟩
    refine ⟨_, rfl, _, d, 6, rfl, hD1.new np _, by decide, by decide, fun H2 v hD2 v0 v6 => ?_⟩
    obtain ⟨x, hx, hat⟩ := one_of (xs := txs names6) v0 v6
    obtain ⟨s, hs, rfl⟩ := txs_mem hx
    refine ⟨p, _, v, _, rfl, rfl, SqL.of (hD2.1 _ _ upd_same), by rw [six_is]; exact hat, ?_⟩
    exact q _ _ s (same_new (hD1.free np) _) hD2 (six_ok s hs)
  · refine ⟨⟨_, rfl⟩, _, rfl, B, d, 8, rfl, hD1, by decide, by decide, fun H2 n hD2 n0 n8 => ⟨_, _, rfl, rfl, 1 + n, rfl, Int.le_trans (by decide) (Int.add_nonneg (by decide) n0), by omega, ?_⟩⟩
    refine fun L nL => lc_range (lo := 0) (n := (1 + n).toNat) (fun i H => ∃ (B' : Hp) (ss : List Nat), Same B B' ∧ DeckAt B' H d ∧ B' L = some (.lst (txs (ones ss))) ∧ ss.length = i ∧ ∀ c ∈ ss, 97 ≤ c ∧ c ≤ 122)
      ⟨_, [], same_new (hD2.free nL) _, hD2.new nL _, upd_same, rfl, by simp⟩ ?_ ?_
    · rintro i H3 hi ⟨B', ss, hB, hD3, hL, hn, hc⟩
      refine ⟨rfl, _, rfl, _, rfl, B', d, 26, rfl, hD3, by decide, by decide, fun H4 v hD4 v0 v26 => ?_⟩
      have hv : v.toNat < letters.length := by show v.toNat < 26; omega
      refine ⟨_, v, letters[v.toNat], rfl, rfl, v0, by omega, by rw [letters_is, SX.S_len]; exact v26, ?_, _, hD4.1 _ _ hL, ?_, ?_⟩
      · rw [letters_is]
        show letters.toArray[v.toNat]? = _
        rw [List.getElem?_toArray, List.getElem?_eq_getElem hv]
      · rw [txs_len, ones_len, hn]
        exact lt_line (by omega)
      · refine ⟨upd B' L _, ss ++ [letters[v.toNat]], fun b o e => ?_, hD4.put hL _, ?_, by rw [List.length_append, hn]; rfl, fun c hcm => ?_⟩
        · have z : b ≠ L := fun z => by
            rw [z] at e
            rw [hD2.free nL] at e
            cases e
          rw [upd_ne z]
          exact hB b o e
        · rw [upd_same]
          unfold ones
          rw [List.map_append, txs_app]
          rfl
        · rcases List.mem_append.mp hcm with h | h
          · exact hc c h
          · rw [List.mem_singleton.mp h]
            exact letters_ok _ (List.getElem_mem hv)
    · rintro H3 ⟨B', ss, hB, hD3, hL, hn, hc⟩
      have e0 : ("" : Str) = SX.S [] := by decide +kernel
      have ej : Txt.join "" ((ones ss).map SX.S) = SX.S ss := by
        rw [e0]
        refine (SX.join_S [] (ones ss)).trans ?_
        rw [joinL_nil, ones_flat]
      refine ⟨"", L, (ones ss).map SX.S, rfl, rfl, .inl (SqL.of (hD3.1 _ _ hL)), ?_, ?_⟩
      · rw [ones_sum, List.length_map, ones_len, e0, SX.S_len]
        show ss.length + ss.length * 0 ≤ 16777216
        omega
      · rw [ej]
        exact q B' _ ss hB hD3 ⟨by omega, by omega, hc⟩
end
def spRecipe (k : Nat) : Sp := fun vs H Q _ => ∃ (B : Hp) (d l : Addr) (deep n : Int), vs = [.ref d, .int deep, .ref l] ∧ DeckAt B H d ∧ B l = some (.lst [.int n]) ∧ 1 ≤ deep ∧ deep ≤ k ∧
  ∀ (B' H' : Hp) (n' : Int) (v : V) (r : Rcp), (∀ b o, b ≠ l → B b = some o → B' b = some o) → B' l = some (.lst [.int n']) → DeckAt B' H' d → Rec B' r v → r.Good → (r.dep : Int) ≤ deep → (r.siz : Int) = n - n' → (n - 1 ≤ n' ∨ -2 * (deep - 1) ≤ n') → Q v H'
theorem keep_but {B B' : Hp} {l : Addr} {xs : List V} (h : B l = some (.lst xs)) (k : ∀ b o, b ≠ l → B b = some o → B' b = some o) : Keep B B' := fun b ys q =>
  k b _ (fun e => by rw [e, h] at q; cases q) q
theorem kind_is {n : Int} (h0 : 0 ≤ n) (h : n < 5) : ∃ k : Kd, atI ([.str "plus", .str "minus", .str "times", .str "most", .str "plus"] : List V) n = some (.str k.name) := by
  have e : n = 0 ∨ n = 1 ∨ n = 2 ∨ n = 3 ∨ n = 4 := by omega
  rcases e with e | e | e | e | e <;> subst e
  · exact ⟨.plus, rfl⟩
  · exact ⟨.minus, rfl⟩
  · exact ⟨.times, rfl⟩
  · exact ⟨.most, rfl⟩
  · exact ⟨.plus, rfl⟩
section
variable {P : Program} {w : World} {K : PySem.W.Frag} {mg : Str → Option Value} {base : Heap}
abbrev s__law_number : Stmt := topS 7
abbrev N__law_number : List Str := ["deck", "great"]
theorem sc__law_number : FnScope N__law_number ["deck"] (defScope s__law_number) := ⟨rfl, rfl, rfl, by decide +kernel, rfl, by decide +kernel, by decide +kernel⟩

theorem ok__law_number (T : Txt K mg) (D : IsDef K mg "_law_number" s__law_number ["deck"]) (C__law_draw : Cal P w K mg base CX0 1 "_law_draw" ["deck", "many"] spDraw) : Cal P w K mg base CX0 2 "_law_number" ["deck"] spNumber := by
  refine D.cal sc__law_number (fun vs H Q E h => ?_) (fun f cdv A outer s H vs Q E hr h => ?_)
  · obtain ⟨B, d, rfl, _⟩ := h
    rfl
  obtain ⟨B, d, rfl, hD, q⟩ := h
  refine ⟨_, (pss_cons (ps_if (pt_cmpR op_gt (pe_cal C__law_draw (hr.mono (by first | decide | omega)) pass0 (pa_cons (pv 0) (pa_cons pe_int pa_nil))) pe_int (nomark _))
        (pss_one (ps_ret (pe_op op_sub (pe_cal C__law_draw (hr.mono (by first | decide | omega)) pass0 (pa_cons (pv 0) (pa_cons pe_int pa_nil))) pe_int)))
        pss_nil)
      (pss_cons (ps_set (i := 1) sc__law_number.nd rfl (Or.inl rfl) (pe_op op_sub (pe_op op_pow pe_int pe_int) pe_int))
      (pss_one (ps_ret (pe_op op_sub (pe_cal C__law_draw (hr.mono (by first | decide | omega)) pass0 (pa_cons (pv 0) (pa_cons (pe_op op_add (pe_op op_mul pe_int (pv 1)) pe_int) pa_nil))) (pv 1)))))), ?_⟩
  refine ⟨_, rfl, B, d, 4, rfl, hD, by decide, by decide, fun H1 v1 hD1 _ _ => ⟨_, _, rfl, rfl, _, rfl, ?_⟩⟩
  refine ite2 (fun _ => ?_) (fun _ => ?_)
  · refine ⟨_, rfl, B, d, 21, rfl, hD1, by decide, by decide, fun H2 v hD2 v0 v6 => ⟨_, _, rfl, rfl, q _ _ hD2 ?_⟩⟩
    have : (v - 10).natAbs ≤ 10 := by omega
    exact Nat.lt_of_le_of_lt this (by decide)
  · refine ⟨10, 40, rfl, rfl, ⟨by decide, by decide, by decide⟩, _, _, rfl, rfl, ?_⟩
    refine ⟨_, rfl, _, rfl, _, _, rfl, rfl, .inl ⟨by decide, by decide⟩, _, _, rfl, rfl, B, d, _, rfl, hD1, by decide, by decide, fun H2 v hD2 v0 v6 => ⟨_, rfl, _, _, rfl, rfl, q _ _ hD2 ?_⟩⟩
    have e1 : (10 : Int) ^ (40 : Int).toNat - 1 = 9999999999999999999999999999999999999999 := by decide
    rw [e1] at v6 ⊢
    have e2 : (10 : Nat) ^ 40 = 10000000000000000000000000000000000000000 := by decide
    rw [e2]
    omega
abbrev s__law_recipe : Stmt := topS 8
abbrev N__law_recipe : List Str := ["deck", "deep", "left", "kind", "one", "word", "two", "k"]
theorem sc__law_recipe : FnScope N__law_recipe ["deck", "deep", "left"] (defScope s__law_recipe) := ⟨rfl, rfl, rfl, by decide +kernel, rfl, by decide +kernel, by decide +kernel⟩

theorem ok__law_recipe (T : Txt K mg) (D : IsDef K mg "_law_recipe" s__law_recipe ["deck", "deep", "left"]) (C__law_draw : Cal P w K mg base CX0 1 "_law_draw" ["deck", "many"] spDraw)
    (C__law_number : Cal P w K mg base CX0 2 "_law_number" ["deck"] spNumber) (C__law_name : Cal P w K mg base CX0 2 "_law_name" ["deck"] spName) {k : Nat}
    (C__law_recipe : Cal P w K mg base CX0 (k + 3) "_law_recipe" ["deck", "deep", "left"] (spRecipe k)) : Cal P w K mg base CX0 (k + 4) "_law_recipe" ["deck", "deep", "left"] (spRecipe (k + 1)) := by
  refine D.cal sc__law_recipe (fun vs H Q E h => ?_) (fun f cdv A outer s H vs Q E hr h => ?_)
  · obtain ⟨B, d, l, deep, n, rfl, _⟩ := h
    rfl
  obtain ⟨B, d, l, deep, n, rfl, hD, hl, d1, dk, q⟩ := h
  refine ⟨_, (pss_cons (ps_asg (pe_op op_sub (pe_ix (r := rIxL K) ix_list (pv 2) pe_int (fun _ _ => rfl)) pe_int) (pg_sub (pv 2) pe_int set_list))
      (pss_cons (ps_set (i := 3) sc__law_recipe.nd rfl (Or.inl rfl) (pe_cal C__law_draw (hr.mono (by first | decide | omega)) pass0 (pa_cons (pv 0) (pa_cons pe_int pa_nil))))
      (pss_cons (ps_if (PW.pt (pw_or (pt_cmpR op_lt (pv 1) pe_int (nomark _)) (pw_or (pt_cmpR op_lt (pe_ix (r := rIxL K) ix_list (pv 2) pe_int (fun _ _ => rfl)) pe_int (nomark _)) (pw_or1 (pt_cmpR op_lt (pv 3) pe_int (nomark _))))))
        (pss_cons (ps_if (pt_cmpR op_eq (pe_cal C__law_draw (hr.mono (by first | decide | omega)) pass0 (pa_cons (pv 0) (pa_cons pe_int pa_nil))) pe_int (nomark _))
        (pss_one (ps_ret (pe_tup (pa_cons pe_str (pa_cons (pe_cal C__law_number (hr.mono (by first | decide | omega)) pass0 (pa_cons (pv 0) pa_nil)) pa_nil)))))
        pss_nil)
      (pss_one (ps_ret (pe_tup (pa_cons pe_str (pa_cons (pe_cal C__law_name (hr.mono (by first | decide | omega)) pass0 (pa_cons (pv 0) pa_nil)) pa_nil))))))
        pss_nil)
      (pss_cons (ps_set (i := 4) sc__law_recipe.nd rfl (Or.inl rfl) (pe_cal C__law_recipe (hr.mono (by first | decide | omega)) pass0 (pa_cons (pv 0) (pa_cons (pe_op op_sub (pv 1) pe_int) (pa_cons (pv 2) pa_nil)))))
      (pss_cons (ps_if (pt_cmpR op_lt (pv 3) pe_int (nomark _))
        (pss_cons (ps_set (i := 5) sc__law_recipe.nd rfl (Or.inl rfl) (pe_ix (r := rIxL K) ix_list (pe_lst (pa_cons pe_str (pa_cons pe_str (pa_cons pe_str (pa_cons pe_str (pa_cons pe_str pa_nil)))))) (pe_op op_sub (pv 3) pe_int) (fun _ _ => rfl)))
      (pss_one (ps_ret (pe_tup (pa_cons (pv 5) (pa_cons (pv 4) (pa_cons (pe_cal C__law_recipe (hr.mono (by first | decide | omega)) pass0 (pa_cons (pv 0) (pa_cons (pe_op op_sub (pv 1) pe_int) (pa_cons (pv 2) pa_nil)))) pa_nil)))))))
        pss_nil)
      (pss_cons (ps_if (pt_cmpR op_eq (pv 3) pe_int (nomark _))
        (pss_cons (ps_set (i := 6) sc__law_recipe.nd rfl (Or.inl rfl) (pe_cal C__law_recipe (hr.mono (by first | decide | omega)) pass0 (pa_cons (pv 0) (pa_cons (pe_op op_sub (pv 1) pe_int) (pa_cons (pv 2) pa_nil)))))
      (pss_one (ps_ret (pe_tup (pa_cons pe_str (pa_cons (pv 4) (pa_cons (pv 6) (pa_cons (pe_cal C__law_recipe (hr.mono (by first | decide | omega)) pass0 (pa_cons (pv 0) (pa_cons (pe_op op_sub (pv 1) pe_int) (pa_cons (pv 2) pa_nil)))) pa_nil))))))))
        pss_nil)
      (pss_one (ps_ret (pe_tup (pa_cons pe_str (pa_cons (pv 4) (pa_cons (pe_callTy call_tuple_of (by rfl) T.b_tuple (by decide +kernel) (pa_cons (pe_lc (own := [("k", 7)]) (g := gName 7)  (by rfl) sc__law_recipe.nd  (pi_range1 rfl T.b_range (pa_cons (pe_op op_add pe_int (pe_cal C__law_draw (hr.mono (by first | decide | omega)) pass0 (pa_cons (pv 0) (pa_cons pe_int pa_nil)))) pa_nil)) (blkOk_by (own := [("k", 7)]) (N := N__law_recipe) (sc := defScope s__law_recipe) (by decide +kernel)) (fun _ _ _ _ _ => (pg_name (i := 7) sc__law_recipe.nd rfl (Or.inl rfl))) (fun _ _ _ _ _ => pts_nil) (fun _ _ _ _ _ => (pe_cal C__law_name (hr.mono (by first | decide | omega)) pass0 (pa_cons (pv 0) pa_nil)))) pa_nil)) pa_nil)))))))))))), ?_⟩
  -- left[0] = left[0] - 1
  refine ⟨_, rfl, l, _, _, _, rfl, rfl, SqL.of (hD.1 _ _ hl), rfl, _, _, rfl, rfl, _, rfl, l, _, _, _, rfl, rfl, hD.1 _ _ hl, rfl, ?_⟩
  have hD1 : DeckAt (upd B l (.lst [.int (n - 1)])) (upd H l (.lst [.int (n - 1)])) d := hD.put hl _
  have hl1 : upd B l (.lst [.int (n - 1)]) l = some (.lst [.int (n - 1)]) := upd_same
  have hb1 : ∀ b o, b ≠ l → B b = some o → upd B l (.lst [.int (n - 1)]) b = some o := fun b o z e => by rw [upd_ne z]; exact e
  -- kind = _law_draw(deck, 10)
  refine ⟨_, rfl, _, d, 10, rfl, hD1, by decide, by decide, fun H2 kind hD2 k0 k10 => ?_⟩
  refine ⟨_, rfl, _, _, rfl, rfl, _, rfl, ite2 (fun c1 => ?leaf1) (fun c1 => ⟨_, rfl, l, _, _, _, rfl, rfl, SqL.of (hD2.1 _ _ hl1), rfl, _, _, rfl, rfl, _, rfl, ite2 (fun c2 => ?leaf2) (fun c2 => ⟨_, rfl, _, _, rfl, rfl, _, rfl, ite2 (fun c3 => ?leaf3) (fun c3 => ?main)⟩)⟩)⟩
  case main =>
    have hdeep : 2 ≤ deep := by
      have : ¬ deep < 2 := fun z => c1 (decide_eq_true z)
      omega
    have hn1 : 1 ≤ n - 1 := by
      have : ¬ n - 1 < 1 := fun z => c2 (decide_eq_true z)
      omega
    have hk2 : 2 ≤ kind := by
      have : ¬ kind < 2 := fun z => c3 (decide_eq_true z)
      omega
    -- one = _law_recipe(deck, deep - 1, left)
    refine ⟨_, rfl, _, rfl, _, _, rfl, rfl, _, rfl, _, d, l, deep - 1, n - 1, rfl, hD2, hl1, by omega, by omega, fun B3 H3 n3 v3 r3 hb3 hl3 hD3 rr3 g3 dp3 sz3 mn3 => ?_⟩
    refine ⟨_, rfl, _, _, rfl, rfl, _, rfl, ite2 (fun c4 => ?_) (fun c4 => ?_)⟩
    · have hk7 : kind < 7 := of_decide_eq_true c4
      obtain ⟨kd, hkd⟩ := kind_is (n := kind - 2) (by omega) (by omega)
      refine ⟨le_line (Nat.le_of_ble_eq_true rfl), fun p np => ⟨_, rfl, _, _, rfl, rfl, p, _, _, _, rfl, rfl, SqL.of upd_same, hkd, ?_⟩⟩
      have hD3' := hD3.new np (.lst [.str "plus", .str "minus", .str "times", .str "most", .str "plus"])
      have lp : l ≠ p := ne_of_none (hD3.1 _ _ hl3) np
      have np' : B3 p = none := hD3.free np
      refine ⟨_, rfl, _, rfl, _, rfl, _, rfl, _, _, rfl, rfl, _, rfl, _, d, l, deep - 1, n3, rfl, hD3', by rw [upd_ne lp]; exact hl3, by omega, by omega, fun B4 H4 n4 v4 r4 hb4 hl4 hD4 rr4 g4 dp4 sz4 mn4 => ?_⟩
      refine ⟨le_line (Nat.le_of_ble_eq_true rfl), fun t nt => ?_⟩
      have nt' : B4 t = none := hD4.free nt
      have hpl : upd B3 p (.lst [.str "plus", .str "minus", .str "times", .str "most", .str "plus"]) l = some (.lst [.int n3]) := by rw [upd_ne lp]; exact hl3
      have tl : l ≠ t := ne_of_none hl4 nt'
      have k4 : Keep B4 (upd B4 t (.tup [.str kd.name, v3, v4])) := same_keep (same_new nt' _)
      refine q _ _ n4 (.ref t) (.two kd r3 r4) (fun b o z e => ?_) (by rw [upd_ne tl]; exact hl4) (hD4.new nt _) ⟨t, v3, v4, rfl, upd_same, ?_, rr4.keep k4⟩ ⟨g3, g4⟩ ?_ ?_ ?_
      · have e4 := hb4 b o z (same_new np' _ b o (hb3 b o z (hb1 b o z e)))
        rw [upd_ne (ne_of_none e4 nt')]
        exact e4
      · exact rr3.keep (((same_keep (same_new np' _)).trans (keep_but hpl hb4)).trans k4)
      · show ((max r3.dep r4.dep + 1 : Nat) : Int) ≤ deep
        omega
      · show ((r3.siz + r4.siz + 1 : Nat) : Int) = n - n4
        omega
      · omega
    · have hk7 : 7 ≤ kind := by
        have : ¬ kind < 7 := fun z => c4 (decide_eq_true z)
        omega
      refine ⟨_, rfl, rfl, _, rfl, ite2 (fun c5 => ?_) (fun c5 => ?_)⟩
      · refine ⟨_, rfl, _, rfl, _, _, rfl, rfl, _, rfl, _, d, l, deep - 1, n3, rfl, hD3, hl3, by omega, by omega, fun B4 H4 n4 v4 r4 hb4 hl4 hD4 rr4 g4 dp4 sz4 mn4 => ?_⟩
        refine ⟨_, rfl, _, rfl, _, rfl, _, rfl, _, _, rfl, rfl, _, rfl, _, d, l, deep - 1, n4, rfl, hD4, hl4, by omega, by omega, fun B5 H5 n5 v5 r5 hb5 hl5 hD5 rr5 g5 dp5 sz5 mn5 => ?_⟩
        refine ⟨le_line (Nat.le_of_ble_eq_true rfl), fun t nt => ?_⟩
        have nt' : B5 t = none := hD5.free nt
        have tl : l ≠ t := ne_of_none hl5 nt'
        have k5 : Keep B5 (upd B5 t (.tup [.str "pick", v3, v4, v5])) := same_keep (same_new nt' _)
        refine q _ _ n5 (.ref t) (.pick r3 r4 r5) (fun b o z e => ?_) (by rw [upd_ne tl]; exact hl5) (hD5.new nt _) ⟨t, v3, v4, v5, rfl, upd_same, ?_, ?_, rr5.keep k5⟩ ⟨g3, g4, g5⟩ ?_ ?_ ?_
        · have e4 := hb5 b o z (hb4 b o z (hb3 b o z (hb1 b o z e)))
          rw [upd_ne (ne_of_none e4 nt')]
          exact e4
        · exact rr3.keep (((keep_but hl3 hb4).trans (keep_but hl4 hb5)).trans k5)
        · exact rr4.keep ((keep_but hl4 hb5).trans k5)
        · show ((max r3.dep (max r4.dep r5.dep) + 1 : Nat) : Int) ≤ deep
          omega
        · show ((r3.siz + r4.siz + r5.siz + 1 : Nat) : Int) = n - n5
          omega
        · omega
      · refine ⟨_, rfl, _, rfl, B3, d, 9, rfl, hD3, by decide, by decide, fun H4 m hD4 m0 m9 => ⟨_, _, rfl, rfl, 1 + m, rfl, Int.le_trans (by decide) (Int.add_nonneg (by decide) m0), by omega, ?_⟩⟩
        refine fun L nL => lc_range (lo := 0) (n := (1 + m).toNat) (fun i H => ∃ (B' : Hp) (ss : List (List Nat)), Same B3 B' ∧ DeckAt B' H d ∧ B' L = some (.lst (txs ss)) ∧ ss.length = i ∧ ∀ s ∈ ss, Nm s)
          ⟨_, [], same_new (hD4.free nL) _, hD4.new nL _, upd_same, rfl, by simp⟩ ?_ ?_
        · rintro i H5 hi ⟨B', ss, hB, hD5, hL, hn, hc⟩
          refine ⟨rfl, _, rfl, B', d, rfl, hD5, fun B6 H6 s hB6 hD6 hs => ⟨_, hD6.1 _ _ (hB6 _ _ hL), by rw [txs_len, hn]; exact lt_line (by omega), ?_⟩⟩
          refine ⟨upd B6 L _, ss ++ [s], fun b o e => ?_, hD6.put (hB6 _ _ hL) _, by rw [upd_same, txs_app]; rfl, by rw [List.length_append, hn]; rfl, fun c hcm => ?_⟩
          · have z : b ≠ L := fun z => by
              rw [z] at e
              rw [hD4.free nL] at e
              cases e
            rw [upd_ne z]
            exact hB6 b o (hB b o e)
          · rcases List.mem_append.mp hcm with h | h
            · exact hc c h
            · rw [List.mem_singleton.mp h]
              exact hs
        · rintro H5 ⟨B', ss, hB, hD5, hL, hn, hc⟩
          refine ⟨L, _, rfl, .inl ⟨SqL.of (hD5.1 _ _ hL), fun u nu => ⟨le_line (Nat.le_of_ble_eq_true rfl), fun t nt => ?_⟩⟩⟩
          have ut : u ≠ t := ne_of_none upd_same nt
          have nu' : B' u = none := hD5.free nu
          have hDu := hD5.new nu (.tup (txs ss))
          have nt' : upd B' u (.tup (txs ss)) t = none := hDu.free nt
          have hl' : B' l = some (.lst [.int n3]) := hB _ _ hl3
          have lu : l ≠ u := ne_of_none hl' nu'
          have hlu : upd B' u (.tup (txs ss)) l = some (.lst [.int n3]) := by rw [upd_ne lu]; exact hl'
          have tl : l ≠ t := ne_of_none hlu nt'
          refine q _ _ n3 (.ref t) (.choose r3 ss) (fun b o z e => ?_) (by rw [upd_ne tl]; exact hlu) (hDu.new nt _) ⟨t, v3, u, rfl, upd_same, ?_, by rw [upd_ne ut, upd_same]⟩ ⟨g3, by omega, by omega, hc⟩ ?_ ?_ ?_
          · exact same_new nt' _ b o (same_new nu' _ b o (hB b o (hb3 b o z (hb1 b o z e))))
          · exact rr3.same ((hB.trans (same_new nu' _)).trans (same_new nt' _))
          · show ((r3.dep + 1 : Nat) : Int) ≤ deep
            omega
          · show ((r3.siz + 1 : Nat) : Int) = n - n3
            omega
          · omega
  all_goals
    refine ⟨_, rfl, _, d, 2, rfl, hD2, by decide, by decide, fun H3 c hD3 _ _ => ⟨rfl, _, rfl, ite2 (fun _ => ?_) (fun _ => ?_)⟩⟩
    · refine ⟨_, rfl, _, d, rfl, hD3, fun H4 x hD4 hx => ⟨le_line (Nat.le_of_ble_eq_true rfl), fun t nt => ?_⟩⟩
      have nt' := hD4.free nt
      have tl : l ≠ t := ne_of_none hl1 nt'
      refine q _ _ (n - 1) (.ref t) (.num x) (fun b o z e => same_new nt' _ b o (hb1 b o z e)) (by rw [upd_ne tl]; exact hl1) (hD4.new nt _) ⟨t, rfl, upd_same⟩ hx ?_ ?_ ?_
      · show ((1 : Nat) : Int) ≤ deep
        omega
      · show ((1 : Nat) : Int) = n - (n - 1)
        omega
      · omega
    · refine ⟨_, rfl, _, d, rfl, hD3, fun B4 H4 x hB4 hD4 hx => ⟨le_line (Nat.le_of_ble_eq_true rfl), fun t nt => ?_⟩⟩
      have nt' := hD4.free nt
      have hl4 := hB4 _ _ hl1
      have tl : l ≠ t := ne_of_none hl4 nt'
      refine q _ _ (n - 1) (.ref t) (.read x) (fun b o z e => same_new nt' _ b o (hB4 b o (hb1 b o z e))) (by rw [upd_ne tl]; exact hl4) (hD4.new nt _) ⟨t, rfl, upd_same⟩ hx ?_ ?_ ?_
      · show ((1 : Nat) : Int) ≤ deep
        omega
      · show ((1 : Nat) : Int) = n - (n - 1)
        omega
      · omega
/-- of no depth none is asked -/
theorem cal_none {x : Str} {st : Stmt} {ps : List Str} {sp : Sp} {CX : CXT} {k : Nat} (D : IsDef K mg x st ps) (no : ∀ vs H Q E, ¬ sp vs H Q E) : Cal P w K mg base CX k x ps sp := by
  obtain ⟨f, fd, F, m, b⟩ := D
  exact ⟨f, fd, ⟨fun vs H Q E h => absurd h (no vs H Q E), fun A outer s H args us vs Q E _ _ _ _ h => absurd h (no vs H Q E)⟩, m, F.kp, b⟩
theorem all__law_recipe (T : Txt K mg) (D : IsDef K mg "_law_recipe" s__law_recipe ["deck", "deep", "left"]) (C__law_draw : Cal P w K mg base CX0 1 "_law_draw" ["deck", "many"] spDraw)
    (C__law_number : Cal P w K mg base CX0 2 "_law_number" ["deck"] spNumber) (C__law_name : Cal P w K mg base CX0 2 "_law_name" ["deck"] spName) :
    ∀ k : Nat, Cal P w K mg base CX0 (k + 3) "_law_recipe" ["deck", "deep", "left"] (spRecipe k)
  | 0 => cal_none D fun vs H Q E h => by
    obtain ⟨B, d, l, deep, n, _, _, _, h1, h2, _⟩ := h
    omega
  | k + 1 => ok__law_recipe T D C__law_draw C__law_number C__law_name (all__law_recipe T D C__law_draw C__law_number C__law_name k)
end
/-! ### texts of recipes -/
def Kd.sign : Kd → Nat
  | .plus => 43 | .minus => 45 | .times => 42 | .most => 94
def Kd.signS : Kd → Str
  | .plus => " + " | .minus => " - " | .times => " * " | .most => " ^ "
def intL (n : Int) : List Nat := (Str.ofString (toString n)).cps.toList
theorem intL_S (n : Int) : Str.ofString (toString n) = SX.S (intL n) := (SX.S_tl _).symm
def Rcp.txt : Rcp → List Nat
  | .num n => intL n
  | .read s => s
  | .two k a b => 40 :: (a.txt ++ (32 :: k.sign :: 32 :: (b.txt ++ [41])))
  | .pick a b c => 91 :: (a.txt ++ (32 :: 63 :: 32 :: (b.txt ++ (32 :: 58 :: 32 :: (c.txt ++ [93])))))
  | .choose a ns => a.txt ++ (123 :: (TL.joinL [44] ns ++ [125]))
theorem intL_len {n : Int} (h : n.natAbs < 10 ^ 40) : (intL n).length ≤ 41 := by
  have z : ∀ m : Int, 0 ≤ m → m.natAbs < 10 ^ 40 → (Str.ofString (toString m)).length ≤ 40 := fun m m0 hm => by
    refine PyProof.Rows.toString_length_le m0 (by decide) ?_
    have e : (m.natAbs : Int) = m := Int.natAbs_of_nonneg m0
    rw [← e]
    exact Int.ofNat_lt.mpr hm
  have e : (intL n).length = (Str.ofString (toString n)).length := by
    rw [intL_S n, SX.S_len]
  rw [e]
  by_cases h0 : 0 ≤ n
  · exact Nat.le_succ_of_le (z n h0 h)
  · rw [PyProof.Rows.len_text_neg (by omega)]
    have := z (0 - n) (by omega) (by rw [show (0 - n).natAbs = n.natAbs by omega]; exact h)
    omega
theorem joinL_len : ∀ {ns : List (List Nat)} (m : Nat), (∀ s ∈ ns, s.length ≤ m) → (TL.joinL [44] ns).length ≤ (m + 1) * ns.length
  | [], _, _ => Nat.zero_le _
  | [p], m, h => by
    have := h p (by simp)
    show p.length ≤ _
    simp; omega
  | p :: q :: r, m, h => by
    have h1 := h p (by simp)
    have h2 := joinL_len (ns := q :: r) m fun s hs => h s (List.mem_cons_of_mem _ hs)
    have e : (TL.joinL [44] (p :: q :: r)).length = p.length + (1 + (TL.joinL [44] (q :: r)).length) := by
      show (p ++ ([44] ++ TL.joinL [44] (q :: r))).length = _
      rw [List.length_append, List.length_append]
      rfl
    have e2 : (m + 1) * (p :: q :: r).length = (m + 1) * (q :: r).length + (m + 1) := Nat.mul_succ _ _
    rw [e, e2]
    omega
theorem names_len {ns : List (List Nat)} (h : Nms ns) : (TL.joinL [44] ns).length ≤ 81 := by
  have := joinL_len 8 fun s hs => (h.2.2 s hs).2.1
  have := h.2.1
  omega
theorem names_sum : ∀ {ns : List (List Nat)}, (∀ s ∈ ns, Nm s) → ((ns.map SX.S).map (·.length)).sum ≤ 8 * ns.length
  | [], _ => Nat.zero_le _
  | p :: r, h => by
    have h1 := (h p (by simp)).2.1
    have h2 := names_sum (ns := r) fun s hs => h s (List.mem_cons_of_mem _ hs)
    rw [List.map_cons, List.map_cons, List.sum_cons, SX.S_len, List.length_cons]
    omega
theorem txt_len : ∀ {r : Rcp}, r.Good → r.txt.length ≤ 100 * r.siz
  | .num n, h => by
    have := intL_len h
    show (intL n).length ≤ 100
    omega
  | .read s, h => by
    have := h.2.1
    show s.length ≤ 100
    omega
  | .two k a b, h => by
    have h1 := txt_len h.1
    have h2 := txt_len h.2
    simp only [Rcp.txt, Rcp.siz, List.length_cons, List.length_append, List.length_nil]
    omega
  | .pick a b c, h => by
    have h1 := txt_len h.1
    have h2 := txt_len h.2.1
    have h3 := txt_len h.2.2
    simp only [Rcp.txt, Rcp.siz, List.length_cons, List.length_append, List.length_nil]
    omega
  | .choose a ns, h => by
    have h1 := txt_len h.1
    have h2 := names_len h.2
    simp only [Rcp.txt, Rcp.siz, List.length_cons, List.length_append, List.length_nil]
    omega
theorem q_open : ("(" : Str) = SX.S [40] := by decide +kernel
theorem q_close : (")" : Str) = SX.S [41] := by decide +kernel
theorem q_lb : ("[" : Str) = SX.S [91] := by decide +kernel
theorem q_rb : ("]" : Str) = SX.S [93] := by decide +kernel
theorem q_lc : ("{" : Str) = SX.S [123] := by decide +kernel
theorem q_rc : ("}" : Str) = SX.S [125] := by decide +kernel
theorem q_ask : (" ? " : Str) = SX.S [32, 63, 32] := by decide +kernel
theorem q_col : (" : " : Str) = SX.S [32, 58, 32] := by decide +kernel
theorem q_blank : (" " : Str) = SX.S [32] := by decide +kernel
theorem q_comma : ("," : Str) = SX.S [44] := by decide +kernel
theorem q_sign (k : Kd) : k.signS = SX.S [32, k.sign, 32] := by cases k <;> decide +kernel
theorem kn_num (k : Kd) : ¬ V.str k.name = V.str "number" := by cases k <;> decide +kernel
theorem kn_read (k : Kd) : ¬ V.str k.name = V.str "read" := by cases k <;> decide +kernel
theorem kn_pick (k : Kd) : ¬ V.str k.name = V.str "pick" := by cases k <;> decide +kernel
theorem kn_choose (k : Kd) : ¬ V.str k.name = V.str "choose" := by cases k <;> decide +kernel
theorem log_small {n : Int} (h : n.natAbs < 10 ^ 40) : n.natAbs.log2 < 1920 := by
  by_cases z : n.natAbs = 0
  · rw [z]; decide
  · exact (Nat.log2_lt z).mpr (Nat.lt_trans h (by decide +kernel))
/-! ### rows of recipes -/
def Recs (H : Hp) : List Rcp → List V → Prop
  | [], [] => True
  | r :: rs, v :: vs => Rec H r v ∧ Recs H rs vs
  | _, _ => False
theorem Recs.keep {H H' : Hp} (k : Keep H H') : ∀ {rs : List Rcp} {vs : List V}, Recs H rs vs → Recs H' rs vs
  | [], [], _ => trivial
  | _ :: _, _ :: _, h => ⟨h.1.keep k, Recs.keep k h.2⟩
  | [], _ :: _, h => h.elim
  | _ :: _, [], h => h.elim
theorem Recs.len {H : Hp} : ∀ {rs : List Rcp} {vs : List V}, Recs H rs vs → vs.length = rs.length
  | [], [], _ => rfl
  | _ :: _, _ :: _, h => congrArg (· + 1) (Recs.len h.2)
  | [], _ :: _, h => h.elim
  | _ :: _, [], h => h.elim
theorem Recs.snoc {H : Hp} {r : Rcp} {v : V} (hr : Rec H r v) : ∀ {rs : List Rcp} {vs : List V}, Recs H rs vs → Recs H (rs ++ [r]) (vs ++ [v])
  | [], [], _ => ⟨hr, trivial⟩
  | _ :: _, _ :: _, h => ⟨h.1, Recs.snoc hr h.2⟩
  | [], _ :: _, h => h.elim
  | _ :: _, [], h => h.elim
theorem Recs.at {H : Hp} : ∀ {rs : List Rcp} {vs : List V} {i : Nat} {v : V}, Recs H rs vs → vs[i]? = some v → ∃ r, rs[i]? = some r ∧ Rec H r v
  | [], [], i, v, _, e => by simp at e
  | r :: _, _ :: _, 0, v, h, e => ⟨r, rfl, by cases e; exact h.1⟩
  | _ :: _, _ :: _, i + 1, v, h, e => Recs.at (i := i) h.2 (by simpa using e)
  | [], _ :: _, _, _, h, _ => h.elim
  | _ :: _, [], _, _, h, _ => h.elim
theorem Recs.get {H : Hp} {rs : List Rcp} {vs : List V} {i : Nat} (h : Recs H rs vs) (hi : i < rs.length) : ∃ v r, vs[i]? = some v ∧ rs[i]? = some r ∧ Rec H r v := by
  have hv : i < vs.length := by rw [h.len]; exact hi
  obtain ⟨r, e, hr⟩ := h.at (List.getElem?_eq_getElem hv)
  exact ⟨_, r, List.getElem?_eq_getElem hv, e, hr⟩
/-- a comprehension over a range with a step -/
theorem lcC {lo c : Int} {n : Nat} {g : TG} {tt : TT} {te : TE} {vs : List Nat} {σ : L2.St} {H1 : Hp} {D : Addr} {Qd : Hp → Prop} (Pv : Nat → Hp → Prop)
    (h0 : Pv 0 (upd H1 D (.lst [])))
    (hs : ∀ i H, i < n → Pv i H → g (.int (lo + (i : Nat) * c)) (wipe σ vs) H
      fun σ2 H2 => wipe σ2 vs = wipe σ vs ∧ tt σ2 H2
        fun b H3 => if b = true then te σ2 H3
          fun y H4 => ∃ acc, H4 D = some (.lst acc) ∧ acc.length < sizeLine ∧ Pv (i + 1) (upd H4 D (.lst (acc ++ [y])))
        else Pv (i + 1) H3)
    (hd : ∀ H, Pv n H → Qd H) :
    ∃ W : Nat → Nat → Hp → Prop, (∃ m, W 0 m (upd H1 D (.lst []))) ∧
      ∀ i m H, W i m H → ((Itc lo c n).stop i H ∧ Qd H) ∨ ((Itc lo c n).go i H ∧
        ∃ Nx : Hp → Prop, (∀ H', Nx H' → ∃ m', m' < m ∧ W (i + 1) m' H') ∧
          ∀ x H', (Itc lo c n).yld i H x H' → g x (wipe σ vs) H'
            fun σ2 H2 => wipe σ2 vs = wipe σ vs ∧ tt σ2 H2
              fun b H3 => if b = true then te σ2 H3
                fun y H4 => ∃ acc, H4 D = some (.lst acc) ∧ acc.length < sizeLine ∧ Nx (upd H4 D (.lst (acc ++ [y])))
              else Nx H3) := by
  refine ⟨fun i m H => m = n - i ∧ i ≤ n ∧ Pv i H, ⟨n, rfl, Nat.zero_le _, h0⟩, fun i m H w => ?_⟩
  obtain ⟨em, hi, p⟩ := w
  by_cases hlt : i < n
  · refine Or.inr ⟨hlt, Pv (i + 1), fun H' p' => ⟨n - (i + 1), by omega, rfl, hlt, p'⟩, fun x H' y => ?_⟩
    obtain ⟨e1, e2⟩ := y
    rw [e1, e2]
    exact hs i H hlt p
  · have e : i = n := by omega
    rw [e] at p
    exact Or.inl ⟨by show n ≤ i; omega, hd H p⟩
theorem cut_nat (xs : List V) {a b : Nat} (h : a ≤ b) : cutV xs (some (a : Int)) (some (b : Int)) = (xs.drop a).take (b - a) := by
  show (xs.drop (HT.sIx xs.length 0 (some (a : Int)))).take (HT.sIx xs.length xs.length (some (b : Int)) - HT.sIx xs.length 0 (some (a : Int))) = _
  rw [HT.sIx_nat, HT.sIx_nat]
  by_cases ha : a ≤ xs.length
  · rw [Nat.min_eq_left ha]
    by_cases hb : b ≤ xs.length
    · rw [Nat.min_eq_left hb]
    · rw [Nat.min_eq_right (by omega), List.take_of_length_le (by rw [List.length_drop]; omega), List.take_of_length_le (by rw [List.length_drop]; omega)]
  · have e1 : min a xs.length = xs.length := by omega
    rw [e1, List.drop_eq_nil_of_le (Nat.le_refl _), List.drop_eq_nil_of_le (by omega), List.take_nil, List.take_nil]
theorem cut_to (xs : List V) (b : Nat) : cutV xs none (some (b : Int)) = xs.take b := by
  show (xs.drop (HT.sIx xs.length 0 none)).take (HT.sIx xs.length xs.length (some (b : Int)) - HT.sIx xs.length 0 none) = _
  rw [HT.sIx_none, HT.sIx_nat, List.drop_zero, Nat.sub_zero]
  by_cases hb : b ≤ xs.length
  · rw [Nat.min_eq_left hb]
  · rw [Nat.min_eq_right (by omega), List.take_of_length_le (Nat.le_refl _), List.take_of_length_le (by omega)]
def spShow (k : Nat) : Sp := fun vs H Q _ => ∃ (v : V) (r : Rcp), vs = [v] ∧ Rec H r v ∧ r.Good ∧ r.dep ≤ k ∧ r.siz ≤ 1000 ∧ Q (.str (SX.S r.txt)) H
section
variable {P : Program} {w : World} {K : PySem.W.Frag} {mg : Str → Option Value} {base : Heap}
abbrev s_show_recipe : Stmt := topS 2
abbrev N_show_recipe : List Str := ["r", "kind"]
theorem sc_show_recipe : FnScope N_show_recipe ["r"] (defScope s_show_recipe) := ⟨rfl, rfl, rfl, by decide +kernel, rfl, by decide +kernel, by decide +kernel⟩

theorem ok_show_recipe {sg : Addr} (T : Txt K mg) (g_SIGNS : mg "SIGNS" = some (.ref sg)) (hsg : ∀ k : Kd, KDct K w sg k.name (.str k.signS)) (D : IsDef K mg "show_recipe" s_show_recipe ["r"]) {k : Nat}
    (C_show_recipe : Cal P w K mg base CX0 k "show_recipe" ["r"] (spShow k)) : Cal P w K mg base CX0 (k + 1) "show_recipe" ["r"] (spShow (k + 1)) := by
  refine D.cal sc_show_recipe (fun vs H Q E h => ?_) (fun f cdv A outer s H vs Q E hr h => ?_)
  · obtain ⟨v, r, rfl, _⟩ := h
    rfl
  obtain ⟨v, r, rfl, hR, hG, hd, hz, q⟩ := h
  refine ⟨_, (pss_cons (ps_set (i := 1) sc_show_recipe.nd rfl (Or.inl rfl) (pe_ix (r := rIxT K) ix_tup (pv 0) pe_int (fun _ _ => rfl)))
      (pss_cons (ps_if (pt_cmpR op_eq (pv 1) pe_str (nomark _))
        (pss_one (ps_ret (pe_callTy call_str_int (by rfl) T.b_str (by decide +kernel) (pa_cons (pe_ix (r := rIxT K) ix_tup (pv 0) pe_int (fun _ _ => rfl)) pa_nil))))
        pss_nil)
      (pss_cons (ps_if (pt_cmpR op_eq (pv 1) pe_str (nomark _))
        (pss_one (ps_ret (pe_ix (r := rIxT K) ix_tup (pv 0) pe_int (fun _ _ => rfl))))
        pss_nil)
      (pss_cons (ps_if (pt_cmpR op_eq (pv 1) pe_str (nomark _))
        (pss_one (ps_ret (pe_op op_add_str (pe_op op_add_str (pe_op op_add_str (pe_op op_add_str (pe_op op_add_str (pe_op op_add_str pe_str (pe_cal C_show_recipe (hr.mono (by first | decide | omega)) pass0 (pa_cons (pe_ix (r := rIxT K) ix_tup (pv 0) pe_int (fun _ _ => rfl)) pa_nil))) pe_str) (pe_cal C_show_recipe (hr.mono (by first | decide | omega)) pass0 (pa_cons (pe_ix (r := rIxT K) ix_tup (pv 0) pe_int (fun _ _ => rfl)) pa_nil))) pe_str) (pe_cal C_show_recipe (hr.mono (by first | decide | omega)) pass0 (pa_cons (pe_ix (r := rIxT K) ix_tup (pv 0) pe_int (fun _ _ => rfl)) pa_nil))) pe_str)))
        pss_nil)
      (pss_cons (ps_if (pt_cmpR op_eq (pv 1) pe_str (nomark _))
        (pss_one (ps_ret (pe_op op_add_str (pe_op op_add_str (pe_op op_add_str (pe_cal C_show_recipe (hr.mono (by first | decide | omega)) pass0 (pa_cons (pe_ix (r := rIxT K) ix_tup (pv 0) pe_int (fun _ _ => rfl)) pa_nil)) pe_str) (pe_join pe_str (pe_ix (r := rIxT K) ix_tup (pv 0) pe_int (fun _ _ => rfl)))) pe_str)))
        pss_nil)
      (pss_one (ps_ret (pe_op op_add_str (pe_op op_add_str (pe_op op_add_str (pe_op op_add_str pe_str (pe_cal C_show_recipe (hr.mono (by first | decide | omega)) pass0 (pa_cons (pe_ix (r := rIxT K) ix_tup (pv 0) pe_int (fun _ _ => rfl)) pa_nil))) (pe_ix (r := rIxD K w) ix_kdict (pe_glob (v := .ref _) rfl g_SIGNS rfl) (pv 1) (fun _ _ => rfl))) (pe_cal C_show_recipe (hr.mono (by first | decide | omega)) pass0 (pa_cons (pe_ix (r := rIxT K) ix_tup (pv 0) pe_int (fun _ _ => rfl)) pa_nil))) pe_str)))))))), ?_⟩
  cases r with
  | num n =>
    obtain ⟨p, rfl, hp⟩ := hR
    refine ⟨_, rfl, p, _, _, _, rfl, rfl, SqT.of hp, rfl, _, rfl, rfl, _, rfl, iteY rfl ?_⟩
    refine ⟨_, rfl, p, _, _, _, rfl, rfl, SqT.of hp, rfl, n, rfl, log_small hG, ?_⟩
    rw [intL_S]
    exact q
  | read s =>
    obtain ⟨p, rfl, hp⟩ := hR
    refine ⟨_, rfl, p, _, _, _, rfl, rfl, SqT.of hp, rfl, _, rfl, rfl, _, rfl, iteN (by decide +kernel) ?_⟩
    refine ⟨_, rfl, rfl, _, rfl, iteY rfl ?_⟩
    exact ⟨_, rfl, p, _, _, _, rfl, rfl, SqT.of hp, rfl, q⟩
  | two kd a b =>
    obtain ⟨p, x, y, rfl, hp, ra, rb⟩ := hR
    have da : a.dep ≤ k ∧ b.dep ≤ k := by
      have : max a.dep b.dep + 1 ≤ k + 1 := hd
      omega
    have za : a.siz ≤ 1000 ∧ b.siz ≤ 1000 := by
      have : a.siz + b.siz + 1 ≤ 1000 := hz
      omega
    have la := txt_len hG.1
    have lb := txt_len hG.2
    refine ⟨_, rfl, p, _, _, _, rfl, rfl, SqT.of hp, rfl, _, rfl, rfl, _, rfl, iteN (kn_num kd) ?_⟩
    refine ⟨_, rfl, rfl, _, rfl, iteN (kn_read kd) ?_⟩
    refine ⟨_, rfl, rfl, _, rfl, iteN (kn_pick kd) ?_⟩
    refine ⟨_, rfl, rfl, _, rfl, iteN (kn_choose kd) ?_⟩
    refine ⟨_, rfl, p, _, _, _, rfl, rfl, SqT.of hp, rfl, x, a, rfl, ra, hG.1, da.1, za.1, _, _, rfl, rfl, ?_, _, rfl, sg, _, _, rfl, rfl, hsg kd, _, _, rfl, rfl, ?_,
      _, rfl, p, _, _, _, rfl, rfl, SqT.of hp, rfl, y, b, rfl, rb, hG.2, da.2, za.2, _, _, rfl, rfl, ?_, _, _, rfl, rfl, ?_, ?_⟩
    case refine_5 =>
      rw [q_open, q_close, q_sign, SX.S_cat, SX.S_cat, SX.S_cat, SX.S_cat]
      have e : ([40] ++ a.txt ++ [32, kd.sign, 32] ++ b.txt ++ [41]) = (Rcp.two kd a b).txt := by simp [Rcp.txt]
      rw [e]
      exact q
    all_goals
      simp only [q_open, q_close, q_sign, SX.S_cat, SX.S_len, List.length_append, List.length_cons, List.length_nil]
      exact le_line (by omega)
  | pick a b c =>
    obtain ⟨p, x, y, z, rfl, hp, ra, rb, rc⟩ := hR
    have da : a.dep ≤ k ∧ b.dep ≤ k ∧ c.dep ≤ k := by
      have : max a.dep (max b.dep c.dep) + 1 ≤ k + 1 := hd
      omega
    have za : a.siz ≤ 1000 ∧ b.siz ≤ 1000 ∧ c.siz ≤ 1000 := by
      have : a.siz + b.siz + c.siz + 1 ≤ 1000 := hz
      omega
    have la := txt_len hG.1
    have lb := txt_len hG.2.1
    have lc := txt_len hG.2.2
    refine ⟨_, rfl, p, _, _, _, rfl, rfl, SqT.of hp, rfl, _, rfl, rfl, _, rfl, iteN (by decide +kernel) ?_⟩
    refine ⟨_, rfl, rfl, _, rfl, iteN (by decide +kernel) ?_⟩
    refine ⟨_, rfl, rfl, _, rfl, iteY rfl ?_⟩
    refine ⟨_, rfl, p, _, _, _, rfl, rfl, SqT.of hp, rfl, x, a, rfl, ra, hG.1, da.1, za.1, _, _, rfl, rfl, ?_, _, _, rfl, rfl, ?_,
      _, rfl, p, _, _, _, rfl, rfl, SqT.of hp, rfl, y, b, rfl, rb, hG.2.1, da.2.1, za.2.1, _, _, rfl, rfl, ?_, _, _, rfl, rfl, ?_,
      _, rfl, p, _, _, _, rfl, rfl, SqT.of hp, rfl, z, c, rfl, rc, hG.2.2, da.2.2, za.2.2, _, _, rfl, rfl, ?_, _, _, rfl, rfl, ?_, ?_⟩
    case refine_7 =>
      rw [q_lb, q_rb, q_ask, q_col, SX.S_cat, SX.S_cat, SX.S_cat, SX.S_cat, SX.S_cat, SX.S_cat]
      have e : ([91] ++ a.txt ++ [32, 63, 32] ++ b.txt ++ [32, 58, 32] ++ c.txt ++ [93]) = (Rcp.pick a b c).txt := by simp [Rcp.txt]
      rw [e]
      exact q
    all_goals
      simp only [q_lb, q_rb, q_ask, q_col, SX.S_cat, SX.S_len, List.length_append, List.length_cons, List.length_nil]
      exact le_line (by omega)
  | choose a ns =>
    obtain ⟨p, x, qa, rfl, hp, ra, hq⟩ := hR
    have da : a.dep ≤ k := by
      have : a.dep + 1 ≤ k + 1 := hd
      omega
    have za : a.siz ≤ 1000 := by
      have : a.siz + 1 ≤ 1000 := hz
      omega
    have la := txt_len hG.1
    have ln := names_len hG.2
    have l9 := hG.2.2.1
    have ls := names_sum hG.2.2.2
    refine ⟨_, rfl, p, _, _, _, rfl, rfl, SqT.of hp, rfl, _, rfl, rfl, _, rfl, iteN (by decide +kernel) ?_⟩
    refine ⟨_, rfl, rfl, _, rfl, iteN (by decide +kernel) ?_⟩
    refine ⟨_, rfl, rfl, _, rfl, iteN (by decide +kernel) ?_⟩
    refine ⟨_, rfl, rfl, _, rfl, iteY rfl ?_⟩
    refine ⟨_, rfl, p, _, _, _, rfl, rfl, SqT.of hp, rfl, x, a, rfl, ra, hG.1, da, za, _, _, rfl, rfl, ?_, ⟨_, rfl⟩, _, rfl, p, _, _, _, rfl, rfl, SqT.of hp, rfl, _, qa, ns.map SX.S, rfl, rfl, .inr (SqT.of hq), ?_, _, _, rfl, rfl, ?_, _, _, rfl, rfl, ?_, ?_⟩
    case refine_5 =>
      rw [q_lc, q_rc, q_comma, SX.join_S, SX.S_cat, SX.S_cat, SX.S_cat]
      have e : (a.txt ++ [123] ++ TL.joinL [44] ns ++ [125]) = (Rcp.choose a ns).txt := by simp [Rcp.txt]
      rw [e]
      exact q
    case refine_2 =>
      rw [q_comma, SX.S_len, List.length_map]
      show _ + ns.length * 1 ≤ _
      omega
    all_goals
      simp only [q_lc, q_rc, q_comma, SX.join_S, SX.S_cat, SX.S_len, List.length_append, List.length_cons, List.length_nil]
      exact le_line (by omega)
theorem all_show_recipe {sg : Addr} (T : Txt K mg) (g_SIGNS : mg "SIGNS" = some (.ref sg)) (hsg : ∀ k : Kd, KDct K w sg k.name (.str k.signS)) (D : IsDef K mg "show_recipe" s_show_recipe ["r"]) :
    ∀ k : Nat, Cal P w K mg base CX0 k "show_recipe" ["r"] (spShow k)
  | 0 => cal_none D fun vs H Q E h => by
    obtain ⟨v, r, _, _, _, h1, _⟩ := h
    have := dep_pos r
    omega
  | k + 1 => ok_show_recipe T g_SIGNS hsg D (all_show_recipe T g_SIGNS hsg D k)
end
def spText (k : Nat) : Sp := fun vs H Q _ => ∃ (v : V) (r : Rcp), vs = [v] ∧ Rec H r v ∧ r.Good ∧ r.dep ≤ k ∧ r.siz ≤ 1000 ∧ ∀ H', Same H H' → Q (.str (SX.S r.txt)) H'
def spBoth (K : PySem.W.Frag) : Sp := fun vs H Q _ => ∃ (a : Addr) (c : Int) (xs : List V), vs = [.ref a, .int c] ∧ SqL K H a xs ∧
  ((∃ x, xs = [x] ∧ Q x H) ∨ (∃ x y, xs = [x, y] ∧ ∀ (H' : Hp) (kd : Kd) (t : Addr), Same H H' → H' t = some (.tup [.str kd.name, x, y]) → Q (.ref t) H'))
def spLong : Sp := fun vs H Q _ => ∃ (c : Int), vs = [.int c] ∧ ∀ (H' : Hp) (v : V) (r : Rcp), Same H H' → Rec H' r v → r.Good → r.dep ≤ 8 → r.siz ≤ 100 → Q v H'
def kd4 : List (Str × Str) := [("plus", "+"), ("minus", "-"), ("times", "*"), ("most", "^")]
def Kd.sgn : Kd → Str
  | .plus => "+" | .minus => "-" | .times => "*" | .most => "^"
theorem q_sgn (k : Kd) : k.sgn = SX.S [k.sign] := by cases k <;> decide +kernel
def signsKV : List (Key × V) := [(.inr "plus", .str "+"), (.inr "minus", .str "-"), (.inr "times", .str "*"), (.inr "most", .str "^")]
theorem signs_get (k : Kd) : valV (mergeK [] signsKV) (.inr k.name) = some (.str k.sgn) := by cases k <;> decide +kernel
theorem kind4 {n : Int} (h0 : 0 ≤ n) (h : n < 4) : ∃ k : Kd, atI ([.str "plus", .str "minus", .str "times", .str "most"] : List V) n = some (.str k.name) := by
  have e : n = 0 ∨ n = 1 ∨ n = 2 ∨ n = 3 := by omega
  rcases e with e | e | e | e <;> subst e
  · exact ⟨.plus, rfl⟩
  · exact ⟨.minus, rfl⟩
  · exact ⟨.times, rfl⟩
  · exact ⟨.most, rfl⟩
theorem rg2 : ∀ n : Nat, n < 101 → Builtin.Range.small 0 n 2 = true ∧ Builtin.Range.rangeSize 0 n 2 = (((n + 1) / 2 : Nat) : Int) := by decide +kernel
def sizes (rs : List Rcp) : Nat := (rs.map Rcp.siz).sum
theorem sizes_snoc (rs : List Rcp) (r : Rcp) : sizes (rs ++ [r]) = sizes rs + r.siz := by unfold sizes; rw [List.map_append, List.sum_append]; simp
section
variable {P : Program} {w : World} {K : PySem.W.Frag} {mg : Str → Option Value} {base : Heap}
abbrev s__law_text : Stmt := topS 9
abbrev N__law_text : List Str := ["r", "parts", "part"]
theorem sc__law_text : FnScope N__law_text ["r"] (defScope s__law_text) := ⟨rfl, rfl, rfl, by decide +kernel, rfl, by decide +kernel, by decide +kernel⟩

theorem ok__law_text (T : Txt K mg) (D : IsDef K mg "_law_text" s__law_text ["r"]) {k : Nat}
    (C__law_text : Cal P w K mg base CX0 k "_law_text" ["r"] (spText k)) : Cal P w K mg base CX0 (k + 1) "_law_text" ["r"] (spText (k + 1)) := by
  refine D.cal sc__law_text (fun vs H Q E h => ?_) (fun f cdv A outer s H vs Q E hr h => ?_)
  · obtain ⟨v, r, rfl, _⟩ := h
    rfl
  have hu := hu_of hr
  obtain ⟨v, r, rfl, hR, hG, hd, hz, q⟩ := h
  refine ⟨_, (pss_cons (ps_if (pt_cmpR op_eq (pe_ix (r := rIxT K) ix_tup (pv 0) pe_int (fun _ _ => rfl)) pe_str (nomark _))
        (pss_one (ps_ret (pe_callTy call_str_int (by rfl) T.b_str (by decide +kernel) (pa_cons (pe_ix (r := rIxT K) ix_tup (pv 0) pe_int (fun _ _ => rfl)) pa_nil))))
        pss_nil)
      (pss_cons (ps_if (pt_cmpR op_eq (pe_ix (r := rIxT K) ix_tup (pv 0) pe_int (fun _ _ => rfl)) pe_str (nomark _))
        (pss_one (ps_ret (pe_ix (r := rIxT K) ix_tup (pv 0) pe_int (fun _ _ => rfl))))
        pss_nil)
      (pss_cons (ps_setLc (i := 1) (own := [("part", 2)]) (g := gName 2)  (by rfl) sc__law_text.nd rfl rfl (sw_true rfl rfl rfl (by decide +kernel)) (pi_tup (pe_slice (r := rSlT K) sl_tup (pv 0) (po_some pe_int) (po_some (pe_op op_add (pe_op op_add pe_int (pe_callTy call_int1 (by rfl) T.b_int (by decide +kernel) (pa_cons (pe_cmpR op_ne (pe_ix (r := rIxT K) ix_tup (pv 0) pe_int (fun _ _ => rfl)) pe_str (nomark _)) pa_nil))) (pe_callTy call_int1 (by rfl) T.b_int (by decide +kernel) (pa_cons (pe_cmpR op_eq (pe_ix (r := rIxT K) ix_tup (pv 0) pe_int (fun _ _ => rfl)) pe_str (nomark _)) pa_nil)))))) (blkOk_by (own := [("part", 2)]) (N := N__law_text) (sc := defScope s__law_text) (by decide +kernel)) (fun _ _ _ _ _ => (pg_name (i := 2) sc__law_text.nd rfl (Or.inl rfl))) (fun _ _ _ _ _ => pts_nil) (fun _ _ _ _ _ => (pe_cal C__law_text (hr.mono (by first | decide | omega)) pass0 (pa_cons (pv 2) pa_nil))))
      (pss_cons (ps_if (pt_cmpR op_eq (pe_ix (r := rIxT K) ix_tup (pv 0) pe_int (fun _ _ => rfl)) pe_str (nomark _))
        (pss_one (ps_ret (pe_op op_add_str (pe_op op_add_str (pe_op op_add_str (pe_ix (r := rIxL K) ix_list (pv 1) pe_int (fun _ _ => rfl)) pe_str) (pe_join pe_str (pe_ix (r := rIxT K) ix_tup (pv 0) pe_int (fun _ _ => rfl)))) pe_str)))
        pss_nil)
      (pss_cons (ps_if (pt_cmpR op_eq (pe_ix (r := rIxT K) ix_tup (pv 0) pe_int (fun _ _ => rfl)) pe_str (nomark _))
        (pss_one (ps_ret (pe_op op_add_str (pe_op op_add_str (pe_op op_add_str (pe_op op_add_str (pe_op op_add_str (pe_op op_add_str pe_str (pe_ix (r := rIxL K) ix_list (pv 1) pe_int (fun _ _ => rfl))) pe_str) (pe_ix (r := rIxL K) ix_list (pv 1) pe_int (fun _ _ => rfl))) pe_str) (pe_ix (r := rIxL K) ix_list (pv 1) pe_int (fun _ _ => rfl))) pe_str)))
        pss_nil)
      (pss_one (ps_ret (pe_op op_add_str (pe_op op_add_str (pe_op op_add_str (pe_op op_add_str (pe_op op_add_str (pe_op op_add_str pe_str (pe_ix (r := rIxL K) ix_list (pv 1) pe_int (fun _ _ => rfl))) pe_str) (pe_dget hu (pe_disp (pps_cons pe_str pe_str (pps_cons pe_str pe_str (pps_cons pe_str pe_str (pps_cons pe_str pe_str pps_nil)))) (by rfl) (by rfl) (fun z => by cases z) (by decide)) (pe_ix (r := rIxT K) ix_tup (pv 0) pe_int (fun _ _ => rfl)) (fun _ _ => rfl))) pe_str) (pe_ix (r := rIxL K) ix_list (pv 1) pe_int (fun _ _ => rfl))) pe_str)))))))), ?_⟩
  cases r with
  | num n =>
    obtain ⟨p, rfl, hp⟩ := hR
    refine ⟨_, rfl, p, _, _, _, rfl, rfl, SqT.of hp, rfl, rfl, _, rfl, iteY rfl ?_⟩
    refine ⟨_, rfl, p, _, _, _, rfl, rfl, SqT.of hp, rfl, n, rfl, log_small hG, ?_⟩
    rw [intL_S]
    exact q _ (Same.refl _)
  | read s =>
    obtain ⟨p, rfl, hp⟩ := hR
    refine ⟨_, rfl, p, _, _, _, rfl, rfl, SqT.of hp, rfl, rfl, _, rfl, iteN (by decide +kernel) ?_⟩
    refine ⟨_, rfl, p, _, _, _, rfl, rfl, SqT.of hp, rfl, rfl, _, rfl, iteY rfl ?_⟩
    exact ⟨_, rfl, p, _, _, _, rfl, rfl, SqT.of hp, rfl, q _ (Same.refl _)⟩
  | two kd a b =>
    obtain ⟨p, x, y, rfl, hp, ra, rb⟩ := hR
    have da : a.dep ≤ k ∧ b.dep ≤ k := by
      have : max a.dep b.dep + 1 ≤ k + 1 := hd
      omega
    have za : a.siz ≤ 1000 ∧ b.siz ≤ 1000 := by
      have : a.siz + b.siz + 1 ≤ 1000 := hz
      omega
    have la := txt_len hG.1
    have lb := txt_len hG.2
    have nc : decide (V.str kd.name = V.str "choose") = false := decide_eq_false (kn_choose kd)
    have np : decide (V.str kd.name = V.str "pick") = false := decide_eq_false (kn_pick kd)
    refine ⟨_, rfl, p, _, _, _, rfl, rfl, SqT.of hp, rfl, rfl, _, rfl, iteN (kn_num kd) ?_⟩
    refine ⟨_, rfl, p, _, _, _, rfl, rfl, SqT.of hp, rfl, rfl, _, rfl, iteN (kn_read kd) ?_⟩
    refine ⟨_, rfl, _, rfl, _, rfl, p, _, _, _, rfl, rfl, SqT.of hp, rfl, rfl, .inr ⟨_, rfl, _, _, rfl, rfl, _, rfl, p, _, _, _, rfl, rfl, SqT.of hp, rfl, rfl, .inr ⟨_, rfl, _, _, rfl, rfl, _, rfl, p, _, rfl, SqT.of hp, ?_, ?_⟩⟩⟩
    · exact fun z => absurd z.1 (by show ¬ HT.sIx 3 0 (some 1) = 0; decide)
    rw [nc, np]
    intro t nt
    have ec : cutV [V.str kd.name, x, y] (some 1) (some (2 + (if (!false) = true then 1 else 0) + (if false = true then 1 else 0))) = [x, y] := rfl
    have hrel : Recs (upd H t (.tup [x, y])) [a, b] [x, y] := ⟨ra.same (same_new nt _), rb.same (same_new nt _), trivial⟩
    have hall : ∀ r' ∈ [a, b], r'.Good ∧ r'.dep ≤ k ∧ r'.siz ≤ 1000 := by
      intro r' h
      simp only [List.mem_cons, List.not_mem_nil, or_false] at h
      rcases h with rfl | rfl
      · exact ⟨hG.1, da.1, za.1⟩
      · exact ⟨hG.2, da.2, za.2⟩
    refine ⟨t, rfl, ⟨_, SqT.of upd_same⟩, fun L nL => lc_tup (K := K) (a := t) (xs := [x, y]) (fun i H' => Same (upd H t (.tup [x, y])) H' ∧ H' L = some (.lst (txs (([a, b].take i).map Rcp.txt))))
      ⟨same_new nL _, upd_same⟩ (fun i H' _ h => SqT.of (h.1 _ _ upd_same)) ?_ ?_⟩
    · rintro i x H' hx ⟨hs, hL⟩
      obtain ⟨r', hr', hrr⟩ := hrel.at hx
      have hm : r' ∈ [a, b] := List.mem_of_getElem? hr'
      refine ⟨rfl, _, rfl, x, r', rfl, hrr.same hs, (hall r' hm).1, (hall r' hm).2.1, (hall r' hm).2.2, fun H3 hs3 => ⟨_, hs3 _ _ hL, ?_, same_upd (hs.trans hs3) nL _, ?_⟩⟩
      · rw [txs_len, List.length_map]
        exact lt_line (Nat.lt_of_le_of_lt (List.length_take_le' _ _) (Nat.lt_of_le_of_lt (m := 3) (Nat.le_of_ble_eq_true rfl) (by decide)))
      · rw [upd_same, List.take_add_one, hr', List.map_append, txs_app]
        rfl
    rintro H' ⟨hs, hL⟩
    have hp' := hs _ _ (same_new nt (.tup [x, y]) _ _ hp)
    have hs' := (same_new nt (.tup [x, y])).trans hs
    refine ⟨_, rfl, p, _, _, _, rfl, rfl, SqT.of hp', rfl, rfl, _, rfl, iteN (kn_choose kd) ?_⟩
    refine ⟨_, rfl, p, _, _, _, rfl, rfl, SqT.of hp', rfl, rfl, _, rfl, iteN (kn_pick kd) ?_⟩
    refine ⟨_, rfl, L, _, _, _, rfl, rfl, SqL.of hL, rfl, _, _, rfl, rfl, ?_, _, _, rfl, rfl, ?_, fun dd nd => ⟨upd_same, signsKV, rfl, by decide, ?_⟩⟩
    rotate_right
    · have ss := same_upd (same_new nd (.dK [])) nd (.dK (mergeK [] signsKV))
      have hpd := ss _ _ hp'
      have hLd := ss _ _ hL
      refine ⟨_, rfl, p, _, _, _, rfl, rfl, SqT.of hpd, rfl, dd, _, rfl, by have g := DGet.k (k := Sum.inr kd.name) (upd_same (H := upd H' dd (.dK [])) (a := dd) (o := .dK (mergeK [] signsKV))); rw [signs_get] at g; exact g, _, _, rfl, rfl, ?_, _, _, rfl, rfl, ?_, _, rfl, L, _, _, _, rfl, rfl, SqL.of hLd, rfl, _, _, rfl, rfl, ?_, _, _, rfl, rfl, ?_, ?_⟩
      case refine_5 =>
        rw [q_open, q_close, q_blank, q_sgn, SX.S_cat, SX.S_cat, SX.S_cat, SX.S_cat, SX.S_cat, SX.S_cat]
        have e : ([40] ++ a.txt ++ [32] ++ [kd.sign] ++ [32] ++ b.txt ++ [41]) = (Rcp.two kd a b).txt := by simp [Rcp.txt]
        rw [e]
        exact q _ (hs'.trans ss)
      all_goals
        simp only [q_open, q_close, q_blank, q_sgn, SX.S_cat, SX.S_len, List.length_append, List.length_cons, List.length_nil]
        exact le_line (by omega)
    all_goals
      simp only [q_open, q_close, q_blank, q_sgn, SX.S_cat, SX.S_len, List.length_append, List.length_cons, List.length_nil]
      exact le_line (by omega)
  | pick a b c =>
    obtain ⟨p, x, y, z, rfl, hp, ra, rb, rc⟩ := hR
    have da : a.dep ≤ k ∧ b.dep ≤ k ∧ c.dep ≤ k := by
      have : max a.dep (max b.dep c.dep) + 1 ≤ k + 1 := hd
      omega
    have za : a.siz ≤ 1000 ∧ b.siz ≤ 1000 ∧ c.siz ≤ 1000 := by
      have : a.siz + b.siz + c.siz + 1 ≤ 1000 := hz
      omega
    have la := txt_len hG.1
    have lb := txt_len hG.2.1
    have lc := txt_len hG.2.2
    refine ⟨_, rfl, p, _, _, _, rfl, rfl, SqT.of hp, rfl, rfl, _, rfl, iteN (by decide +kernel) ?_⟩
    refine ⟨_, rfl, p, _, _, _, rfl, rfl, SqT.of hp, rfl, rfl, _, rfl, iteN (by decide +kernel) ?_⟩
    have nc : decide (V.str "pick" = V.str "choose") = false := by decide +kernel
    have np : decide (V.str "pick" = V.str "pick") = true := by decide +kernel
    refine ⟨_, rfl, _, rfl, _, rfl, p, _, _, _, rfl, rfl, SqT.of hp, rfl, rfl, .inr ⟨_, rfl, _, _, rfl, rfl, _, rfl, p, _, _, _, rfl, rfl, SqT.of hp, rfl, rfl, .inr ⟨_, rfl, _, _, rfl, rfl, _, rfl, p, _, rfl, SqT.of hp, ?_, ?_⟩⟩⟩
    · exact fun z => absurd z.1 (by show ¬ HT.sIx 4 0 (some 1) = 0; decide)
    rw [nc, np]
    intro t nt
    have hrel : Recs (upd H t (.tup [x, y, z])) [a, b, c] [x, y, z] := ⟨ra.same (same_new nt _), rb.same (same_new nt _), rc.same (same_new nt _), trivial⟩
    have hall : ∀ r' ∈ [a, b, c], r'.Good ∧ r'.dep ≤ k ∧ r'.siz ≤ 1000 := by
      intro r' h
      simp only [List.mem_cons, List.not_mem_nil, or_false] at h
      rcases h with rfl | rfl | rfl
      · exact ⟨hG.1, da.1, za.1⟩
      · exact ⟨hG.2.1, da.2.1, za.2.1⟩
      · exact ⟨hG.2.2, da.2.2, za.2.2⟩
    refine ⟨t, rfl, ⟨_, SqT.of upd_same⟩, fun L nL => lc_tup (K := K) (a := t) (xs := [x, y, z]) (fun i H' => Same (upd H t (.tup [x, y, z])) H' ∧ H' L = some (.lst (txs (([a, b, c].take i).map Rcp.txt))))
      ⟨same_new nL _, upd_same⟩ (fun i H' _ h => SqT.of (h.1 _ _ upd_same)) ?_ ?_⟩
    · rintro i x H' hx ⟨hs, hL⟩
      obtain ⟨r', hr', hrr⟩ := hrel.at hx
      have hm : r' ∈ [a, b, c] := List.mem_of_getElem? hr'
      refine ⟨rfl, _, rfl, x, r', rfl, hrr.same hs, (hall r' hm).1, (hall r' hm).2.1, (hall r' hm).2.2, fun H3 hs3 => ⟨_, hs3 _ _ hL, ?_, same_upd (hs.trans hs3) nL _, ?_⟩⟩
      · rw [txs_len, List.length_map]
        exact lt_line (Nat.lt_of_le_of_lt (List.length_take_le' _ _) (Nat.lt_of_le_of_lt (m := 3) (Nat.le_of_ble_eq_true rfl) (by decide)))
      · rw [upd_same, List.take_add_one, hr', List.map_append, txs_app]
        rfl
    rintro H' ⟨hs, hL⟩
    have hp' := hs _ _ (same_new nt (.tup [x, y, z]) _ _ hp)
    have hs' := (same_new nt (.tup [x, y, z])).trans hs
    refine ⟨_, rfl, p, _, _, _, rfl, rfl, SqT.of hp', rfl, rfl, _, rfl, iteN (by decide +kernel) ?_⟩
    refine ⟨_, rfl, p, _, _, _, rfl, rfl, SqT.of hp', rfl, rfl, _, rfl, iteY rfl ?_⟩
    refine ⟨_, rfl, L, _, _, _, rfl, rfl, SqL.of hL, rfl, _, _, rfl, rfl, ?_, _, _, rfl, rfl, ?_, _, rfl, L, _, _, _, rfl, rfl, SqL.of hL, rfl, _, _, rfl, rfl, ?_, _, _, rfl, rfl, ?_, _, rfl, L, _, _, _, rfl, rfl, SqL.of hL, rfl, _, _, rfl, rfl, ?_, _, _, rfl, rfl, ?_, ?_⟩
    case refine_7 =>
      rw [q_lb, q_rb, q_ask, q_col, SX.S_cat, SX.S_cat, SX.S_cat, SX.S_cat, SX.S_cat, SX.S_cat]
      have e : ([91] ++ a.txt ++ [32, 63, 32] ++ b.txt ++ [32, 58, 32] ++ c.txt ++ [93]) = (Rcp.pick a b c).txt := by simp [Rcp.txt]
      rw [e]
      exact q _ hs'
    all_goals
      simp only [q_lb, q_rb, q_ask, q_col, SX.S_cat, SX.S_len, List.length_append, List.length_cons, List.length_nil]
      exact le_line (by omega)
  | choose a ns =>
    obtain ⟨p, x, qa, rfl, hp, ra, hq⟩ := hR
    have da : a.dep ≤ k := by
      have : a.dep + 1 ≤ k + 1 := hd
      omega
    have za : a.siz ≤ 1000 := by
      have : a.siz + 1 ≤ 1000 := hz
      omega
    have la := txt_len hG.1
    have ln := names_len hG.2
    have l9 := hG.2.2.1
    have ls := names_sum hG.2.2.2
    refine ⟨_, rfl, p, _, _, _, rfl, rfl, SqT.of hp, rfl, rfl, _, rfl, iteN (by decide +kernel) ?_⟩
    refine ⟨_, rfl, p, _, _, _, rfl, rfl, SqT.of hp, rfl, rfl, _, rfl, iteN (by decide +kernel) ?_⟩
    have nc : decide (V.str "choose" = V.str "choose") = true := by decide +kernel
    have np : decide (V.str "choose" = V.str "pick") = false := by decide +kernel
    refine ⟨_, rfl, _, rfl, _, rfl, p, _, _, _, rfl, rfl, SqT.of hp, rfl, rfl, .inr ⟨_, rfl, _, _, rfl, rfl, _, rfl, p, _, _, _, rfl, rfl, SqT.of hp, rfl, rfl, .inr ⟨_, rfl, _, _, rfl, rfl, _, rfl, p, _, rfl, SqT.of hp, ?_, ?_⟩⟩⟩
    · exact fun z => absurd z.1 (by show ¬ HT.sIx 3 0 (some 1) = 0; decide)
    rw [nc, np]
    intro t nt
    have hrel : Recs (upd H t (.tup [x])) [a] [x] := ⟨ra.same (same_new nt _), trivial⟩
    have hall : ∀ r' ∈ [a], r'.Good ∧ r'.dep ≤ k ∧ r'.siz ≤ 1000 := by
      intro r' h
      rw [List.mem_singleton.mp h]
      exact ⟨hG.1, da, za⟩
    refine ⟨t, rfl, ⟨_, SqT.of upd_same⟩, fun L nL => lc_tup (K := K) (a := t) (xs := [x]) (fun i H' => Same (upd H t (.tup [x])) H' ∧ H' L = some (.lst (txs (([a].take i).map Rcp.txt))))
      ⟨same_new nL _, upd_same⟩ (fun i H' _ h => SqT.of (h.1 _ _ upd_same)) ?_ ?_⟩
    · rintro i x H' hx ⟨hs, hL⟩
      obtain ⟨r', hr', hrr⟩ := hrel.at hx
      have hm : r' ∈ [a] := List.mem_of_getElem? hr'
      refine ⟨rfl, _, rfl, x, r', rfl, hrr.same hs, (hall r' hm).1, (hall r' hm).2.1, (hall r' hm).2.2, fun H3 hs3 => ⟨_, hs3 _ _ hL, ?_, same_upd (hs.trans hs3) nL _, ?_⟩⟩
      · rw [txs_len, List.length_map]
        exact lt_line (Nat.lt_of_le_of_lt (List.length_take_le' _ _) (Nat.lt_of_le_of_lt (m := 3) (Nat.le_of_ble_eq_true rfl) (by decide)))
      · rw [upd_same, List.take_add_one, hr', List.map_append, txs_app]
        rfl
    rintro H' ⟨hs, hL⟩
    have hp' := hs _ _ (same_new nt (.tup [x]) _ _ hp)
    have hq' := hs _ _ (same_new nt (.tup [x]) _ _ hq)
    have hs' := (same_new nt (.tup [x])).trans hs
    refine ⟨_, rfl, p, _, _, _, rfl, rfl, SqT.of hp', rfl, rfl, _, rfl, iteY rfl ?_⟩
    refine ⟨_, rfl, L, _, _, _, rfl, rfl, SqL.of hL, rfl, _, _, rfl, rfl, ?_, ⟨_, rfl⟩, _, rfl, p, _, _, _, rfl, rfl, SqT.of hp', rfl, _, qa, ns.map SX.S, rfl, rfl, .inr (SqT.of hq'), ?_, _, _, rfl, rfl, ?_, _, _, rfl, rfl, ?_, ?_⟩
    case refine_5 =>
      rw [q_lc, q_rc, q_comma, SX.join_S, SX.S_cat, SX.S_cat, SX.S_cat]
      have e : (a.txt ++ [123] ++ TL.joinL [44] ns ++ [125]) = (Rcp.choose a ns).txt := by simp [Rcp.txt]
      rw [e]
      exact q _ hs'
    case refine_2 =>
      rw [q_comma, SX.S_len, List.length_map]
      show _ + ns.length * 1 ≤ _
      omega
    all_goals
      simp only [q_lc, q_rc, q_comma, SX.join_S, SX.S_cat, SX.S_len, List.length_append, List.length_cons, List.length_nil]
      exact le_line (by omega)
theorem all__law_text (T : Txt K mg) (D : IsDef K mg "_law_text" s__law_text ["r"]) : ∀ k : Nat, Cal P w K mg base CX0 k "_law_text" ["r"] (spText k)
  | 0 => cal_none D fun vs H Q E h => by
    obtain ⟨v, r, _, _, _, h1, _⟩ := h
    have := dep_pos r
    omega
  | k + 1 => ok__law_text T D (all__law_text T D k)
end
theorem recs_lst {H : Hp} {D : Addr} {xs ys : List V} {rs : List Rcp} {vs : List V} (h : Recs H rs vs) (hD : H D = some (.lst xs)) : Recs (upd H D (.lst ys)) rs vs := h.keep (keep_lst hD)
theorem pow_step : ∀ j : Nat, 1 ≤ j → j ≤ 7 → ∀ m : Nat, m ≤ 2 ^ (7 - j) → 2 ≤ m → j + 1 ≤ 7 ∧ (m + 1) / 2 ≤ 2 ^ (7 - (j + 1)) := by
  intro j h1 h7 m hm h2
  have e : j = 1 ∨ j = 2 ∨ j = 3 ∨ j = 4 ∨ j = 5 ∨ j = 6 ∨ j = 7 := by omega
  rcases e with rfl | rfl | rfl | rfl | rfl | rfl | rfl <;> simp at hm ⊢ <;> omega
section
variable {P : Program} {w : World} {K : PySem.W.Frag} {mg : Str → Option Value} {base : Heap}
abbrev s__law_both : Stmt := topS 11
abbrev N__law_both : List Str := ["two", "cell"]
theorem sc__law_both : FnScope N__law_both ["two", "cell"] (defScope s__law_both) := ⟨rfl, rfl, rfl, by decide +kernel, rfl, by decide +kernel, by decide +kernel⟩

theorem ok__law_both (T : Txt K mg) (D : IsDef K mg "_law_both" s__law_both ["two", "cell"]) : Cal P w K mg base CX0 1 "_law_both" ["two", "cell"] (spBoth K) := by
  refine D.cal sc__law_both (fun vs H Q E h => ?_) (fun f cdv A outer s H vs Q E hr h => ?_)
  · obtain ⟨a, c, xs, rfl, _⟩ := h
    rfl
  obtain ⟨a, c, xs, rfl, hS, h⟩ := h
  refine ⟨_, (pss_cons (ps_if (pt_cmpR op_eq (pe_callB call_len_seq (by rfl) T.b_len PySem.boot_len (pa_cons (pv 0) pa_nil)) pe_int (nomark _))
        (pss_one (ps_ret (pe_ix (r := rIxL K) ix_list (pv 0) pe_int (fun _ _ => rfl))))
        pss_nil)
      (pss_one (ps_ret (pe_tup (pa_cons (pe_ix (r := rIxL K) ix_list (pe_lst (pa_cons pe_str (pa_cons pe_str (pa_cons pe_str (pa_cons pe_str pa_nil))))) (pe_op op_mod (pv 1) pe_int) (fun _ _ => rfl)) (pa_cons (pe_ix (r := rIxL K) ix_list (pv 0) pe_int (fun _ _ => rfl)) (pa_cons (pe_ix (r := rIxL K) ix_list (pv 0) pe_int (fun _ _ => rfl)) pa_nil))))))), ?_⟩
  rcases h with ⟨x, rfl, q⟩ | ⟨x, y, rfl, q⟩
  · refine ⟨_, rfl, a, _, rfl, .inl hS, rfl, _, rfl, iteY rfl ?_⟩
    exact ⟨_, rfl, a, _, _, _, rfl, rfl, hS, rfl, q⟩
  · refine ⟨_, rfl, a, _, rfl, .inl hS, rfl, _, rfl, iteN (by show ¬ V.int ((2 : Nat) : Int) = V.int 1; decide) ?_⟩
    obtain ⟨kd, hkd⟩ := kind4 (n := c % 4) (Int.emod_nonneg _ (by decide)) (Int.emod_lt_of_pos _ (by decide))
    refine ⟨le_line (Nat.le_of_ble_eq_true rfl), fun p np => ⟨_, rfl, _, _, rfl, rfl, (by show (0 : Int) < 4; decide), p, _, _, _, rfl, rfl, SqL.of upd_same, hkd, ?_⟩⟩
    have hS' := (same_new np (.lst [.str "plus", .str "minus", .str "times", .str "most"])).seq hS
    refine ⟨_, rfl, a, _, _, _, rfl, rfl, hS', rfl, _, rfl, a, _, _, _, rfl, rfl, hS', rfl, le_line (Nat.le_of_ble_eq_true rfl), fun t nt => ?_⟩
    exact q _ kd t ((same_new np _).trans (same_new nt _)) upd_same
abbrev s__law_long : Stmt := topS 10
abbrev N__law_long : List Str := ["cell", "row", "k"]
theorem sc__law_long : FnScope N__law_long ["cell"] (defScope s__law_long) := ⟨rfl, rfl, rfl, by decide +kernel, rfl, by decide +kernel, by decide +kernel⟩

def Long (H0 H : Hp) (D : Addr) (rs : List Rcp) (j : Nat) : Prop := Same H0 H ∧ (∃ xs, H D = some (.lst xs) ∧ Recs H rs xs) ∧ ∀ r ∈ rs, r.Good ∧ r.dep ≤ j
theorem ok__law_long (T : Txt K mg) (D : IsDef K mg "_law_long" s__law_long ["cell"]) (C__law_both : Cal P w K mg base CX0 1 "_law_both" ["two", "cell"] (spBoth K)) : Cal P w K mg base CX0 2 "_law_long" ["cell"] spLong := by
  refine D.cal sc__law_long (fun vs H Q E h => ?_) (fun f cdv A outer s H vs Q E hr h => ?_)
  · obtain ⟨c, rfl, _⟩ := h
    rfl
  obtain ⟨c, rfl, q⟩ := h
  refine ⟨_, (pss_cons (ps_set (i := 1) sc__law_long.nd rfl (Or.inr rfl) (pe_lc (own := [("k", 2)]) (g := gName 2)  (by rfl) sc__law_long.nd  (pi_range1 rfl T.b_range (pa_cons (pe_op op_add pe_int (pe_op op_mod (pv 0) pe_int)) pa_nil)) (blkOk_by (own := [("k", 2)]) (N := N__law_long) (sc := defScope s__law_long) (by decide +kernel)) (fun _ _ _ _ _ => (pg_name (i := 2) sc__law_long.nd rfl (Or.inl rfl))) (fun _ _ _ _ _ => pts_nil) (fun _ _ _ _ _ => (pe_ix (r := rIxL K) ix_list (pe_lst (pa_cons (pe_tup (pa_cons pe_str (pa_cons pe_str pa_nil))) (pa_cons (pe_tup (pa_cons pe_str (pa_cons (pv 2) pa_nil))) (pa_cons (pe_tup (pa_cons pe_str (pa_cons pe_str pa_nil))) pa_nil)))) (pe_op op_mod (pe_op op_add (pe_op op_fdivW (pv 0) pe_int) (pv 2)) pe_int) (fun _ _ => rfl)))))
      (pss_cons (ps_while PassesOwn.never (pt_cmpR op_gt (pe_callB call_len_seq (by rfl) T.b_len PySem.boot_len (pa_cons (pv 1) pa_nil)) pe_int (nomark _))
        (pss_one (ps_set (i := 1) sc__law_long.nd rfl (Or.inr rfl) (pe_lc (own := [("k", 2)]) (g := gName 2)  (by rfl) sc__law_long.nd  (pi_range3 rfl T.b_range (pa_cons pe_int (pa_cons (pe_callB call_len_seq (by rfl) T.b_len PySem.boot_len (pa_cons (pv 1) pa_nil)) (pa_cons pe_int pa_nil)))) (blkOk_by (own := [("k", 2)]) (N := N__law_long) (sc := defScope s__law_long) (by decide +kernel)) (fun _ _ _ _ _ => (pg_name (i := 2) sc__law_long.nd rfl (Or.inl rfl))) (fun _ _ _ _ _ => pts_nil) (fun _ _ _ _ _ => (pe_cal C__law_both (hr.mono (by first | decide | omega)) pass0 (pa_cons (pe_slice (r := rSlL K) sl_list (pv 1) (po_some (pv 2)) (po_some (pe_op op_add (pv 2) pe_int))) (pa_cons (pe_op op_add (pv 0) (pv 2)) pa_nil))))))))
      (pss_cons (ps_if (pt_cmpR op_eq (pe_op op_mod (pe_op op_fdivW (pv 0) pe_int) pe_int) pe_int (nomark _))
        (pss_one (ps_ret (pe_tup (pa_cons pe_str (pa_cons (pe_ix (r := rIxL K) ix_list (pv 1) pe_int (fun _ _ => rfl)) (pa_cons (pe_tup (pa_cons pe_str (pa_cons pe_str pa_nil))) pa_nil))))))
        pss_nil)
      (pss_one (ps_ret (pe_ix (r := rIxL K) ix_list (pv 1) pe_int (fun _ _ => rfl))))))), ?_⟩
  have m0 : 0 ≤ c % 32 := Int.emod_nonneg _ (by decide)
  have m1 : c % 32 < 32 := Int.emod_lt_of_pos _ (by decide)
  have ex : ("x" : Str) = SX.S [120] := by decide +kernel
  have en : ("name" : Str) = SX.S [110, 97, 109, 101] := by decide +kernel
  have ea : ("a" : Str) = SX.S [97] := by decide +kernel
  have gx : Nm [120] := ⟨by decide, by decide, by decide⟩
  have gn : Nm [110, 97, 109, 101] := ⟨by decide, by decide, by decide⟩
  refine ⟨_, rfl, _, _, rfl, rfl, (by show (0 : Int) < 32; decide), _, _, rfl, rfl, 19 + c % 32, rfl, by omega, by omega, fun D1 nD1 => lc_range (lo := 0) (n := (19 + c % 32).toNat)
    (fun i H' => ∃ rs, Long H H' D1 rs 1 ∧ rs.length = i ∧ sizes rs = i) ⟨[], ⟨same_new nD1 _, ⟨[], upd_same, trivial⟩, fun r h => by cases h⟩, rfl, rfl⟩ ?_ ?_⟩
  · rintro i H1 hi ⟨rs, ⟨hs, ⟨xs, hD, hR⟩, hg⟩, hn, hz⟩
    refine ⟨rfl, le_line (Nat.le_of_ble_eq_true rfl), fun p1 n1 => ⟨_, rfl, le_line (Nat.le_of_ble_eq_true rfl), fun p2 n2 => ⟨le_line (Nat.le_of_ble_eq_true rfl), fun p3 n3 => ⟨le_line (Nat.le_of_ble_eq_true rfl), fun L nL => ?_⟩⟩⟩⟩
    have s1 := same_new n1 (.tup [.str "read", .str "x"])
    have s2 := same_new n2 (.tup [.str "number", .int (0 + (i : Int))])
    have s3 := same_new n3 (.tup [.str "read", .str "name"])
    have s4 := same_new nL (.lst [.ref p1, .ref p2, .ref p3])
    have hv0 : 0 ≤ (c / 64 + (0 + (i : Int))) % 3 := Int.emod_nonneg _ (by decide)
    have hv1 : (c / 64 + (0 + (i : Int))) % 3 < ([V.ref p1, V.ref p2, V.ref p3] : List V).length := Int.emod_lt_of_pos _ (by decide)
    obtain ⟨x, hx, hat⟩ := one_of hv0 hv1
    have hr' : ∃ r, Rec (upd (upd (upd (upd H1 p1 (.tup [.str "read", .str "x"])) p2 (.tup [.str "number", .int (0 + (i : Int))])) p3 (.tup [.str "read", .str "name"])) L (.lst [.ref p1, .ref p2, .ref p3])) r x ∧ r.Good ∧ r.dep ≤ 1 ∧ r.siz = 1 := by
      simp only [List.mem_cons, List.not_mem_nil, or_false] at hx
      rcases hx with rfl | rfl | rfl
      · exact ⟨.read [120], ⟨p1, rfl, by rw [← ex]; exact s4 _ _ (s3 _ _ (s2 _ _ upd_same))⟩, gx, Nat.le_refl _, rfl⟩
      · exact ⟨.num (0 + (i : Int)), ⟨p2, rfl, s4 _ _ (s3 _ _ upd_same)⟩, Nat.lt_of_le_of_lt (by omega : (0 + (i : Int)).natAbs ≤ 60) (by decide), Nat.le_refl _, rfl⟩
      · exact ⟨.read [110, 97, 109, 101], ⟨p3, rfl, by rw [← en]; exact s4 _ _ upd_same⟩, gn, Nat.le_refl _, rfl⟩
    obtain ⟨r, hr1, hr2, hr3, hr4⟩ := hr'
    have sA := s1.trans (s2.trans (s3.trans s4))
    have nDa : H D1 = none := nD1
    refine ⟨_, rfl, _, _, rfl, rfl, ⟨by decide, by decide +kernel⟩, _, rfl, _, _, rfl, rfl, _, _, rfl, rfl, (by show (0 : Int) < 3; decide), L, _, _, _, rfl, rfl, SqL.of upd_same, hat, xs, sA _ _ hD, by rw [hR.len, hn]; exact lt_line (by omega), ?_⟩
    refine ⟨rs ++ [r], ⟨same_upd (hs.trans sA) nDa _, ⟨xs ++ [x], upd_same, recs_lst (Recs.snoc hr1 (hR.keep (same_keep sA))) (sA _ _ hD)⟩, fun r' h => ?_⟩, by rw [List.length_append, hn]; rfl, by rw [sizes_snoc, hz, hr4]⟩
    rcases List.mem_append.mp h with h | h
    · exact hg r' h
    · rw [List.mem_singleton.mp h]
      exact ⟨hr2, hr3⟩
  rintro H1 ⟨rs, hL, hn, hz⟩
  -- the halving
  refine ⟨fun m σ H' => ∃ (D2 : Addr) (rs : List Rcp) (j : Nat), σ = [some (.int c), some (.ref D2), none] ∧ Long H H' D2 rs j ∧ 1 ≤ j ∧ j ≤ 7 ∧ rs.length ≤ 2 ^ (7 - j) ∧ 1 ≤ rs.length ∧ sizes rs + rs.length ≤ 100 ∧ m = rs.length,
    ⟨_, D1, rs, 1, rfl, hL, Nat.le_refl _, by decide, by rw [hn]; show _ ≤ 64; omega, by omega, by omega, rfl⟩, ?_⟩
  rintro m σ H2 ⟨D2, rs, j, rfl, ⟨hs, ⟨xs, hD, hR⟩, hg⟩, j1, j7, hm, hm1, hzz, rfl⟩
  refine ⟨_, rfl, D2, _, rfl, .inl (SqL.of hD), _, _, rfl, rfl, _, rfl, ?_⟩
  have hxl := hR.len
  refine ite2 (fun c1 => ?_) (fun c1 => ?_)
  · have c2 : ((xs.length : Nat) : Int) > 1 := of_decide_eq_true c1
    have h2 : 2 ≤ rs.length := by omega
    obtain ⟨j8, hm2⟩ := pow_step j j1 j7 _ hm h2
    have hle : rs.length ≤ 50 := by
      have : ∀ l : List Rcp, l.length ≤ sizes l := fun l => by
        induction l with
        | nil => exact Nat.le_refl _
        | cons r l ih =>
          have := siz_pos r
          show l.length + 1 ≤ r.siz + sizes l
          omega
      have := this rs
      omega
    refine ⟨_, fun σ' H' h => h, ?_⟩
    have rg := rg2 rs.length (by omega)
    refine ⟨_, rfl, D2, _, rfl, .inl (SqL.of hD), 0, _, 2, (rs.length + 1) / 2, by rw [hxl], ⟨by decide, by decide, rg.1, rg.2⟩, fun D3 nD3 => lcC (lo := 0) (c := 2) (n := (rs.length + 1) / 2)
      (fun i H' => ∃ rs', Long H H' D3 rs' (j + 1) ∧ H' D2 = some (.lst xs) ∧ Recs H' rs xs ∧ rs'.length = i ∧ sizes rs' + rs'.length + (sizes (rs.drop (2 * i)) + (rs.drop (2 * i)).length) ≤ sizes rs + rs.length) ?_ ?_ ?_⟩
    · refine ⟨[], ⟨hs.trans (same_new nD3 _), ⟨[], upd_same, trivial⟩, fun r h => by cases h⟩, same_new nD3 _ _ _ hD, hR.keep (same_keep (same_new nD3 _)), rfl, ?_⟩
      show 0 + 0 + (sizes rs + rs.length) ≤ _
      omega
    · rintro i H3 hi ⟨rs', ⟨hs3, ⟨ys, hD3, hR3⟩, hg3⟩, hD23, hR23, hn3, hz3⟩
      have nH3 : H D3 = none := hs.free nD3
      have d23 : D2 ≠ D3 := ne_of_none hD nD3
      refine ⟨rfl, _, rfl, _, rfl, _, rfl, _, rfl, _, _, rfl, rfl, _, rfl, D2, _, rfl, SqL.of hD23, fun p np => ?_⟩
      have hi2 : 2 * i < rs.length := by omega
      have sp := same_new np (.lst (cutV xs (some (0 + (i : Int) * 2)) (some (0 + (i : Int) * 2 + 2))))
      have ec : cutV xs (some (0 + (i : Int) * 2)) (some (0 + (i : Int) * 2 + 2)) = (xs.drop (2 * i)).take 2 := by
        have e1 : (0 + (i : Int) * 2) = ((2 * i : Nat) : Int) := by omega
        have e2 : (0 + (i : Int) * 2 + 2) = ((2 * i + 2 : Nat) : Int) := by omega
        rw [e2, e1, cut_nat xs (by omega)]
        congr 1
        omega
      rw [ec]
      have sp' := same_new np (.lst ((xs.drop (2 * i)).take 2))
      obtain ⟨v1, r1, hv1, hr1, hR1⟩ := hR23.get hi2
      have hm1 : r1 ∈ rs := List.mem_of_getElem? hr1
      have fin : ∀ (H4 : Hp) (v : V) (r : Rcp), Same H3 H4 → Rec H4 r v → r.Good ∧ r.dep ≤ j + 1 → r.siz + 1 + (sizes (rs.drop (2 * (i + 1))) + (rs.drop (2 * (i + 1))).length) ≤ sizes (rs.drop (2 * i)) + (rs.drop (2 * i)).length →
          ∃ acc, H4 D3 = some (.lst acc) ∧ acc.length < sizeLine ∧ ∃ rs', Long H (upd H4 D3 (.lst (acc ++ [v]))) D3 rs' (j + 1) ∧ (upd H4 D3 (.lst (acc ++ [v]))) D2 = some (.lst xs) ∧ Recs (upd H4 D3 (.lst (acc ++ [v]))) rs xs ∧ rs'.length = i + 1 ∧
            sizes rs' + rs'.length + (sizes (rs.drop (2 * (i + 1))) + (rs.drop (2 * (i + 1))).length) ≤ sizes rs + rs.length := fun H4 v r s34 hr hg' hz' => by
        refine ⟨ys, s34 _ _ hD3, by rw [hR3.len, hn3]; exact lt_line (by omega), rs' ++ [r], ⟨same_upd (hs3.trans s34) nH3 _, ⟨ys ++ [v], upd_same, recs_lst (Recs.snoc hr (hR3.keep (same_keep s34))) (s34 _ _ hD3)⟩, fun r' h => ?_⟩, by rw [upd_ne d23]; exact s34 _ _ hD23, recs_lst (hR23.keep (same_keep s34)) (s34 _ _ hD3), by rw [List.length_append, hn3]; rfl, ?_⟩
        · rcases List.mem_append.mp h with h | h
          · exact hg3 r' h
          · rw [List.mem_singleton.mp h]
            exact hg'
        · rw [sizes_snoc, List.length_append, List.length_singleton]
          omega
      have d1 : rs.drop (2 * i) = r1 :: rs.drop (2 * i + 1) := by
        have := List.drop_eq_getElem_cons hi2
        rw [this]
        congr 1
        have e := List.getElem?_eq_getElem hi2
        rw [hr1] at e
        exact (Option.some.inj e).symm
      have dx1 : xs.drop (2 * i) = v1 :: xs.drop (2 * i + 1) := by
        have hx2 : 2 * i < xs.length := by omega
        have := List.drop_eq_getElem_cons hx2
        rw [this]
        congr 1
        have e := List.getElem?_eq_getElem hx2
        rw [hv1] at e
        exact (Option.some.inj e).symm
      refine ⟨_, rfl, _, rfl, _, _, rfl, rfl, p, c + (0 + (i : Int) * 2), _, rfl, SqL.of upd_same, ?_⟩
      by_cases h3 : 2 * i + 1 < rs.length
      · obtain ⟨v2, r2, hv2, hr2, hR2⟩ := hR23.get h3
        have hm2' : r2 ∈ rs := List.mem_of_getElem? hr2
        have d2 : rs.drop (2 * i + 1) = r2 :: rs.drop (2 * (i + 1)) := by
          have := List.drop_eq_getElem_cons h3
          rw [this]
          congr 1
          have e := List.getElem?_eq_getElem h3
          rw [hr2] at e
          exact (Option.some.inj e).symm
        have dx2 : xs.drop (2 * i + 1) = v2 :: xs.drop (2 * i + 1 + 1) := by
          have hx2 : 2 * i + 1 < xs.length := by omega
          have := List.drop_eq_getElem_cons hx2
          rw [this]
          congr 1
          have e := List.getElem?_eq_getElem hx2
          rw [hv2] at e
          exact (Option.some.inj e).symm
        refine .inr ⟨v1, v2, by rw [dx1, dx2]; rfl, fun H4 kd t s4 ht => ?_⟩
        have s34 := sp'.trans s4
        refine fin H4 (.ref t) (.two kd r1 r2) s34 ⟨t, v1, v2, rfl, ht, hR1.same s34, hR2.same s34⟩ ⟨⟨(hg r1 hm1).1, (hg r2 hm2').1⟩, ?_⟩ ?_
        · show max r1.dep r2.dep + 1 ≤ j + 1
          have := (hg r1 hm1).2
          have := (hg r2 hm2').2
          omega
        · rw [d1, d2]
          show r1.siz + r2.siz + 1 + 1 + _ ≤ (r1.siz + (r2.siz + sizes (rs.drop (2 * (i + 1))))) + ((rs.drop (2 * (i + 1))).length + 1 + 1)
          omega
      · have e3 : rs.drop (2 * i + 1) = [] := List.drop_eq_nil_of_le (by omega)
        have e4 : rs.drop (2 * (i + 1)) = [] := List.drop_eq_nil_of_le (by omega)
        have e5 : xs.drop (2 * i + 1) = [] := List.drop_eq_nil_of_le (by omega)
        refine .inl ⟨v1, by rw [dx1, e5]; rfl, fin _ v1 r1 sp' (hR1.same sp') ⟨(hg r1 hm1).1, Nat.le_succ_of_le (hg r1 hm1).2⟩ ?_⟩
        rw [d1, e3, e4]
        show r1.siz + 1 + (0 + 0) ≤ r1.siz + 0 + (0 + 1)
        omega
    · rintro H3 ⟨rs', hL3, hD23, hR23, hn3, hz3⟩
      refine ⟨rs'.length, by omega, D3, rs', j + 1, rfl, hL3, by omega, by omega, by omega, by omega, by omega, rfl⟩
  · have c2 : ¬ ((xs.length : Nat) : Int) > 1 := fun z => c1 (decide_eq_true z)
    have h1 : rs.length = 1 := by omega
    obtain ⟨v, r, hv, hr1, hR1⟩ := hR.get (i := 0) (by omega)
    have hm0 : r ∈ rs := List.mem_of_getElem? hr1
    have hgr := hg r hm0
    have hsz : r.siz + 1 ≤ 100 := by
      have : sizes rs = r.siz := by
        match rs, h1, hr1 with
        | [a], _, e => cases e; rfl
      omega
    refine ⟨_, rfl, _, _, rfl, rfl, ⟨by decide, by decide +kernel⟩, _, _, rfl, rfl, (by show (0 : Int) < 2; decide), rfl, _, rfl, ?_⟩
    refine ite2 (fun _ => ?_) (fun _ => ?_)
    · refine ⟨_, rfl, D2, _, _, _, rfl, rfl, SqL.of hD, atI_at (by decide) hv, le_line (Nat.le_of_ble_eq_true rfl), fun u nu => ⟨le_line (Nat.le_of_ble_eq_true rfl), fun t nt => ?_⟩⟩
      have su := same_new nu (.tup [.str "a", .str "name"])
      have st := same_new nt (.tup [.str "choose", v, .ref u])
      refine q _ _ (.choose r [[97], [110, 97, 109, 101]]) (hs.trans (su.trans st)) ⟨t, v, u, rfl, upd_same, hR1.same (su.trans st), ?_⟩ ⟨hgr.1, by decide, by decide, fun s h => ?_⟩ ?_ ?_
      · have e : ([.str "a", .str "name"] : List V) = txs [[97], [110, 97, 109, 101]] := by rw [ea, en]; rfl
        rw [← e]
        exact st _ _ upd_same
      · simp only [List.mem_cons, List.not_mem_nil, or_false] at h
        rcases h with rfl | rfl
        · exact ⟨by decide, by decide, by decide⟩
        · exact gn
      · show r.dep + 1 ≤ 8
        omega
      · show r.siz + 1 ≤ 100
        exact hsz
    · refine ⟨_, rfl, D2, _, _, _, rfl, rfl, SqL.of hD, atI_at (by decide) hv, ?_⟩
      exact q _ v r hs hR1 hgr.1 (by omega) (by omega)
end
def spLaw (K : PySem.W.Frag) : Sp := fun vs H Q _ => ∃ (a : Addr) (ns : List Int), vs = [.ref a] ∧ SqL K H a (ns.map V.int) ∧ ns.length ≤ 63 ∧ ∀ H', Q (.bl true) H'
section
variable {P : Program} {w : World} {K : PySem.W.Frag} {mg : Str → Option Value} {base : Heap}
abbrev s_law : Stmt := topS 12
abbrev N_law : List Str := ["script", "cell", "one", "deck", "k", "r", "found"]
theorem sc_law : FnScope N_law ["script"] (defScope s_law) := ⟨rfl, rfl, rfl, by decide +kernel, rfl, by decide +kernel, by decide +kernel⟩

theorem ok_law {fl : Addr} {fd : FuncData} (F : Fun K "law" "law" s_law fl fd) (T : Txt K mg) (C__law_draw : Cal P w K mg base CX0 1 "_law_draw" ["deck", "many"] spDraw) (C__law_deck : Cal P w K mg base CX0 1 "_law_deck" ["script"] (spDeck K))
    (C__law_recipe : Cal P w K mg base CX0 11 "_law_recipe" ["deck", "deep", "left"] (spRecipe 8)) (C_show_recipe : Cal P w K mg base CX0 8 "show_recipe" ["r"] (spShow 8)) (C__law_text : Cal P w K mg base CX0 8 "_law_text" ["r"] (spText 8))
    (C__law_long : Cal P w K mg base CX0 2 "_law_long" ["cell"] spLong) : FnOk P w K mg base CX0 12 fl fd ["script"] (spLaw K) := by
  refine F.ok sc_law (fun vs H Q E h => ?_) (fun cdv A outer s H vs Q E hr h => ?_)
  · obtain ⟨a, ns, rfl, _⟩ := h
    rfl
  obtain ⟨a, ns, rfl, hS, h63, q⟩ := h
  refine ⟨_, (pss_cons (ps_for PassesOwn.never rfl (pi_list (pe_op op_cat (pe_slice (r := rSlL K) sl_list (pv 0) po_none (po_some pe_int)) (pe_lst (pa_cons pe_int (pa_cons pe_int pa_nil))))) (pg_name (i := 1) sc_law.nd rfl (Or.inl rfl))
        (pss_cons (ps_set (i := 2) sc_law.nd rfl (Or.inl rfl) (pe_cal C__law_long (hr.mono (by first | decide | omega)) pass0 (pa_cons (pv 1) pa_nil)))
      (pss_one (ps_if (pt_cmpR op_ne (pe_cal C_show_recipe (hr.mono (by first | decide | omega)) pass0 (pa_cons (pv 2) pa_nil)) (pe_cal C__law_text (hr.mono (by first | decide | omega)) pass0 (pa_cons (pv 2) pa_nil)) (nomark _))
        (pss_one (ps_ret pe_bl))
        pss_nil))))
      (pss_cons (ps_set (i := 3) sc_law.nd rfl (Or.inl rfl) (pe_cal C__law_deck (hr.mono (by first | decide | omega)) pass0 (pa_cons (pv 0) pa_nil)))
      (pss_cons (ps_for PassesOwn.never rfl (pi_range1 rfl T.b_range (pa_cons pe_int pa_nil)) (pg_name (i := 4) sc_law.nd rfl (Or.inl rfl))
        (pss_cons (ps_set (i := 5) sc_law.nd rfl (Or.inl rfl) (pe_cal C__law_recipe (hr.mono (by first | decide | omega)) pass0 (pa_cons (pv 3) (pa_cons (pe_op op_add pe_int (pe_cal C__law_draw (hr.mono (by first | decide | omega)) pass0 (pa_cons (pv 3) (pa_cons pe_int pa_nil)))) (pa_cons (pe_lst (pa_cons pe_int pa_nil)) pa_nil)))))
      (pss_cons (ps_set (i := 6) sc_law.nd rfl (Or.inl rfl) (pe_cal C_show_recipe (hr.mono (by first | decide | omega)) pass0 (pa_cons (pv 5) pa_nil)))
      (pss_one (ps_if (PW.pt (pw_or (pt_not (pt_val (pe_callB call_isi (by rfl) T.b_isinstance (by decide +kernel) (pa_cons (pv 6) (pa_cons (pe_bltn (v := .ty "str") (by rfl) T.b_str (by decide +kernel) rfl) pa_nil))))) (pw_or1 (pt_cmpR op_ne (pv 6) (pe_cal C__law_text (hr.mono (by first | decide | omega)) pass0 (pa_cons (pv 5) pa_nil)) (nomark _)))))
        (pss_one (ps_ret pe_bl))
        pss_nil)))))
      (pss_one (ps_ret pe_bl))))), ?_⟩
  refine ⟨_, rfl, _, rfl, a, _, rfl, hS, fun p1 n1 => ⟨le_line (Nat.le_of_ble_eq_true rfl), fun p2 n2 => ?_⟩⟩
  have hc6 : cutV (ns.map V.int) none (some 6) = (ns.take 6).map V.int := by
    have := cut_to (ns.map V.int) 6
    rw [List.map_take]
    exact this
  have p12 : p1 ≠ p2 := ne_of_none upd_same n2
  refine ⟨p1, p2, cutV (ns.map V.int) none (some 6), _, rfl, rfl, by rw [upd_ne p12, upd_same], upd_same, ?_, fun p3 n3 => ?_⟩
  · rw [hc6, List.length_map]
    have := List.length_take_le 6 ns
    exact le_line (by show _ + 2 ≤ _; omega)
  have s3 : Same H (upd (upd (upd H p1 (.lst (cutV (ns.map V.int) none (some 6)))) p2 (.lst [.int 31, .int 63])) p3 (.lst (cutV (ns.map V.int) none (some 6) ++ [.int 31, .int 63]))) := (same_new n1 _).trans ((same_new n2 _).trans (same_new n3 _))
  have hint : ∀ (i : Nat) (x : V), (cutV (ns.map V.int) none (some 6) ++ [.int 31, .int 63])[i]? = some x → ∃ c : Int, x = .int c := by
    intro i x hx
    have hm := List.mem_of_getElem? hx
    rw [hc6] at hm
    rcases List.mem_append.mp hm with h | h
    · obtain ⟨c, _, e⟩ := List.mem_map.mp h
      exact ⟨c, e.symm⟩
    · simp only [List.mem_cons, List.not_mem_nil, or_false] at h
      rcases h with h | h
      · exact ⟨_, h⟩
      · exact ⟨_, h⟩
  refine ⟨p3, rfl, ⟨_, SqL.of upd_same⟩, for_list (K := K) (a := p3) (xs := cutV (ns.map V.int) none (some 6) ++ [.int 31, .int 63])
    (fun i σ H' => ∃ v1 v2 : Option V, σ = [some (.ref a), v1, v2, none, none, none, none] ∧ Same (upd (upd (upd H p1 (.lst (cutV (ns.map V.int) none (some 6)))) p2 (.lst [.int 31, .int 63])) p3 (.lst (cutV (ns.map V.int) none (some 6) ++ [.int 31, .int 63]))) H')
    ⟨none, none, rfl, Same.refl _⟩ (fun i σ H' _ ⟨_, _, _, h⟩ => SqL.of (h _ _ upd_same)) ?_ ?_⟩
  · rintro i x σ H1 hx ⟨v1, v2, rfl, hs1⟩
    obtain ⟨c, rfl⟩ := hint i x hx
    refine ⟨_, rfl, c, rfl, fun H2 v r hs2 hR hG hd hz => ?_⟩
    refine ⟨_, rfl, v, r, rfl, hR, hG, hd, Nat.le_trans hz (by decide), _, rfl, v, r, rfl, hR, hG, hd, Nat.le_trans hz (by decide), fun H3 hs3 => ⟨rfl, _, rfl, iteNS rfl ?_⟩⟩
    exact ⟨_, _, rfl, hs1.trans (hs2.trans hs3)⟩
  · rintro σ H1 ⟨v1, v2, rfl, hs1⟩
    refine ⟨_, rfl, a, ns, rfl, hs1.seq (s3.seq hS), h63, fun B H2 d hB hD => ?_⟩
    refine ⟨6, rfl, by decide, by decide, for_range (n := 6) (fun i σ H' => ∃ (k r f : Option V) (B' : Hp), σ = [some (.ref a), v1, v2, some (.ref d), k, r, f] ∧ DeckAt B' H' d) ⟨none, none, none, B, rfl, hD⟩ ?_ ?_⟩
    · rintro i σ H3 hi ⟨k, r0, f0, B3, rfl, hD3⟩
      refine ⟨_, rfl, _, rfl, B3, d, 8, rfl, hD3, by decide, by decide, fun H4 n hD4 n0 n8 => ⟨_, _, rfl, rfl, le_line (Nat.le_of_ble_eq_true rfl), fun l nl => ?_⟩⟩
      have hD5 := hD4.new nl (.lst [.int 20])
      refine ⟨_, d, l, 1 + n, 20, rfl, hD5, upd_same, by omega, by omega, fun B6 H6 n' v r hb hl hD6 hR hG hd hz hn => ?_⟩
      have hd8 : r.dep ≤ 8 := by omega
      have hz8 : r.siz ≤ 1000 := by omega
      have hR6 := hR.same hD6.1
      refine ⟨_, rfl, v, r, rfl, hR6, hG, hd8, hz8, ?_⟩
      refine ⟨_, rfl, _, _, .type "str", _, true, rfl, .ty _, .base (.str _), kit_ty (by decide +kernel), _, rfl, iteF ?_⟩
      refine ⟨_, rfl, _, rfl, v, r, rfl, hR6, hG, hd8, hz8, fun H7 hs7 => ⟨rfl, _, rfl, iteNS rfl ?_⟩⟩
      exact ⟨_, _, _, B6, rfl, hD6.same hs7⟩
    · rintro σ H3 ⟨k, r0, f0, B3, rfl, hD3⟩
      exact q _
end
theorem all_mk {l : PySem.W.OpenLaw} {w : World} {K : PySem.W.Frag} {h : Heap} {mg : Str → Option Value} {fa f_show_recipe f__law_deck f__law_draw f__law_name f__law_number f__law_recipe f__law_text f__law_long f__law_both f_law : Addr} (X : K.In h) (G : h.Ns mainGlobals mg) (hfa : mg "law" = some (.ref fa))
    {od_show_recipe an_show_recipe od__law_deck an__law_deck od__law_draw an__law_draw od__law_name an__law_name od__law_number an__law_number od__law_recipe an__law_recipe od__law_text an__law_text od__law_long an__law_long od__law_both an__law_both od_law an_law : Option Addr} {sl_show_recipe sl__law_deck sl__law_draw sl__law_name sl__law_number sl__law_recipe sl__law_text sl__law_long sl__law_both sl_law : Array (Option Value)} {oc_show_recipe kV_show_recipe dc_show_recipe pm_show_recipe cd_show_recipe ct_show_recipe oc__law_deck kV__law_deck dc__law_deck pm__law_deck cd__law_deck ct__law_deck oc__law_draw kV__law_draw dc__law_draw pm__law_draw cd__law_draw ct__law_draw oc__law_name kV__law_name dc__law_name pm__law_name cd__law_name ct__law_name oc__law_number kV__law_number dc__law_number pm__law_number cd__law_number ct__law_number oc__law_recipe kV__law_recipe dc__law_recipe pm__law_recipe cd__law_recipe ct__law_recipe oc__law_text kV__law_text dc__law_text pm__law_text cd__law_text ct__law_text oc__law_long kV__law_long dc__law_long pm__law_long cd__law_long ct__law_long oc__law_both kV__law_both dc__law_both pm__law_both cd__law_both ct__law_both oc_law kV_law dc_law pm_law cd_law ct_law : Value}
    (a_show_recipe : PySem.W.nsIn K mainGlobals "show_recipe" = some (some (.ref f_show_recipe))) (l_show_recipe : K.lookup f_show_recipe = some ⟨oc_show_recipe, od_show_recipe, .func (PySem.W.fnOf "show_recipe" "show_recipe" (defArgs s_show_recipe) (defBody s_show_recipe) (defScope s_show_recipe) .none kV_show_recipe dc_show_recipe pm_show_recipe an_show_recipe cd_show_recipe ct_show_recipe), sl_show_recipe⟩) (c_show_recipe : PySem.W.codeIn K cd_show_recipe "show_recipe" = true) (k_show_recipe : PySem.W.keepIn K (.ref f_show_recipe) = true)
    (a__law_deck : PySem.W.nsIn K mainGlobals "_law_deck" = some (some (.ref f__law_deck))) (l__law_deck : K.lookup f__law_deck = some ⟨oc__law_deck, od__law_deck, .func (PySem.W.fnOf "_law_deck" "_law_deck" (defArgs s__law_deck) (defBody s__law_deck) (defScope s__law_deck) .none kV__law_deck dc__law_deck pm__law_deck an__law_deck cd__law_deck ct__law_deck), sl__law_deck⟩) (c__law_deck : PySem.W.codeIn K cd__law_deck "_law_deck" = true) (k__law_deck : PySem.W.keepIn K (.ref f__law_deck) = true)
    (a__law_draw : PySem.W.nsIn K mainGlobals "_law_draw" = some (some (.ref f__law_draw))) (l__law_draw : K.lookup f__law_draw = some ⟨oc__law_draw, od__law_draw, .func (PySem.W.fnOf "_law_draw" "_law_draw" (defArgs s__law_draw) (defBody s__law_draw) (defScope s__law_draw) .none kV__law_draw dc__law_draw pm__law_draw an__law_draw cd__law_draw ct__law_draw), sl__law_draw⟩) (c__law_draw : PySem.W.codeIn K cd__law_draw "_law_draw" = true) (k__law_draw : PySem.W.keepIn K (.ref f__law_draw) = true)
    (a__law_name : PySem.W.nsIn K mainGlobals "_law_name" = some (some (.ref f__law_name))) (l__law_name : K.lookup f__law_name = some ⟨oc__law_name, od__law_name, .func (PySem.W.fnOf "_law_name" "_law_name" (defArgs s__law_name) (defBody s__law_name) (defScope s__law_name) .none kV__law_name dc__law_name pm__law_name an__law_name cd__law_name ct__law_name), sl__law_name⟩) (c__law_name : PySem.W.codeIn K cd__law_name "_law_name" = true) (k__law_name : PySem.W.keepIn K (.ref f__law_name) = true)
    (a__law_number : PySem.W.nsIn K mainGlobals "_law_number" = some (some (.ref f__law_number))) (l__law_number : K.lookup f__law_number = some ⟨oc__law_number, od__law_number, .func (PySem.W.fnOf "_law_number" "_law_number" (defArgs s__law_number) (defBody s__law_number) (defScope s__law_number) .none kV__law_number dc__law_number pm__law_number an__law_number cd__law_number ct__law_number), sl__law_number⟩) (c__law_number : PySem.W.codeIn K cd__law_number "_law_number" = true) (k__law_number : PySem.W.keepIn K (.ref f__law_number) = true)
    (a__law_recipe : PySem.W.nsIn K mainGlobals "_law_recipe" = some (some (.ref f__law_recipe))) (l__law_recipe : K.lookup f__law_recipe = some ⟨oc__law_recipe, od__law_recipe, .func (PySem.W.fnOf "_law_recipe" "_law_recipe" (defArgs s__law_recipe) (defBody s__law_recipe) (defScope s__law_recipe) .none kV__law_recipe dc__law_recipe pm__law_recipe an__law_recipe cd__law_recipe ct__law_recipe), sl__law_recipe⟩) (c__law_recipe : PySem.W.codeIn K cd__law_recipe "_law_recipe" = true) (k__law_recipe : PySem.W.keepIn K (.ref f__law_recipe) = true)
    (a__law_text : PySem.W.nsIn K mainGlobals "_law_text" = some (some (.ref f__law_text))) (l__law_text : K.lookup f__law_text = some ⟨oc__law_text, od__law_text, .func (PySem.W.fnOf "_law_text" "_law_text" (defArgs s__law_text) (defBody s__law_text) (defScope s__law_text) .none kV__law_text dc__law_text pm__law_text an__law_text cd__law_text ct__law_text), sl__law_text⟩) (c__law_text : PySem.W.codeIn K cd__law_text "_law_text" = true) (k__law_text : PySem.W.keepIn K (.ref f__law_text) = true)
    (a__law_long : PySem.W.nsIn K mainGlobals "_law_long" = some (some (.ref f__law_long))) (l__law_long : K.lookup f__law_long = some ⟨oc__law_long, od__law_long, .func (PySem.W.fnOf "_law_long" "_law_long" (defArgs s__law_long) (defBody s__law_long) (defScope s__law_long) .none kV__law_long dc__law_long pm__law_long an__law_long cd__law_long ct__law_long), sl__law_long⟩) (c__law_long : PySem.W.codeIn K cd__law_long "_law_long" = true) (k__law_long : PySem.W.keepIn K (.ref f__law_long) = true)
    (a__law_both : PySem.W.nsIn K mainGlobals "_law_both" = some (some (.ref f__law_both))) (l__law_both : K.lookup f__law_both = some ⟨oc__law_both, od__law_both, .func (PySem.W.fnOf "_law_both" "_law_both" (defArgs s__law_both) (defBody s__law_both) (defScope s__law_both) .none kV__law_both dc__law_both pm__law_both an__law_both cd__law_both ct__law_both), sl__law_both⟩) (c__law_both : PySem.W.codeIn K cd__law_both "_law_both" = true) (k__law_both : PySem.W.keepIn K (.ref f__law_both) = true)
    (a_law : PySem.W.nsIn K mainGlobals "law" = some (some (.ref f_law))) (l_law : K.lookup f_law = some ⟨oc_law, od_law, .func (PySem.W.fnOf "law" "law" (defArgs s_law) (defBody s_law) (defScope s_law) .none kV_law dc_law pm_law an_law cd_law ct_law), sl_law⟩) (c_law : PySem.W.codeIn K cd_law "law" = true) (k_law : PySem.W.keepIn K (.ref f_law) = true)
    (z_len : PySem.W.nsIn K mainGlobals "len" = some none)
    (z_list : PySem.W.nsIn K mainGlobals "list" = some none)
    (z_range : PySem.W.nsIn K mainGlobals "range" = some none)
    (z_tuple : PySem.W.nsIn K mainGlobals "tuple" = some none)
    (z_str : PySem.W.nsIn K mainGlobals "str" = some none)
    (z_int : PySem.W.nsIn K mainGlobals "int" = some none)
    (z_isinstance : PySem.W.nsIn K mainGlobals "isinstance" = some none)
    {f_SIGNS : Addr} {es_SIGNS : Array DictEntry} {n_SIGNS : Nat} {t1 t2 t3 t4 : Tok}
    (a_SIGNS : PySem.W.nsIn K mainGlobals "SIGNS" = some (some (.ref f_SIGNS)))
    (l_SIGNS : K.lookup f_SIGNS = some ⟨.type "dict", none, .dict es_SIGNS n_SIGNS, #[]⟩)
    (y_SIGNS : PySem.W.KeysLit w.params es_SIGNS.toList)
    (e1 : PySem.W.nsIn K f_SIGNS "plus" = some (some (.str " + " t1)))
    (e2 : PySem.W.nsIn K f_SIGNS "minus" = some (some (.str " - " t2)))
    (e3 : PySem.W.nsIn K f_SIGNS "times" = some (some (.str " * " t3)))
    (e4 : PySem.W.nsIn K f_SIGNS "most" = some (some (.str " ^ " t4)))
    : ∃ fd : FuncData, (∀ (s : Shared) (v : Value), BindsTo s fd ⟨[v], []⟩ [("script", v)]) ∧ ∀ base : Heap, K.In base → base.Ns mainGlobals mg → FnOk l.prog w K mg base CX0 12 fa fd ["script"] (spLaw K) := by
  have e := hfa.symm.trans (PySem.W.mg_of X G a_law)
  cases e
  have F_show_recipe := fun_mk (st := s_show_recipe) l_show_recipe c_show_recipe k_show_recipe
  have D_show_recipe : IsDef K mg "show_recipe" s_show_recipe ["r"] := ⟨f_show_recipe, _, F_show_recipe, PySem.W.mg_of X G a_show_recipe, F_show_recipe.binds (ps := ["r"]) fun _ _ _ _ _ _ us hl => match us, hl with | [_], _ => rfl⟩
  have F__law_deck := fun_mk (st := s__law_deck) l__law_deck c__law_deck k__law_deck
  have D__law_deck : IsDef K mg "_law_deck" s__law_deck ["script"] := ⟨f__law_deck, _, F__law_deck, PySem.W.mg_of X G a__law_deck, F__law_deck.binds (ps := ["script"]) fun _ _ _ _ _ _ us hl => match us, hl with | [_], _ => rfl⟩
  have F__law_draw := fun_mk (st := s__law_draw) l__law_draw c__law_draw k__law_draw
  have D__law_draw : IsDef K mg "_law_draw" s__law_draw ["deck", "many"] := ⟨f__law_draw, _, F__law_draw, PySem.W.mg_of X G a__law_draw, F__law_draw.binds (ps := ["deck", "many"]) fun _ _ _ _ _ _ us hl => match us, hl with | [_, _], _ => rfl⟩
  have F__law_name := fun_mk (st := s__law_name) l__law_name c__law_name k__law_name
  have D__law_name : IsDef K mg "_law_name" s__law_name ["deck"] := ⟨f__law_name, _, F__law_name, PySem.W.mg_of X G a__law_name, F__law_name.binds (ps := ["deck"]) fun _ _ _ _ _ _ us hl => match us, hl with | [_], _ => rfl⟩
  have F__law_number := fun_mk (st := s__law_number) l__law_number c__law_number k__law_number
  have D__law_number : IsDef K mg "_law_number" s__law_number ["deck"] := ⟨f__law_number, _, F__law_number, PySem.W.mg_of X G a__law_number, F__law_number.binds (ps := ["deck"]) fun _ _ _ _ _ _ us hl => match us, hl with | [_], _ => rfl⟩
  have F__law_recipe := fun_mk (st := s__law_recipe) l__law_recipe c__law_recipe k__law_recipe
  have D__law_recipe : IsDef K mg "_law_recipe" s__law_recipe ["deck", "deep", "left"] := ⟨f__law_recipe, _, F__law_recipe, PySem.W.mg_of X G a__law_recipe, F__law_recipe.binds (ps := ["deck", "deep", "left"]) fun _ _ _ _ _ _ us hl => match us, hl with | [_, _, _], _ => rfl⟩
  have F__law_text := fun_mk (st := s__law_text) l__law_text c__law_text k__law_text
  have D__law_text : IsDef K mg "_law_text" s__law_text ["r"] := ⟨f__law_text, _, F__law_text, PySem.W.mg_of X G a__law_text, F__law_text.binds (ps := ["r"]) fun _ _ _ _ _ _ us hl => match us, hl with | [_], _ => rfl⟩
  have F__law_long := fun_mk (st := s__law_long) l__law_long c__law_long k__law_long
  have D__law_long : IsDef K mg "_law_long" s__law_long ["cell"] := ⟨f__law_long, _, F__law_long, PySem.W.mg_of X G a__law_long, F__law_long.binds (ps := ["cell"]) fun _ _ _ _ _ _ us hl => match us, hl with | [_], _ => rfl⟩
  have F__law_both := fun_mk (st := s__law_both) l__law_both c__law_both k__law_both
  have D__law_both : IsDef K mg "_law_both" s__law_both ["two", "cell"] := ⟨f__law_both, _, F__law_both, PySem.W.mg_of X G a__law_both, F__law_both.binds (ps := ["two", "cell"]) fun _ _ _ _ _ _ us hl => match us, hl with | [_, _], _ => rfl⟩
  have F_law := fun_mk (st := s_law) l_law c_law k_law
  have m_len := PySem.W.mg_none_of X G z_len
  have m_list := PySem.W.mg_none_of X G z_list
  have m_range := PySem.W.mg_none_of X G z_range
  have m_tuple := PySem.W.mg_none_of X G z_tuple
  have m_str := PySem.W.mg_none_of X G z_str
  have m_int := PySem.W.mg_none_of X G z_int
  have m_isinstance := PySem.W.mg_none_of X G z_isinstance
  have T : Txt K mg := ⟨m_len, m_list, m_range, m_tuple, m_str, m_int, m_isinstance⟩
  have hsg : ∀ k : Kd, KDct K w f_SIGNS k.name (.str k.signS) := fun k => by
    cases k
    · exact ⟨_, _, _, l_SIGNS, y_SIGNS, e1, ⟨_, rfl⟩⟩
    · exact ⟨_, _, _, l_SIGNS, y_SIGNS, e2, ⟨_, rfl⟩⟩
    · exact ⟨_, _, _, l_SIGNS, y_SIGNS, e3, ⟨_, rfl⟩⟩
    · exact ⟨_, _, _, l_SIGNS, y_SIGNS, e4, ⟨_, rfl⟩⟩
  refine ⟨PySem.W.fnOf "law" "law" (defArgs s_law) (defBody s_law) (defScope s_law) .none kV_law dc_law pm_law an_law cd_law ct_law, fun s v => .of_eq rfl, fun base _ _ => ?_⟩
  have C1 := ok__law_draw (P := l.prog) (w := w) (base := base) T D__law_draw
  have C2 := ok__law_name T D__law_name C1
  have C3 := ok__law_number T D__law_number C1
  exact ok_law F_law T C1 (ok__law_deck T D__law_deck) (all__law_recipe T D__law_recipe C1 C3 C2 8) (all_show_recipe T (PySem.W.mg_of X G a_SIGNS) hsg D_show_recipe 8) (all__law_text T D__law_text 8) (ok__law_long T D__law_long (ok__law_both T D__law_both))
theorem walk {l : PySem.W.OpenLaw} {q : Program} {loose : List Str} {XP : (Str → Option Value) → Heap → Prop} {YP : World → Heap → Prop} {d : DefRec} {K : Params → PySem.W.Frag} (hn : l.most = some 63) (hdf : d.params.defaults = [])
    (hY : ∀ (w : World) (h : Heap), YP w h → (K w.params).In h)
    (F : ∀ (w : World) (mg : Str → Option Value) (fa : Addr) (h : Heap), (K w.params).In h → h.Ns mainGlobals mg → mg d.name = some (.ref fa) →
      ∃ fd : FuncData, (∀ (s : Shared) (u : Value), BindsTo s fd ⟨[u], []⟩ [("script", u)]) ∧ ∀ base : Heap, (K w.params).In base → base.Ns mainGlobals mg → FnOk l.prog w (K w.params) mg base CX0 12 fa fd ["script"] (spLaw (K w.params))) :
    PySem.W.WalkO q loose XP YP l.row.toRowW d [] (fun f vs => PySem.call f vs) :=
  L2.walk_of (n := 63) (k := 12) (x := "script") (CX := fun _ => CX0) (sp := fun w => spLaw (K w.params)) hn (by decide) hdf ⟨rfl, by decide, by decide⟩ hY F (fun _ _ a ns hl _ hS => ⟨a, ns, rfl, hS, hl, fun _ => rfl⟩) fun _ _ _ _ _ z => z
end Mad
open PySem PySem.W PyProof.Rows
set_option maxRecDepth 100000 in
set_option maxHeartbeats 0 in
theorem PySem.Challenge.cw_madeagain_k06_recipes_written_holds : PySem.Challenge.rw_madeagain_k06_recipes_written.Holds := by
  w_on; o_law; k_head; (case hw => w_witness2)
  k_fill
  refine Mad.walk (l := PySem.Challenge.rw_madeagain_k06_recipes_written) rfl rfl (fun w h Y => PySem.W.kIn_of Y) ?F
  case F =>
    intro w mg fa h KX G hmg
    refine' Mad.all_mk KX G hmg ?a_show_recipe ?l_show_recipe ?c_show_recipe ?k_show_recipe ?a__law_deck ?l__law_deck ?c__law_deck ?k__law_deck ?a__law_draw ?l__law_draw ?c__law_draw ?k__law_draw ?a__law_name ?l__law_name ?c__law_name ?k__law_name ?a__law_number ?l__law_number ?c__law_number ?k__law_number ?a__law_recipe ?l__law_recipe ?c__law_recipe ?k__law_recipe ?a__law_text ?l__law_text ?c__law_text ?k__law_text ?a__law_long ?l__law_long ?c__law_long ?k__law_long ?a__law_both ?l__law_both ?c__law_both ?k__law_both ?a_law ?l_law ?c_law ?k_law ?z_len ?z_list ?z_range ?z_tuple ?z_str ?z_int ?z_isinstance ?a_SIGNS ?l_SIGNS ?y_SIGNS ?e1 ?e2 ?e3 ?e4
    (case a_show_recipe => k_is)
    (case l_show_recipe => k_is)
    (case c_show_recipe => k_is)
    (case k_show_recipe => k_is)
    (case a__law_deck => k_is)
    (case l__law_deck => k_is)
    (case c__law_deck => k_is)
    (case k__law_deck => k_is)
    (case a__law_draw => k_is)
    (case l__law_draw => k_is)
    (case c__law_draw => k_is)
    (case k__law_draw => k_is)
    (case a__law_name => k_is)
    (case l__law_name => k_is)
    (case c__law_name => k_is)
    (case k__law_name => k_is)
    (case a__law_number => k_is)
    (case l__law_number => k_is)
    (case c__law_number => k_is)
    (case k__law_number => k_is)
    (case a__law_recipe => k_is)
    (case l__law_recipe => k_is)
    (case c__law_recipe => k_is)
    (case k__law_recipe => k_is)
    (case a__law_text => k_is)
    (case l__law_text => k_is)
    (case c__law_text => k_is)
    (case k__law_text => k_is)
    (case a__law_long => k_is)
    (case l__law_long => k_is)
    (case c__law_long => k_is)
    (case k__law_long => k_is)
    (case a__law_both => k_is)
    (case l__law_both => k_is)
    (case c__law_both => k_is)
    (case k__law_both => k_is)
    (case a_law => k_is)
    (case l_law => k_is)
    (case c_law => k_is)
    (case k_law => k_is)
    (case z_len => k_is)
    (case z_list => k_is)
    (case z_range => k_is)
    (case z_tuple => k_is)
    (case z_str => k_is)
    (case z_int => k_is)
    (case z_isinstance => k_is)
    (case a_SIGNS => k_is)
    (case l_SIGNS => k_is)
    (case y_SIGNS => k_keys)
    (case e1 => k_is)
    (case e2 => k_is)
    (case e3 => k_is)
    (case e4 => k_is)
#print axioms PySem.Challenge.cw_madeagain_k06_recipes_written_holds
